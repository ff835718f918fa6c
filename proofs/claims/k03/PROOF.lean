import PyProof.Rows.All
import Wide.All
import OpenK.AllK
import Wide.FinOn
import HandS.ForMost
import HandS.IsInst
import HandS.StrMore
import HandS.Walk
import HandS.SortInts
import HandS.Zip
import HandS.Style
import HandS.MakeKw
import HandS.TupAny
import HandS.Exc
import HandS.ExcInit
import HandS.ExcOwn
import HandS.CallSlots
import HandS.ExcIs
import HandS.ExcField
import HandS.WordsExc
import HandS.Lambda
import HandS.EndTab
import HandS.SortKw
import KE.KSortKeySt
import KE.KExcInit
import KE.KTryMore
import KE.KExcIs
import KE.KExcLine
import KE.RegKIsAll
import KE.RegKTryMore
import KE.GoesMore
import KE.GoesEnum
import HandS.Strs
import HandS.SetFor
import HandS.WideBits
import PySem.Challenge.RW_stallshares_k03_purses_put_and_taken
set_option Elab.async false
set_option linter.all false
set_option maxRecDepth 100000
set_option maxHeartbeats 4000000
/-! the shared layer: heaps but for some mutable places, the box of draws -/
namespace Z
open PySem L2

/-- H without the places of M -/
def hid (M : List Addr) (H : Hp) : Hp := fun a => if a ∈ M then none else H a
theorem hid_of {M : List Addr} {H : Hp} {a : Addr} (h : a ∉ M) : hid M H a = H a := if_neg h
theorem hid_none {M : List Addr} {H : Hp} {a : Addr} (h : H a = none) : hid M H a = none := by
  unfold hid; split <;> simp_all
theorem hid_same {M : List Addr} {H : Hp} : Same (hid M H) H := fun a o h => by
  unfold hid at h
  split at h
  · cases h
  · exact h
/-- what stands outside M is as it was -/
def Fr (M : List Addr) (H H' : Hp) : Prop := ∀ a o, a ∉ M → H a = some o → H' a = some o
theorem Fr.refl (M : List Addr) (H : Hp) : Fr M H H := fun _ _ _ h => h
theorem Fr.trans {M : List Addr} {H H1 H2 : Hp} (a : Fr M H H1) (b : Fr M H1 H2) : Fr M H H2 := fun x o n h => b x o n (a x o n h)
theorem Same.fr {M : List Addr} {H H' : Hp} (s : Same H H') : Fr M H H' := fun a o _ h => s a o h
theorem Fr.same {M : List Addr} {H H' : Hp} (f : Fr M H H') : Same (hid M H) (hid M H') := fun a o h => by
  unfold hid at h ⊢
  split at h
  · cases h
  · next n => rw [if_neg n]; exact f a o n h
theorem Fr.new {M : List Addr} {H : Hp} {p : Addr} {o : HO} (h : H p = none) : Fr M H (upd H p o) := fun a u _ e => by
  rw [upd_ne (ne_of_none e h)]; exact e
theorem Same.new {H : Hp} {p : Addr} {o : HO} (h : H p = none) : Same H (upd H p o) := fun a u e => by
  rw [upd_ne (ne_of_none e h)]; exact e
theorem Fr.put {M : List Addr} {H H' : Hp} {p : Addr} {o : HO} (f : Fr M H H') (h : p ∈ M) : Fr M H (upd H' p o) := fun a u n e => by
  rw [upd_ne (fun q : a = p => n (by rw [q]; exact h))]; exact f a u n e
theorem Fr.mono {M N : List Addr} {H H' : Hp} (f : Fr M H H') (s : ∀ a ∈ M, a ∈ N) : Fr N H H' := fun a o n h => f a o (fun q => n (s a q)) h
theorem Fr.nil {H H' : Hp} (f : Fr [] H H') : Same H H' := fun a o h => f a o (by simp) h
theorem Fr.back {M : List Addr} {H H' : Hp} {p : Addr} (f : Fr M H H') (hp : p ∉ M) (h : H' p = none) : H p = none := by
  cases q : H p with
  | none => rfl
  | some o => rw [f p o hp q] at h; cases h
theorem Fr.out {M : List Addr} {H H1 H2 : Hp} (f : Fr M H1 H2) (s : Same H H1) (hM : ∀ b ∈ M, H b = none) : Same H H2 := fun a o h => f a o (fun q => by rw [hM a q] at h; cases h) (s a o h)
theorem Fr.drop {M : List Addr} {H H' : Hp} {f : Addr} (fr : Fr (M ++ [f]) H H') (h : H f = none) : Fr M H H' := fun a o n e => fr a o (by
  simp only [List.mem_append, List.mem_singleton, not_or]
  exact ⟨n, ne_of_none e h⟩) e
theorem SqL.mono {K : PySem.W.Frag} {H H' : Hp} {a : Addr} {xs : List V} (e : Same H H') (h : SqL K H a xs) : SqL K H' a xs := e.seq h
theorem SqT.mono {K : PySem.W.Frag} {H H' : Hp} {a : Addr} {xs : List V} (e : Same H H') (h : SqT K H a xs) : SqT K H' a xs := by
  rcases h with (h | ⟨o, h⟩) | h
  · exact .inl (.inl (e _ _ h))
  · exact .inl (.inr ⟨o, e _ _ h⟩)
  · exact .inr h
mutual
theorem Dp.mono {K : PySem.W.Frag} {H H' : Hp} (e : Same H H') : ∀ {v : V} {d : PyData}, Dp K H v d → Dp K H' v d
  | _, _, .non => .non
  | _, _, .bl b => .bl b
  | _, _, .int i => .int i
  | _, _, .str x => .str x
  | _, _, .lst h r => .lst (SqL.mono e h) (DpAll.mono e r)
  | _, _, .tup h r => .tup (SqT.mono e h) (DpAll.mono e r)
theorem DpAll.mono {K : PySem.W.Frag} {H H' : Hp} (e : Same H H') : ∀ {v : List V} {d : List PyData}, DpAll K H v d → DpAll K H' v d
  | _, _, .nil => .nil
  | _, _, .cons a b => .cons (Dp.mono e a) (DpAll.mono e b)
end

theorem DpAll.length {K : PySem.W.Frag} {H : Hp} : ∀ {v : List V} {d : List PyData}, DpAll K H v d → v.length = d.length
  | _, _, .nil => rfl
  | _, _, .cons _ b => by rw [List.length_cons, List.length_cons, DpAll.length b]
theorem DpAll.get {K : PySem.W.Frag} {H : Hp} : ∀ {v : List V} {d : List PyData} {i : Nat} {x : V}, DpAll K H v d → v[i]? = some x → ∃ y, d[i]? = some y ∧ Dp K H x y
  | _, _, _, _, .nil, h => by simp at h
  | _, _, 0, _, .cons a _, h => by simp at h; subst h; exact ⟨_, rfl, a⟩
  | _, _, i + 1, _, .cons _ b, h => by
    obtain ⟨y, e, q⟩ := DpAll.get (i := i) b (by simpa using h)
    exact ⟨y, by simpa using e, q⟩
theorem Dp.list_of {K : PySem.W.Frag} {H : Hp} {v : V} {ds : List PyData} (h : Dp K H v (.list ds)) : ∃ a xs, v = .ref a ∧ SqL K H a xs ∧ DpAll K H xs ds := by
  cases h with
  | lst s r => exact ⟨_, _, rfl, s, r⟩
theorem Dp.tuple_of {K : PySem.W.Frag} {H : Hp} {v : V} {ds : List PyData} (h : Dp K H v (.tuple ds)) : ∃ a xs, v = .ref a ∧ SqT K H a xs ∧ DpAll K H xs ds := by
  cases h with
  | tup s r => exact ⟨_, _, rfl, s, r⟩
/-- the built-in class of data -/
def kindD : PyData → String
  | .none => "NoneType"
  | .bool _ => "bool"
  | .int _ => "int"
  | .str _ => "str"
  | .list _ => "list"
  | .tuple _ => "tuple"
  | .dict _ => "dict"
theorem SqL.ty {K : PySem.W.Frag} {H : Hp} {a : Addr} {xs : List V} (h : SqL K H a xs) : TyX K H (.ref a) (.type "list") := by
  rcases h with (h | ⟨o, h⟩) | ⟨o, its, n, e, c, _⟩
  · exact .base (.lst h)
  · exact .base (.frz h)
  · exact .kList e c
theorem SqT.ty {K : PySem.W.Frag} {H : Hp} {a : Addr} {xs : List V} (h : SqT K H a xs) : TyX K H (.ref a) (.type "tuple") := by
  rcases h with (h | ⟨o, h⟩) | ⟨o, its, n, e, c, _⟩
  · exact .base (.tup h)
  · exact .fTuple h
  · exact .kTuple e c
theorem Dp.ty {K : PySem.W.Frag} {H : Hp} {v : V} {d : PyData} (h : Dp K H v d) : TyX K H v (.type (kindD d)) := by
  cases h with
  | non => exact .base .non
  | bl b => exact .base (.bl b)
  | int i => exact .base (.int i)
  | str x => exact .base (.str x)
  | lst s _ => exact SqL.ty s
  | tup s _ => exact SqT.ty s
theorem tyD {K : PySem.W.Frag} {H : Hp} {v : V} {d : PyData} (A : String) (h : Dp K H v d) (e : kindD d = A) : TyX K H v (.type A) := e ▸ Dp.ty h
theorem ltC : Paired ClsV [.ty "list", .ty "tuple"] [.type "list", .type "tuple"] := .cons (.ty _) (.cons (.ty _) .nil)
theorem kitLT {K : PySem.W.Frag} (A : String) (b c : Bool) (k : kitB A "list" = some b) (k2 : kitB A "tuple" = some c) : PySem.W.kitAny K (.type A) [.type "list", .type "tuple"] = some (b || c) := by
  refine kitAny_cons (kit_ty k) (fun e => ?_) (fun e => by rw [e]; rfl)
  subst e
  exact kitAny_cons (kit_ty k2) (fun e => by subst e; exact kitAny_nil) (fun e => by rw [e]; rfl)
theorem lay_mem : ∀ {ds : List PyData} {d : PyData}, PyData.canLayAll0 ds = true → d ∈ ds → d.canLay0 = true
  | [], _, _, h => by cases h
  | x :: r, d, h, hm => by
    have h' : (x.canLay0 && PyData.canLayAll0 r) = true := h
    rw [Bool.and_eq_true] at h'
    rcases List.mem_cons.mp hm with rfl | hm
    · exact h'.1
    · exact lay_mem h'.2 hm
theorem depth_mem : ∀ {ds : List PyData} {d : PyData}, d ∈ ds → d.depth ≤ PyData.depthAll ds
  | [], _, h => by cases h
  | x :: r, d, hm => by
    show _ ≤ max x.depth (PyData.depthAll r)
    rcases List.mem_cons.mp hm with rfl | hm
    · exact Nat.le_max_left _ _
    · exact Nat.le_trans (depth_mem hm) (Nat.le_max_right _ _)
theorem shaped_mem {ds : List PyData} {d : PyData} (h : SeqAt.shaped (.list ds) = true ∨ SeqAt.shaped (.tuple ds) = true) (hm : d ∈ ds) : SeqAt.shaped d = true ∧ d.depth ≤ PyData.depthAll ds := by
  have h1 : PyData.canLayAll0 ds = true ∧ PyData.depthAll ds + 1 ≤ 64 := by
    rcases h with h | h
    · exact ⟨SeqAt.canLay_of_shaped h, SeqAt.depth_of_shaped h⟩
    · exact ⟨SeqAt.canLay_of_shaped h, SeqAt.depth_of_shaped h⟩
  have h2 := depth_mem hm
  refine ⟨?_, h2⟩
  unfold SeqAt.shaped
  rw [lay_mem h1.1 hm, decide_eq_true (by omega)]
  rfl
mutual
/-- how many things data is made of -/
def nodes : PyData → Nat
  | .list xs => nodesAll xs + 1
  | .tuple xs => nodesAll xs + 1
  | _ => 1
def nodesAll : List PyData → Nat
  | [] => 0
  | x :: r => nodes x + nodesAll r
end
theorem nodes_pos (d : PyData) : 1 ≤ nodes d := by cases d <;> simp [nodes]
theorem len_nodes : ∀ ds : List PyData, ds.length ≤ nodesAll ds
  | [] => Nat.le_refl _
  | x :: r => by
    have h1 := nodes_pos x
    have h2 := len_nodes r
    show r.length + 1 ≤ nodes x + nodesAll r
    omega
theorem nodes_mem : ∀ {ds : List PyData} {d : PyData}, d ∈ ds → nodes d ≤ nodesAll ds
  | [], _, h => by cases h
  | x :: r, d, hm => by
    show _ ≤ nodes x + nodesAll r
    rcases List.mem_cons.mp hm with rfl | hm
    · omega
    · have := nodes_mem hm
      omega
theorem walk_zipT {K : PySem.W.Frag} {a b : Addr} {xs ys : List V} {n : Nat} (hn : n = min xs.length ys.length) :
    Walk (RZ.ItzT K a b) n (fun H => SqT K H a xs ∧ SqT K H b ys) (YPair (fun i => xs[i]?) (fun i => ys[i]?)) := by
  refine ⟨fun i H hi q => ?_, fun H q => ⟨xs, ys, q.1, q.2, by omega⟩, fun i H v H' hi q y => ?_⟩
  · exact ⟨xs, ys, xs[i]'(by omega), ys[i]'(by omega), q.1, q.2, List.getElem?_eq_getElem (by omega), List.getElem?_eq_getElem (by omega)⟩
  · obtain ⟨t, x, z, e1, e2, e3, e4, e5⟩ := y
    exact ⟨t, x, z, e1, e2, e3, e4 xs q.1, e5 ys q.2⟩
/-- a comprehension that lays g of each, nothing else being changed -/
structure LcP {α : Type} (H1 : Hp) (D : Addr) (xs : List α) (g : α → V) (i : Nat) (H : Hp) : Prop where
  new : H1 D = none
  same : Same H1 H
  at_ : H D = some (.lst ((xs.take i).map g))
theorem LcP.start {α : Type} {H1 : Hp} {D : Addr} {xs : List α} {g : α → V} (h : H1 D = none) : LcP H1 D xs g 0 (upd H1 D (.lst [])) := ⟨h, Same.new h, upd_same⟩
theorem LcP.step {α : Type} {H1 H H4 : Hp} {D : Addr} {xs : List α} {g : α → V} {i : Nat} {x : α} {y : V} (p : LcP H1 D xs g i H) (s : Same H H4) (hx : xs[i]? = some x) (hy : y = g x) (hl : xs.length ≤ sizeLine) :
    ∃ acc, H4 D = some (.lst acc) ∧ acc.length < sizeLine ∧ LcP H1 D xs g (i + 1) (upd H4 D (.lst (acc ++ [y]))) := by
  have hi : i < xs.length := (List.getElem?_eq_some_iff.mp hx).1
  refine ⟨_, s _ _ p.at_, by simp; omega, p.new, fun b o e => ?_, ?_⟩
  · rw [upd_ne (ne_of_none e p.new)]
    exact s _ _ (p.same _ _ e)
  · rw [upd_same, hy, List.take_add_one, hx, List.map_append]
    rfl
theorem LcP.done {α : Type} {H1 H : Hp} {D : Addr} {xs : List α} {g : α → V} (p : LcP H1 D xs g xs.length H) : H D = some (.lst (xs.map g)) := by
  have h := p.at_
  rw [List.take_length] at h
  exact h

/-- a comprehension: what is laid so far is told by A -/
structure LcA (H1 : Hp) (D : Addr) (A : Nat → List V) (i : Nat) (H : Hp) : Prop where
  new : H1 D = none
  same : Same H1 H
  at_ : H D = some (.lst (A i))
theorem LcA.start {H1 : Hp} {D : Addr} {A : Nat → List V} (h : H1 D = none) (h0 : A 0 = []) : LcA H1 D A 0 (upd H1 D (.lst [])) := ⟨h, Same.new h, by rw [upd_same, h0]⟩
theorem LcA.put {H1 H H4 : Hp} {D : Addr} {A : Nat → List V} {i : Nat} {y : V} (p : LcA H1 D A i H) (s : Same H H4) (hA : A (i + 1) = A i ++ [y]) (hl : (A i).length < sizeLine) :
    ∃ acc, H4 D = some (.lst acc) ∧ acc.length < sizeLine ∧ LcA H1 D A (i + 1) (upd H4 D (.lst (acc ++ [y]))) := by
  refine ⟨_, s _ _ p.at_, hl, p.new, fun b o e => ?_, by rw [upd_same, hA]⟩
  rw [upd_ne (ne_of_none e p.new)]
  exact s _ _ (p.same _ _ e)
theorem LcA.skip {H1 H H4 : Hp} {D : Addr} {A : Nat → List V} {i : Nat} (p : LcA H1 D A i H) (s : Same H H4) (hA : A (i + 1) = A i) : LcA H1 D A (i + 1) H4 :=
  ⟨p.new, p.same.trans s, by rw [hA]; exact s _ _ p.at_⟩

/-- tuples and locked things stay -/
def Immut : HO → Prop
  | .tup _ => True
  | .frz _ _ => True
  | .ins _ _ _ => True
  | .own _ => True
  | _ => False
def KeepT (H H' : Hp) : Prop := ∀ t u, Immut u → H t = some u → H' t = some u
theorem KeepT.refl (H : Hp) : KeepT H H := fun _ _ _ h => h
theorem KeepT.trans {H H1 H2 : Hp} (a : KeepT H H1) (b : KeepT H1 H2) : KeepT H H2 := fun t u i h => b t u i (a t u i h)
theorem Same.kt {H H' : Hp} (s : Same H H') : KeepT H H' := fun t u _ h => s t u h
theorem KeepT.new {H : Hp} {p : Addr} {o : HO} (h : H p = none) : KeepT H (upd H p o) := Same.kt (Same.new h)
theorem KeepT.lst {H : Hp} {p : Addr} {xs : List V} {o : HO} (h : H p = some (.lst xs)) : KeepT H (upd H p o) := fun t u i e => by
  have hn : t ≠ p := fun q => by
    rw [q, h] at e
    cases e
    exact i
  rw [upd_ne hn]
  exact e
mutual
def noList : PyData → Bool
  | .list _ => false
  | .dict _ => false
  | .tuple xs => noLists xs
  | _ => true
def noLists : List PyData → Bool
  | [] => true
  | x :: r => noList x && noLists r
end
theorem SqT.keep {K : PySem.W.Frag} {H H' : Hp} {a : Addr} {xs : List V} (e : KeepT H H') (h : SqT K H a xs) : SqT K H' a xs := by
  rcases h with (h | ⟨o, h⟩) | h
  · exact .inl (.inl (e _ _ trivial h))
  · exact .inl (.inr ⟨o, e _ _ trivial h⟩)
  · exact .inr h
mutual
theorem Dp.keep {K : PySem.W.Frag} {H H' : Hp} (e : KeepT H H') : ∀ {v : V} {d : PyData}, Dp K H v d → noList d = true → Dp K H' v d
  | _, _, .non, _ => .non
  | _, _, .bl b, _ => .bl b
  | _, _, .int i, _ => .int i
  | _, _, .str x, _ => .str x
  | _, _, .lst _ _, h => by cases h
  | _, _, .tup s r, h => .tup (SqT.keep e s) (DpAll.keep e r h)
theorem DpAll.keep {K : PySem.W.Frag} {H H' : Hp} (e : KeepT H H') : ∀ {v : List V} {d : List PyData}, DpAll K H v d → noLists d = true → DpAll K H' v d
  | _, _, .nil, _ => .nil
  | _, _, .cons a b, h => by
    have h' := Bool.and_eq_true_iff.mp h
    exact .cons (Dp.keep e a h'.1) (DpAll.keep e b h'.2)
end
theorem DpAll.snoc {K : PySem.W.Frag} {H : Hp} {y : V} {c : PyData} (hy : Dp K H y c) : ∀ {v : List V} {d : List PyData}, DpAll K H v d → DpAll K H (v ++ [y]) (d ++ [c])
  | _, _, .nil => .cons hy .nil
  | _, _, .cons a b => .cons a (DpAll.snoc hy b)
theorem DpAll.take {K : PySem.W.Frag} {H : Hp} : ∀ {v : List V} {d : List PyData} (n : Nat), DpAll K H v d → DpAll K H (v.take n) (d.take n)
  | _, _, 0, _ => .nil
  | _, _, _ + 1, .nil => .nil
  | _, _, n + 1, .cons a b => .cons a (DpAll.take n b)
theorem DpAll.set {K : PySem.W.Frag} {H : Hp} {y : V} {c : PyData} (hy : Dp K H y c) : ∀ {v : List V} {d : List PyData} (n : Nat), DpAll K H v d → DpAll K H (v.set n y) (d.set n c)
  | _, _, _, .nil => .nil
  | _, _, 0, .cons _ b => .cons hy b
  | _, _, n + 1, .cons a b => .cons a (DpAll.set hy n b)

theorem DpAll.ints {K : PySem.W.Frag} {H : Hp} : ∀ ns : List Int, DpAll K H (ns.map V.int) (ns.map .int)
  | [] => .nil
  | n :: r => .cons (.int n) (DpAll.ints r)
theorem lay_ints (ns : List Int) : PyData.canLayAll0 (ns.map .int) = true ∧ PyData.depthAll (ns.map .int) = 0 ∧ nodesAll (ns.map .int) = ns.length := by
  induction ns with
  | nil => exact ⟨rfl, rfl, rfl⟩
  | cons n r ih =>
    refine ⟨ih.1, ?_, ?_⟩
    · show max 0 (PyData.depthAll (r.map .int)) = 0
      rw [ih.2.1]
      rfl
    · show 1 + nodesAll (r.map .int) = r.length + 1
      rw [ih.2.2]
      omega
theorem shaped_ints (ns : List Int) : SeqAt.shaped (.list (ns.map .int)) = true := by
  obtain ⟨h1, h2, _⟩ := lay_ints ns
  show (PyData.canLayAll0 (ns.map .int) && decide (PyData.depthAll (ns.map .int) + 1 ≤ 64)) = true
  rw [h1, h2]
  rfl
/-- those of xs whose data is kept -/
def selV {α : Type} (k : α → Bool) (xs : List V) (ps : List α) : List V := ((xs.zip ps).filter fun z => k z.2).map Prod.fst
theorem DpAll.sel {α : Type} {K : PySem.W.Frag} {H : Hp} {k : α → Bool} {g : α → PyData} : ∀ {xs : List V} {ps : List α}, DpAll K H xs (ps.map g) → DpAll K H (selV k xs ps) ((ps.filter k).map g)
  | [], [], _ => .nil
  | _ :: _, [], h => by cases h
  | [], _ :: _, h => by cases h
  | x :: xs, p :: ps, h => by
    cases h with
    | cons a b =>
      have ih := DpAll.sel (k := k) b
      unfold selV at ih ⊢
      rw [List.zip_cons_cons, List.filter_cons, List.filter_cons]
      cases hk : k p
      · rw [if_neg (by simp [hk]), if_neg (by simp)]
        exact ih
      · rw [if_pos (by simp [hk]), if_pos rfl]
        exact .cons a ih
theorem selV_take {α : Type} {k : α → Bool} {xs : List V} {ps : List α} {i : Nat} {x : V} {p : α} (hx : xs[i]? = some x) (hp : ps[i]? = some p) :
    selV k (xs.take (i + 1)) (ps.take (i + 1)) = selV k (xs.take i) (ps.take i) ++ (if k p then [x] else []) := by
  unfold selV
  have tz : ∀ n, (xs.take n).zip (ps.take n) = (xs.zip ps).take n := fun n => by rw [List.zip_eq_zipWith, List.zip_eq_zipWith, List.take_zipWith]
  rw [tz, tz, List.take_add_one, (List.getElem?_zip_eq_some (z := (x, p))).mpr ⟨hx, hp⟩, List.filter_append, List.map_append]
  congr 1
  cases hk : k p <;> simp [hk]
theorem selV_len {α : Type} {k : α → Bool} {xs : List V} {ps : List α} : (selV k xs ps).length ≤ xs.length := by
  unfold selV
  rw [List.length_map]
  exact Nat.le_trans (List.length_filter_le _ _) (by rw [List.length_zip]; omega)

/-- the box of draws at B, n draws behind it at most -/
def Box (H : Hp) (B : Addr) (n : Nat) : Prop := ∃ b0 b1 b2 : Int, H B = some (.lst [.int b0, .int b1, .int b2]) ∧ 0 ≤ b0 ∧ 0 ≤ b1 ∧ b1 < 2147483647 ∧ 0 ≤ b2 ∧ b2 ≤ (n : Int)
theorem Box.mono {H : Hp} {B : Addr} {n m : Nat} (b : Box H B n) (h : n ≤ m) : Box H B m := by
  obtain ⟨b0, b1, b2, e, h0, h1, h2, h3, h4⟩ := b
  exact ⟨b0, b1, b2, e, h0, h1, h2, h3, by omega⟩
theorem Box.some {H : Hp} {B : Addr} {n : Nat} (b : Box H B n) : ∃ o, H B = some o := by
  obtain ⟨b0, b1, b2, e, _⟩ := b
  exact ⟨_, e⟩
theorem Box.keep {H H' : Hp} {B : Addr} {n : Nat} (b : Box H B n) (s : Same H H') : Box H' B n := by
  obtain ⟨b0, b1, b2, e, h⟩ := b
  exact ⟨b0, b1, b2, s _ _ e, h⟩
theorem Box.put {H : Hp} {B p : Addr} {n : Nat} {o : HO} (b : Box H B n) (h : p ≠ B) : Box (upd H p o) B n := by
  obtain ⟨b0, b1, b2, e, r⟩ := b
  exact ⟨b0, b1, b2, by rw [upd_ne h.symm]; exact e, r⟩
theorem Box.ne {H : Hp} {B p : Addr} {n : Nat} (b : Box H B n) (h : H p = none) : p ≠ B := by
  obtain ⟨o, e⟩ := b.some
  exact (ne_of_none e h).symm
theorem Fr.kt {H H' : Hp} {B : Addr} {n : Nat} (f : Fr [B] H H') (b : Box H B n) : KeepT H H' := fun t u i e => by
  have hn : t ≠ B := fun q => by
    obtain ⟨b0, b1, b2, hB, _⟩ := b
    rw [q, hB] at e
    cases e
    exact i
  exact f t u (by simp [hn]) e
theorem atI_in {xs : List V} {r : Int} (h0 : 0 ≤ r) (h1 : r < xs.length) : ∃ v, atI xs r = some v ∧ v ∈ xs := by
  obtain ⟨j, rfl⟩ := Int.eq_ofNat_of_zero_le h0
  have hj : j < xs.length := by omega
  exact ⟨xs[j], atI_nat (List.getElem?_eq_getElem hj), List.getElem_mem hj⟩
theorem walk_range0 {n : Nat} : Walk (Itr 0 n) n (fun _ => True) (YFn fun i => .int ((i : Nat) : Int)) :=
  walk_range.mono (fun _ h => h) fun i H x H' _ _ y => ⟨y.1, by rw [y.2]; show V.int (0 + (i : Int)) = V.int (i : Int); rw [Int.zero_add]⟩
theorem iteD {p A B : Prop} [Decidable p] (h1 : p → A) (h2 : ¬ p → B) : if decide p = true then A else B := by
  by_cases h : p
  · rw [if_pos (decide_eq_true h)]; exact h1 h
  · rw [if_neg (by rw [decide_eq_false h]; exact Bool.false_ne_true)]; exact h2 h
theorem iteND {p A B : Prop} [Decidable p] (h1 : ¬ p → A) (h2 : p → B) : if (!decide p) = true then A else B := by
  by_cases h : p
  · rw [decide_eq_true h]; exact iteF (h2 h)
  · rw [decide_eq_false h]; exact iteT (h1 h)
theorem iteDS {p A B : Prop} [Decidable p] (h : p) (a : A) : if decide p = true then A else B := by rw [if_pos (decide_eq_true h)]; exact a
theorem iteDN {p A B : Prop} [Decidable p] (h : ¬ p) (b : B) : if decide p = true then A else B := by rw [decide_eq_false h]; exact iteF b
theorem iteNDN {p A B : Prop} [Decidable p] (h : ¬ p) (a : A) : if (!decide p) = true then A else B := by rw [decide_eq_false h]; exact iteT a
theorem ixN_nat {n j : Nat} (h : j < n) : ixN n (j : Int) = some j := by
  unfold ixN
  rw [if_pos (by omega), if_pos (by omega), Int.toNat_natCast]
def rLenK (K : PySem.W.Frag) : List V → Hp → VK → Prop := fun xs H Q => ∃ p ys, xs = [.ref p] ∧ (SqL K H p ys ∨ SqT K H p ys) ∧ Q (.int ys.length) H
theorem call_len_seqK {X : Cx} {K : PySem.W.Frag} (h : X.K = K) : CallR X (.builtin "len") (rLenK K) := by
  subst h
  exact call_len_seq
theorem atI_last {xs : List V} {x : V} (h : xs[xs.length - 1]? = some x) : atI xs (-1) = some x := by
  have hl : xs.length - 1 < xs.length := (List.getElem?_eq_some_iff.mp h).1
  have e : ixN xs.length (-1) = some (xs.length - 1) := by
    unfold ixN
    rw [if_neg (by decide), if_pos (by omega)]
    congr 1
    omega
  unfold atI
  rw [e]
  exact h
theorem ixN_last {n : Nat} (h : 0 < n) : ixN n (-1) = some (n - 1) := by
  unfold ixN
  rw [if_neg (by decide), if_pos (by omega)]
  congr 1
  omega
theorem vals3 {a b c : V} {us : List Value} (r : Vals [a, b, c] us) : ∃ x y z, us = [x, y, z] ∧ RelV a x ∧ RelV b y ∧ RelV c z := by
  cases r with
  | cons r1 r => cases r with
    | cons r2 r => cases r with
      | cons r3 r => cases r; exact ⟨_, _, _, rfl, r1, r2, r3⟩
def max3 (i j k : Int) : Int := if k > (if j > i then j else i) then k else (if j > i then j else i)
theorem call_max3 {X : Cx} (hc : X.calm = true) : CallR X (.builtin "max") (fun xs H Q => ∃ i j k, xs = [.int i, .int j, .int k] ∧ Q (.int (max3 i j k)) H) := by
  intro pins s σ H xs us Q I r h
  obtain ⟨i, j, k, rfl, q⟩ := h
  obtain ⟨u, v, w', rfl, ⟨t, rfl⟩, ⟨t', rfl⟩, ⟨t'', rfl⟩⟩ := vals3 r
  refine max_three_ints (I.ok.hd hc) fun h' tk kk => ⟨_, H, I.kept kk, ?_, q⟩
  unfold max3
  by_cases h1 : j > i
  · rw [if_pos h1, if_pos h1]
    by_cases h2 : k > j
    · rw [if_pos h2, if_pos h2]; exact ⟨_, rfl⟩
    · rw [if_neg h2, if_neg h2]; exact ⟨_, rfl⟩
  · rw [if_neg h1, if_neg h1]
    by_cases h2 : k > i
    · rw [if_pos h2, if_pos h2]; exact ⟨_, rfl⟩
    · rw [if_neg h2, if_neg h2]; exact ⟨_, rfl⟩
theorem putF_len (f : Str) (v : V) : ∀ l : List (Str × V), (putF f v l).length ≤ l.length + 1
  | [] => Nat.le_refl _
  | (g, w) :: r => by
    unfold putF
    split
    · exact Nat.le_succ _
    · have := putF_len f v r
      simp only [List.length_cons]
      omega
theorem putF_few {f : Str} {v : V} {l : List (Str × V)} {n : Nat} (h : l.length ≤ n) : (putF f v l).length ≤ n + 1 := Nat.le_trans (putF_len f v l) (Nat.succ_le_succ h)
theorem putF_ok {l : List (Str × V)} {n : Nat} (h : l.length ≤ n) (hn : n < 1000) : l.length < 1000 := Nat.lt_of_le_of_lt h hn
theorem ix3 {a b c : V} : (atI [a, b, c] 0 = some a ∧ atI [a, b, c] 1 = some b ∧ atI [a, b, c] 2 = some c) := ⟨rfl, rfl, rfl⟩

theorem log2_ok {x : Int} (h : x.natAbs < 2 ^ 200) : x.natAbs.log2 < 1920 := by
  by_cases h0 : x.natAbs = 0
  · rw [h0]; decide
  · exact Nat.lt_of_lt_of_le ((Nat.log2_lt h0).mpr h) (by decide)
theorem log2_ok18 {x : Int} (h : x.natAbs < 10 ^ 18) : x.natAbs.log2 < 1920 := log2_ok (Nat.lt_of_lt_of_le h (by decide))
theorem ite01 (b : Bool) : (0 : Int) ≤ (if b = true then 1 else 0) := by cases b <;> decide
theorem pe_globE {X : Cx} {x : Str} {v : V} {pos : Pos} (hg : Gl X x) (h : ∃ u, X.mg x = some u ∧ RelV v u) (hd : (x == ("__debug__" : Str)) = false := by decide) : PE X (.Name x pos) (tC v) := by
  obtain ⟨u, hm, r⟩ := h
  exact pe_glob hg hm r hd
/-- s.rpartition(t) -/
theorem mt_rpartition {X : Cx} : MtR X "str.rpartition" (fun x xs H Q => ∃ a b, x = .str a ∧ xs = [.str b] ∧ (b.length == 0) = false ∧ a.length ≤ sizeLine ∧
    ∀ p, H p = none → Q (.ref p) (upd H p (.tup [.str (Txt.rpartition a b).1, .str (Txt.rpartition a b).2.1, .str (Txt.rpartition a b).2.2]))) := by
  intro pins s σ H x xs v us Q I rx rs h
  obtain ⟨a, b, rfl, rfl, hb, hz, h⟩ := h
  obtain ⟨t, rfl⟩ := rx
  cases rs with
  | cons r1 rs =>
    cases rs
    obtain ⟨u, rfl⟩ := r1
    refine call_meets F.slot_str_rpartition (typeIs_str _ _ _) F.entry_str_rpartition (F.args_str_rpartition_2 _ _) (meets_str_rpartition a b t u hb hz) ?_
    unfold Txt.rpartition at h
    revert h
    cases Builtin.Str.lastOccurrence a b 0 a.length with
    | none => intro h; exact laid_parts I h
    | some i => intro h; exact laid_parts I h
end Z
/-! defs that run while no repr is under way; repr and str of data -/
namespace Z
open PySem L2 PySem.Spec PyProof.Rows

/-- a promise that is kept wherever no repr is under way -/
structure FnG (P : Program) (w : World) (K : PySem.W.Frag) (mg : Str → Option Value) (base : Heap) (k : Nat) (f : Addr) (fd : FuncData)
    (ps : List Str) (sp : Sp) : Prop where
  size : ∀ vs H Q E, sp vs H Q E → vs.length = ps.length
  goes : ∀ (A : Around) (outer : List Env) (s : Shared) (H : Hp) (args : Args) (us : List Value) (vs : List V) (Q : VK) (E : XK),
    Room k A → A.guards = some [] → Env0 P w K mg base A outer s H → BindsTo s fd args (ps.zip us) → Vals vs us → sp vs H Q E →
    codeAny (model P w) A (.call (.ref f) args) (CR CX0 outer P w H s Q E) s
section
variable {P : Program} {w : World} {K : PySem.W.Frag} {mg : Str → Option Value} {base : Heap} {k : Nat} {f : Addr} {fd : FuncData} {ps : List Str} {sp : Sp}
theorem FnG.of (F : FnOk P w K mg base CX0 k f fd ps sp) : FnG P w K mg base k f fd ps sp :=
  ⟨F.len, fun A outer s H args us vs Q E hr _ => F.run A outer s H args us vs Q E hr⟩
theorem FnG.fit (F : FnG P w K mg base k f fd ps sp) {j : Nat} (h : k ≤ j) : FnG P w K mg base j f fd ps sp :=
  ⟨F.size, fun A outer s H args us vs Q E hr => F.goes A outer s H args us vs Q E (hr.mono h)⟩
/-- its body, in a frame of which it is known that no repr is under way -/
theorem okG {x qual : Str} {st : Stmt} {N : List Str} (F : Fun K x qual st f fd) (S : FnScope N ps (defScope st))
    (len : ∀ vs H Q E, sp vs H Q E → vs.length = ps.length)
    (body : ∀ (cdv : Value) (A : Around) (outer : List Env) (s : Shared) (H : Hp) (vs : List V) (Q : VK) (E : XK),
      Room k (A.deeper (envOfC qual (defScope st) s.heap.objs.size f cdv)) →
      (A.deeper (envOfC qual (defScope st) s.heap.objs.size f cdv)).guards = some [] → sp vs H Q E →
      ∃ t, PSs (cxOf CX0 P w K mg base N qual (defScope st) f cdv A outer s H E).nox (defBody st) t ∧
        t { nx := fun _ H' => Q .non H', rt := Q } (start N vs) H) :
    FnG P w K mg base (k + 1) f fd ps sp := by
  obtain ⟨oc, od, kV, doc, pm, an, cdv, ct, osl, rfl, at_f, code⟩ := F.ex
  refine ⟨len, fun A outer s H args us vs Q E room calm start0 binds rel want => ?_⟩
  have here : K.In s.heap := start0.mod.kin.keeps fun b o e => (start0.bs b o e).1
  have nolim : s.heap.NoLimit := start0.mod.nolimit.keeps fun b o e => (start0.bs b o e).1
  obtain ⟨t, der, rd⟩ := body cdv A outer s H vs Q E (room.deeper _) calm want
  have kinds : ∀ y ∈ ps.zip us, (defScope st).names.lookup y.1 = some .local ∨
      ((defScope st).names.lookup y.1 = some .cell ∧ ((cellsFrom (s.heap.objs.size + 1) (defScope st).names []).lookup y.1).isSome = true) := by
    rintro ⟨n, v⟩ hy
    refine (S.par n (List.of_mem_zip hy).1).imp id fun q => ⟨q, PySem.W.cellsFrom_some _ _ _ (.inl q)⟩
  refine codeAny_call_function room.depth (here _ _ at_f) rfl S.co S.gen rfl (PySem.W.codeRec_of here code) (binds _ _ _ _ ?_)
  refine wpAny_newFunctionEnv_cells S.kind kinds fun env he s1 inside => ?_
  subst he
  refine ⟨nolim.keeps inside.toInCall.keep, codeAny_func ?_⟩
  have I := inv_start (CX := CX0) (E := E) S room.hd start0 (len _ _ _ _ want) rel inside
  refine wpAny_mono (der.nox.run [] s1 (start N vs) H _ I rd) (fun fl s' ends => ?_) fun e s' ends => ends
  cases fl with
  | ret u => obtain ⟨v, σ', H', J, rv, q⟩ := ends; exact ⟨v, H', J.os, J.bare, J.base, J.hok, rv, q⟩
  | next => obtain ⟨σ', H', J, q⟩ := ends; exact ⟨.non, H', J.os, J.bare, J.base, J.hok, rfl, q⟩
  | brk => obtain ⟨_, _, _, q⟩ := ends; exact q.elim
  | cont => obtain ⟨_, _, _, q⟩ := ends; exact q.elim
end
section
variable {X : Cx} {k : Nat} {f : Addr} {fd : FuncData} {ps : List Str} {sp : Sp} {dvs : List V} {ds : List Value} {x : Str} {p pos : Pos} {e : Expr} {es : List Expr} {t : TA}
/-- such a callee runs -/
theorem runG {pins : List (Addr × Obj)} {σ : L2.St} {H : Hp} {s : Shared} {Q : VK} {us : List Value} {vs : List V} (F : FnG X.prog X.w X.K X.mg X.base k f fd ps sp)
    (hr : Room k X.A) (calm : X.A.guards = some []) (hb : Binds X.K fd ps ds) (hd : Vals dvs ds) (I : Inv X pins σ H s) (r : Vals vs us)
    (h : sp (vs ++ dvs) H Q E0) : wpAny (model X.prog X.w) X.A (call (.ref f) us) (EP X pins σ Q) X.xe s := by
  have both : Vals (vs ++ dvs) (us ++ ds) := r.append hd
  have enough : (us ++ ds).length = ps.length := both.length ▸ F.size _ _ _ _ h
  refine wpAny_call (codeAny_mono (F.goes X.A X.stack s H ⟨us, []⟩ _ _ Q E0 hr calm I.env0 (hb s us I.kIn enough) both h) fun res s' out => ?_)
  match res, out with
  | .ok (.ret u), out => exact I.after out
  | .ok .next, out => exact (out : False).elim
  | .ok .brk, out => exact (out : False).elim
  | .ok .cont, out => exact (out : False).elim
  | .error _, out => exact (out : False).elim
theorem pe_callG (F : FnG X.prog X.w X.K X.mg X.base k f fd ps sp) (hr : Room k X.A) (calm : X.A.guards = some []) (hg : Gl X x)
    (hm : X.mg x = some (.ref f)) (hk : PySem.W.keepIn X.K (.ref f) = true) (hb : Binds X.K fd ps ds) (hd : Vals dvs ds) (ha : PA X (e :: es) t)
    (nodebug : (x == ("__debug__" : Str)) = false := by decide)
    (nostar : starEach (e :: es) X.env = (false, eval e X.env) :: starEach es X.env := by rfl)
    (plain : (backTo pos (starEach es X.env)).any (·.1) = false := by rfl) : PE X (.Call (.Name x p) (e :: es) [] pos) (tCall sp dvs E0 t) :=
  ⟨fun pins s σ H Q I h => wpAny_Call_Name_kw (ld_glob I hg hm
    (PySem.W.callWith_K (h₀ := X.base) I.ok.mod.kin hk (thn (ha.run pos pins s σ H _ I h) fun us s1 ⟨vs, H1, I1, r, q⟩ =>
      ⟨I1.kIn, runG F hr calm hb hd I1 r q⟩) nostar plain) nodebug)⟩
theorem pe_callG0 (F : FnG X.prog X.w X.K X.mg X.base k f fd ps sp) (hr : Room k X.A) (calm : X.A.guards = some []) (hg : Gl X x)
    (hm : X.mg x = some (.ref f)) (hk : PySem.W.keepIn X.K (.ref f) = true) (hb : Binds X.K fd ps ds) (hd : Vals dvs ds)
    (nodebug : (x == ("__debug__" : Str)) = false := by decide) : PE X (.Call (.Name x p) [] [] pos) (tCall sp dvs E0 tNil) :=
  ⟨fun pins s σ H Q I h => wpAny_Call_Name_kw (ld_glob I hg hm (PySem.W.callWith_K0 I.kIn hk (runG (us := []) F hr calm hb hd I .nil h)) nodebug)⟩
end

/-! the law's call, its def being such a one -/
theorem law_callG {P : Program} {w : World} {K : PySem.W.Frag} {mg mb : Str → Option Value} {k : Nat} {fa a : Addr} {fd : FuncData} {x : Str} {sp : Sp} {s₁ : Shared} {vs : List Value} {ns : List Int}
    (kin : K.In s₁.heap) (ng : s₁.heap.Ns mainGlobals mg) (nb : s₁.heap.Ns builtinsNs mb) (boot : ∀ x : Str, x ≠ "__name__" → mb x = bootBuiltins x)
    (nolim : s₁.heap.NoLimit) (nogen : s₁.gens = #[]) (at_a : s₁.heap.get? a = some { cls := .type "list", data := .seq vs.toArray })
    (ints_ : IntsAre vs ns) (few : ns.length ≤ sizeLine) (room : Room k callerA)
    (F : ∀ base : Heap, K.In base → base.Ns mainGlobals mg → FnG P w K mg base k fa fd [x] sp) (bind : ∀ (s : Shared) (u : Value), BindsTo s fd ⟨[u], []⟩ [(x, u)])
    (want : ∀ H : Hp, Only H → SqL K H a (ns.map V.int) → sp [.ref a] H (fun v _ => v = .bl true) fun _ _ _ => False) :
    codeAny (model P w) callerA (.call (.ref fa) ⟨[.ref a], []⟩)
      (fun r s' => r = .ok (.ret (.bool true)) ∧ OldK s₁.heap s'.heap ∧ s'.os = s₁.os ∧ AllBare s'.gens) s₁ := by
  have rel := vals_ints ints_
  have one : ∀ H : Hp, Only H → SqL K H a (ns.map V.int) → HOk P w H s₁.heap → (∀ b, H b ≠ none → b = a) → (H a ≠ none → K.lookup a = none) →
      codeAny (model P w) callerA (.call (.ref fa) ⟨[.ref a], []⟩)
        (fun r s' => r = .ok (.ret (.bool true)) ∧ OldK s₁.heap s'.heap ∧ s'.os = s₁.os ∧ AllBare s'.gens) s₁ := fun H only sq hok alone noK => by
    have dictOut : ∀ {b : Addr} {o : Obj} {es : Array DictEntry} {ep : Nat}, s₁.heap.get? b = some o → o.data = .dict es ep → H b = none := by
      intro b o es ep e d
      refine Option.eq_none_iff_forall_ne_some.mpr fun u q => ?_
      have hb := alone b (q ▸ Option.some_ne_none u)
      rw [hb, at_a] at e
      injection e with e
      rw [← e] at d
      exact Data.noConfusion d
    have nsIn : ∀ {b : Addr} {m : Str → Option Value}, s₁.heap.Ns b m → (hidT s₁.heap H).Ns b m := by
      rintro b m ⟨o, es, ep, e, d, r⟩
      exact ⟨o, es, ep, hidT_get e (dictOut e d), d, r⟩
    have kb : K.In (hidT s₁.heap H) := fun b o e => hidT_get (kin b o e) (Option.eq_none_iff_forall_ne_some.mpr fun u q => by
      have hb := alone b (q ▸ Option.some_ne_none u)
      rw [hb] at q e
      rw [noK (q ▸ Option.some_ne_none u)] at e
      cases e)
    have lim' : (hidT s₁.heap H).NoLimit := by
      obtain ⟨mc, h1, h2⟩ := nolim
      exact ⟨mc, nsIn h1, h2⟩
    have start0 : Env0 P w K mg (hidT s₁.heap H) callerA [] s₁ H :=
      ⟨rfl, ⟨kb, nsIn ng, ⟨mb, nsIn nb, boot⟩, lim'⟩, fun b o e => of_hidT e, Nat.le_of_eq (hidT_size _ _), trivial, (fun b hb => (List.not_mem_nil hb).elim), hok, .of_eq nogen⟩
    refine codeAny_mono ((F _ kb (nsIn ng)).goes callerA [] s₁ H ⟨[.ref a], []⟩ [.ref a] [.ref a] _ _ room rfl start0 (bind s₁ (.ref a)) (.cons rfl .nil) (want H only sq)) ?_
    intro res s' out
    match res, out with
    | .ok .next, out => exact (out : False).elim
    | .ok .brk, out => exact (out : False).elim
    | .ok .cont, out => exact (out : False).elim
    | .error _, out => exact (out : False).elim
    | .ok (.ret u), out =>
      obtain ⟨v, H', os, bare, un, hok', rv, q⟩ := out
      cases (show v = .bl true from q)
      cases (show u = Value.bool true from rv)
      refine ⟨rfl, OldK.of_keep fun b o e => ?_, os, bare⟩
      rcases only b with z | ⟨ob, xs, z⟩
      · exact un.keep b o e z (fun q => by cases q) (fun q => by cases q)
      · have e1 := (hok b _ z).1
        have e2 := (hok' b _ (un.frzs b ob _ z)).1
        rw [e] at e1
        injection e1 with e1
        rw [e1]
        exact e2
  by_cases hk : K.lookup a = none
  · refine one (fun b => if b = a then some (.frz { cls := .type "list", data := .seq vs.toArray } (.lst (ns.map V.int))) else none) (fun b => ?_)
      (.inl (.inr ⟨_, if_pos rfl⟩)) (fun b u z => ?_) (fun b z => ?_) fun _ => hk
    · exact if h : b = a then .inr ⟨_, _, if_pos h⟩ else .inl (if_neg h)
    · refine if h : b = a then ?_ else ?_
      · dsimp only at z
        rw [if_pos h] at z
        cases z
        rw [h]
        exact ⟨at_a, by rw [List.length_map]; exact few, vs, _, rel, at_a⟩
      · dsimp only at z
        rw [if_neg h] at z
        cases z
    · exact Decidable.byContradiction fun h => z (if_neg h)
  · obtain ⟨o, ho⟩ := Option.ne_none_iff_exists'.mp hk
    have e := kin a o ho
    rw [at_a] at e
    injection e with e
    refine one (fun _ => none) (fun _ => .inl rfl) (.inr ⟨_, vs.toArray, _, ho, by rw [← e], by rw [← e], by rw [← e], ?_, ?_⟩) (fun b u z => by cases z) (fun b z => (z rfl).elim) fun z => (z rfl).elim
    · rw [List.size_toArray, ints_.length]
      exact few
    · simpa using rel
theorem walk_ofG {l : PySem.W.OpenLaw} {n k : Nat} {q : Program} {loose : List Str} {XP : (Str → Option Value) → Heap → Prop} {YP : World → Heap → Prop} {d : DefRec} {K : Params → PySem.W.Frag}
    {sp : PySem.W.Frag → Sp} {x : Str} (most : l.most = some n) (line : n ≤ sizeLine) (nodef : d.params.defaults = []) (room : Room k callerA)
    (kin : ∀ (w : World) (h : Heap), YP w h → (K w.params).In h)
    (F : ∀ (w : World) (mg : Str → Option Value) (fa : Addr) (h : Heap), (K w.params).In h → h.Ns mainGlobals mg → mg d.name = some (.ref fa) →
      ∃ fd : FuncData, (∀ (s : Shared) (u : Value), BindsTo s fd ⟨[u], []⟩ [(x, u)]) ∧
        ∀ base : Heap, (K w.params).In base → base.Ns mainGlobals mg → FnG l.prog w (K w.params) mg base k fa fd [x] (sp (K w.params)))
    (want : ∀ (K : PySem.W.Frag) (H : Hp) (a : Addr) (ns : List Int), ns.length ≤ n → Only H → SqL K H a (ns.map V.int) → sp K [.ref a] H (fun v _ => v = .bl true) fun _ _ _ => False) :
    PySem.W.WalkO q loose XP YP l.row.toRowW d [] (fun f vs => PySem.call f vs) := by
  refine Att.attach_call most nodef fun w s₀ s₁ mg mb fa o pm cd doc a vs ns G Y ho hd hcd hmg hobj hints hlen hg => ?_
  obtain ⟨fd, hb, hF⟩ := F w mg fa _ (kin w _ Y) G.T.g hmg
  exact law_callG (kin w _ Y) G.T.g G.T.b G.T.builtins G.T.nolimit hg hobj hints (Nat.le_trans hlen line) room hF hb fun H only sq => want _ H a ns hlen only sq
end Z
namespace Z
open PySem L2 PySem.Spec PyProof.Rows
section
variable {X : Cx}
mutual
theorem Dp.plain {K : PySem.W.Frag} {H : Hp} : ∀ {v : V} {d : PyData}, Dp K H v d → d.hasDict = false
  | _, _, .non => rfl
  | _, _, .bl _ => rfl
  | _, _, .int _ => rfl
  | _, _, .str _ => rfl
  | _, _, .lst _ r => DpAll.plain r
  | _, _, .tup _ r => DpAll.plain r
theorem DpAll.plain {K : PySem.W.Frag} {H : Hp} : ∀ {v : List V} {d : List PyData}, DpAll K H v d → PyData.hasDictAll d = false
  | _, _, .nil => rfl
  | _, _, .cons a b => by
    show (PyData.hasDict _ || PyData.hasDictAll _) = false
    rw [Dp.plain a, DpAll.plain b]
    rfl
end
/-- repr(x), x a list or a tuple of data -/
theorem call_reprD (calm : X.A.guards = some []) (hu : X.A.units + 64 < cLine) : CallR X (.builtin "repr") (fun xs H Q => ∃ (a : Addr) (d : PyData), xs = [.ref a] ∧ Dp X.K H (.ref a) d ∧
    d.showable = true ∧ d.depth ≤ 60 ∧ d.shown.length ≤ sizeLine ∧ Q (.str d.shown) H) := by
  intro pins s σ H xs us Q I r h
  obtain ⟨a, d, rfl, hd, sh, dp, sz, q⟩ := h
  obtain ⟨u, rfl, rx⟩ := vals1 r
  obtain ⟨as, rd⟩ := Dp.reads I d _ u hd rx
  cases (show u = Value.ref a from rx)
  exact repr_of_reads' rd sh (PyData.noDict_hsm (Dp.plain hd)) calm (by omega) (fun _ _ e => e) (fun h' u tk hk => ⟨.str d.shown, H, I.kept (t' := tk) hk, ⟨u, rfl⟩, q⟩) sz
/-- str(x), x a list or a tuple of data -/
theorem call_strD (calm : X.A.guards = some []) (hu : X.A.units + 64 < cLine) : CallR X (.type "str") (fun xs H Q => ∃ (a : Addr) (d : PyData), xs = [.ref a] ∧ Dp X.K H (.ref a) d ∧
    d.showable = true ∧ d.depth ≤ 60 ∧ d.shown.length ≤ sizeLine ∧ Q (.str d.shown) H) := by
  intro pins s σ H xs us Q I r h
  obtain ⟨a, d, rfl, hd, sh, dp, sz, q⟩ := h
  obtain ⟨u, rfl, rx⟩ := vals1 r
  obtain ⟨as, rd⟩ := Dp.reads I d _ u hd rx
  cases (show u = Value.ref a from rx)
  exact str_of_reads rd sh (PyData.noDict_hsm (Dp.plain hd)) calm (by omega) (fun _ _ e => e) (fun h' u tk hk => ⟨.str d.shown, H, I.kept (t' := tk) hk, ⟨u, rfl⟩, q⟩) sz
end
end Z
/-! carrying facts along heaps -/
namespace Z
open PySem L2
theorem Same.at {H H' : Hp} {p : Addr} {o : HO} (s : Same H H') (h : H p = some o) : H' p = some o := s _ _ h
theorem Fr.at1 {H H' : Hp} {B p : Addr} {o : HO} (f : Fr [B] H H') (n : p ≠ B) (h : H p = some o) : H' p = some o := f p o (by simp [n]) h
theorem upd_at {H : Hp} {p q : Addr} {o u : HO} (n : q ≠ p) (h : H q = some o) : upd H p u q = some o := by rw [upd_ne n]; exact h
theorem upd_new {H : Hp} {p q : Addr} {o u : HO} (n : H p = none) (h : H q = some o) : upd H p u q = some o := by rw [upd_ne (ne_of_none h n)]; exact h
theorem KeepT.bySame {H H1 H2 : Hp} (s : Same H1 H2) (k : KeepT H H1) : KeepT H H2 := k.trans (Same.kt s)
theorem KeepT.byFr {H H1 H2 : Hp} {B : Addr} {n : Nat} (f : Fr [B] H1 H2) (b : Box H1 B n) (k : KeepT H H1) : KeepT H H2 := k.trans (f.kt b)
theorem Fr.bySame {H H1 H2 : Hp} {M : List Addr} (s : Same H1 H2) (f : Fr M H H1) : Fr M H H2 := f.trans (Same.fr s)
theorem Fr.byFr {H H1 H2 : Hp} {M : List Addr} (g : Fr M H1 H2) (f : Fr M H H1) : Fr M H H2 := f.trans g
theorem Same.bySame {H H1 H2 : Hp} (s : Same H1 H2) (f : Same H H1) : Same H H2 := f.trans s
theorem Box.bySame {H H' : Hp} {B : Addr} {n : Nat} (s : Same H H') (b : Box H B n) : Box H' B n := b.keep s
theorem Dp.bySame {K : PySem.W.Frag} {H H' : Hp} {v : V} {d : PyData} (s : Same H H') (h : Dp K H v d) : Dp K H' v d := Dp.mono s h
theorem Dp.byFr {K : PySem.W.Frag} {H H' : Hp} {v : V} {d : PyData} {B : Addr} {n : Nat} (f : Fr [B] H H') (b : Box H B n) (nl : noList d = true) (h : Dp K H v d) : Dp K H' v d := Dp.keep (f.kt b) h nl
theorem DpAll.bySame {K : PySem.W.Frag} {H H' : Hp} {v : List V} {d : List PyData} (s : Same H H') (h : DpAll K H v d) : DpAll K H' v d := DpAll.mono s h
theorem DpAll.byFr {K : PySem.W.Frag} {H H' : Hp} {v : List V} {d : List PyData} {B : Addr} {n : Nat} (f : Fr [B] H H') (b : Box H B n) (nl : noLists d = true) (h : DpAll K H v d) : DpAll K H' v d := DpAll.keep (f.kt b) h nl
theorem SqT.bySame {K : PySem.W.Frag} {H H' : Hp} {a : Addr} {xs : List V} (s : Same H H') (h : SqT K H a xs) : SqT K H' a xs := SqT.mono s h
theorem SqT.byFr {K : PySem.W.Frag} {H H' : Hp} {a : Addr} {xs : List V} {B : Addr} {n : Nat} (f : Fr [B] H H') (b : Box H B n) (h : SqT K H a xs) : SqT K H' a xs := SqT.keep (f.kt b) h
theorem SqL.bySame {K : PySem.W.Frag} {H H' : Hp} {a : Addr} {xs : List V} (s : Same H H') (h : SqL K H a xs) : SqL K H' a xs := SqL.mono s h
theorem Box.byPut {H : Hp} {B p : Addr} {n : Nat} {o : HO} (h : p ≠ B) (b : Box H B n) : Box (upd H p o) B n := b.put h
theorem Fr.byPut {M : List Addr} {H H' : Hp} {p : Addr} {o : HO} (h : p ∈ M) (f : Fr M H H') : Fr M H (upd H' p o) := f.put h
theorem none_of_same {H H' : Hp} {p : Addr} (s : Same H H') (h : H' p = none) : H p = none := by
  cases e : H p with
  | none => rfl
  | some o => rw [s _ _ e] at h; cases h
end Z
/-! tuples cut and put together, by what is to be read there -/
namespace Z
open PySem L2
theorem cut_to (xs : List V) (k : Nat) : cutV xs none (some (k : Int)) = xs.take k := by
  unfold cutV
  rw [HT.sIx_nat, HT.sIx_none, List.drop_zero, Nat.sub_zero]
  by_cases h : k ≤ xs.length
  · rw [Nat.min_eq_left h]
  · rw [Nat.min_eq_right (by omega), List.take_length, List.take_of_length_le (by omega)]
theorem cut_from (xs : List V) (k : Nat) : cutV xs (some (k : Int)) none = xs.drop k := by
  unfold cutV
  rw [HT.sIx_nat, HT.sIx_none]
  by_cases h : k ≤ xs.length
  · rw [Nat.min_eq_left h, List.take_of_length_le (by rw [List.length_drop]; omega)]
  · rw [Nat.min_eq_right (by omega), List.drop_length, List.take_nil, List.drop_of_length_le (by omega)]
theorem cut_mid (xs : List V) (k l : Nat) : cutV xs (some (k : Int)) (some (l : Int)) = (xs.take l).drop k := by
  unfold cutV
  rw [HT.sIx_nat, HT.sIx_nat, List.drop_take]
  by_cases h : k ≤ xs.length
  · rw [Nat.min_eq_left h]
    by_cases h2 : l ≤ xs.length
    · rw [Nat.min_eq_left h2]
    · rw [Nat.min_eq_right (by omega), List.take_of_length_le (by rw [List.length_drop]; omega), List.take_of_length_le (by rw [List.length_drop]; omega)]
  · rw [show min k xs.length = xs.length by omega, List.drop_length, List.drop_of_length_le (show xs.length ≤ k by omega), List.take_nil, List.take_nil]
theorem sl_of {K : PySem.W.Frag} {H : Hp} {a : Addr} {xs : List V} {lo hi : Option Int} {Q : VK} (h : SqT K H a xs)
    (q : ∀ p H', Same H H' → SqT K H' p (cutV xs lo hi) → Q (.ref p) H') : rSlA K (.ref a) lo hi H Q := by
  refine ⟨a, xs, rfl, h, fun e => q a H (Same.refl _) ?_, fun _ p hp => q p _ (Same.new hp) (SqT.of upd_same)⟩
  unfold cutV
  rw [e.1, e.2, List.drop_zero, Nat.sub_zero, List.take_length]
  exact h
theorem cat_of {K : PySem.W.Frag} {H : Hp} {a b : Addr} {xs ys : List V} {Q : VK} (h : SqT K H a xs) (h2 : SqT K H b ys) (hl : xs.length + ys.length ≤ sizeLine)
    (q : ∀ p H', Same H H' → SqT K H' p (xs ++ ys) → Q (.ref p) H') : rCatA K (.ref a) (.ref b) H Q := by
  refine ⟨a, b, xs, ys, rfl, rfl, h, h2, hl, fun e => ?_, fun _ e => ?_, fun _ _ p hp => q p _ (Same.new hp) (SqT.of upd_same)⟩
  · subst e
    exact q b H (Same.refl _) h2
  · subst e
    exact q a H (Same.refl _) (by rw [List.append_nil]; exact h)
end Z
/-! defs with defaults -/
namespace Z
open PySem L2 PySem.Spec PyProof.Rows
section
variable {P : Program} {w : World} {K : PySem.W.Frag} {mg : Str → Option Value} {base : Heap} {x qual : Str} {params : Arguments} {body : List Stmt} {scope : Scope} {dvs : List V} {kws : List (Str × V)} {f : Addr} {fd : FuncData}
theorem okD {N ps : List Str} {k : Nat} {sp : Sp} (F : FunD K x qual params body scope dvs kws f fd) (S : FnScope N ps scope) (len : ∀ vs H Q E, sp vs H Q E → vs.length = ps.length)
    (walk : ∀ (cdv : Value) (A : Around) (outer : List Env) (s : Shared) (H : Hp) (vs : List V) (Q : VK) (E : XK), Room k (A.deeper (envOfC qual scope s.heap.objs.size f cdv)) → sp vs H Q E →
      ∃ t, PSs (cxOf CX0 P w K mg base N qual scope f cdv A outer s H E).nox body t ∧ t { nx := fun _ H' => Q .non H', rt := Q } (start N vs) H) : FnOk P w K mg base CX0 (k + 1) f fd ps sp :=
  FunD.ok F S len fun cdv A outer s H vs Q E hr h => by
    obtain ⟨t, der, rd⟩ := walk cdv A outer s H vs Q E hr h
    exact ⟨t, der.nox, rd⟩
theorem binds_full {ps : List Str} (F : FunD K x qual params body scope dvs kws f fd)
    (h : ∀ (dV kV doc pm : Value) (an : Option Addr) (cdv ct : Value) (us : List Value), us.length = ps.length → bindArgs (PySem.W.fnOf x qual params body scope dV kV doc pm an cdv ct) ⟨us, []⟩ = pure (ps.zip us)) : Binds K fd ps [] := by
  obtain ⟨oc, od, dV, kV, doc, pm, an, cdv, ct, osl, rfl, _⟩ := F.ex
  exact .all (h dV kV doc pm an cdv ct)
theorem kb_full {ps : List Str} (F : FunD K x qual params body scope dvs kws f fd) (n : Nat) (ks : List Str) (g : {α : Type} → List α → List α → List α → List α)
    (rel : ∀ {vs ds zs : List V} {us its ws : List Value}, Vals vs us → Vals ds its → Vals zs ws → Vals (g vs ds zs) (g us its ws))
    (h : ∀ (dV kV doc pm : Value) (an : Option Addr) (cdv ct : Value) (us its ws : List Value), us.length = n → its.length = dvs.length → ws.length = ks.length →
      bindArgs (PySem.W.fnOf x qual params body scope dV kV doc pm an cdv ct) ⟨us, ks.zip ws⟩ = pure (ps.zip (g us its ws))) :
    ∃ its : List Value, KBn K fd ps n ks (fun us ws => g us its ws) (fun vs zs => g vs dvs zs) := by
  obtain ⟨oc, od, dV, kV, doc, pm, an, cdv, ct, osl, rfl, _, _, hD, _⟩ := F.ex
  obtain ⟨its, rI⟩ : ∃ its, Vals dvs its := by
    rcases hD with ⟨e, _⟩ | ⟨_, T, o, its, m, _, _, _, rT⟩
    · exact ⟨[], by rw [e]; exact .nil⟩
    · exact ⟨its, rT⟩
  exact ⟨its, fun s us ws _ l1 l2 => BindsTo.of_eq (h dV kV doc pm an cdv ct us its ws l1 rI.length.symm l2), fun r1 r2 => rel r1 rI r2⟩
end
end Z
/-! values as data: heaps but for some places, slots, what stands in them -/
namespace DL
open PySem L2 Z
open Classical in
/-- H without the places of A -/
noncomputable def hp (A : Addr → Prop) (H : Hp) : Hp := fun a => if A a then none else H a
theorem hp_of {A : Addr → Prop} {H : Hp} {a : Addr} (h : ¬ A a) : hp A H a = H a := if_neg h
theorem hp_some {A : Addr → Prop} {H : Hp} {a : Addr} {o : HO} (h : hp A H a = some o) : ¬ A a ∧ H a = some o := by
  by_cases q : A a
  · rw [show hp A H a = none from if_pos q] at h; cases h
  · exact ⟨q, by rw [← hp_of (H := H) q]; exact h⟩
theorem hp_mk {A : Addr → Prop} {H : Hp} {a : Addr} {o : HO} (h : ¬ A a) (e : H a = some o) : hp A H a = some o := by rw [hp_of h]; exact e
theorem hp_same {A : Addr → Prop} {H : Hp} : Same (hp A H) H := fun _ _ h => (hp_some h).2
def FrA (A : Addr → Prop) (H H' : Hp) : Prop := ∀ a o, ¬ A a → H a = some o → H' a = some o
theorem FrA.refl (A : Addr → Prop) (H : Hp) : FrA A H H := fun _ _ _ h => h
theorem FrA.trans {A : Addr → Prop} {H H1 H2 : Hp} (f : FrA A H H1) (g : FrA A H1 H2) : FrA A H H2 := fun a o n h => g a o n (f a o n h)
theorem FrA.of {A : Addr → Prop} {H H' : Hp} (s : Same H H') : FrA A H H' := fun a o _ h => s a o h
theorem FrA.up {A B : Addr → Prop} {H H' : Hp} (f : FrA A H H') (h : ∀ a, A a → B a) : FrA B H H' := fun a o n e => f a o (fun q => n (h a q)) e
theorem hp_less {A B : Addr → Prop} {H : Hp} (h : ∀ a, B a → A a) : Same (hp A H) (hp B H) := fun a o e => by
  obtain ⟨n, e⟩ := hp_some e
  exact hp_mk (fun q => n (h a q)) e
theorem hp_fr {A W : Addr → Prop} {H H' : Hp} (f : FrA W H H') (h : ∀ a, W a → A a) : Same (hp A H) (hp A H') := fun a o e => by
  obtain ⟨n, e⟩ := hp_some e
  exact hp_mk n (f a o (fun q => n (h a q)) e)
theorem hp_grow {A : Addr → Prop} {H H' : Hp} (s : Same H H') : Same (hp A H) (hp A H') := hp_fr (W := fun _ => False) (FrA.of s) (fun _ q => q.elim)
/-- a caught exception that is kept: its class, its dict -/
def exk (a C dx : Addr) : HO := .ext fun h => ∃ o vs, h.get? a = some o ∧ o.cls = .ref C ∧ o.dict = some dx ∧ o.data = .fields vs
/-- a thing of the store, by its place -/
def hdl (a : Addr) : PyData := .dict [(.none, .int a)]
/-- a tuple of which it is known that it has no dict (its methods can be asked) -/
def tnD (ds : List PyData) : PyData := .dict [(.bool false, .tuple ds)]
mutual
inductive Dq (K : PySem.W.Frag) (H : Hp) : V → PyData → Prop
  | non : Dq K H .non .none
  | bl (b : Bool) : Dq K H (.bl b) (.bool b)
  | int (i : Int) : Dq K H (.int i) (.int i)
  | str (x : Str) : Dq K H (.str x) (.str x)
  | lst {a : Addr} {xs : List V} {ds : List PyData} : SqL K H a xs → DqAll K H xs ds → Dq K H (.ref a) (.list ds)
  | tup {a : Addr} {xs : List V} {ds : List PyData} : SqT K H a xs → DqAll K H xs ds → Dq K H (.ref a) (.tuple ds)
  | obj {a C dx : Addr} {c : Str} {fv : List (Str × V)} {fs : List (PyData × PyData)} : PySem.W.nsIn K mainGlobals c = some (some (.ref C)) → H a = some (.ins C dx fv) → DqFs K H fv fs → Dq K H (.ref a) (.dict ((.str c, .none) :: fs))
  | exc {a C dx : Addr} {c : Str} {fv : List (Str × V)} {fs : List (PyData × PyData)} : PySem.W.nsIn K mainGlobals c = some (some (.ref C)) → H a = some (exk a C dx) → H dx = some (.xd fv) → DqFs K H fv fs → Dq K H (.ref a) (.dict ((.str c, .bool true) :: fs))
  | fnc {a : Addr} {x : Str} : PySem.W.nsIn K mainGlobals x = some (some (.ref a)) → Dq K H (.ref a) (.dict [(.str x, .int 0)])
  | hdl {a : Addr} : Dq K H (.ref a) (hdl a)
  | tn {a : Addr} {o : PySem.Obj} {xs : List V} {ds : List PyData} : H a = some (.frz o (.tup xs)) → o.dict = none → DqAll K H xs ds → Dq K H (.ref a) (tnD ds)
/-- the fields of an object -/
inductive DqFs (K : PySem.W.Frag) (H : Hp) : List (Str × V) → List (PyData × PyData) → Prop
  | nil : DqFs K H [] []
  | cons {f : Str} {v : V} {d : PyData} {fv : List (Str × V)} {fs : List (PyData × PyData)} : Dq K H v d → DqFs K H fv fs → DqFs K H ((f, v) :: fv) ((.str f, d) :: fs)
inductive DqAll (K : PySem.W.Frag) (H : Hp) : List V → List PyData → Prop
  | nil : DqAll K H [] []
  | cons {v : V} {vs : List V} {d : PyData} {ds : List PyData} : Dq K H v d → DqAll K H vs ds → DqAll K H (v :: vs) (d :: ds)
end
mutual
theorem Dq.mono {K : PySem.W.Frag} {H H' : Hp} (e : Same H H') : ∀ {v : V} {d : PyData}, Dq K H v d → Dq K H' v d
  | _, _, .non => .non
  | _, _, .bl b => .bl b
  | _, _, .int i => .int i
  | _, _, .str x => .str x
  | _, _, .lst h r => .lst (SqL.mono e h) (DqAll.mono e r)
  | _, _, .tup h r => .tup (SqT.mono e h) (DqAll.mono e r)
  | _, _, .obj c h r => .obj c (e _ _ h) (DqFs.mono e r)
  | _, _, .exc c h g r => .exc c (e _ _ h) (e _ _ g) (DqFs.mono e r)
  | _, _, .fnc h => .fnc h
  | _, _, .hdl => .hdl
  | _, _, .tn h n r => .tn (e _ _ h) n (DqAll.mono e r)
theorem DqFs.mono {K : PySem.W.Frag} {H H' : Hp} (e : Same H H') : ∀ {fv : List (Str × V)} {fs : List (PyData × PyData)}, DqFs K H fv fs → DqFs K H' fv fs
  | _, _, .nil => .nil
  | _, _, .cons a b => .cons (Dq.mono e a) (DqFs.mono e b)
theorem DqAll.mono {K : PySem.W.Frag} {H H' : Hp} (e : Same H H') : ∀ {v : List V} {d : List PyData}, DqAll K H v d → DqAll K H' v d
  | _, _, .nil => .nil
  | _, _, .cons a b => .cons (Dq.mono e a) (DqAll.mono e b)
end
mutual
theorem Dq.dp {K : PySem.W.Frag} {H : Hp} : ∀ {v : V} {d : PyData}, Dq K H v d → d.hasDict = false → Dp K H v d
  | _, _, .non, _ => .non
  | _, _, .bl b, _ => .bl b
  | _, _, .int i, _ => .int i
  | _, _, .str x, _ => .str x
  | _, _, .lst h r, e => .lst h (DqAll.dp r e)
  | _, _, .tup h r, e => .tup h (DqAll.dp r e)
  | _, _, .obj _ _ _, e => by cases e
  | _, _, .exc _ _ _ _, e => by cases e
  | _, _, .fnc _, e => by cases e
  | _, _, .hdl, e => by cases e
  | _, _, .tn _ _ _, e => by cases e
theorem DqAll.dp {K : PySem.W.Frag} {H : Hp} : ∀ {v : List V} {d : List PyData}, DqAll K H v d → PyData.hasDictAll d = false → DpAll K H v d
  | _, _, .nil, _ => .nil
  | _, _, .cons a b, e => by
    have e' : (PyData.hasDict _ || PyData.hasDictAll _) = false := e
    rw [Bool.or_eq_false_iff] at e'
    exact .cons (Dq.dp a e'.1) (DqAll.dp b e'.2)
end
theorem plain_of {d : PyData} (h : SeqAt.shaped d = true) : d.hasDict = false := PyData.hasDict_of_canLay d (SeqAt.canLay_of_shaped h)
def fldD (f : Str) : List (PyData × PyData) → Option PyData
  | [] => none
  | (.str g, d) :: r => if f = g then some d else fldD f r
  | _ :: r => fldD f r
theorem DqFs.get {K : PySem.W.Frag} {H : Hp} {f : Str} {d : PyData} : ∀ {fv : List (Str × V)} {fs : List (PyData × PyData)}, DqFs K H fv fs → fldD f fs = some d → ∃ v, fv.lookup f = some v ∧ Dq K H v d
  | _, _, .nil, h => by cases h
  | _, _, .cons (f := g) (v := v) (d := c) a b, h => by
    unfold fldD at h
    rw [List.lookup_cons]
    by_cases e : f = g
    · rw [if_pos e] at h
      cases h
      have : (f == g) = true := by rw [e]; exact beq_self_eq_true g
      rw [this]
      exact ⟨_, rfl, a⟩
    · rw [if_neg e] at h
      have : (f == g) = false := by simpa using e
      rw [this]
      exact DqFs.get b h
section
variable {K : PySem.W.Frag} {H : Hp}
theorem DqAll.length : ∀ {v : List V} {d : List PyData}, DqAll K H v d → v.length = d.length
  | _, _, .nil => rfl
  | _, _, .cons _ b => by rw [List.length_cons, List.length_cons, DqAll.length b]
theorem DqAll.get : ∀ {v : List V} {d : List PyData} {i : Nat} {x : V}, DqAll K H v d → v[i]? = some x → ∃ y, d[i]? = some y ∧ Dq K H x y
  | _, _, _, _, .nil, h => by simp at h
  | _, _, 0, _, .cons a _, h => by simp at h; subst h; exact ⟨_, rfl, a⟩
  | _, _, i + 1, _, .cons _ b, h => by
    obtain ⟨y, e, q⟩ := DqAll.get (i := i) b (by simpa using h)
    exact ⟨y, by simpa using e, q⟩
theorem DqAll.got : ∀ {v : List V} {d : List PyData} {i : Nat} {y : PyData}, DqAll K H v d → d[i]? = some y → ∃ x, v[i]? = some x ∧ Dq K H x y
  | _, _, _, _, .nil, h => by simp at h
  | _, _, 0, _, .cons a _, h => by simp at h; subst h; exact ⟨_, rfl, a⟩
  | _, _, i + 1, _, .cons _ b, h => by
    obtain ⟨y, e, q⟩ := DqAll.got (i := i) b (by simpa using h)
    exact ⟨y, by simpa using e, q⟩
theorem DqAll.append : ∀ {v : List V} {d : List PyData} {w : List V} {e : List PyData}, DqAll K H v d → DqAll K H w e → DqAll K H (v ++ w) (d ++ e)
  | _, _, _, _, .nil, h => h
  | _, _, _, _, .cons a b, h => .cons a (DqAll.append b h)
theorem DqAll.take : ∀ {v : List V} {d : List PyData} (n : Nat), DqAll K H v d → DqAll K H (v.take n) (d.take n)
  | _, _, 0, _ => .nil
  | _, _, _ + 1, .nil => .nil
  | _, _, n + 1, .cons a b => .cons a (DqAll.take n b)
theorem DqAll.drop : ∀ {v : List V} {d : List PyData} (n : Nat), DqAll K H v d → DqAll K H (v.drop n) (d.drop n)
  | _, _, 0, h => h
  | _, _, _ + 1, .nil => .nil
  | _, _, n + 1, .cons _ b => DqAll.drop n b
theorem DqAll.set {y : V} {c : PyData} (hy : Dq K H y c) : ∀ {v : List V} {d : List PyData} (n : Nat), DqAll K H v d → DqAll K H (v.set n y) (d.set n c)
  | _, _, _, .nil => .nil
  | _, _, 0, .cons _ b => .cons hy b
  | _, _, n + 1, .cons a b => .cons a (DqAll.set hy n b)
theorem DqAll.rev : ∀ {v : List V} {d : List PyData}, DqAll K H v d → DqAll K H v.reverse d.reverse
  | _, _, .nil => .nil
  | _, _, .cons a b => by rw [List.reverse_cons, List.reverse_cons]; exact DqAll.append (DqAll.rev b) (.cons a .nil)
theorem DqAll.rep {v : List V} {d : List PyData} (h : DqAll K H v d) : ∀ n : Nat, DqAll K H (List.replicate n v).flatten (List.replicate n d).flatten
  | 0 => .nil
  | n + 1 => by rw [List.replicate_succ, List.replicate_succ, List.flatten_cons, List.flatten_cons]; exact DqAll.append h (DqAll.rep h n)
theorem DqAll.ints : ∀ ns : List Int, DqAll K H (ns.map V.int) (ns.map .int)
  | [] => .nil
  | n :: r => .cons (.int n) (DqAll.ints r)
theorem DqAll.strs : ∀ ns : List Str, DqAll K H (ns.map V.str) (ns.map .str)
  | [] => .nil
  | n :: r => .cons (.str n) (DqAll.strs r)
theorem DqAll.ints_of : ∀ {ns : List Int} {v : List V}, DqAll K H v (ns.map .int) → v = ns.map V.int
  | [], _, .nil => rfl
  | n :: r, _, .cons a b => by cases a; rw [DqAll.ints_of b]; rfl
theorem DqAll.strs_of : ∀ {ns : List Str} {v : List V}, DqAll K H v (ns.map .str) → v = ns.map V.str
  | [], _, .nil => rfl
  | n :: r, _, .cons a b => by cases a; rw [DqAll.strs_of b]; rfl
theorem DqAll.bools_of : ∀ {ns : List Bool} {v : List V}, DqAll K H v (ns.map .bool) → v = ns.map V.bl
  | [], _, .nil => rfl
  | n :: r, _, .cons a b => by cases a; rw [DqAll.bools_of b]; rfl
theorem Dq.list_of {v : V} {ds : List PyData} (h : Dq K H v (.list ds)) : ∃ a xs, v = .ref a ∧ SqL K H a xs ∧ DqAll K H xs ds := by
  cases h with
  | lst s r => exact ⟨_, _, rfl, s, r⟩
theorem Dq.tuple_of {v : V} {ds : List PyData} (h : Dq K H v (.tuple ds)) : ∃ a xs, v = .ref a ∧ SqT K H a xs ∧ DqAll K H xs ds := by
  cases h with
  | tup s r => exact ⟨_, _, rfl, s, r⟩
end

/-- a thing that may change, by what stands in it -/
inductive SO where
  | lst (ds : List PyData)
  | obj (c : Str) (fs : List (PyData × PyData))
  | dct (kvs : List (L2.Key × PyData))
/-- the things that may change and be met by several names, by their places -/
abbrev Sto := Addr → Option SO
/-- the tracked heap and the store -/
structure Hs where
  hp : Hp
  st : Sto
instance : CoeFun Hs (fun _ => Addr → Option HO) := ⟨Hs.hp⟩
instance : Coe Hs Hp := ⟨Hs.hp⟩
/-- the entries of a dict -/
inductive DqKs (K : PySem.W.Frag) (H : Hp) : List (L2.Key × V) → List (L2.Key × PyData) → Prop
  | nil : DqKs K H [] []
  | cons {k : L2.Key} {v : V} {d : PyData} {kv : List (L2.Key × V)} {kd : List (L2.Key × PyData)} : Dq K H v d → DqKs K H kv kd → DqKs K H ((k, v) :: kv) ((k, d) :: kd)
theorem DqKs.mono {K : PySem.W.Frag} {H H' : Hp} (e : Same H H') : ∀ {kv : List (L2.Key × V)} {kd : List (L2.Key × PyData)}, DqKs K H kv kd → DqKs K H' kv kd
  | _, _, .nil => .nil
  | _, _, .cons a b => .cons (a.mono e) (DqKs.mono e b)
inductive SoR (K : PySem.W.Frag) (G : Hp) : HO → SO → Prop
  | lst {xs : List V} {ds : List PyData} : DqAll K G xs ds → SoR K G (.lst xs) (.lst ds)
  | obj {C dx : Addr} {c : Str} {fv : List (Str × V)} {fs : List (PyData × PyData)} : PySem.W.nsIn K mainGlobals c = some (some (.ref C)) → DqFs K G fv fs → SoR K G (.ins C dx fv) (.obj c fs)
  | dct {kv : List (L2.Key × V)} {kd : List (L2.Key × PyData)} : DqKs K G kv kd → SoR K G (.dK kv) (.dct kd)
theorem SoR.mono {K : PySem.W.Frag} {G G' : Hp} (e : Same G G') {u : HO} {o : SO} (h : SoR K G u o) : SoR K G' u o := by
  cases h with
  | lst q => exact .lst (q.mono e)
  | obj c q => exact .obj c (q.mono e)
  | dct q => exact .dct (q.mono e)
theorem SoR.ntb {K : PySem.W.Frag} {G : Hp} {u : HO} {o : SO} (h : SoR K G u o) : ∀ ps, u ≠ .tbl ps := fun ps e => by subst e; cases h
/-- the store is as said -/
def StoR (K : PySem.W.Frag) (G H : Hp) (S : Sto) : Prop := ∀ a o, S a = some o → ∃ u, H a = some u ∧ SoR K G u o
theorem StoR.move {K : PySem.W.Frag} {G G' H H' : Hp} {S : Sto} (h : StoR K G H S) (s : Same G G') (k : ∀ a, S a ≠ none → H' a = H a) : StoR K G' H' S := fun a o e => by
  obtain ⟨u, e1, q⟩ := h a o e
  exact ⟨u, by rw [k a (by rw [e]; exact Option.some_ne_none _)]; exact e1, q.mono s⟩
def Nod (H : Hp) (b : Addr) : Prop := ∃ o, H b = some o ∧ ∀ ps, o ≠ .tbl ps

/-- a slot: nothing that is known, data that stays, a list that is its own; behind all slots the store -/
inductive Sl where
  | no
  | fz (d : PyData)
  | own (ds : List PyData)
  | st (S : Sto)
abbrev En := List Sl
/-- the tables of code objects that may grow -/
class Tbs where
  T : List (Addr × Str)
variable [Tbs]
abbrev TabsOk (H : Hp) : Prop := LamX.Tabs Tbs.T H
theorem TabsOk.put {H : Hp} {a : Addr} {xs ys : List V} (t : TabsOk H) (h : H a = some (.lst xs)) : TabsOk (upd H a (.lst ys)) := fun p hp => by
  obtain ⟨ps, h1, h2, h3⟩ := t p hp
  have ne : ∀ b o, H b = some o → o ≠ .lst xs → b ≠ a := fun b o e n z => n (Option.some.inj (e.symm.trans (by rw [z]; exact h)))
  refine ⟨ps, by rw [upd_ne (ne _ _ h1 (fun z => by cases z))]; exact h1, h2, fun pos cv hc => ?_⟩
  obtain ⟨c, e1, e2⟩ := h3 pos cv hc
  exact ⟨c, e1, by rw [upd_ne (ne _ _ e2 (fun z => by unfold LamX.CodeO at z; cases z))]; exact e2⟩
theorem TabsOk.full {H : Hp} (t : TabsOk H) {p : Addr × Str} (hp : p ∈ Tbs.T) : H p.1 ≠ none := by
  obtain ⟨ps, h1, _⟩ := t p hp
  rw [h1]
  exact Option.some_ne_none _
theorem TabsOk.no {H : Hp} {a : Addr} {xs : List V} (t : TabsOk H) (h : H a = some (.lst xs)) : ¬ ∃ p ∈ Tbs.T, p.1 = a := fun ⟨p, hp, e⟩ => by
  obtain ⟨ps, h1, _⟩ := t p hp
  rw [e, h] at h1
  cases h1
/-- the tables are none of what is a list, an object, a dict -/
theorem TabsOk.nod {H : Hp} {a : Addr} (t : TabsOk H) (h : Nod H a) : ¬ ∃ p ∈ Tbs.T, p.1 = a := fun ⟨p, hp, e⟩ => by
  obtain ⟨ps, h1, _⟩ := t p hp
  obtain ⟨o, h2, n⟩ := h
  rw [e, h2] at h1
  exact n ps (Option.some.inj h1)
/-- what a slot owns: a place, all of the store -/
inductive Rg where
  | lf (a : Addr)
  | sto
abbrev As := Nat → Option Rg
/-- the places of a slot -/
def Rgn (H : Hs) : Rg → Addr → Prop
  | .lf a, b => b = a
  | .sto, b => H.st b ≠ none
theorem Rgn.lf_of {H : Hs} {a b : Addr} (h : Rgn H (.lf a) b) : b = a := h
theorem Rgn.here {H : Hs} {a : Addr} : Rgn H (.lf a) a := rfl
def Own (as : As) (H : Hs) (a : Addr) : Prop := (∃ i r, as i = some r ∧ Rgn H r a) ∨ ∃ p ∈ Tbs.T, p.1 = a
def Hid (O : Addr → Prop) (as : As) (H : Hs) (a : Addr) : Prop := O a ∨ Own as H a
/-- what data may lean on -/
noncomputable abbrev hq (O : Addr → Prop) (as : As) (H : Hs) : Hp := hp (Hid O as H) H.hp
theorem Own.lf {as : As} {H : Hs} {i : Nat} {a : Addr} (h : as i = some (.lf a)) : Own as H a := .inl ⟨i, _, h, rfl⟩
/-- the store isn't this one's -/
def NoSto (as : As) : Prop := ∀ i, as i ≠ some .sto
/-- but for what is owned and what is new all stays; what is owned was so or is new -/
structure Fr (as : As) (H H' : Hs) : Prop where
  fr : FrA (Own as H) H.hp H'.hp
  new : ∀ a, Own as H' a → Own as H a ∨ H a = none
  liv : ∀ a, H a ≠ none → H' a ≠ none
  nst : NoSto as → H'.st = H.st
section
variable {as as' as'' : As} {H H' H'' : Hs} {n : Nat} {O : Addr → Prop}
theorem Fr.refl : Fr as H H := ⟨FrA.refl _ _, fun _ h => .inl h, fun _ h => h, fun _ => rfl⟩
theorem Fr.trans (x : Fr as H H') (y : Fr as H' H'') : Fr as H H'' := by
  refine ⟨fun a o h e => y.fr a o (fun q => ?_) (x.fr a o h e), fun a q => ?_, fun a h => y.liv a (x.liv a h), fun h => (y.nst h).trans (x.nst h)⟩
  · rcases x.new a q with z | z
    · exact h z
    · rw [z] at e; cases e
  · rcases y.new a q with z | z
    · exact x.new a z
    · by_cases w : Own as H a
      · exact .inl w
      · cases e : H a with
        | none => exact .inr rfl
        | some o => rw [x.fr a o w e] at z; cases z
/-- how one state comes of another: but for own things and new objects all stays -/
structure Ext (n : Nat) (as as' : As) (H H' : Hs) : Prop where
  fr : FrA (Own as H) H.hp H'.hp
  new : ∀ a, Own as' H' a → Own as H a ∨ H a = none
  fix : ∀ i, i < n → as' i = as i
  liv : ∀ a, H a ≠ none → H' a ≠ none
  ks : ∀ i, as' i = some .sto ↔ as i = some .sto
  nst : NoSto as → H'.st = H.st
theorem Ext.refl : Ext n as as H H := ⟨FrA.refl _ _, fun _ h => .inl h, fun _ _ => rfl, fun _ h => h, fun _ => Iff.rfl, fun _ => rfl⟩
theorem Ext.of (f : Fr as H H') : Ext n as as H H' := ⟨f.fr, f.new, fun _ _ => rfl, f.liv, fun _ => Iff.rfl, f.nst⟩
theorem Ext.trans (x : Ext n as as' H H') (y : Ext n as' as'' H' H'') : Ext n as as'' H H'' := by
  refine ⟨fun a o h e => y.fr a o (fun q => ?_) (x.fr a o h e), fun a q => ?_, fun i h => (y.fix i h).trans (x.fix i h), fun a h => y.liv a (x.liv a h), fun i => (y.ks i).trans (x.ks i), fun h => (y.nst fun i z => h i ((x.ks i).mp z)).trans (x.nst h)⟩
  · rcases x.new a q with z | z
    · exact h z
    · rw [z] at e; cases e
  · rcases y.new a q with z | z
    · exact x.new a z
    · by_cases w : Own as H a
      · exact .inl w
      · cases e : H a with
        | none => exact .inr rfl
        | some o => rw [x.fr a o w e] at z; cases z
theorem Ext.less {m : Nat} (x : Ext n as as' H H') (h : m ≤ n) : Ext m as as' H H' := ⟨x.fr, x.new, fun i q => x.fix i (Nat.lt_of_lt_of_le q h), x.liv, x.ks, x.nst⟩
theorem Ext.same (x : Ext n as as' H H') : Same (hq O as H) (hq O as' H') := fun a o e => by
  obtain ⟨h, e⟩ := hp_some e
  refine hp_mk (fun q => ?_) (x.fr a o (fun z => h (.inr z)) e)
  rcases q with q | q
  · exact h (.inl q)
  · rcases x.new a q with z | z
    · exact h (.inr z)
    · rw [z] at e; cases e
theorem Fr.same (x : Fr as H H') : Same (hq O as H) (hq O as H') := (Ext.of (n := 0) x).same
end
/-- what is so from some state on -/
structure Jv (n : Nat) where
  P : As → Hs → Prop
  cl : ∀ as as' H H', P as H → Ext n as as' H H' → P as' H'
  Q : (Addr → Prop) → Prop
  up : ∀ O O' : Addr → Prop, (∀ a, O a → O' a) → Q O → Q O'
def J0 {n : Nat} : Jv n := ⟨fun _ _ => True, fun _ _ _ _ _ _ => trivial, fun _ => True, fun _ _ _ _ => trivial⟩
/-- all that comes of this state -/
def Jst (n : Nat) (O : Addr → Prop) (as : As) (H : Hs) : Jv n := ⟨fun as' H' => Ext n as as' H H', fun _ _ _ _ x y => x.trans y, fun O' => ∀ a, O a → O' a, fun _ _ h q a z => h a (q a z)⟩
def Jv.and {n : Nat} (J J' : Jv n) : Jv n := ⟨fun as H => J.P as H ∧ J'.P as H, fun _ _ _ _ x y => ⟨J.cl _ _ _ _ x.1 y, J'.cl _ _ _ _ x.2 y⟩, fun O => J.Q O ∧ J'.Q O, fun _ _ h q => ⟨J.up _ _ h q.1, J'.up _ _ h q.2⟩⟩
def Jv.le {n : Nat} (J' J : Jv n) : Prop := (∀ as H, J'.P as H → J.P as H) ∧ ∀ O, J'.Q O → J.Q O
theorem Jv.le.refl {n : Nat} {J : Jv n} : J.le J := ⟨fun _ _ h => h, fun _ h => h⟩
theorem Jv.fr {n : Nat} (J : Jv n) {as : As} {H H' : Hs} (h : J.P as H) (f : Fr as H H') : J.P as H' := J.cl _ _ _ _ h (.of f)
inductive SlR (K : PySem.W.Frag) (G H : Hp) : Option Rg → Sl → Option V → Prop
  | no {o : Option V} : SlR K G H none .no o
  | fz {v : V} {d : PyData} : Dq K G v d → SlR K G H none (.fz d) (some v)
  | own {a : Addr} {xs : List V} {ds : List PyData} : H a = some (.lst xs) → DqAll K G xs ds → SlR K G H (some (.lf a)) (.own ds) (some (.ref a))
structure EnR (K : PySem.W.Frag) {n : Nat} (J : Jv n) (O : Addr → Prop) (as : As) (H : Hs) (ρ : En) (σ : L2.St) : Prop where
  len : σ.length ≤ ρ.length ∧ ρ.length ≤ σ.length + 1
  tl : ∀ (i : Nat) (sl : Sl), ρ[i]? = some sl → σ.length ≤ i → as i = some .sto
  at_ : ∀ (i : Nat) (sl : Sl) (o : Option V), ρ[i]? = some sl → σ[i]? = some o → SlR K (hq O as H) H.hp (as i) sl o
  sto : ∀ i, as i = some .sto → i = σ.length ∧ ρ[i]? = some (.st H.st) ∧ StoR K (hq O as H) H.hp H.st
  inj : ∀ (i j : Nat) (r r' : Rg) (b : Addr), as i = some r → as j = some r' → Rgn H r b → Rgn H r' b → i = j
  out : ∀ (i : Nat) (r : Rg) (b : Addr), as i = some r → Rgn H r b → ¬ O b
  bnd : ∀ (i : Nat) (r : Rg), as i = some r → i < ρ.length
  occ : ∀ a, O a → H a ≠ none
  inv : J.P as H
  inq : J.Q O
  tab : TabsOk H.hp
/-- another heap, the same store -/
abbrev Hs.w (H : Hs) (H' : Hp) : Hs := ⟨H', H.st⟩
section
variable {K : PySem.W.Frag} {n : Nat} {J : Jv n} {O : Addr → Prop} {as as' as'' : As} {H H' H'' : Hs} {G' : Hp} {ρ : En} {σ : L2.St} {i : Nat} {v : V} {d : PyData} {ds : List PyData}
theorem EnR.reJ {n' : Nat} {J' : Jv n'} (E : EnR K J O as H ρ σ) (h : J'.P as H) (q : J'.Q O) : EnR K J' O as H ρ σ := ⟨E.len, E.tl, E.at_, E.sto, E.inj, E.out, E.bnd, E.occ, h, q, E.tab⟩
/-- a slot that is none of the store -/
theorem EnR.lt (E : EnR K J O as H ρ σ) {sl : Sl} (h : ρ[i]? = some sl) (ns : ∀ S, sl ≠ .st S) : i < σ.length := by
  rcases Nat.lt_or_ge i σ.length with z | z
  · exact z
  · have e := (E.sto i (E.tl i sl h z)).2.1
    rw [h] at e
    exact absurd (Option.some.inj e) (ns _)
theorem EnR.at' (E : EnR K J O as H ρ σ) {sl : Sl} (h : ρ[i]? = some sl) (ns : ∀ S, sl ≠ .st S) : ∃ o, σ[i]? = some o ∧ SlR K (hq O as H) H.hp (as i) sl o := by
  have hi := E.lt h ns
  exact ⟨_, List.getElem?_eq_getElem hi, E.at_ i sl _ h (List.getElem?_eq_getElem hi)⟩
theorem EnR.fz_at (E : EnR K J O as H ρ σ) (h : ρ[i]? = some (.fz d)) : ∃ v, σ[i]? = some (some v) ∧ as i = none ∧ Dq K (hq O as H) v d := by
  obtain ⟨o, e, r⟩ := E.at' h (fun _ z => by cases z)
  generalize as i = z at r
  cases r with
  | fz q => exact ⟨_, e, rfl, q⟩
theorem EnR.own_at (E : EnR K J O as H ρ σ) (h : ρ[i]? = some (.own ds)) : ∃ a xs, σ[i]? = some (some (.ref a)) ∧ as i = some (.lf a) ∧ H a = some (.lst xs) ∧ DqAll K (hq O as H) xs ds := by
  obtain ⟨o, e, r⟩ := E.at' h (fun _ z => by cases z)
  generalize as i = z at r
  cases r with
  | own q z => exact ⟨_, _, e, rfl, q, z⟩
theorem EnR.st_at (E : EnR K J O as H ρ σ) {S : Sto} (h : ρ[i]? = some (.st S)) : as i = some .sto ∧ S = H.st ∧ StoR K (hq O as H) H.hp S := by
  have z : σ.length ≤ i := by
    rcases Nat.lt_or_ge i σ.length with z | z
    · have q := E.at_ i _ _ h (List.getElem?_eq_getElem z)
      generalize as i = w at q
      cases q
    · exact z
  have e := E.tl i _ h z
  obtain ⟨_, e2, q⟩ := E.sto i e
  rw [h] at e2
  cases e2
  exact ⟨e, rfl, q⟩
/-- a slot with places of its own -/
theorem EnR.is_reg (E : EnR K J O as H ρ σ) {r : Rg} (h : as i = some r) : (∃ a ds xs, r = .lf a ∧ ρ[i]? = some (.own ds) ∧ σ[i]? = some (some (.ref a)) ∧ H a = some (.lst xs) ∧ DqAll K (hq O as H) xs ds) ∨ (r = .sto ∧ i = σ.length ∧ ρ[i]? = some (.st H.st) ∧ StoR K (hq O as H) H.hp H.st) := by
  cases r with
  | sto => exact .inr ⟨rfl, E.sto i h⟩
  | lf a =>
    have hi := E.bnd i _ h
    rcases Nat.lt_or_ge i σ.length with z | z
    · have q := E.at_ i _ _ (List.getElem?_eq_getElem hi) (List.getElem?_eq_getElem z)
      rw [h] at q
      rw [List.getElem?_eq_getElem hi, List.getElem?_eq_getElem z]
      generalize ρ[i] = sl at q
      generalize σ[i] = o at q
      cases q with
      | own q z => exact .inl ⟨a, _, _, rfl, rfl, rfl, q, z⟩
    · have e := E.tl i _ (List.getElem?_eq_getElem hi) z
      rw [h] at e
      cases e
theorem EnR.nod (E : EnR K J O as H ρ σ) {r : Rg} (h : as i = some r) {b : Addr} (q : Rgn H r b) : Nod H.hp b := by
  rcases E.is_reg h with ⟨a, ds, xs, rfl, _, _, e2, _⟩ | ⟨rfl, _, _, w⟩
  · rw [q.lf_of]
    exact ⟨_, e2, fun _ z => by cases z⟩
  · obtain ⟨o, e⟩ := Option.ne_none_iff_exists'.mp (show H.st b ≠ none from q)
    obtain ⟨u, e1, q1⟩ := w b o e
    exact ⟨u, e1, q1.ntb⟩
theorem EnR.is_own (E : EnR K J O as H ρ σ) {a : Addr} (h : as i = some (.lf a)) : ∃ ds xs, ρ[i]? = some (.own ds) ∧ σ[i]? = some (some (.ref a)) ∧ H a = some (.lst xs) ∧ DqAll K (hq O as H) xs ds := by
  rcases E.is_reg h with ⟨b, ds, xs, e, h1, h2, h3, h4⟩ | ⟨e, _⟩
  · cases e; exact ⟨ds, xs, h1, h2, h3, h4⟩
  · cases e
theorem EnR.not_own (E : EnR K J O as H ρ σ) {sl : Sl} (h : ρ[i]? = some sl) (n : ∀ ds, sl ≠ .own ds) (n2 : ∀ S, sl ≠ .st S) : as i = none := by
  cases e : as i with
  | none => rfl
  | some r =>
    rcases E.is_reg e with ⟨_, ds, xs, _, h', _⟩ | ⟨_, _, h', _⟩
    · rw [h] at h'
      exact absurd (Option.some.inj h') (n ds)
    · rw [h] at h'
      exact absurd (Option.some.inj h') (n2 _)
theorem EnR.full (E : EnR K J O as H ρ σ) {a : Addr} (h : Hid O as H a) : H a ≠ none := by
  rcases h with h | ⟨i, r, h, q⟩ | ⟨p, hp, h⟩
  · exact E.occ a h
  · obtain ⟨o, e, _⟩ := E.nod h q
    rw [e]
    exact Option.some_ne_none _
  · rw [← h]
    exact E.tab.full hp
theorem EnR.occ' (E : EnR K J O as H ρ σ) (f : FrA (Own as H) H.hp G') (t : TabsOk G') {a : Addr} (h : O a) : G' a ≠ none := by
  by_cases q : ∃ p ∈ Tbs.T, p.1 = a
  · obtain ⟨p, hp, e⟩ := q
    rw [← e]
    exact t.full hp
  · obtain ⟨o, e⟩ := Option.ne_none_iff_exists'.mp (E.occ a h)
    rw [f a o (fun z => z.elim (fun ⟨i, r, z, w⟩ => E.out i r a z w h) q) e]
    exact Option.some_ne_none _
theorem EnR.fresh (E : EnR K J O as H ρ σ) {a : Addr} (h : H a = none) : ¬ Hid O as H a := fun q => E.full q h
theorem SlR.mono {G G' H H' : Hp} {a : Option Rg} {sl : Sl} {o : Option V} (s : Same G G') (f : ∀ b, a = some (.lf b) → H' b = H b) (r : SlR K G H a sl o) : SlR K G' H' a sl o := by
  cases r with
  | no => exact .no
  | fz q => exact .fz (q.mono s)
  | own q z => exact .own (by rw [f _ rfl]; exact q) (z.mono s)
/-- what the slots own stands as it did -/
structure Stay (as : As) (H H' : Hs) : Prop where
  pl : ∀ i r b, as i = some r → Rgn H r b → H' b = H b
  st : H'.st = H.st
theorem Rgn.st (h : H'.st = H.st) {r : Rg} {b : Addr} : Rgn H' r b ↔ Rgn H r b := by
  cases r with
  | lf a => exact Iff.rfl
  | sto => show H'.st b ≠ none ↔ H.st b ≠ none; rw [h]
theorem Stay.reg (k : Stay as H H') {r : Rg} {b : Addr} : Rgn H' r b ↔ Rgn H r b := Rgn.st k.st
theorem Own.st (h : H'.st = H.st) {b : Addr} : Own as H' b ↔ Own as H b := by
  constructor
  · rintro (⟨i, r, z, q⟩ | z)
    · exact .inl ⟨i, r, z, (Rgn.st h).mp q⟩
    · exact .inr z
  · rintro (⟨i, r, z, q⟩ | z)
    · exact .inl ⟨i, r, z, (Rgn.st h).mpr q⟩
    · exact .inr z
theorem Stay.own (k : Stay as H H') {b : Addr} : Own as H' b ↔ Own as H b := Own.st k.st
theorem EnR.stay (E : EnR K J O as H ρ σ) (s : Same H.hp G') : Stay as H (H.w G') := ⟨fun i r b h q => by
  obtain ⟨o, e, _⟩ := E.nod h q
  show G' b = _
  rw [e, s _ _ e], rfl⟩
theorem EnR.frS (E : EnR K J O as H ρ σ) (s : Same H.hp G') : Fr as H (H.w G') := ⟨FrA.of s, fun a h => .inl h, fun a h => by obtain ⟨o, e⟩ := Option.ne_none_iff_exists'.mp h; show G' a ≠ none; rw [s _ _ e]; exact Option.some_ne_none _, fun _ => rfl⟩
theorem EnR.hgrow (E : EnR K J O as H ρ σ) (s : Same H.hp G') : Same (hq O as H) (hq O as (H.w G')) := (E.frS s).same
/-- hidden places are the same -/
theorem EnR.hidS (_E : EnR K J O as H ρ σ) (_s : Same H.hp G') {a : Addr} : Hid O as (H.w G') a ↔ Hid O as H a := Iff.rfl
theorem EnR.toS (E : EnR K J O as H ρ σ) (s : Same H.hp G') : Same (hp (Hid O as H) G') (hq O as (H.w G')) := hp_less fun _ h => (E.hidS s).mp h
/-- a state of which the owned things stand as they did -/
theorem EnR.keepS (E : EnR K J O as H ρ σ) (k : Stay as H H') (f : Fr as H H') (t : TabsOk H'.hp) : EnR K J O as H' ρ σ :=
  ⟨E.len, E.tl, fun i sl o h1 h2 => (E.at_ i sl o h1 h2).mono f.same fun b hb => k.pl i _ b hb rfl, fun i h => by
    obtain ⟨e1, e2, e3⟩ := E.sto i h
    refine ⟨e1, by rw [e2, k.st], ?_⟩
    rw [k.st]
    exact e3.move f.same fun a z => k.pl i _ a h z,
   fun i j r r' b h1 h2 q1 q2 => E.inj i j r r' b h1 h2 (k.reg.mp q1) (k.reg.mp q2), fun i r b h q => E.out i r b h (k.reg.mp q), E.bnd, fun a h => E.occ' f.fr t h, J.fr E.inv f, E.inq, t⟩
/-- more objects -/
theorem EnR.grow (E : EnR K J O as H ρ σ) (s : Same H.hp G') : EnR K J O as (H.w G') ρ σ := E.keepS (E.stay s) (E.frS s) (E.tab.ext s)
/-- the slot is there and nothing of its own -/
def slotF (ρ : En) (i : Nat) : Bool := match ρ[i]? with
  | some (.own _) => false
  | some (.st _) => false
  | some _ => true
  | none => false
theorem slotF_of (h : slotF ρ i = true) : ∃ sl, ρ[i]? = some sl ∧ (∀ ds, sl ≠ .own ds) ∧ ∀ t, sl ≠ .st t := by
  unfold slotF at h
  split at h
  · cases h
  · cases h
  · next sl e1 e2 hn => exact ⟨sl, hn, fun ds q => e1 ds (by rw [q]), fun t q => e2 t (by rw [q])⟩
  · cases h
theorem EnR.none_of (E : EnR K J O as H ρ σ) (h : slotF ρ i = true) : as i = none := by
  obtain ⟨sl, e, n, n2⟩ := slotF_of h
  exact E.not_own e n n2
/-- one slot stored -/
theorem EnR.setAt (E : EnR K J O as H ρ σ) (h : slotF ρ i = true) {sl : Sl} {o : Option V} (q : SlR K (hq O as H) H.hp none sl o) : EnR K J O as H (ρ.set i sl) (σ.set i o) := by
  have hn := E.none_of h
  have hi : i < σ.length := by
    obtain ⟨sl, e, n, n2⟩ := slotF_of h
    exact E.lt e n2
  refine ⟨by rw [List.length_set, List.length_set]; exact E.len, fun j sl' h1 h2 => ?_, fun j sl' o' h1 h2 => ?_, fun j h1 => ?_, E.inj, E.out, fun j r e => by rw [List.length_set]; exact E.bnd j r e, E.occ, E.inv, E.inq, E.tab⟩
  · rw [List.length_set] at h2
    rw [List.getElem?_set_ne (by omega)] at h1
    exact E.tl j sl' h1 h2
  · rw [List.getElem?_set] at h1 h2
    by_cases e : i = j
    · subst e
      rw [if_pos rfl] at h1 h2
      split at h1
      · rw [if_pos hi] at h2
        cases h1; cases h2
        rw [hn]
        exact q
      · cases h1
    · rw [if_neg e] at h1 h2
      exact E.at_ j sl' o' h1 h2
  · obtain ⟨e1, e2, e3⟩ := E.sto j h1
    refine ⟨by rw [List.length_set]; exact e1, ?_, e3⟩
    rw [List.getElem?_set_ne (by omega)]
    exact e2
theorem EnR.setFz (E : EnR K J O as H ρ σ) (h : slotF ρ i = true) (q : Dq K (hq O as H) v d) : EnR K J O as H (ρ.set i (.fz d)) (σ.set i (some v)) := E.setAt h (.fz q)
theorem EnR.setNo (E : EnR K J O as H ρ σ) (h : slotF ρ i = true) (o : Option V) : EnR K J O as H (ρ.set i .no) (σ.set i o) := E.setAt h .no
end
end DL
/-! slots stored, changed, let go -/
namespace DL
open PySem L2 Z
variable [Tbs]
section
variable {K : PySem.W.Frag} {n : Nat} {J : Jv n} {O : Addr → Prop} {as as' as'' : As} {H H' H'' : Hs} {G' : Hp} {ρ : En} {σ : L2.St} {i : Nat} {v : V} {d : PyData} {ds : List PyData}
theorem liv_upd {H : Hp} {p : Addr} (o : HO) : ∀ a, H a ≠ none → upd H p o a ≠ none := fun a h => by
  by_cases z : a = p
  · rw [z, upd_same]; exact Option.some_ne_none _
  · rw [upd_ne z]; exact h
theorem lt_of_reg {r : Rg} (E : EnR K J O as H ρ σ) (hi : as i = some r) (h : r ≠ .sto) : i < σ.length := by
  rcases E.is_reg hi with ⟨_, _, _, _, h1, _⟩ | ⟨e, _⟩
  · exact E.lt h1 (fun _ z => by cases z)
  · exact absurd e h
/-- the own list of a slot, or the store, is changed -/
theorem EnR.change (E : EnR K J O as H ρ σ) {r : Rg} (hi : as i = some r) (fr : ∀ a o, ¬ Rgn H r a → H a = some o → H' a = some o) (nw : ∀ a, Rgn H' r a → Rgn H r a ∨ H a = none) (tab : TabsOk H'.hp) (lv : ∀ a, H a ≠ none → H' a ≠ none) (hst : r ≠ .sto → H'.st = H.st) :
    Fr as H H' ∧ ∀ sl, (r ≠ .sto → SlR K (hq O as H') H'.hp (some r) sl (σ[i]?.getD none)) → (r = .sto → sl = .st H'.st ∧ StoR K (hq O as H') H'.hp H'.st) → EnR K J O as H' (ρ.set i sl) σ := by
  have ns : ∀ j r', j ≠ i → as j = some r' → r' = .sto → H'.st = H.st := fun j r' ne hj e => by
    subst e
    refine hst fun e => ?_
    rw [e] at hi
    exact ne ((E.sto j hj).1.trans (E.sto i hi).1.symm)
  have other : ∀ j r' b, j ≠ i → as j = some r' → Rgn H r' b → H' b = H b := fun j r' b ne hj q => by
    obtain ⟨o, e, _⟩ := E.nod hj q
    rw [e]
    exact fr b o (fun z => ne (E.inj j i r' r b hj hi q z)) e
  have otherR : ∀ j r' b, j ≠ i → as j = some r' → (Rgn H' r' b ↔ Rgn H r' b) := fun j r' b ne hj => by
    cases r' with
    | lf a => exact Iff.rfl
    | sto => exact Rgn.st (ns j _ ne hj rfl)
  have F : Fr as H H' := by
    refine ⟨fun a o na e => fr a o (fun z => na (.inl ⟨i, r, hi, z⟩)) e, fun a q => ?_, lv, fun h => hst fun e => h i (by rw [hi, e])⟩
    rcases q with ⟨j, r', hj, q⟩ | q
    · by_cases e : j = i
      · subst e
        rw [hi] at hj
        cases hj
        rcases nw a q with z | z
        · exact .inl (.inl ⟨j, r, hi, z⟩)
        · exact .inr z
      · exact .inl (.inl ⟨j, r', hj, (otherR j r' a e hj).mp q⟩)
    · exact .inl (.inr q)
  refine ⟨F, fun sl hs ht => ⟨by rw [List.length_set]; exact E.len, fun j sl' h1 h2 => ?_, fun j sl' o h1 h2 => ?_, fun j h => ?_, fun j k r1 r2 b h1 h2 q1 q2 => ?_, fun j r' b h q => ?_, fun j r' h => by rw [List.length_set]; exact E.bnd j r' h, fun a h => E.occ' F.fr tab h, J.fr E.inv F, E.inq, tab⟩⟩
  · have hj : j < ρ.length := by rw [← List.length_set (as := ρ) (i := i) (a := sl)]; exact (List.getElem?_eq_some_iff.mp h1).1
    exact E.tl j _ (List.getElem?_eq_getElem hj) h2
  · rw [List.getElem?_set] at h1
    by_cases e : i = j
    · subst e
      rw [if_pos rfl] at h1
      have hl : i < σ.length := (List.getElem?_eq_some_iff.mp h2).1
      have nr : r ≠ .sto := fun e => by
        rw [e] at hi
        have := (E.sto i hi).1
        omega
      split at h1
      · cases h1
        have := hs nr
        rw [h2] at this
        rw [hi]
        exact this
      · cases h1
    · rw [if_neg e] at h1
      exact (E.at_ j sl' o h1 h2).mono F.same fun b hb => other j _ b (fun z => e z.symm) hb rfl
  · obtain ⟨e1, e2, e3⟩ := E.sto j h
    by_cases e : i = j
    · subst e
      rw [hi] at h
      cases h
      obtain ⟨h1, h2⟩ := ht rfl
      refine ⟨e1, ?_, h2⟩
      rw [List.getElem?_set_self (E.bnd _ _ hi), h1]
    · have nr : r ≠ .sto := fun z => by
        rw [z] at hi
        exact e ((E.sto i hi).1.trans e1.symm)
      have := hst nr
      refine ⟨e1, ?_, ?_⟩
      · rw [List.getElem?_set_ne e, e2, this]
      · rw [this]
        exact e3.move F.same fun a z => other j _ a (fun w => e w.symm) h z
  · by_cases e1 : j = i
    · by_cases e2 : k = i
      · rw [e1, e2]
      · rw [e1, hi] at h1
        cases h1
        have q2' := (otherR k r2 b e2 h2).mp q2
        rcases nw b q1 with z | z
        · rw [e1]; exact E.inj i k r r2 b hi h2 z q2'
        · obtain ⟨o, e, _⟩ := E.nod h2 q2'
          rw [show H.hp b = none from z] at e; cases e
    · have q1' := (otherR j r1 b e1 h1).mp q1
      by_cases e2 : k = i
      · rw [e2, hi] at h2
        cases h2
        rcases nw b q2 with z | z
        · rw [e2]; exact E.inj j i r1 r b h1 hi q1' z
        · obtain ⟨o, e, _⟩ := E.nod h1 q1'
          rw [show H.hp b = none from z] at e; cases e
      · exact E.inj j k r1 r2 b h1 h2 q1' ((otherR k r2 b e2 h2).mp q2)
  · by_cases e : j = i
    · subst e
      rw [hi] at h
      cases h
      rcases nw b q with z | z
      · exact E.out j r b hi z
      · exact fun w => E.occ b w z
    · exact E.out j r' b h ((otherR j r' b e h).mp q)
/-- an own list changed -/
theorem EnR.put (E : EnR K J O as H ρ σ) {a : Addr} (ha : as i = some (.lf a)) {zs : List V} (hl : H a = some (.lst zs)) {xs : List V} (q : DqAll K (hq O as H) xs ds) : EnR K J O as (H.w (upd H a (.lst xs))) (ρ.set i (.own ds)) σ ∧ Fr as H (H.w (upd H a (.lst xs))) := by
  obtain ⟨F, k⟩ := E.change (H' := H.w (upd H a (.lst xs))) ha (fun b o nb e => by show upd H a _ b = _; rw [upd_ne (fun z => nb (by rw [z]; exact .here))]; exact e) (fun b q => .inl q) (E.tab.put hl) (liv_upd _) (fun _ => rfl)
  refine ⟨k _ (fun _ => ?_) (fun z => by cases z), F⟩
  obtain ⟨_, _, _, e, _⟩ := E.is_own ha
  rw [e]
  exact .own upd_same (q.mono F.same)
/-- the store changed -/
theorem EnR.putS (E : EnR K J O as H ρ σ) {S : Sto} (hs : ρ[i]? = some (.st S)) {S' : Sto} {G' : Hp} (fr : ∀ a o, S a = none → H a = some o → G' a = some o) (nw : ∀ a, S' a ≠ none → S a ≠ none ∨ H a = none) (tab : TabsOk G') (lv : ∀ a, H a ≠ none → G' a ≠ none)
    (q : Fr as H ⟨G', S'⟩ → StoR K (hq O as ⟨G', S'⟩) G' S') : EnR K J O as ⟨G', S'⟩ (ρ.set i (.st S')) σ ∧ Fr as H ⟨G', S'⟩ := by
  obtain ⟨ha, e, _⟩ := E.st_at hs
  subst e
  obtain ⟨F, k⟩ := E.change (H' := ⟨G', S'⟩) ha (fun b o nb e => fr b o (Classical.byContradiction fun z => nb z) e) nw tab lv (fun z => absurd rfl z)
  exact ⟨k _ (fun z => absurd rfl z) (fun _ => ⟨rfl, q F⟩), F⟩
def upA (as : As) (i : Nat) (o : Option Rg) : As := fun j => if j = i then o else as j
theorem upA_at {o : Option Rg} : upA as i o i = o := if_pos rfl
theorem upA_ne {o : Option Rg} {j : Nat} (h : j ≠ i) : upA as i o j = as j := if_neg h
theorem upA_ks {o : Option Rg} (h : as i ≠ some .sto) (ho : o ≠ some .sto) : ∀ j, upA as i o j = some .sto ↔ as j = some .sto := fun j => by
  by_cases e : j = i
  · rw [e, upA_at]
    exact ⟨fun z => absurd z ho, fun z => absurd z h⟩
  · rw [upA_ne e]
theorem EnR.nst_at (E : EnR K J O as H ρ σ) (h : i < σ.length) : as i ≠ some .sto := fun z => by
  have := (E.sto i z).1
  omega
theorem Own.up {a : Addr} {o : Option Rg} (h : Own (upA as i o) H a) : (∃ r, o = some r ∧ Rgn H r a) ∨ Own as H a := by
  rcases h with ⟨j, r, h, q⟩ | h
  · by_cases e : j = i
    · rw [e, upA_at] at h; exact .inl ⟨r, h, q⟩
    · rw [upA_ne e] at h; exact .inr (.inl ⟨j, r, h, q⟩)
  · exact .inr (.inr h)
/-- one place more -/
def plus (O : Addr → Prop) (p : Addr) : Addr → Prop := fun a => O a ∨ a = p
theorem hid_plus {p : Addr} {a : Addr} (h : Hid O as H a) : Hid (plus O p) as H a := h.imp .inl id
/-- what is held is stored in a slot -/
theorem EnR.setOwn {p : Addr} (E : EnR K J (plus O p) as H ρ σ) (hQ : J.Q O) (hi : i < σ.length) (hJ : J.P (upA as i (some (.lf p))) H) {xs : List V} (hp1 : H p = some (.lst xs)) (q : DqAll K (hq (plus O p) as H) xs ds) (np : ¬ O p) :
    EnR K J O (upA as i (some (.lf p))) H (ρ.set i (.own ds)) (σ.set i (some (.ref p))) := by
  have hS : Same (hq (plus O p) as H) (hq O (upA as i (some (.lf p))) H) := hp_less fun a h => by
    rcases h with h | h
    · exact .inl (.inl h)
    · rcases h.up with ⟨r', e, h⟩ | h
      · cases e
        exact .inl (.inr h.lf_of)
      · exact .inr h
  have up : ∀ j r, upA as i (some (.lf p)) j = some r → j ≠ i → as j = some r := fun j r h e => by rwa [upA_ne e] at h
  refine ⟨by rw [List.length_set, List.length_set]; exact E.len, fun j sl' h1 h2 => ?_, fun j sl' o h1 h2 => ?_, fun j h => ?_, fun j k r1 r2 b h1 h2 q1 q2 => ?_, fun j r' b h q => ?_, fun j r' h => ?_, fun a h => E.occ a (.inl h), hJ, hQ, E.tab⟩
  · rw [List.length_set] at h2
    rw [List.getElem?_set_ne (by omega)] at h1
    rw [upA_ne (by omega)]
    exact E.tl j sl' h1 h2
  · rw [List.getElem?_set] at h1 h2
    by_cases e : i = j
    · subst e
      rw [if_pos rfl] at h1
      rw [if_pos rfl, if_pos hi] at h2
      rw [if_pos (Nat.lt_of_lt_of_le hi E.len.1)] at h1
      cases h1; cases h2
      rw [upA_at]
      exact .own hp1 (q.mono hS)
    · rw [if_neg e] at h1 h2
      rw [upA_ne (fun z => e z.symm)]
      exact (E.at_ j sl' o h1 h2).mono hS fun _ _ => rfl
  · by_cases e : j = i
    · rw [e, upA_at] at h
      cases h
    · obtain ⟨e1, e2, e3⟩ := E.sto j (up j _ h e)
      refine ⟨by rw [List.length_set]; exact e1, ?_, e3.move hS fun _ _ => rfl⟩
      rw [List.getElem?_set_ne (fun z => e z.symm)]
      exact e2
  · by_cases e1 : j = i
    · by_cases e2 : k = i
      · rw [e1, e2]
      · rw [e1, upA_at] at h1
        cases h1
        exact absurd (.inr q1.lf_of) (E.out k r2 b (up k _ h2 e2) q2)
    · by_cases e2 : k = i
      · rw [e2, upA_at] at h2
        cases h2
        exact absurd (.inr q2.lf_of) (E.out j r1 b (up j _ h1 e1) q1)
      · exact E.inj j k r1 r2 b (up j _ h1 e1) (up k _ h2 e2) q1 q2
  · by_cases e1 : j = i
    · rw [e1, upA_at] at h
      cases h
      rw [q.lf_of]
      exact np
    · exact fun z => E.out j r' b (up j _ h e1) q (.inl z)
  · rw [List.length_set]
    by_cases e1 : j = i
    · rw [e1]; exact Nat.lt_of_lt_of_le hi E.len.1
    · exact E.bnd j r' (up j _ h e1)
theorem slot_lt (E : EnR K J O as H ρ σ) (h : slotF ρ i = true) : i < σ.length := by
  obtain ⟨sl, e, n, n2⟩ := slotF_of h
  exact E.lt e n2
/-- what a slot owned is let go: it stays from now on -/
theorem EnR.letGo (E : EnR K J O as H ρ σ) (hn : n ≤ i) {sl : Sl} {o : Option V} (h2 : σ[i]? = some o) (q : SlR K (hq O (upA as i none) H) H none sl o) : EnR K J O (upA as i none) H (ρ.set i sl) σ := by
  have hi : i < σ.length := (List.getElem?_eq_some_iff.mp h2).1
  have ls : ∀ a, Own (upA as i none) H a → Own as H a := fun a h => by
    rcases h.up with ⟨r, e, _⟩ | h
    · cases e
    · exact h
  have hS : Same (hq O as H) (hq O (upA as i none) H) := hp_less fun a h => h.imp id (ls a)
  have sub : ∀ j r, upA as i none j = some r → j ≠ i ∧ as j = some r := fun j r h => by
    by_cases e : j = i
    · rw [e, upA_at] at h; cases h
    · rw [upA_ne e] at h; exact ⟨e, h⟩
  refine ⟨by rw [List.length_set]; exact E.len, fun j sl' h1 h3 => ?_, fun j sl' o' h1 h3 => ?_, fun j h => ?_, fun j k r r' b h1 h2 => E.inj j k r r' b (sub j r h1).2 (sub k r' h2).2, fun j r b h => E.out j r b (sub j r h).2, fun j r h => by rw [List.length_set]; exact E.bnd j r (sub j r h).2, E.occ, J.cl _ _ _ _ E.inv ⟨FrA.refl _ _, fun a h => .inl (ls a h), fun j hj => upA_ne (by omega), fun _ h => h, fun j => ⟨fun z => (sub j _ z).2, fun z => by rw [upA_ne (fun e => by rw [e] at z; have := (E.sto i z).1; omega)]; exact z⟩, fun _ => rfl⟩, E.inq, E.tab⟩
  · rw [List.getElem?_set_ne (by omega)] at h1
    rw [upA_ne (by omega)]
    exact E.tl j sl' h1 h3
  · rw [List.getElem?_set] at h1
    by_cases e : i = j
    · subst e
      rw [if_pos rfl] at h1
      rw [h2] at h3
      cases h3
      split at h1
      · cases h1
        rw [upA_at]
        exact q
      · cases h1
    · rw [if_neg e] at h1
      rw [upA_ne (fun z => e z.symm)]
      exact (E.at_ j sl' o' h1 h3).mono hS fun _ _ => rfl
  · obtain ⟨ne, h⟩ := sub j _ h
    obtain ⟨e1, e2, e3⟩ := E.sto j h
    refine ⟨e1, ?_, e3.move hS fun _ _ => rfl⟩
    rw [List.getElem?_set_ne (fun z => ne z.symm)]
    exact e2
theorem Ext.go {as : As} {H : Hs} (hn : n ≤ i) (ni : as i ≠ some .sto) : Ext n as (upA as i none) H H := ⟨FrA.refl _ _, fun a h => by
  rcases h.up with ⟨r, e, _⟩ | h
  · cases e
  · exact .inl h, fun j hj => upA_ne (by omega), fun _ h => h, upA_ks ni (fun z => by cases z), fun _ => rfl⟩
/-- an own list that stays from now on -/
theorem EnR.freeze (E : EnR K J O as H ρ σ) (hn : n ≤ i) (h : ρ[i]? = some (.own ds)) : EnR K J O (upA as i none) H (ρ.set i (.fz (.list ds))) σ := by
  obtain ⟨a, xs, e1, e2, e3, e4⟩ := E.own_at h
  have hS : Same (hq O as H) (hq O (upA as i none) H) := (Ext.go hn (by rw [e2]; intro z; cases z)).same
  have na : ¬ Hid O (upA as i none) H a := by
    rintro (z | ⟨j, r, z, q⟩ | z)
    · exact E.out i _ a e2 .here z
    · by_cases w : j = i
      · rw [w, upA_at] at z; cases z
      · rw [upA_ne w] at z
        exact w (E.inj j i _ _ a z e2 q .here)
    · exact E.tab.no e3 z
  exact E.letGo hn e1 (.fz (.lst (SqL.of (hp_mk na e3)) (e4.mono hS)))
end
end DL
namespace DL
open PySem L2 Z
variable [Tbs]
theorem EnR.fresh1 {K : PySem.W.Frag} {n : Nat} {J : Jv n} {O : Addr → Prop} {as : As} {H : Hs} {ρ : En} {σ : L2.St} (E : EnR K J O as H ρ σ) {p : Addr} {o : HO} (h : H p = none) : ¬ Hid O as (H.w (upd H p o)) p := fun q => E.fresh h ((E.hidS (Same.new h)).mp q)
theorem EnR.fresh2 {K : PySem.W.Frag} {n : Nat} {J : Jv n} {O : Addr → Prop} {as : As} {H H' : Hs} {ρ : En} {σ : L2.St} (_E : EnR K J O as H ρ σ) (_f : Fr as H H') {p : Addr} (_h : H p = none) (no : ¬ O p) (nw : ¬ Own as H' p) : ¬ Hid O as H' p := fun q => q.elim no nw
end DL
namespace DL
open PySem L2 Z
variable [Tbs]
/-- a list that is held is nobody's own -/
theorem EnR.newp {K : PySem.W.Frag} {n : Nat} {J : Jv n} {O : Addr → Prop} {as : As} {H : Hs} {ρ : En} {σ : L2.St} {p : Addr} {xs : List V} (E : EnR K J (plus O p) as H ρ σ) (h : H p = some (.lst xs)) : ¬ Own as H p := fun q => by
  rcases q with ⟨i, r, e, q⟩ | q
  · exact E.out i r p e q (.inr rfl)
  · exact E.tab.no h q
end DL
/-! what expressions, tests, arguments, stores and statements come to -/
namespace DL
open PySem L2 Z
variable [Tbs]
abbrev FE := En → (PyData → En → Prop) → Prop
abbrev FT := En → (Bool → En → Prop) → Prop
abbrev FA := En → (List PyData → En → Prop) → Prop
abbrev FG := PyData → En → (En → Prop) → Prop
abbrev FGs := List PyData → En → (En → Prop) → Prop
inductive Ar where
  | dat (d : PyData)
  | own (i : Nat)
abbrev FC := En → (List Ar → En → Prop) → Prop
structure FEnds where
  nx : En → Prop
  rt : PyData → En → Prop
  bk : En → Prop := fun _ => False
  ct : En → Prop := fun _ => False
  ro : List PyData → En → Prop := fun _ _ => False
abbrev FS := FEnds → En → Prop
abbrev FN := List Sl → (PyData → List Sl → Prop) → Prop
def RE (K : PySem.W.Frag) {n : Nat} (J : Jv n) (t : TE) (f : FE) : Prop := ∀ (O : Addr → Prop) (as : As) (σ : L2.St) (H : Hs) (Q : VK) (ρ : En) (P : PyData → En → Prop), EnR K J O as H ρ σ → f ρ P →
  (∀ d ρ' v H', P d ρ' → Fr as H H' → EnR K J O as H' ρ' σ → Dq K (hq O as H') v d → Q v H') → t σ H Q
section
variable {K : PySem.W.Frag} {n : Nat} {J : Jv n} {O : Addr → Prop} {as : As} {H : Hs} {ρ : En} {σ : L2.St} {p : Addr}
/-- a new object that is held -/
theorem EnR.addO {o : HO} (E : EnR K J O as H ρ σ) (h : H p = none) : EnR K J (plus O p) as (H.w (upd H p o)) ρ σ ∧ Same (hq O as H) (hq (plus O p) as (H.w (upd H p o))) := by
  have s : Same H.hp (upd H p o) := Same.new h
  have np := E.fresh h
  have E2 := E.grow s
  have hS : Same (hq O as H) (hq (plus O p) as (H.w (upd H p o))) := fun a u e => by
    obtain ⟨n, e⟩ := hp_some e
    have ne : a ≠ p := ne_of_none e h
    refine hp_mk (fun q => ?_) (by show upd H.hp p o a = _; rw [upd_ne ne]; exact e)
    rcases q with (q | q) | q
    · exact n (.inl q)
    · exact ne q
    · exact n (.inr ((E.stay s).own.mp q))
  refine ⟨⟨E.len, E.tl, fun i sl o' h1 h2 => (E.at_ i sl o' h1 h2).mono hS fun b hb => (E.stay s).pl i _ b hb rfl, fun i h => ?_, E2.inj, fun i r b e q z => ?_, E.bnd, fun a q => ?_, E2.inv, J.up _ _ (fun _ z => .inl z) E.inq, E2.tab⟩, hS⟩
  · obtain ⟨e1, e2, e3⟩ := E.sto i h
    exact ⟨e1, e2, e3.move hS fun a z => (E.stay s).pl i _ a h z⟩
  · rcases z with z | z
    · exact E2.out i r b e q z
    · rw [z] at q
      exact np (.inr (.inl ⟨i, r, e, (E.stay s).reg.mp q⟩))
  · rcases q with q | q
    · exact E2.occ a q
    · show upd H p o a ≠ none
      rw [q, upd_same]; exact Option.some_ne_none _
theorem EnR.lessO (E : EnR K J (plus O p) as H ρ σ) (hQ : J.Q O) : EnR K J O as H ρ σ :=
  ⟨E.len, E.tl, fun i sl o h1 h2 => (E.at_ i sl o h1 h2).mono (hp_less fun _ => hid_plus) fun _ _ => rfl, fun i h => ⟨(E.sto i h).1, (E.sto i h).2.1, (E.sto i h).2.2.move (hp_less fun _ => hid_plus) fun _ _ => rfl⟩, E.inj, fun i r b e q z => E.out i r b e q (.inl z), E.bnd, fun a q => E.occ a (.inl q), E.inv, hQ, E.tab⟩
/-- what is held is changed -/
theorem EnR.putO {xs ys : List V} (E : EnR K J O as H ρ σ) (h : O p) (hl : H p = some (.lst xs)) (hJ : J.P as (H.w (upd H p (.lst ys)))) :
    EnR K J O as (H.w (upd H p (.lst ys))) ρ σ ∧ Same (hq O as H) (hq O as (H.w (upd H p (.lst ys)))) := by
  have st : Stay as H (H.w (upd H p (.lst ys))) := ⟨fun i r b e q => upd_ne fun z => E.out i r b e q (by rw [z]; exact h), rfl⟩
  have hS : Same (hq O as H) (hq O as (H.w (upd H p (.lst ys)))) := fun a u e => by
    obtain ⟨n, e⟩ := hp_some e
    exact hp_mk (fun q => n (q.imp id st.own.mp)) (by show upd H.hp p _ a = _; rw [upd_ne (fun z : a = p => n (by rw [z]; exact .inl h))]; exact e)
  refine ⟨⟨E.len, E.tl, fun i sl o' h1 h2 => (E.at_ i sl o' h1 h2).mono hS fun b hb => st.pl i _ b hb rfl, fun i h => ?_, fun i j r r' b h1 h2 q1 q2 => E.inj i j r r' b h1 h2 (st.reg.mp q1) (st.reg.mp q2), fun i r b e q => E.out i r b e (st.reg.mp q), E.bnd, fun a q => ?_, hJ, E.inq, E.tab.put hl⟩, hS⟩
  · obtain ⟨e1, e2, e3⟩ := E.sto i h
    exact ⟨e1, e2, e3.move hS fun a z => st.pl i _ a h z⟩
  · show upd H p _ a ≠ none
    by_cases z : a = p
    · rw [z, upd_same]; exact Option.some_ne_none _
    · rw [upd_ne z]; exact E.occ a q
end
/-- a slot that is there and not the store -/
def slotL (ρ : En) (i : Nat) : Bool := match ρ[i]? with
  | some (.st _) => false
  | some _ => true
  | none => false
theorem EnR.ltB {K : PySem.W.Frag} {n : Nat} {J : Jv n} {O : Addr → Prop} {as : As} {H : Hs} {ρ : En} {σ : L2.St} {i : Nat} (E : EnR K J O as H ρ σ) (h : slotL ρ i = true) : i < σ.length := by
  unfold slotL at h
  split at h
  · cases h
  · next sl e hn => exact E.lt hn fun S z => e S (by rw [z])
  · cases h
/-- new, or what was somebody's own -/
abbrev NewO (as : As) (H : Hs) (p : Addr) : Prop := H p = none ∨ Own as H p
theorem EnR.notO {K : PySem.W.Frag} {n n' : Nat} {J : Jv n} {J' : Jv n'} {O O' : Addr → Prop} {as as' : As} {H H' : Hs} {ρ ρ' : En} {σ σ' : L2.St} {p : Addr} {xs : List V} (E : EnR K J O as H ρ σ) (E' : EnR K J' O' as' H' ρ' σ') (h : NewO as H p) (e : H' p = some (.lst xs)) : ¬ O p := fun z => by
  rcases h with h | ⟨i, r, h, q⟩ | h
  · exact E.occ p z h
  · exact E.out i r p h q z
  · exact E'.tab.no e h
/-- an expression that makes a new list -/
def RN (K : PySem.W.Frag) {n : Nat} (J : Jv n) (t : TE) (f : FA) : Prop := ∀ (O : Addr → Prop) (as : As) (σ : L2.St) (H : Hs) (Q : VK) (ρ : En) (P : List PyData → En → Prop), EnR K J O as H ρ σ → f ρ P →
  (∀ ds ρ' p xs H', P ds ρ' → Fr as H H' → NewO as H p → EnR K J (plus O p) as H' ρ' σ → H' p = some (.lst xs) → DqAll K (hq (plus O p) as H') xs ds → Q (.ref p) H') → t σ H Q
def RT (K : PySem.W.Frag) {n : Nat} (J : Jv n) (t : TT) (f : FT) : Prop := ∀ (O : Addr → Prop) (as : As) (σ : L2.St) (H : Hs) (Q : Bool → Hp → Prop) (ρ : En) (P : Bool → En → Prop), EnR K J O as H ρ σ → f ρ P →
  (∀ b ρ' H', P b ρ' → Fr as H H' → EnR K J O as H' ρ' σ → Q b H') → t σ H Q
def RA (K : PySem.W.Frag) {n : Nat} (J : Jv n) (t : TA) (f : FA) : Prop := ∀ (O : Addr → Prop) (as : As) (σ : L2.St) (H : Hs) (Q : List V → Hp → Prop) (ρ : En) (P : List PyData → En → Prop), EnR K J O as H ρ σ → f ρ P →
  (∀ ds ρ' vs H', P ds ρ' → Fr as H H' → EnR K J O as H' ρ' σ → DqAll K (hq O as H') vs ds → Q vs H') → t σ H Q
inductive ArR (K : PySem.W.Frag) (G : Hp) (as : As) : V → Ar → Prop
  | dat {v : V} {d : PyData} : Dq K G v d → ArR K G as v (.dat d)
  | own {a : Addr} {i : Nat} : as i = some (.lf a) → ArR K G as (.ref a) (.own i)
inductive ArsR (K : PySem.W.Frag) (G : Hp) (as : As) : List V → List Ar → Prop
  | nil : ArsR K G as [] []
  | cons {v : V} {vs : List V} {x : Ar} {xs : List Ar} : ArR K G as v x → ArsR K G as vs xs → ArsR K G as (v :: vs) (x :: xs)
def RC (K : PySem.W.Frag) {n : Nat} (J : Jv n) (t : TA) (f : FC) : Prop := ∀ (O : Addr → Prop) (as : As) (σ : L2.St) (H : Hs) (Q : List V → Hp → Prop) (ρ : En) (P : List Ar → En → Prop), EnR K J O as H ρ σ → f ρ P →
  (∀ xs ρ' vs H', P xs ρ' → Fr as H H' → EnR K J O as H' ρ' σ → ArsR K (hq O as H') as vs xs → Q vs H') → t σ H Q
/-- but for these slots all is as it was -/
def Touch (vs : List Nat) (σ σ' : L2.St) : Prop := σ'.length = σ.length ∧ ∀ j, j ∉ vs → σ'[j]? = σ[j]?
def RG (K : PySem.W.Frag) {n : Nat} (J : Jv n) (vs : List Nat) (g : TG) (f : FG) : Prop := ∀ (O : Addr → Prop) (as : As) (σ : L2.St) (H : Hs) (R : L2.St → Hp → Prop) (ρ : En) (P : En → Prop) (v : V) (d : PyData), EnR K J O as H ρ σ → Dq K (hq O as H) v d → f d ρ P →
  (∀ ρ' σ' H', P ρ' → Fr as H H' → EnR K J O as H' ρ' σ' → Touch vs σ σ' → R σ' H') → g v σ H R
def RGs (K : PySem.W.Frag) {n : Nat} (J : Jv n) (vs : List Nat) (g : TGs) (f : FGs) : Prop := ∀ (O : Addr → Prop) (as : As) (σ : L2.St) (H : Hs) (R : L2.St → Hp → Prop) (ρ : En) (P : En → Prop) (ys : List V) (ds : List PyData), EnR K J O as H ρ σ → DqAll K (hq O as H) ys ds → f ds ρ P →
  (∀ ρ' σ' H', P ρ' → Fr as H H' → EnR K J O as H' ρ' σ' → Touch vs σ σ' → R σ' H') → g ys σ H R
/-- what the ends ask, carried over -/
structure Car (K : PySem.W.Frag) {n : Nat} (J : Jv n) (O : Addr → Prop) (as : As) (H : Hs) (E : FEnds) (D : Ends) : Prop where
  nx : ∀ ρ' as' σ' H', E.nx ρ' → Ext n as as' H H' → EnR K J O as' H' ρ' σ' → D.nx σ' H'
  rt : ∀ d ρ' v as' σ' H', E.rt d ρ' → Ext n as as' H H' → EnR K J O as' H' ρ' σ' → Dq K (hq O as' H') v d → D.rt v H'
  bk : ∀ ρ' as' σ' H', E.bk ρ' → Ext n as as' H H' → EnR K J O as' H' ρ' σ' → D.bk σ' H'
  ct : ∀ ρ' as' σ' H', E.ct ρ' → Ext n as as' H H' → EnR K J O as' H' ρ' σ' → D.ct σ' H'
  ro : ∀ ds ρ' p xs as' σ' H', E.ro ds ρ' → Ext n as as' H H' → H p = none ∨ Own as H p → EnR K J (plus O p) as' H' ρ' σ' → H' p = some (.lst xs) → DqAll K (hq (plus O p) as' H') xs ds → D.rt (.ref p) H'
theorem Ext.old {n : Nat} {as as' : As} {H H' : Hs} {p : Addr} (x : Ext n as as' H H') (h : H' p = none ∨ Own as' H' p) : H p = none ∨ Own as H p := by
  by_cases w : Own as H p
  · exact .inr w
  · rcases h with h | h
    · cases e : H p with
      | none => exact .inl rfl
      | some o => rw [x.fr p o w e] at h; cases h
    · rcases x.new p h with z | z
      · exact absurd z w
      · exact .inl z
theorem Car.ext {K : PySem.W.Frag} {n : Nat} {J : Jv n} {O : Addr → Prop} {as as' : As} {H H' : Hs} {E : FEnds} {D : Ends} (C : Car K J O as H E D) (x : Ext n as as' H H') : Car K J O as' H' E D :=
  ⟨fun ρ' as2 σ' H2 p y => C.nx ρ' as2 σ' H2 p (x.trans y), fun d ρ' v as2 σ' H2 p y => C.rt d ρ' v as2 σ' H2 p (x.trans y), fun ρ' as2 σ' H2 p y => C.bk ρ' as2 σ' H2 p (x.trans y), fun ρ' as2 σ' H2 p y => C.ct ρ' as2 σ' H2 p (x.trans y), fun ds ρ' p xs as2 σ' H2 q y o => C.ro ds ρ' p xs as2 σ' H2 q (x.trans y) (x.old o)⟩
def RS (K : PySem.W.Frag) {n : Nat} (J : Jv n) (t : TS) (f : FS) : Prop := ∀ (O : Addr → Prop) (as : As) (σ : L2.St) (H : Hs) (D : Ends) (ρ : En) (E : FEnds), EnR K J O as H ρ σ → f E ρ → Car K J O as H E D → t D σ H

section
variable {K : PySem.W.Frag} {n : Nat} {J : Jv n}
theorem own_hid {O : Addr → Prop} {as : As} {H : Hs} : ∀ a, Own as H a → Hid O as H a := fun _ h => .inr h
theorem Dq.fr {O : Addr → Prop} {as : As} {H H' : Hs} {v : V} {d : PyData} (q : Dq K (hq O as H) v d) (f : Fr as H H') : Dq K (hq O as H') v d := q.mono f.same
theorem DqAll.fr {O : Addr → Prop} {as : As} {H H' : Hs} {v : List V} {d : List PyData} (q : DqAll K (hq O as H) v d) (f : Fr as H H') : DqAll K (hq O as H') v d := q.mono f.same
/-! constants, names -/
def fC (d : PyData) : FE := fun ρ P => P d ρ
theorem re_c {v : V} {d : PyData} (h : ∀ H, Dq K H v d) : RE K J (tC v) (fC d) := fun O as σ H Q ρ P E f k => k d ρ v H f (Fr.refl) E (h _)
def fV (i : Nat) : FE := fun ρ P => match ρ[i]? with
  | some (.fz d) => P d ρ
  | _ => False
theorem re_v {i : Nat} : RE K J (tVar i) (fV i) := by
  intro O as σ H Q ρ P E f k
  unfold fV at f
  split at f
  · next d h =>
    obtain ⟨v, e, _, q⟩ := E.fz_at h
    exact ⟨v, e, k d ρ v H f (Fr.refl) E q⟩
  · exact f.elim
/-! arguments -/
def fNil : FA := fun ρ P => P [] ρ
def fCons (a : FE) (b : FA) : FA := fun ρ P => a ρ fun d ρ1 => b ρ1 fun ds ρ2 => P (d :: ds) ρ2
theorem ra_nil : RA K J tNil fNil := fun O as σ H Q ρ P E f k => k [] ρ [] H f (Fr.refl) E .nil
theorem ra_cons {ta : TE} {t : TA} {fa : FE} {f : FA} (ha : RE K J ta fa) (h : RA K J t f) : RA K J (tCons ta t) (fCons fa f) := by
  intro O as σ H Q ρ P E q k
  refine ha O as σ H _ ρ _ E q fun d ρ1 v H1 q1 f1 E1 d1 => ?_
  refine h O as σ H1 _ ρ1 _ E1 q1 fun ds ρ2 vs H2 q2 f2 E2 d2 => ?_
  exact k _ _ _ _ q2 (f1.trans f2) E2 (.cons (d1.fr f2) d2)
/-! operators -/
def RR (K : PySem.W.Frag) (r : R2) (g : PyData → PyData → (PyData → Prop) → Prop) : Prop := ∀ (A : Addr → Prop) (H : Hp) (Q : VK) (x y : V) (a b : PyData) (P : PyData → Prop), (∀ c, A c → H c ≠ none) →
  Dq K (hp A H) x a → Dq K (hp A H) y b → g a b P → (∀ d v H', P d → Same H H' → Dq K (hp A H') v d → Q v H') → r x y H Q
def fOp (g : PyData → PyData → (PyData → Prop) → Prop) (a b : FE) : FE := fun ρ P => a ρ fun x ρ1 => b ρ1 fun y ρ2 => g x y fun d => P d ρ2
theorem re_op {r : R2} {g : PyData → PyData → (PyData → Prop) → Prop} {ta tb : TE} {fa fb : FE} (hr : RR K r g) (ha : RE K J ta fa) (hb : RE K J tb fb) : RE K J (tOp r ta tb) (fOp g fa fb) := by
  intro O as σ H Q ρ P E q k
  refine ha O as σ H _ ρ _ E q fun a ρ1 x H1 q1 f1 E1 d1 => ?_
  refine hb O as σ H1 _ ρ1 _ E1 q1 fun b ρ2 y H2 q2 f2 E2 d2 => ?_
  refine hr (Hid O as H2) H2 _ x y a b _ (fun c h => E2.full h) (d1.fr f2) d2 q2 fun d v H3 p s3 d3 => ?_
  exact k d ρ2 v ⟨H3, _⟩ p ((f1.trans f2).trans (E2.frS s3)) (E2.grow s3) (d3.mono (E2.toS s3))
def RU (K : PySem.W.Frag) (r : V → Hp → VK → Prop) (g : PyData → (PyData → Prop) → Prop) : Prop := ∀ (A : Addr → Prop) (H : Hp) (Q : VK) (x : V) (a : PyData) (P : PyData → Prop), (∀ c, A c → H c ≠ none) →
  Dq K (hp A H) x a → g a P → (∀ d v H', P d → Same H H' → Dq K (hp A H') v d → Q v H') → r x H Q
def fUn (g : PyData → (PyData → Prop) → Prop) (a : FE) : FE := fun ρ P => a ρ fun x ρ1 => g x fun d => P d ρ1
theorem re_un {r : V → Hp → VK → Prop} {g : PyData → (PyData → Prop) → Prop} {ta : TE} {fa : FE} (hr : RU K r g) (ha : RE K J ta fa) : RE K J (tUn r ta) (fUn g fa) := by
  intro O as σ H Q ρ P E q k
  refine ha O as σ H _ ρ _ E q fun a ρ1 x H1 q1 f1 E1 d1 => ?_
  refine hr (Hid O as H1) H1 _ x a _ (fun c h => E1.full h) d1 q1 fun d v H3 p s3 d3 => ?_
  exact k d ρ1 v ⟨H3, _⟩ p (f1.trans (E1.frS s3)) (E1.grow s3) (d3.mono (E1.toS s3))
/-! built-in calls -/
def RB (K : PySem.W.Frag) (r : List V → Hp → VK → Prop) (g : List PyData → (PyData → Prop) → Prop) : Prop := ∀ (A : Addr → Prop) (H : Hp) (Q : VK) (xs : List V) (ds : List PyData) (P : PyData → Prop), (∀ c, A c → H c ≠ none) →
  DqAll K (hp A H) xs ds → g ds P → (∀ d v H', P d → Same H H' → Dq K (hp A H') v d → Q v H') → r xs H Q
def fCB (g : List PyData → (PyData → Prop) → Prop) (a : FA) : FE := fun ρ P => a ρ fun ds ρ1 => g ds fun d => P d ρ1
theorem re_cb {r : List V → Hp → VK → Prop} {g : List PyData → (PyData → Prop) → Prop} {t : TA} {f : FA} (hr : RB K r g) (ha : RA K J t f) : RE K J (tCB r t) (fCB g f) := by
  intro O as σ H Q ρ P E q k
  refine ha O as σ H _ ρ _ E q fun ds ρ1 vs H1 q1 f1 E1 d1 => ?_
  refine hr (Hid O as H1) H1 _ vs ds _ (fun c h => E1.full h) d1 q1 fun d v H3 p s3 d3 => ?_
  exact k d ρ1 v ⟨H3, _⟩ p (f1.trans (E1.frS s3)) (E1.grow s3) (d3.mono (E1.toS s3))
/-- methods of texts -/
def RM (K : PySem.W.Frag) (r : V → List V → Hp → VK → Prop) (g : Str → List PyData → (PyData → Prop) → Prop) : Prop := ∀ (A : Addr → Prop) (H : Hp) (Q : VK) (z : Str) (xs : List V) (ds : List PyData) (P : PyData → Prop), (∀ c, A c → H c ≠ none) →
  DqAll K (hp A H) xs ds → g z ds P → (∀ d v H', P d → Same H H' → Dq K (hp A H') v d → Q v H') → r (.str z) xs H Q
def strF (a : PyData) (k : Str → Prop) : Prop := match a with
  | .str z => k z
  | _ => False
def fBM (g : Str → List PyData → (PyData → Prop) → Prop) (a : FE) (b : FA) : FE := fun ρ P => a ρ fun x ρ1 => strF x fun z => b ρ1 fun ds ρ2 => g z ds fun d => P d ρ2
theorem re_bm {r : V → List V → Hp → VK → Prop} {g : Str → List PyData → (PyData → Prop) → Prop} {to : TE} {t : TA} {fo : FE} {f : FA} (hr : RM K r g) (ho : RE K J to fo) (ha : RA K J t f) : RE K J (tBM K "str" r to t) (fBM g fo f) := by
  intro O as σ H Q ρ P E q k
  refine ho O as σ H _ ρ _ E q fun a ρ1 x H1 q1 f1 E1 d1 => ?_
  unfold strF at q1
  split at q1
  · next z =>
    cases d1
    refine ⟨rfl, ?_⟩
    refine ha O as σ H1 _ ρ1 _ E1 q1 fun ds ρ2 vs H2 q2 f2 E2 d2 => ?_
    refine hr (Hid O as H2) H2 _ z vs ds _ (fun c h => E2.full h) d2 q2 fun d v H3 p s3 d3 => ?_
    exact k d ρ2 v ⟨H3, _⟩ p ((f1.trans f2).trans (E2.frS s3)) (E2.grow s3) (d3.mono (E2.toS s3))
  · exact q1.elim
/-! displays -/
def fTup (f : FA) : FE := fun ρ P => f ρ fun ds ρ1 => ds.length ≤ sizeLine ∧ P (.tuple ds) ρ1
theorem re_tup {t : TA} {f : FA} (h : RA K J t f) : RE K J (tTup t) (fTup f) := by
  intro O as σ H Q ρ P E q k
  refine h O as σ H _ ρ _ E q fun ds ρ1 vs H1 q1 f1 E1 d1 => ⟨by rw [d1.length]; exact q1.1, fun p hp1 => ?_⟩
  have s := Same.new (o := .tup vs) hp1
  refine k _ _ _ _ q1.2 (f1.trans (E1.frS s)) (E1.grow s) (.tup (SqT.of (hp_mk (E1.fresh1 hp1) upd_same)) (d1.mono (E1.hgrow s)))
def fLst (f : FA) : FA := fun ρ P => f ρ fun ds ρ1 => ds.length ≤ sizeLine ∧ P ds ρ1
theorem rn_lst {t : TA} {f : FA} (h : RA K J t f) : RN K J (tLst t) (fLst f) := by
  intro O as σ H Q ρ P E q k
  refine h O as σ H _ ρ _ E q fun ds ρ1 vs H1 q1 f1 E1 d1 => ⟨by rw [d1.length]; exact q1.1, fun p hp1 => ?_⟩
  obtain ⟨E2, s2⟩ := E1.addO (o := .lst vs) hp1
  refine k _ _ _ _ _ q1.2 (f1.trans (E1.frS (Same.new hp1))) ?_ E2 upd_same (d1.mono s2)
  exact .inl (Classical.byContradiction fun z => f1.liv p z hp1)
def fNew (f : FA) : FE := fun ρ P => f ρ fun ds ρ1 => P (.list ds) ρ1
theorem RN.re {t : TE} {f : FA} (h : RN K J t f) : RE K J t (fNew f) := by
  intro O as σ H Q ρ P E q k
  refine h O as σ H _ ρ _ E q fun ds ρ1 p xs H2 q1 f1 hp1 E1 hp2 d1 => ?_
  exact k _ _ _ _ q1 f1 (E1.lessO E.inq) (.lst (SqL.of (hp_mk (fun z => z.elim (fun w => E.notO E1 hp1 hp2 w) (E1.newp hp2)) hp2)) (d1.mono (hp_less fun _ => hid_plus)))
/-! tests -/
def boolF (a : PyData) (k : Bool → Prop) : Prop := match a with
  | .bool b => k b
  | _ => False
def fB (f : FE) : FT := fun ρ P => f ρ fun d ρ1 => boolF d fun b => P b ρ1
theorem rt_b {t : TE} {f : FE} (h : RE K J t f) : RT K J (tB t) (fB f) := by
  intro O as σ H Q ρ P E q k
  refine h O as σ H _ ρ _ E q fun d ρ1 v H1 q1 f1 E1 d1 => ?_
  unfold boolF at q1
  split at q1
  · cases d1; exact ⟨_, rfl, k _ _ _ q1 f1 E1⟩
  · exact q1.elim
theorem rt_test {t : TE} {f : FE} (h : RE K J t f) : RT K J (tTest t) (fB f) := rt_b h
def fAnd (a b : FT) : FT := fun ρ P => a ρ fun c ρ1 => if c = true then b ρ1 P else P false ρ1
def fOr (a b : FT) : FT := fun ρ P => a ρ fun c ρ1 => if c = true then P true ρ1 else b ρ1 P
def fNot (a : FT) : FT := fun ρ P => a ρ fun c ρ1 => P (!c) ρ1
theorem rt_and {t u : TT} {a b : FT} (ha : RT K J t a) (hb : RT K J u b) : RT K J (tAnd t u) (fAnd a b) := by
  intro O as σ H Q ρ P E q k
  refine ha O as σ H _ ρ _ E q fun c ρ1 H1 q1 f1 E1 => ?_
  cases c
  · exact k _ _ _ q1 f1 E1
  · exact hb O as σ H1 _ ρ1 _ E1 q1 fun b ρ2 H2 q2 f2 E2 => k _ _ _ q2 (f1.trans f2) E2
theorem rt_or {t u : TT} {a b : FT} (ha : RT K J t a) (hb : RT K J u b) : RT K J (tOr t u) (fOr a b) := by
  intro O as σ H Q ρ P E q k
  refine ha O as σ H _ ρ _ E q fun c ρ1 H1 q1 f1 E1 => ?_
  cases c
  · exact hb O as σ H1 _ ρ1 _ E1 q1 fun b ρ2 H2 q2 f2 E2 => k _ _ _ q2 (f1.trans f2) E2
  · exact k _ _ _ q1 f1 E1
theorem rt_not {t : TT} {a : FT} (ha : RT K J t a) : RT K J (tNot t) (fNot a) := by
  intro O as σ H Q ρ P E q k
  exact ha O as σ H _ ρ _ E q fun c ρ1 H1 q1 f1 E1 => k _ _ _ q1 f1 E1
def fAndV (a b : FE) : FE := fun ρ P => a ρ fun d ρ1 => boolF d fun c => if c = true then b ρ1 P else P (.bool false) ρ1
def fOrV (a b : FE) : FE := fun ρ P => a ρ fun d ρ1 => boolF d fun c => if c = true then P (.bool true) ρ1 else b ρ1 P
def fNotV (a : FE) : FE := fun ρ P => a ρ fun d ρ1 => boolF d fun c => P (.bool (!c)) ρ1
theorem re_and {t u : TE} {a b : FE} (ha : RE K J t a) (hb : RE K J u b) : RE K J (tAndV t u) (fAndV a b) := by
  intro O as σ H Q ρ P E q k
  refine ha O as σ H _ ρ _ E q fun d ρ1 v H1 q1 f1 E1 d1 => ?_
  unfold boolF at q1
  split at q1
  · next c =>
    cases d1
    refine ⟨_, rfl, ?_⟩
    cases c
    · exact k _ _ _ _ q1 f1 E1 (.bl _)
    · exact hb O as σ H1 _ ρ1 _ E1 q1 fun b ρ2 v H2 q2 f2 E2 => k _ _ _ _ q2 (f1.trans f2) E2
  · exact q1.elim
theorem re_or {t u : TE} {a b : FE} (ha : RE K J t a) (hb : RE K J u b) : RE K J (tOrV t u) (fOrV a b) := by
  intro O as σ H Q ρ P E q k
  refine ha O as σ H _ ρ _ E q fun d ρ1 v H1 q1 f1 E1 d1 => ?_
  unfold boolF at q1
  split at q1
  · next c =>
    cases d1
    refine ⟨_, rfl, ?_⟩
    cases c
    · exact hb O as σ H1 _ ρ1 _ E1 q1 fun b ρ2 v H2 q2 f2 E2 => k _ _ _ _ q2 (f1.trans f2) E2
    · exact k _ _ _ _ q1 f1 E1 (.bl _)
  · exact q1.elim
theorem re_not {t : TE} {a : FE} (ha : RE K J t a) : RE K J (tNotV t) (fNotV a) := by
  intro O as σ H Q ρ P E q k
  refine ha O as σ H _ ρ _ E q fun d ρ1 v H1 q1 f1 E1 d1 => ?_
  unfold boolF at q1
  split at q1
  · cases d1
    exact ⟨_, rfl, k _ _ _ _ q1 f1 E1 (.bl _)⟩
  · exact q1.elim
def fIf (c : FT) (a b : FE) : FE := fun ρ P => c ρ fun k ρ1 => if k = true then a ρ1 P else b ρ1 P
theorem re_if {t : TT} {ta tb : TE} {c : FT} {a b : FE} (hc : RT K J t c) (ha : RE K J ta a) (hb : RE K J tb b) : RE K J (tIf t ta tb) (fIf c a b) := by
  intro O as σ H Q ρ P E q k
  refine hc O as σ H _ ρ _ E q fun c ρ1 H1 q1 f1 E1 => ?_
  cases c
  · exact hb O as σ H1 _ ρ1 _ E1 q1 fun b ρ2 v H2 q2 f2 E2 => k _ _ _ _ q2 (f1.trans f2) E2
  · exact ha O as σ H1 _ ρ1 _ E1 q1 fun b ρ2 v H2 q2 f2 E2 => k _ _ _ _ q2 (f1.trans f2) E2
def fChain (g g' : PyData → PyData → (PyData → Prop) → Prop) (a b c : FE) : FE := fun ρ P => a ρ fun x ρ1 => b ρ1 fun y ρ2 => g x y fun z => boolF z fun k => if k = true then c ρ2 fun w ρ3 => g' y w fun d => P d ρ3 else P (.bool false) ρ2
theorem re_chain {r r' : R2} {g g' : PyData → PyData → (PyData → Prop) → Prop} {ta tb tc : TE} {fa fb fc : FE} (hr : RR K r g) (hr' : RR K r' g') (ha : RE K J ta fa) (hb : RE K J tb fb) (hc : RE K J tc fc) : RE K J (tChain r r' ta tb tc) (fChain g g' fa fb fc) := by
  intro O as σ H Q ρ P E q k
  refine ha O as σ H _ ρ _ E q fun a ρ1 x H1 q1 f1 E1 d1 => ?_
  refine hb O as σ H1 _ ρ1 _ E1 q1 fun b ρ2 y H2 q2 f2 E2 d2 => ?_
  refine hr (Hid O as H2) H2 _ x y a b _ (fun c h => E2.full h) (d1.fr f2) d2 q2 fun d v H3 p s3 d3 => ?_
  unfold boolF at p
  split at p
  · next c =>
    cases d3
    refine ⟨_, rfl, ?_⟩
    have E3 := E2.grow s3
    have f3 := (f1.trans f2).trans (E2.frS s3)
    cases c
    · exact k _ _ _ _ p f3 E3 (.bl _)
    · refine hc O as σ _ _ ρ2 _ E3 p fun e ρ4 w H4 q4 f4 E4 d4 => ?_
      refine hr' (Hid O as H4) H4.hp _ y w b e _ (fun c h => E4.full h) ((d2.mono (E2.hgrow s3)).fr f4) d4 q4 fun d v H5 p s5 d5 => ?_
      exact k _ _ _ _ p ((f3.trans f4).trans (E4.frS s5)) (E4.grow s5) (d5.mono (E4.toS s5))
  · exact p.elim
/-! stores -/
def gN (i : Nat) : FG := fun d ρ P => slotF ρ i = true ∧ P (ρ.set i (.fz d))
theorem rg_name {i : Nat} : RG K J [i] (gName i) (gN i) := fun O as σ H R ρ P v d E q f k => k _ _ H f.2 (Fr.refl) (E.setFz f.1 q) ⟨List.length_set, fun j hj => by
  rw [List.getElem?_set, if_neg (fun z => hj (by simp [z]))]⟩
def gsNil : FGs := fun ds ρ P => ds = [] ∧ P ρ
def gsCons (a : FG) (b : FGs) : FGs := fun ds ρ P => match ds with
  | d :: r => a d ρ fun ρ1 => b r ρ1 P
  | [] => False
theorem rgs_nil : RGs K J [] gNil gsNil := by
  intro O as σ H R ρ P vs ds E q f k
  obtain ⟨rfl, f⟩ := f
  cases q
  exact ⟨rfl, k _ _ H f (Fr.refl) E ⟨rfl, fun _ _ => rfl⟩⟩
theorem rgs_cons {us ws : List Nat} {g : TG} {gs : TGs} {a : FG} {b : FGs} (ha : RG K J us g a) (hb : RGs K J ws gs b) : RGs K J (us ++ ws) (gCons g gs) (gsCons a b) := by
  intro O as σ H R ρ P vs ds E q f k
  cases q with
  | nil => exact f.elim
  | cons q1 q2 =>
    refine ⟨_, _, rfl, ?_⟩
    refine ha O as σ H _ ρ _ _ _ E q1 f fun ρ1 σ1 H1 p1 f1 E1 z1 => ?_
    exact hb O as σ1 H1 _ ρ1 _ _ _ E1 (q2.fr f1) p1 fun ρ2 σ2 H2 p2 f2 E2 z2 => k _ _ _ p2 (f1.trans f2) E2 ⟨z2.1.trans z1.1, fun j hj => by
      rw [List.mem_append, not_or] at hj
      rw [z2.2 j hj.2, z1.2 j hj.1]⟩
def gT (m : Nat) (b : FGs) : FG := fun d ρ P => match d with
  | .tuple ds => ds.length = m ∧ b ds ρ P
  | _ => False
theorem rg_tup {ws : List Nat} {m : Nat} {gs : TGs} {b : FGs} (h : RGs K J ws gs b) : RG K J ws (gTup K m gs) (gT m b) := by
  intro O as σ H R ρ P v d E q f k
  unfold gT at f
  split at f
  · obtain ⟨a, xs, rfl, s, r⟩ := q.tuple_of
    exact ⟨_, _, rfl, SqT.mono hp_same s, by rw [r.length]; exact f.1, h O as σ H _ ρ _ _ _ E r f.2 k⟩
  · exact f.elim
/-! statements -/
def fSeq (a b : FS) : FS := fun E ρ => a { E with nx := b E } ρ
theorem rs_seq {t u : TS} {a b : FS} (ha : RS K J t a) (hb : RS K J u b) : RS K J (tSeq t u) (fSeq a b) := by
  intro O as σ H D ρ E R f C
  refine ha O as σ H _ ρ _ R f ⟨fun ρ' as' σ' H' p x R' => ?_, C.rt, C.bk, C.ct, C.ro⟩
  exact hb O as' σ' H' D ρ' E R' p (C.ext x)
def fNext : FS := fun E ρ => E.nx ρ
theorem rs_next : RS K J tNext fNext := fun O as σ H D ρ E R f C => C.nx ρ as σ H f .refl R
def fAsg (a : FE) (g : FG) : FS := fun E ρ => a ρ fun d ρ1 => g d ρ1 E.nx
theorem rs_asg {ws : List Nat} {te : TE} {g : TG} {a : FE} {b : FG} (ha : RE K J te a) (hg : RG K J ws g b) : RS K J (tAsg te g) (fAsg a b) := by
  intro O as σ H D ρ E R f C
  refine ha O as σ H _ ρ _ R f fun d ρ1 v H1 q1 f1 E1 d1 => ?_
  refine hg O as σ H1 _ ρ1 _ v d E1 d1 q1 fun ρ2 σ2 H2 p2 f2 E2 _ => ?_
  exact C.nx _ _ _ _ p2 (.of (f1.trans f2)) E2
def fRet (a : FE) : FS := fun E ρ => a ρ E.rt
theorem rs_ret {te : TE} {a : FE} (ha : RE K J te a) : RS K J (tRet te) (fRet a) := by
  intro O as σ H D ρ E R f C
  exact ha O as σ H _ ρ _ R f fun d ρ1 v H1 q1 f1 E1 d1 => C.rt _ _ _ _ _ _ q1 (.of f1) E1 d1
def fRetN : FS := fun E ρ => E.rt .none ρ
theorem rs_retN : RS K J tRetN fRetN := fun O as σ H D ρ E R f C => C.rt _ _ _ _ _ _ f .refl R .non
def fDrop (a : FE) : FS := fun E ρ => a ρ fun _ ρ1 => E.nx ρ1
theorem rs_drop {te : TE} {a : FE} (ha : RE K J te a) : RS K J (tDrop te) (fDrop a) := by
  intro O as σ H D ρ E R f C
  exact ha O as σ H _ ρ _ R f fun d ρ1 v H1 q1 f1 E1 d1 => C.nx _ _ _ _ q1 (.of f1) E1
def fIfS (c : FT) (a b : FS) : FS := fun E ρ => c ρ fun k ρ1 => if k = true then a E ρ1 else b E ρ1
theorem rs_if {c : TT} {t u : TS} {fc : FT} {a b : FS} (hc : RT K J c fc) (ha : RS K J t a) (hb : RS K J u b) : RS K J (tIfS c t u) (fIfS fc a b) := by
  intro O as σ H D ρ E R f C
  refine hc O as σ H _ ρ _ R f fun k ρ1 H1 q1 f1 E1 => ?_
  cases k
  · exact hb O as σ H1 D ρ1 E E1 q1 (C.ext (.of f1))
  · exact ha O as σ H1 D ρ1 E E1 q1 (C.ext (.of f1))
def fNever : FS := fun _ _ => False
theorem rs_never : RS K J tNever fNever := fun O as σ H D ρ E R f C => f.elim
def fBreak : FS := fun E ρ => E.bk ρ
theorem rs_break : RS K J tBreak fBreak := fun O as σ H D ρ E R f C => C.bk ρ as σ H f .refl R
def fCont : FS := fun E ρ => E.ct ρ
theorem rs_cont : RS K J tCont fCont := fun O as σ H D ρ E R f C => C.ct ρ as σ H f .refl R
def fPar (i j : Nat) (a : FA) : FS := fun E ρ => a ρ fun ds ρ1 => match ds with
  | [x, y] => gN i x ρ1 fun ρ2 => gN j y ρ2 E.nx
  | _ => False
theorem rs_par {i j : Nat} {t : TA} {a : FA} (ha : RA K J t a) : RS K J (tPar i j t) (fPar i j a) := by
  intro O as σ H D ρ E R f C
  refine ha O as σ H _ ρ _ R f fun ds ρ1 vs H1 q1 f1 E1 d1 => ?_
  split at q1
  · cases d1 with
    | cons d1 r => cases r with
      | cons d2 r =>
        cases r
        refine ⟨_, _, rfl, ?_⟩
        exact C.nx _ _ _ _ q1.2.2 (.of f1) ((E1.setFz q1.1 d1).setFz q1.2.1 d2)
  · exact q1.elim
/-- an own list that is so from now on -/
def fFreeze (i : Nat) (a : FS) : FS := fun E ρ => match ρ[i]? with
  | some (.own ds) => a E (ρ.set i (.fz (.list ds)))
  | _ => a E ρ
theorem rs_freeze {i : Nat} {t : TS} {a : FS} (hi : n ≤ i) (ha : RS K J t a) : RS K J t (fFreeze i a) := by
  intro O as σ H D ρ E R f C
  unfold fFreeze at f
  split at f
  · next ds h =>
    refine ha O _ σ H D _ E (R.freeze hi h) f (C.ext (Ext.go hi (R.nst_at (R.lt h fun _ z => by cases z))))
  · exact ha O as σ H D ρ E R f C
/-- a new list into a slot, its own -/
def fOwn (i : Nat) (a : FA) : FS := fun E ρ => a ρ fun ds ρ1 => slotL ρ1 i = true ∧ E.nx (ρ1.set i (.own ds))
theorem rs_own {i : Nat} {te : TE} {a : FA} (hi : n ≤ i) (ha : RN K J te a) : RS K J (tAsg te (gName i)) (fOwn i a) := by
  intro O as σ H D ρ E R f C
  refine ha O as σ H _ ρ _ R f fun ds ρ1 p xs H2 q1 f1 hp1 E1 hp2 d1 => ?_
  have x : Ext n as (upA as i (some (.lf p))) H H2 := ⟨f1.fr, fun a q => by
    rcases q.up with ⟨r, e, q⟩ | q
    · cases e
      rw [q.lf_of]
      exact hp1.symm
    · exact f1.new a q, fun j hj => upA_ne (by omega), f1.liv, upA_ks (E1.nst_at (E1.ltB q1.1)) (fun z => by cases z), f1.nst⟩
  have E2 := E1.setOwn R.inq (E1.ltB q1.1) (J.cl _ _ _ _ R.inv x) hp2 d1 fun z => R.notO E1 hp1 hp2 z
  exact C.nx _ _ _ _ q1.2 x E2
end
end DL
/-! loops, comprehensions, calls -/
namespace DL
open PySem L2 Z
variable [Tbs]
/-- what is gone through: the data of each turn -/
def IsIt (K : PySem.W.Frag) (A : Addr → Prop) (J : It) (H : Hp) (ds : List PyData) : Prop := ∃ (G : Hp → Prop) (Y : Nat → Hp → V → Hp → Prop), Walk J ds.length G Y ∧ (∀ (A' : Addr → Prop) (H1 : Hp), Same (hp A H) (hp A' H1) → G H1) ∧
  ∀ (i : Nat) (d : PyData) (A' : Addr → Prop) (H1 : Hp) (x : V) (H2 : Hp), ds[i]? = some d → Same (hp A H) (hp A' H1) → (∀ c, A' c → H1 c ≠ none) → Y i H1 x H2 → Same H1 H2 ∧ Dq K (hp A' H2) x d
def RI (K : PySem.W.Frag) {n : Nat} (J : Jv n) (wi : TI) (f : FA) : Prop := ∀ (O : Addr → Prop) (as : As) (σ : L2.St) (H : Hs) (R : It → Hp → Prop) (ρ : En) (P : List PyData → En → Prop), EnR K J O as H ρ σ → f ρ P →
  (∀ ds ρ' I H', P ds ρ' → Fr as H H' → EnR K J O as H' ρ' σ → IsIt K (Hid O as H') I H' ds → R I H') → wi σ H R
section
variable {K : PySem.W.Frag} {n : Nat} {J : Jv n}
def listF (a : PyData) (k : List PyData → Prop) : Prop := match a with
  | .list ds => k ds
  | _ => False
def tupleF (a : PyData) (k : List PyData → Prop) : Prop := match a with
  | .tuple ds => k ds
  | _ => False
def intF (a : PyData) (k : Int → Prop) : Prop := match a with
  | .int i => k i
  | _ => False
def iL (f : FE) : FA := fun ρ P => f ρ fun d ρ1 => listF d fun ds => P ds ρ1
theorem ri_list {tl : TE} {f : FE} (h : RE K J tl f) : RI K J (iList K tl) (iL f) := by
  intro O as σ H R ρ P E q k
  refine h O as σ H _ ρ _ E q fun d ρ1 v H1 q1 f1 E1 d1 => ?_
  unfold listF at q1
  split at q1
  · next ds =>
    obtain ⟨a, xs, rfl, s, r⟩ := d1.list_of
    refine ⟨a, rfl, ⟨_, SqL.mono hp_same s⟩, k _ _ _ _ q1 f1 E1 ?_⟩
    refine ⟨_, _, by rw [← r.length]; exact walk_list (xs := xs), fun A' H2 s2 => SqL.mono hp_same (SqL.mono s2 s), fun i d A' H2 x H3 hd s2 oc y => ?_⟩
    obtain ⟨rfl, hx⟩ := y
    obtain ⟨d', e, q⟩ := r.get hx
    rw [hd] at e
    cases e
    exact ⟨Same.refl _, q.mono s2⟩
  · exact q1.elim
def iT (f : FE) : FA := fun ρ P => f ρ fun d ρ1 => tupleF d fun ds => P ds ρ1
theorem ri_tup {tl : TE} {f : FE} (h : RE K J tl f) : RI K J (iTup K tl) (iT f) := by
  intro O as σ H R ρ P E q k
  refine h O as σ H _ ρ _ E q fun d ρ1 v H1 q1 f1 E1 d1 => ?_
  unfold tupleF at q1
  split at q1
  · next ds =>
    obtain ⟨a, xs, rfl, s, r⟩ := d1.tuple_of
    refine ⟨a, rfl, ⟨_, SqT.mono hp_same s⟩, k _ _ _ _ q1 f1 E1 ?_⟩
    refine ⟨_, _, by rw [← r.length]; exact walk_tup (xs := xs), fun A' H2 s2 => SqT.mono hp_same (SqT.mono s2 s), fun i d A' H2 x H3 hd s2 oc y => ?_⟩
    obtain ⟨rfl, hx⟩ := y
    obtain ⟨d', e, q⟩ := r.get hx
    rw [hd] at e
    cases e
    exact ⟨Same.refl _, q.mono s2⟩
  · exact q1.elim
def signs (z : Str) : List PyData := z.cps.toList.map fun c => .str ⟨#[c]⟩
def iS (f : FE) : FA := fun ρ P => f ρ fun d ρ1 => strF d fun z => P (signs z) ρ1
theorem ri_str {te : TE} {f : FE} (h : RE K J te f) : RI K J (iStr te) (iS f) := by
  intro O as σ H R ρ P E q k
  refine h O as σ H _ ρ _ E q fun d ρ1 v H1 q1 f1 E1 d1 => ?_
  unfold strF at q1
  split at q1
  · next z =>
    cases d1
    refine ⟨z, rfl, k _ _ _ _ q1 f1 E1 ?_⟩
    refine ⟨_, _, by rw [signs, List.length_map, Array.length_toList]; exact walk_str (z := z), fun _ _ _ => trivial, fun i d A' H2 x H3 hd s2 oc y => ?_⟩
    obtain ⟨rfl, c, hc, rfl⟩ := y
    rw [signs, List.getElem?_map, Array.getElem?_toList, hc] at hd
    cases hd
    exact ⟨Same.refl _, .str _⟩
  · exact q1.elim
def rangeD (lo : Int) (m : Nat) : List PyData := (List.range m).map fun k : Nat => .int (lo + (k : Int))
theorem isIt_range {A : Addr → Prop} {H : Hp} {lo : Int} {m : Nat} : IsIt K A (Itr lo m) H (rangeD lo m) := by
  refine ⟨_, _, by rw [rangeD, List.length_map, List.length_range]; exact walk_range (lo := lo) (n := m), fun _ _ _ => trivial, fun i d A' H2 x H3 hd s2 oc y => ?_⟩
  obtain ⟨rfl, rfl⟩ := y
  rw [rangeD, List.getElem?_map] at hd
  have hi : i < m := by
    by_cases h : i < m
    · exact h
    · rw [List.getElem?_eq_none (by rw [List.length_range]; omega)] at hd; cases hd
  rw [List.getElem?_range hi] at hd
  cases hd
  exact ⟨Same.refl _, .int _⟩
def iR1 (f : FA) : FA := fun ρ P => f ρ fun ds ρ1 => match ds with
  | [.int j] => -(2 ^ 62) ≤ j ∧ j < 2 ^ 62 ∧ P (rangeD 0 j.toNat) ρ1
  | _ => False
theorem ri_rng1 {ta : TA} {f : FA} (h : RA K J ta f) : RI K J (iRng1 ta) (iR1 f) := by
  intro O as σ H R ρ P E q k
  refine h O as σ H _ ρ _ E q fun ds ρ1 vs H1 q1 f1 E1 d1 => ?_
  split at q1
  · cases d1 with
    | cons a b => cases a; cases b; exact ⟨_, rfl, q1.1, q1.2.1, k _ _ _ _ q1.2.2 f1 E1 isIt_range⟩
  · exact q1.elim
def iR2 (f : FA) : FA := fun ρ P => f ρ fun ds ρ1 => match ds with
  | [.int i, .int j] => (-(2 ^ 62) ≤ i ∧ i < 2 ^ 62 ∧ -(2 ^ 62) ≤ j ∧ j < 2 ^ 62) ∧ P (rangeD i (j - i).toNat) ρ1
  | _ => False
theorem ri_rng2 {ta : TA} {f : FA} (h : RA K J ta f) : RI K J (iRng2 ta) (iR2 f) := by
  intro O as σ H R ρ P E q k
  refine h O as σ H _ ρ _ E q fun ds ρ1 vs H1 q1 f1 E1 d1 => ?_
  split at q1
  · cases d1 with
    | cons a b => cases a; cases b with
      | cons a b => cases a; cases b; exact ⟨_, _, rfl, q1.1, k _ _ _ _ q1.2 f1 E1 isIt_range⟩
  · exact q1.elim
def downD (lo : Int) (m : Nat) : List PyData := (List.range m).map fun k : Nat => .int (lo - (k : Int))
/-- range(i, j, -1) -/
def iR3 (f : FA) : FA := fun ρ P => f ρ fun ds ρ1 => match ds with
  | [.int i, .int j, .int c] => c = -1 ∧ (-(2 ^ 62) ≤ i ∧ i < 2 ^ 62 ∧ -(2 ^ 62) ≤ j ∧ j < 2 ^ 62) ∧ P (downD i (i - j).toNat) ρ1
  | _ => False
theorem ri_rng3 {ta : TA} {f : FA} (h : RA K J ta f) : RI K J (iRng3 ta) (iR3 f) := by
  intro O as σ H R ρ P E q k
  refine h O as σ H _ ρ _ E q fun ds ρ1 vs H1 q1 f1 E1 d1 => ?_
  split at q1
  · next i j c =>
    cases d1 with
    | cons a b => cases a; cases b with
      | cons a b => cases a; cases b with
        | cons a b =>
          cases a; cases b
          obtain ⟨rfl, ⟨b1, b2, b3, b4⟩, q1⟩ := q1
          refine ⟨_, _, _, _, rfl, RgC.neg b1 b2 b3 b4, k _ _ _ _ q1 f1 E1 ?_⟩
          refine ⟨_, _, by rw [downD, List.length_map, List.length_range]; exact walk_rangeC (lo := i) (c := -1) (n := (i - j).toNat), fun _ _ _ => trivial, fun l d A' H2 x H3 hd s2 oc y => ?_⟩
          obtain ⟨rfl, rfl⟩ := y
          rw [downD, List.getElem?_map] at hd
          have hi : l < (i - j).toNat := by
            by_cases h : l < (i - j).toNat
            · exact h
            · rw [List.getElem?_eq_none (by rw [List.length_range]; omega)] at hd; cases hd
          rw [List.getElem?_range hi] at hd
          cases hd
          refine ⟨Same.refl _, ?_⟩
          dsimp only
          rw [show i + (l : Int) * -1 = i - (l : Int) by omega]
          exact .int _
  · exact q1.elim
theorem yPair {A A' : Addr → Prop} {H H1 H2 : Hp} {T : Addr} {x y : V} {a b : PyData} (hT : H1 T = none) (e : H2 = upd H1 T (.tup [x, y])) (oc : ∀ c, A' c → H1 c ≠ none) (hx : Dq K (hp A' H1) x a) (hy : Dq K (hp A' H1) y b) :
    Same H1 H2 ∧ Dq K (hp A' H2) (.ref T) (.tuple [a, b]) := by
  subst e
  have s := Same.new (o := .tup [x, y]) hT
  exact ⟨s, .tup (SqT.of (hp_mk (fun q => oc _ q hT) upd_same)) (.cons (hx.mono (hp_grow s)) (.cons (hy.mono (hp_grow s)) .nil))⟩
def enumD (ds : List PyData) : List PyData := ds.zipIdx.map fun z => .tuple [.int (z.2 : Nat), z.1]
def iE (f : FA) : FA := fun ρ P => f ρ fun ds ρ1 => match ds with
  | [.list es] => P (enumD es) ρ1
  | _ => False
theorem ri_enum {ta : TA} {f : FA} (h : RA K J ta f) : RI K J (iEnum K ta) (iE f) := by
  intro O as σ H R ρ P E q k
  refine h O as σ H _ ρ _ E q fun ds ρ1 vs H1 q1 f1 E1 d1 => ?_
  split at q1
  · next es =>
    cases d1 with
    | cons d1 b =>
      cases b
      obtain ⟨a, xs, rfl, s, r⟩ := d1.list_of
      refine ⟨a, xs, rfl, SqL.mono hp_same s, k _ _ _ _ q1 f1 E1 ?_⟩
      refine ⟨_, _, by rw [enumD, List.length_map, List.length_zipIdx, ← r.length]; exact walk_enum (xs := xs), fun A' H2 s2 => SqL.mono hp_same (SqL.mono s2 s), fun i d A' H2 x H3 hd s2 oc y => ?_⟩
      obtain ⟨T, x1, y1, rfl, hT, e, e1, e2⟩ := y
      cases e1
      obtain ⟨d', e', q'⟩ := r.get e2
      rw [enumD, List.getElem?_map, List.getElem?_zipIdx, e'] at hd
      simp only [Option.map_some, Nat.zero_add] at hd
      cases hd
      exact yPair (A := fun _ => False) (H := H) hT e oc (.int _) (q'.mono s2)
  · exact q1.elim
def zipD (a b : List PyData) : List PyData := (a.zip b).map fun z => .tuple [z.1, z.2]
def iZ (f : FA) : FA := fun ρ P => f ρ fun ds ρ1 => match ds with
  | [.list es, .list gs] => P (zipD es gs) ρ1
  | [.tuple es, .tuple gs] => P (zipD es gs) ρ1
  | _ => False
theorem zipD_get {es gs : List PyData} {i : Nat} {d d1 d2 : PyData} (h : (zipD es gs)[i]? = some d) (h1 : es[i]? = some d1) (h2 : gs[i]? = some d2) : d = .tuple [d1, d2] := by
  rw [zipD, List.getElem?_map, (List.getElem?_zip_eq_some (z := (d1, d2))).mpr ⟨h1, h2⟩] at h
  cases h
  rfl
theorem zipD_len {es gs : List PyData} : (zipD es gs).length = min es.length gs.length := by rw [zipD, List.length_map, List.length_zip]
theorem ri_zip {ta : TA} {f : FA} (h : RA K J ta f) : RI K J (RZ.iZipA K ta) (iZ f) := by
  intro O as σ H R ρ P E q k
  refine h O as σ H _ ρ _ E q fun ds ρ1 vs H1 q1 f1 E1 d1 => ?_
  split at q1
  · next es gs =>
    cases d1 with
    | cons d1 b => cases b with
      | cons d2 b =>
        cases b
        obtain ⟨a, xs, rfl, s, r⟩ := d1.list_of
        obtain ⟨a', xs', rfl, s', r'⟩ := d2.list_of
        refine ⟨a, a', xs, xs', rfl, .inl ⟨SqL.mono hp_same s, SqL.mono hp_same s', k _ _ _ _ q1 f1 E1 ?_⟩⟩
        refine ⟨_, _, walk_zip (xs := xs) (ys := xs') (n := (zipD es gs).length) (by rw [zipD_len, ← r.length, ← r'.length]), fun A' H2 s2 => ⟨SqL.mono hp_same (SqL.mono s2 s), SqL.mono hp_same (SqL.mono s2 s')⟩, fun i d A' H2 x H3 hd s2 oc y => ?_⟩
        obtain ⟨T, x1, y1, rfl, hT, e, e1, e2⟩ := y
        obtain ⟨c1, g1, q1'⟩ := r.get e1
        obtain ⟨c2, g2, q2'⟩ := r'.get e2
        rw [zipD_get hd g1 g2]
        exact yPair (A := fun _ => False) (H := H) hT e oc (q1'.mono s2) (q2'.mono s2)
  · next es gs =>
    cases d1 with
    | cons d1 b => cases b with
      | cons d2 b =>
        cases b
        obtain ⟨a, xs, rfl, s, r⟩ := d1.tuple_of
        obtain ⟨a', xs', rfl, s', r'⟩ := d2.tuple_of
        refine ⟨a, a', xs, xs', rfl, .inr ⟨SqT.mono hp_same s, SqT.mono hp_same s', k _ _ _ _ q1 f1 E1 ?_⟩⟩
        refine ⟨_, _, walk_zipT (xs := xs) (ys := xs') (n := (zipD es gs).length) (by rw [zipD_len, ← r.length, ← r'.length]), fun A' H2 s2 => ⟨SqT.mono hp_same (SqT.mono s2 s), SqT.mono hp_same (SqT.mono s2 s')⟩, fun i d A' H2 x H3 hd s2 oc y => ?_⟩
        obtain ⟨T, x1, y1, rfl, hT, e, e1, e2⟩ := y
        obtain ⟨c1, g1, q1'⟩ := r.get e1
        obtain ⟨c2, g2, q2'⟩ := r'.get e2
        rw [zipD_get hd g1 g2]
        exact yPair (A := fun _ => False) (H := H) hT e oc (q1'.mono s2) (q2'.mono s2)
  · exact q1.elim
/-! for, while -/
/-- slots forgotten -/
def fgt (ρ : En) : List Nat → En
  | [] => ρ
  | v :: vs => fgt (if slotL ρ v then ρ.set v .no else ρ) vs
theorem EnR.forget1 {O : Addr → Prop} {as : As} {H : Hs} {ρ : En} {σ : L2.St} {v : Nat} (R : EnR K J O as H ρ σ) (hv : n ≤ v) : ∃ as', Ext n as as' H H ∧ EnR K J O as' H (if slotL ρ v then ρ.set v .no else ρ) σ := by
  have self : ∀ {ρ : En} {as : As}, EnR K J O as H ρ σ → slotF ρ v = true → EnR K J O as H (ρ.set v .no) σ := fun {ρ as} R h => by
    obtain ⟨sl, e, _, ns⟩ := slotF_of h
    obtain ⟨o, eo, _⟩ := R.at' e ns
    have := R.setNo h o
    rw [show σ.set v o = σ from by
      refine List.ext_getElem? fun j => ?_
      rw [List.getElem?_set]
      by_cases z : v = j
      · subst z
        rw [if_pos rfl, eo, if_pos (List.getElem?_eq_some_iff.mp eo).1]
      · rw [if_neg z]] at this
    exact this
  cases e : ρ[v]? with
  | none =>
    rw [if_neg (by unfold slotL; rw [e]; exact Bool.false_ne_true)]
    exact ⟨as, .refl, R⟩
  | some sl =>
    by_cases st : ∃ S, sl = .st S
    · obtain ⟨S, rfl⟩ := st
      rw [if_neg (by unfold slotL; rw [e]; exact Bool.false_ne_true)]
      exact ⟨as, .refl, R⟩
    have ns : ∀ S, sl ≠ .st S := fun S z => st ⟨S, z⟩
    rw [if_pos (by
      unfold slotL
      rw [e]
      cases sl with
      | st S => exact absurd rfl (ns S)
      | _ => rfl)]
    cases sl with
    | no => exact ⟨as, .refl, self R (by unfold slotF; rw [e])⟩
    | fz d => exact ⟨as, .refl, self R (by unfold slotF; rw [e])⟩
    | own ds =>
      obtain ⟨o, eo, _⟩ := R.at' e ns
      exact ⟨_, Ext.go hv (R.nst_at (R.lt e ns)), R.letGo hv eo .no⟩
    | st S => exact absurd rfl (ns S)
theorem EnR.forget {O : Addr → Prop} {H : Hs} {σ : L2.St} : ∀ (vs : List Nat) {as : As} {ρ : En}, EnR K J O as H ρ σ → (∀ v ∈ vs, n ≤ v) → ∃ as', Ext n as as' H H ∧ EnR K J O as' H (fgt ρ vs) σ
  | [], as, ρ, R, _ => ⟨as, .refl, R⟩
  | v :: vs, as, ρ, R, h => by
    obtain ⟨a1, x1, R1⟩ := R.forget1 (h v (List.mem_cons_self ..))
    obtain ⟨a2, x2, R2⟩ := EnR.forget vs R1 (fun u hu => h u (List.mem_cons_of_mem _ hu))
    exact ⟨a2, x1.trans x2, R2⟩
/-- a loop over data from now on; the slots us are forgotten at each turn's end -/
def forW (us : List Nat) (ds : List PyData) (g : FG) (b : FS) (E : FEnds) (ρ : En) : Prop := ∃ W : Nat → En → Prop, W 0 (fgt ρ us) ∧ (∀ i d ρ2, ds[i]? = some d → W i ρ2 → g d ρ2 fun ρ3 => b { E with nx := fun ρ4 => W (i + 1) (fgt ρ4 us), ct := fun ρ4 => W (i + 1) (fgt ρ4 us), bk := E.nx } ρ3) ∧ ∀ ρ2, W ds.length ρ2 → E.nx ρ2
def fFor (us : List Nat) (fi : FA) (g : FG) (b : FS) : FS := fun E ρ => fi ρ fun ds ρ1 => forW us ds g b E ρ1
theorem rs_for {us ws : List Nat} {wi : TI} {g : TG} {tb : TS} {fi : FA} {fg : FG} {b : FS} (hu : ∀ u ∈ us, n ≤ u) (hi : RI K J wi fi) (hg : RG K J ws g fg) (hb : RS K J tb b) : RS K J (tFor wi g tb) (fFor us fi fg b) := by
  intro O as σ H D ρ E R f C
  refine hi O as σ H _ ρ _ R f fun ds ρ1 I H1 q1 f1 E1 it => ?_
  obtain ⟨W, w0, ws', we⟩ := q1
  obtain ⟨G, Y, wk, hG, hY⟩ := it
  have C1 := C.ext (.of f1)
  obtain ⟨a0, x0, R0⟩ := E1.forget us hu
  refine for_it wk (fun i σ' H' => ∃ S' as' ρ', Ext n as as' H1 ⟨H', S'⟩ ∧ EnR K J O as' ⟨H', S'⟩ ρ' σ' ∧ W i ρ') ⟨_, a0, _, x0, R0, w0⟩ (fun i σ' H' _ ⟨S', as', ρ', x, _, _⟩ => hG (Hid O as' ⟨H', S'⟩) _ x.same) ?_ ?_
  · rintro i x σ2 H2' H3 hi' ⟨S2, as', ρ', x2, E2, w⟩ y
    obtain ⟨H2, hH2⟩ : ∃ H2 : Hs, H2 = ⟨H2', S2⟩ := ⟨_, rfl⟩
    rw [← hH2] at x2 E2
    have y' := y
    rw [show H2' = H2.hp from by rw [hH2]] at y
    obtain ⟨s3, d3⟩ := hY i _ (Hid O as' H2) H2 x H3 (List.getElem?_eq_getElem hi') x2.same (fun c h => E2.full h) y
    have x3 : Ext n as' as' H2 (H2.w H3) := .of (E2.frS s3)
    refine hg O as' σ2 (H2.w H3) _ ρ' _ x _ (E2.grow s3) (d3.mono (E2.toS s3)) (ws' i _ ρ' (List.getElem?_eq_getElem hi') w) fun ρ4 σ4 H4 p4 f4 E4 _ => ?_
    have x4 := (x2.trans x3).trans (Ext.of (n := n) f4)
    have C4 := C1.ext x4
    have fin : ∀ ρ5 as5 σ5 H5, W (i + 1) (fgt ρ5 us) → Ext n as' as5 H4 H5 → EnR K J O as5 H5 ρ5 σ5 → ∃ S' as' ρ', Ext n as as' H1 ⟨H5.hp, S'⟩ ∧ EnR K J O as' ⟨H5.hp, S'⟩ ρ' σ5 ∧ W (i + 1) ρ' := fun ρ5 as5 σ5 H5 p5 x5 E5 => by
      obtain ⟨a6, x6, R6⟩ := E5.forget us hu
      exact ⟨H5.st, a6, _, (x4.trans x5).trans x6, R6, p5⟩
    refine hb O as' σ4 H4 _ ρ4 _ E4 p4 ⟨fin, C4.rt, C4.nx, fin, C4.ro⟩
  · rintro σ2 H2 ⟨S2, as', ρ', x2, E2, w⟩
    exact C1.nx _ _ _ _ (we _ w) x2 E2
def whileW (us : List Nat) (c : FT) (b : FS) (E : FEnds) (ρ : En) : Prop := ∃ W : Nat → En → Prop, (∃ m, W m (fgt ρ us)) ∧ ∀ m ρ1, W m ρ1 → c ρ1 fun k ρ2 => if k = true then b { E with nx := fun ρ' => ∃ m', m' < m ∧ W m' (fgt ρ' us), ct := fun ρ' => ∃ m', m' < m ∧ W m' (fgt ρ' us), bk := E.nx } ρ2 else E.nx ρ2
def fWhile (us : List Nat) (c : FT) (b : FS) : FS := fun E ρ => whileW us c b E ρ
theorem rs_while {us : List Nat} {c : TT} {tb : TS} {fc : FT} {b : FS} (hu : ∀ u ∈ us, n ≤ u) (hc : RT K J c fc) (hb : RS K J tb b) : RS K J (tWhile c tb) (fWhile us fc b) := by
  intro O as σ H D ρ E R f C
  obtain ⟨W, ⟨m0, w0⟩, st⟩ := f
  obtain ⟨a0, x0, R0⟩ := R.forget us hu
  refine ⟨fun m σ' H' => ∃ S' as' ρ', Ext n as as' H ⟨H', S'⟩ ∧ EnR K J O as' ⟨H', S'⟩ ρ' σ' ∧ W m ρ', ⟨m0, _, a0, _, x0, R0, w0⟩, ?_⟩
  rintro m σ1 H1' ⟨S1, as1, ρ1, x1, E1, w⟩
  refine hc O as1 σ1 ⟨H1', S1⟩ _ ρ1 _ E1 (st m ρ1 w) fun k ρ2 H2 q2 f2 E2 => ?_
  have x2 := x1.trans (Ext.of (n := n) f2)
  cases k
  · exact C.nx _ _ _ _ q2 x2 E2
  · refine ⟨fun σ' H' => ∃ m', m' < m ∧ ∃ S' as' ρ', Ext n as as' H ⟨H', S'⟩ ∧ EnR K J O as' ⟨H', S'⟩ ρ' σ' ∧ W m' ρ', fun σ' H' h => h, ?_⟩
    have C2 := C.ext x2
    have fin : ∀ ρ5 as5 σ5 H5, (∃ m', m' < m ∧ W m' (fgt ρ5 us)) → Ext n as1 as5 H2 H5 → EnR K J O as5 H5 ρ5 σ5 → ∃ m', m' < m ∧ ∃ S' as' ρ', Ext n as as' H ⟨H5.hp, S'⟩ ∧ EnR K J O as' ⟨H5.hp, S'⟩ ρ' σ5 ∧ W m' ρ' := fun ρ5 as5 σ5 H5 ⟨m', hm, p5⟩ x5 E5 => by
      obtain ⟨a6, x6, R6⟩ := E5.forget us hu
      exact ⟨m', hm, H5.st, a6, _, (x2.trans x5).trans x6, R6, p5⟩
    exact hb O as1 σ1 H2 _ ρ2 _ E2 q2 ⟨fin, C2.rt, C2.nx, fin, C2.ro⟩
/-! comprehensions -/
def wipeF (ρ : En) : List Nat → En
  | [] => ρ
  | v :: vs => (wipeF ρ vs).set v .no
theorem wipe_at (σ : L2.St) (j : Nat) : ∀ vs : List Nat, (wipe σ vs)[j]? = if j ∈ vs ∧ j < σ.length then some none else σ[j]?
  | [] => by simp [wipe]
  | v :: vs => by
    rw [wipe, List.getElem?_set, wipe_length, wipe_at σ j vs]
    by_cases e : v = j
    · subst e
      by_cases h : v < σ.length
      · simp [h]
      · simp [h]
    · rw [if_neg e]
      simp [show ¬ j = v from fun z => e z.symm]
theorem wipe_eq {σ σ' : L2.St} {vs : List Nat} (hl : σ'.length = σ.length) (h : ∀ j, j ∉ vs → σ'[j]? = σ[j]?) : wipe σ' vs = wipe σ vs := by
  refine List.ext_getElem? fun j => ?_
  rw [wipe_at, wipe_at, hl]
  by_cases q : j ∈ vs
  · by_cases z : j < σ.length
    · rw [if_pos ⟨q, z⟩, if_pos ⟨q, z⟩]
    · rw [if_neg (fun w => z w.2), if_neg (fun w => z w.2), List.getElem?_eq_none (by omega), List.getElem?_eq_none (by omega)]
  · rw [if_neg (fun w => q w.1), if_neg (fun w => q w.1)]
    exact h j q
theorem slotF_set {ρ : En} {i j : Nat} (h : slotF ρ j = true) : slotF (ρ.set i .no) j = true := by
  obtain ⟨sl, q, _⟩ := slotF_of h
  have hj : j < ρ.length := (List.getElem?_eq_some_iff.mp q).1
  unfold slotF at *
  rw [List.getElem?_set]
  by_cases e : i = j
  · subst e
    simp [hj]
  · rw [if_neg e]
    exact h
theorem EnR.wipes {O : Addr → Prop} {as : As} {H : Hs} {ρ : En} {σ : L2.St} (E : EnR K J O as H ρ σ) : ∀ vs : List Nat, vs.all (slotF ρ) = true → EnR K J O as H (wipeF ρ vs) (wipe σ vs) ∧ ∀ j, slotF ρ j = true → slotF (wipeF ρ vs) j = true
  | [], _ => ⟨E, fun _ h => h⟩
  | v :: vs, h => by
    have h' : (slotF ρ v && vs.all (slotF ρ)) = true := h
    rw [Bool.and_eq_true] at h'
    obtain ⟨E1, k⟩ := EnR.wipes E vs h'.2
    exact ⟨E1.setNo (k v h'.1) none, fun j hj => slotF_set (k j hj)⟩
theorem wipeF_len (ρ : En) : ∀ vs : List Nat, (wipeF ρ vs).length = ρ.length
  | [] => rfl
  | v :: vs => by rw [wipeF, List.length_set, wipeF_len ρ vs]
theorem wipeF_at (ρ : En) (j : Nat) : ∀ vs : List Nat, (wipeF ρ vs)[j]? = if j ∈ vs ∧ j < ρ.length then some .no else ρ[j]?
  | [] => by simp [wipeF]
  | v :: vs => by
    rw [wipeF, List.getElem?_set, wipeF_len, wipeF_at ρ j vs]
    by_cases e : v = j
    · subst e
      by_cases h : v < ρ.length
      · simp [h]
      · simp [h]
    · rw [if_neg e]
      simp [show ¬ j = v from fun z => e z.symm]
/-- slots that are known of nothing may hold anything -/
theorem EnR.unwipe {O : Addr → Prop} {as : As} {H : Hs} {ρ : En} {σ σ' : L2.St} {vs : List Nat} (E : EnR K J O as H (wipeF ρ vs) (wipe σ vs)) (h : ∀ j, j ∈ vs → as j = none) (hl : σ'.length = σ.length) (h' : ∀ j, j ∉ vs → σ'[j]? = σ[j]?) :
    EnR K J O as H (wipeF ρ vs) σ' := by
  have L := E.len
  rw [wipeF_len, wipe_length] at L
  refine ⟨by rw [wipeF_len, hl]; exact L, fun j sl h1 h2 => E.tl j sl h1 (by rw [wipe_length, ← hl]; exact h2), fun j sl o h1 h2 => ?_, fun j h => by rw [hl, ← wipe_length σ vs]; exact E.sto j h, E.inj, E.out, E.bnd, E.occ, E.inv, E.inq, E.tab⟩
  by_cases q : j ∈ vs
  · rw [wipeF_at] at h1
    have hj : j < ρ.length := by
      have := (List.getElem?_eq_some_iff.mp h2).1
      omega
    rw [if_pos ⟨q, hj⟩] at h1
    cases h1
    rw [h j q]
    exact .no
  · refine E.at_ j sl o h1 ?_
    rw [wipe_at, if_neg (fun w => q w.1), ← h' j q]
    exact h2
/-- since a state in which nothing was at D -/
def Jv.hide {n : Nat} (J : Jv n) (D : Addr) : Jv n := ⟨fun as H => ∃ as0 H0, J.P as0 H0 ∧ H0 D = none ∧ Ext n as0 as H0 H, fun as as' H H' p x => by
  obtain ⟨a0, H0, h1, h2, h3⟩ := p
  exact ⟨a0, H0, h1, h2, h3.trans x⟩, J.Q, J.up⟩
theorem Jv.hide_le {n : Nat} {J : Jv n} {D : Addr} : (J.hide D).le J := ⟨fun _ _ ⟨_, _, h, _, x⟩ => J.cl _ _ _ _ h x, fun _ h => h⟩
theorem Jv.hide_new {n : Nat} {J : Jv n} {D : Addr} {as : As} {H H' : Hs} (h : J.P as H) (e : H D = none) (f : Fr as H H') : (J.hide D).P as H' := ⟨as, H, h, e, .of f⟩
theorem Ext.putN {n : Nat} {as as' : As} {H H' : Hs} {D : Addr} {o : HO} (x : Ext n as as' H H') (e : H D = none) (st : Stay as' H' (H'.w (upd H' D o))) : Ext n as as' H (H'.w (upd H' D o)) :=
  ⟨fun a u na h => by show upd H' D o a = _; rw [upd_ne (ne_of_none h e)]; exact x.fr a u na h, fun a h => x.new a (st.own.mp h), x.fix, fun a h => liv_upd _ a (x.liv a h), x.ks, x.nst⟩
theorem Fr.putN {as : As} {H H' : Hs} {D : Addr} {o : HO} (x : Fr as H H') (e : H D = none) (st : Stay as H' (H'.w (upd H' D o))) : Fr as H (H'.w (upd H' D o)) := by
  have y := (Ext.of (n := 0) x).putN e st
  exact ⟨y.fr, y.new, y.liv, y.nst⟩
theorem EnR.stayO {O : Addr → Prop} {as : As} {H : Hs} {ρ : En} {σ : L2.St} {D : Addr} {o : HO} (E : EnR K J O as H ρ σ) (h : O D) : Stay as H (H.w (upd H D o)) := ⟨fun i r b e q => upd_ne fun z => E.out i r b e q (by rw [z]; exact h), rfl⟩
theorem Jv.hide_put {n : Nat} {J : Jv n} {D : Addr} {as : As} {H : Hs} {o : HO} (h : (J.hide D).P as H) (st : Stay as H (H.w (upd H D o))) : (J.hide D).P as (H.w (upd H D o)) := by
  obtain ⟨a0, H0, h1, h2, h3⟩ := h
  exact ⟨a0, H0, h1, h2, h3.putN h2 st⟩
def lcW (ds : List PyData) (g : FG) (ft : FT) (fe : FE) (vs : List Nat) (ρ : En) (P : List PyData → En → Prop) : Prop := vs.all (slotF ρ) = true ∧ ∃ W : Nat → List PyData → En → Prop, W 0 [] (wipeF ρ vs) ∧
  (∀ i d acc ρ2, ds[i]? = some d → W i acc ρ2 → g d ρ2 fun ρ3 => ft ρ3 fun b ρ4 => if b = true then fe ρ4 fun y ρ5 => acc.length < sizeLine ∧ vs.all (slotF ρ5) = true ∧ W (i + 1) (acc ++ [y]) (wipeF ρ5 vs) else vs.all (slotF ρ4) = true ∧ W (i + 1) acc (wipeF ρ4 vs)) ∧
  ∀ acc ρ2, W ds.length acc (wipeF ρ2 vs) → P acc (wipeF ρ2 vs)
def fLc (fi : FA) (g : FG) (ft : FT) (fe : FE) (vs : List Nat) : FA := fun ρ P => fi ρ fun ds ρ1 => lcW ds g ft fe vs ρ1 P
theorem rn_lc {ws vs : List Nat} {wi : TI} {g : TG} {tt : TT} {te : TE} {fi : FA} {fg : FG} {ft : FT} {fe : FE} (hw : ∀ j ∈ ws, j ∈ vs) (hi : RI K J wi fi) (hg : ∀ J' : Jv n, J'.le J → RG K J' ws g fg) (ht : ∀ J' : Jv n, J'.le J → RT K J' tt ft) (he : ∀ J' : Jv n, J'.le J → RE K J' te fe) : RN K J (tLc wi g tt te vs) (fLc fi fg ft fe vs) := by
  intro O as σ H Q ρ P E q k
  refine hi O as σ H _ ρ _ E q fun ds ρ1 I H1 q1 f1 E1 it => ?_
  obtain ⟨hv, W, w0, ws', we⟩ := q1
  obtain ⟨G, Y, wk, hG, hY⟩ := it
  intro D hD
  have hvn : ∀ j, j ∈ vs → as j = none := fun j hj => E1.none_of (List.all_eq_true.mp hv j hj)
  have sO : ∀ {H2 : Hs}, Fr as H1 H2 → Same (hq O as H1) (hq (plus O D) as H2) := fun f a o e => by
    obtain ⟨na, e⟩ := hp_some e
    refine hp_mk (fun z => ?_) (f.fr a o (fun z => na (.inr z)) e)
    rcases z with (z | z) | z
    · exact na (.inl z)
    · rw [z, hD] at e; cases e
    · rcases f.new a z with z | z
      · exact na (.inr z)
      · rw [z] at e; cases e
  have hD0 : H D = none := by
    cases e : H D with
    | none => rfl
    | some o => exact absurd hD (f1.liv D (by rw [e]; exact Option.some_ne_none _))
  refine lc_it wk (fun i H2 => ∃ S2 acc ρ2 xs, Fr as H1 ⟨H2, S2⟩ ∧ EnR K (J.hide D) (plus O D) as ⟨H2, S2⟩ (wipeF ρ2 vs) (wipe σ vs) ∧ H2 D = some (.lst xs) ∧ DqAll K (hq (plus O D) as ⟨H2, S2⟩) xs acc ∧ W i acc (wipeF ρ2 vs)) ?_ (fun i H2 _ ⟨S2, acc, ρ2, xs, f2, _⟩ => hG (Hid (plus O D) as ⟨H2, S2⟩) _ (sO f2)) ?_ ?_
  · exact ⟨_, [], ρ1, [], E1.frS (Same.new hD), (((E1.addO (o := .lst []) hD).1.reJ (Jv.hide_new E1.inv hD (E1.frS (Same.new hD))) (J.up _ _ (fun _ z => .inl z) E1.inq)).wipes vs hv).1, upd_same, .nil, w0⟩
  · rintro i x H2' H3 hi' ⟨S2, acc, ρ2, xs, f2, E2, hx, dx, w⟩ y
    obtain ⟨H2, hH2⟩ : ∃ H2 : Hs, H2 = ⟨H2', S2⟩ := ⟨_, rfl⟩
    rw [← hH2] at f2 E2 dx
    rw [show H2' = H2.hp from by rw [hH2]] at y hx
    obtain ⟨s3, d3⟩ := hY i _ (Hid (plus O D) as H2) H2 x H3 (List.getElem?_eq_getElem hi') (sO f2) (fun c h => E2.full h) y
    have E3 := E2.grow s3
    refine hg _ Jv.hide_le (plus O D) as _ (H2.w H3) _ _ _ x _ E3 (d3.mono (E2.toS s3)) (ws' i _ acc _ (List.getElem?_eq_getElem hi') w) fun ρ4 σ4 H4 p4 f4 E4 z4 => ?_
    have len4 : σ4.length = σ.length := by rw [z4.1, wipe_length]
    have z4' : ∀ j, j ∉ vs → σ4[j]? = σ[j]? := fun j hj => by
      rw [z4.2 j (fun z => hj (hw j z)), wipe_at, if_neg (fun w => hj w.1)]
    refine ⟨wipe_eq len4 z4', ?_⟩
    refine ht _ Jv.hide_le (plus O D) as σ4 H4 _ ρ4 _ E4 p4 fun b ρ5 H5 q5 f5 E5 => ?_
    cases b
    · obtain ⟨v5, w5⟩ := q5
      have E6 := ((E5.wipes vs v5).1)
      rw [wipe_eq len4 z4'] at E6
      have f35 := (E2.frS s3).trans (f4.trans f5)
      exact ⟨H5.st, acc, ρ5, xs, f2.trans f35, E6, f35.fr _ _ (E2.newp hx) hx, dx.fr f35, w5⟩
    · refine he _ Jv.hide_le (plus O D) as σ4 H5 _ ρ5 _ E5 q5 fun d ρ6 v H6 q6 f6 E6 d6 => ?_
      obtain ⟨l6, v6, w6⟩ := q6
      have f36 := (E2.frS s3).trans ((f4.trans f5).trans f6)
      have hx6 := f36.fr _ _ (E2.newp hx) hx
      have dx6 := dx.fr f36
      obtain ⟨E7, s7⟩ := E6.putO (p := D) (ys := xs ++ [v]) (.inr rfl) hx6 (Jv.hide_put E6.inv (E6.stayO (.inr rfl)))
      have E8 := ((E7.wipes vs v6).1)
      rw [wipe_eq len4 z4'] at E8
      refine ⟨xs, hx6, by rw [dx.length]; exact l6, H6.st, acc ++ [d], ρ6, xs ++ [v], (f2.trans f36).putN hD (E6.stayO (.inr rfl)), E8, upd_same, (dx6.mono s7).append (.cons (d6.mono s7) .nil), w6⟩
  · rintro H2 ⟨S2, acc, ρ2, xs, f2, E2, hx, dx, w⟩
    have E3 := (E2.unwipe hvn (σ' := σ) rfl fun j hj => rfl).reJ (Jv.hide_le.1 _ _ E2.inv) (Jv.hide_le.2 _ E2.inq)
    exact k _ _ _ _ _ (we acc ρ2 w) (f1.trans f2) (.inl hD0) E3 hx dx
end
end DL
/-! calls of defs, own lists, the def itself -/
namespace DL
open PySem L2 Z PySem.Spec PyProof.Rows
variable [Tbs]
section
variable {K : PySem.W.Frag} {n : Nat} {J : Jv n}
/-- how a slot's own stands -/
def RgR (K : PySem.W.Frag) (G : Hp) (H : Hs) : Rg → Sl → Prop
  | .lf a, sl => SlR K G H.hp (some (.lf a)) sl (some (.ref a))
  | .sto, sl => sl = .st H.st ∧ StoR K G H.hp H.st
theorem RgR.mono {G G' : Hp} {H : Hs} (s : Same G G') {r : Rg} {sl : Sl} (h : RgR K G H r sl) : RgR K G' H r sl := by
  cases r with
  | lf a => exact SlR.mono s (fun _ _ => rfl) h
  | sto => exact ⟨h.1, h.2.move s fun _ _ => rfl⟩
theorem RgR.nod {G : Hp} {H : Hs} {r : Rg} {sl : Sl} (h : RgR K G H r sl) {b : Addr} (q : Rgn H r b) : Nod H.hp b := by
  cases r with
  | lf a =>
    cases h with
    | own e _ => rw [q.lf_of]; exact ⟨_, e, fun _ z => by cases z⟩
  | sto =>
    obtain ⟨o, e⟩ := Option.ne_none_iff_exists'.mp (show H.st b ≠ none from q)
    obtain ⟨u, e1, q1⟩ := h.2 b o e
    exact ⟨u, e1, q1.ntb⟩
/-- what comes back of what slots own -/
structure Bk (K : PySem.W.Frag) (O : Addr → Prop) (as : As) (H : Hs) (out : List Sl) : Prop where
  tab : TabsOk H.hp
  at_ : ∀ (i : Nat) (r : Rg), as i = some r → ∃ sl, out[i]? = some sl ∧ RgR K (hq O as H) H r sl
  inj : ∀ (i j : Nat) (r r' : Rg) (b : Addr), as i = some r → as j = some r' → Rgn H r b → Rgn H r' b → i = j
  out : ∀ (i : Nat) (r : Rg) (b : Addr), as i = some r → Rgn H r b → ¬ O b
theorem EnR.reg_at {O : Addr → Prop} {as : As} {H : Hs} {ρ : En} {σ : L2.St} (E : EnR K J O as H ρ σ) {i : Nat} {r : Rg} (h : as i = some r) : ∃ sl, ρ[i]? = some sl ∧ RgR K (hq O as H) H r sl := by
  rcases E.is_reg h with ⟨a, ds, xs, rfl, e1, _, e2, e3⟩ | ⟨rfl, _, e1, e2⟩
  · exact ⟨_, e1, .own e2 e3⟩
  · exact ⟨_, e1, rfl, e2⟩
/-- the store's slot, told by how many slots are ahead -/
def shA (as : As) (m N : Nat) : As := fun i => if i < m then as i else if i = N then as m else none
/-- what the parameters own, behind a run -/
theorem EnR.back {n' : Nat} {J' : Jv n'} {O : Addr → Prop} {as as' : As} {H' : Hs} {ρ' : En} {σ' : L2.St} {m N : Nat} (R : EnR K J' O as' H' ρ' σ') (hm : m ≤ N) (hb : ∀ i r, as i = some r → (i < m ∧ r ≠ .sto) ∨ (i = m ∧ r = .sto)) (hx : ∀ i, i < m → as' i = as i) (ks : as' N = some .sto ↔ as m = some .sto) : Bk K O as H' (ρ'.take m ++ ρ'.drop N) ∧ Same (hq O as' H') (hq O as H') := by
  have up : ∀ i r, as i = some r → ∃ j, as' j = some r ∧ ((i < m ∧ j = i) ∨ (i = m ∧ j = N)) := fun i r h => by
    rcases hb i r h with ⟨z, _⟩ | ⟨z, e⟩
    · exact ⟨i, by rw [hx i z]; exact h, .inl ⟨z, rfl⟩⟩
    · subst z; subst e
      exact ⟨N, ks.mpr h, .inr ⟨rfl, rfl⟩⟩
  have s : Same (hq O as' H') (hq O as H') := hp_less fun c hc => by
    rcases hc with hc | ⟨j, r, hc, q⟩ | hc
    · exact .inl hc
    · obtain ⟨j', e, _⟩ := up j r hc
      exact .inr (.inl ⟨j', r, e, q⟩)
    · exact .inr (.inr hc)
  refine ⟨⟨R.tab, fun i r h => ?_, fun i j r r' b h1 h2 q1 q2 => ?_, fun i r b h => ?_⟩, s⟩
  · obtain ⟨j, e, z⟩ := up i r h
    obtain ⟨sl, e1, e3⟩ := R.reg_at e
    refine ⟨sl, ?_, e3.mono s⟩
    have hj := (List.getElem?_eq_some_iff.mp e1).1
    rcases z with ⟨z, rfl⟩ | ⟨rfl, rfl⟩
    · rw [List.getElem?_append_left (by rw [List.length_take]; omega), List.getElem?_take, if_pos z]
      exact e1
    · rw [List.getElem?_append_right (by rw [List.length_take]; omega), List.length_take, Nat.min_eq_left (by omega), Nat.sub_self, List.getElem?_drop]
      exact e1
  · obtain ⟨i', e1, z1⟩ := up i r h1
    obtain ⟨j', e2, z2⟩ := up j r' h2
    have := R.inj i' j' r r' b e1 e2 q1 q2
    omega
  · obtain ⟨j, e, _⟩ := up i r h
    exact R.out j r b e
theorem Ext.frB {n N : Nat} {as as' : As} {H H' : Hs} (x : Ext n (shA as n N) as' H H') (hb : ∀ i r, as i = some r → (i < n ∧ r ≠ .sto) ∨ (i = n ∧ r = .sto)) (hN : n ≤ N) : Fr as H H' := by
  have own : ∀ a, Own (shA as n N) H a ↔ Own as H a := fun a => by
    constructor
    · rintro (⟨j, r, hc, q⟩ | hc)
      · unfold shA at hc
        split at hc
        · exact .inl ⟨j, r, hc, q⟩
        · split at hc
          · exact .inl ⟨n, r, hc, q⟩
          · cases hc
      · exact .inr hc
    · rintro (⟨j, r, hc, q⟩ | hc)
      · rcases hb j r hc with ⟨z, _⟩ | ⟨z, _⟩
        · exact .inl ⟨j, r, by unfold shA; rw [if_pos z]; exact hc, q⟩
        · exact .inl ⟨N, r, by unfold shA; rw [if_neg (by omega), if_pos rfl, ← z]; exact hc, q⟩
      · exact .inr hc
  have sh : ∀ j, shA as n N j = some .sto → ∃ i, as i = some .sto := fun j hj => by
    unfold shA at hj
    split at hj
    · exact ⟨_, hj⟩
    · split at hj
      · exact ⟨_, hj⟩
      · cases hj
  refine ⟨fun a o h e => x.fr a o (fun z => h ((own a).mp z)) e, fun a h => ?_, x.liv, fun h => x.nst fun j hj => (sh j hj).elim fun i z => h i z⟩
  refine (x.new a ?_).imp (own a).mp id
  rcases h with ⟨j, r, hc, q⟩ | hc
  · rcases hb j r hc with ⟨z, _⟩ | ⟨z, e⟩
    · exact .inl ⟨j, r, by rw [x.fix j z]; unfold shA; rw [if_pos z]; exact hc, q⟩
    · subst e
      exact .inl ⟨N, .sto, by rw [x.ks N]; unfold shA; rw [if_neg (by omega), if_pos rfl, ← z]; exact hc, q⟩
  · exact .inr hc
/-- what a def keeps that hands back data; e: whether it is handed the store -/
def spG (K : PySem.W.Frag) (n e : Nat) (F : FN) : Sp := fun vs H Q _ => vs.length = n ∧ ∃ (O : Addr → Prop) (as : As) (S : Sto) (ρ : En) (P : PyData → List Sl → Prop), EnR K (J0 : Jv 0) O as ⟨H, S⟩ ρ (vs.map some) ∧ ρ.length = n + e ∧ F ρ P ∧
  ∀ d out v H', P d out → Fr as ⟨H, S⟩ H' → Bk K O as H' out → Dq K (hq O as H') v d → Q v H'
abbrev spF (K : PySem.W.Frag) (n : Nat) (F : FN) : Sp := spG K n 0 F
abbrev spS (K : PySem.W.Frag) (n : Nat) (F : FN) : Sp := spG K n 1 F
/-! arguments -/
def cNil : FC := fun ρ P => P [] ρ
def cDat (a : FE) (b : FC) : FC := fun ρ P => a ρ fun d ρ1 => b ρ1 fun xs ρ2 => P (.dat d :: xs) ρ2
def cOwn (i : Nat) (b : FC) : FC := fun ρ P => match ρ[i]? with
  | some (.own _) => b ρ fun xs ρ1 => P (.own i :: xs) ρ1
  | _ => False
theorem ArsR.fr {O : Addr → Prop} {as : As} {H H' : Hs} (f : Fr as H H') : ∀ {vs : List V} {xs : List Ar}, ArsR K (hq O as H) as vs xs → ArsR K (hq O as H') as vs xs
  | _, _, .nil => .nil
  | _, _, .cons (.dat q) r => .cons (.dat (q.fr f)) (ArsR.fr f r)
  | _, _, .cons (.own q) r => .cons (.own q) (ArsR.fr f r)
theorem rc_nil : RC K J tNil cNil := fun O as σ H Q ρ P E f k => k [] ρ [] H f (Fr.refl) E .nil
theorem rc_dat {ta : TE} {t : TA} {fa : FE} {f : FC} (ha : RE K J ta fa) (h : RC K J t f) : RC K J (tCons ta t) (cDat fa f) := by
  intro O as σ H Q ρ P E q k
  refine ha O as σ H _ ρ _ E q fun d ρ1 v H1 q1 f1 E1 d1 => ?_
  refine h O as σ H1 _ ρ1 _ E1 q1 fun ds ρ2 vs H2 q2 f2 E2 d2 => ?_
  exact k _ _ _ _ q2 (f1.trans f2) E2 (.cons (.dat (d1.fr f2)) d2)
theorem rc_own {i : Nat} {t : TA} {f : FC} (h : RC K J t f) : RC K J (tCons (tVar i) t) (cOwn i f) := by
  intro O as σ H Q ρ P E q k
  unfold cOwn at q
  split at q
  · next ds hs =>
    obtain ⟨a, xs, e1, e2, e3, e4⟩ := E.own_at hs
    refine ⟨_, e1, ?_⟩
    exact h O as σ H _ ρ _ E q fun ds ρ2 vs H2 q2 f2 E2 d2 => k _ _ _ _ q2 f2 E2 (.cons (.own e2) d2)
  · exact q.elim
def argF (ρ : En) : List Ar → (List Sl → Prop) → Prop
  | [], k => k []
  | .dat d :: xs, k => argF ρ xs fun r => k (.fz d :: r)
  | .own i :: xs, k => match ρ[i]? with
    | some (.own ds) => argF ρ xs fun r => k (.own ds :: r)
    | some (.st S) => argF ρ xs fun r => k (.st S :: r)
    | _ => False
def ownIx : List Ar → List Nat
  | [] => []
  | .dat _ :: xs => ownIx xs
  | .own i :: xs => i :: ownIx xs
/-- what comes back -/
def wb (ρ : En) : List Ar → List Sl → En
  | [], _ => ρ
  | .own i :: xs, r => (wb ρ xs r.tail).set i (r.headD .no)
  | .dat _ :: xs, r => wb ρ xs r.tail
def adrs (as : As) (xs : List Ar) : As := fun j => match xs[j]? with
  | some (.own i) => as i
  | _ => none
theorem adrs_own {as : As} {xs : List Ar} {j : Nat} {a : Rg} (h : adrs as xs j = some a) : ∃ i, xs[j]? = some (.own i) ∧ as i = some a := by
  unfold adrs at h
  split at h
  · next i e => exact ⟨i, e, h⟩
  · cases h
theorem ownIx_mem {i : Nat} : ∀ {xs : List Ar}, i ∈ ownIx xs → ∃ j : Nat, xs[j]? = some (Ar.own i)
  | .dat _ :: xs, h => by
    obtain ⟨j, e⟩ := ownIx_mem (xs := xs) h
    exact ⟨j + 1, e⟩
  | .own k :: xs, h => by
    rcases List.mem_cons.mp h with rfl | h
    · exact ⟨0, rfl⟩
    · obtain ⟨j, e⟩ := ownIx_mem (xs := xs) h
      exact ⟨j + 1, e⟩
theorem mem_ownIx {i : Nat} : ∀ {xs : List Ar} {j : Nat}, xs[j]? = some (.own i) → i ∈ ownIx xs
  | .dat _ :: xs, 0, h => by cases h
  | .dat _ :: xs, j + 1, h => mem_ownIx (xs := xs) (j := j) h
  | .own k :: xs, 0, h => by cases h; exact List.mem_cons_self ..
  | .own k :: xs, j + 1, h => List.mem_cons_of_mem _ (mem_ownIx (xs := xs) (j := j) h)
theorem ownIx_inj {i : Nat} : ∀ {xs : List Ar} {j k : Nat}, (ownIx xs).Nodup → xs[j]? = some (.own i) → xs[k]? = some (.own i) → j = k
  | [], _, _, _, h, _ => by cases h
  | .dat _ :: xs, 0, _, _, h, _ => by cases h
  | .dat _ :: xs, _ + 1, 0, _, _, h => by cases h
  | .dat _ :: xs, j + 1, k + 1, nd, h, h' => by rw [ownIx_inj (xs := xs) nd h h']
  | .own m :: xs, 0, 0, _, _, _ => rfl
  | .own m :: xs, 0, k + 1, nd, h, h' => by cases h; exact absurd (mem_ownIx (xs := xs) (j := k) h') (List.nodup_cons.mp nd).1
  | .own m :: xs, j + 1, 0, nd, h', h => by cases h; exact absurd (mem_ownIx (xs := xs) (j := j) h') (List.nodup_cons.mp nd).1
  | .own m :: xs, j + 1, k + 1, nd, h, h' => by rw [ownIx_inj (xs := xs) (List.nodup_cons.mp nd).2 h h']
theorem wb_len (ρ : En) : ∀ (xs : List Ar) (r : List Sl), (wb ρ xs r).length = ρ.length
  | [], _ => rfl
  | .own i :: xs, r => by rw [wb, List.length_set, wb_len ρ xs r.tail]
  | .dat _ :: xs, r => by rw [wb, wb_len ρ xs r.tail]
theorem wb_other (ρ : En) {i : Nat} : ∀ (xs : List Ar) (r : List Sl), i ∉ ownIx xs → (wb ρ xs r)[i]? = ρ[i]?
  | [], _, _ => rfl
  | .own k :: xs, r, h => by
    have h' := not_or.mp (fun q => h (List.mem_cons.mpr q))
    rw [wb, List.getElem?_set, if_neg (fun z => h'.1 z.symm), wb_other ρ xs r.tail h'.2]
  | .dat _ :: xs, r, h => by rw [wb, wb_other ρ xs r.tail h]
theorem wb_own (ρ : En) {i : Nat} {sl : Sl} (hi : i < ρ.length) : ∀ {xs : List Ar} {r : List Sl} {j : Nat}, (ownIx xs).Nodup → xs[j]? = some (.own i) → r[j]? = some sl → (wb ρ xs r)[i]? = some sl
  | [], _, _, _, h, _ => by cases h
  | _, [], _, _, _, h => by cases h
  | .dat _ :: xs, _, 0, _, h, _ => by cases h
  | .dat _ :: xs, _ :: r, j + 1, nd, h, h' => by rw [wb]; exact wb_own ρ hi (xs := xs) (r := r) (j := j) nd h h'
  | .own k :: xs, s :: r, 0, nd, h, h' => by
    cases h; cases h'
    rw [wb, List.getElem?_set, if_pos rfl, wb_len, if_pos hi]
    rfl
  | .own k :: xs, _ :: r, j + 1, nd, h, h' => by
    have nd' := List.nodup_cons.mp nd
    have hk : k ≠ i := fun z => nd'.1 (by rw [z]; exact mem_ownIx (xs := xs) (j := j) h)
    rw [wb, List.getElem?_set, if_neg hk]
    exact wb_own ρ hi (xs := xs) (r := r) (j := j) nd'.2 h h'
inductive Fits (ρ : En) : List Ar → List Sl → Prop
  | nil : Fits ρ [] []
  | dat {d : PyData} {xs : List Ar} {r : List Sl} : Fits ρ xs r → Fits ρ (.dat d :: xs) (.fz d :: r)
  | own {i : Nat} {ds : List PyData} {xs : List Ar} {r : List Sl} : ρ[i]? = some (.own ds) → Fits ρ xs r → Fits ρ (.own i :: xs) (.own ds :: r)
  | st {i : Nat} {S : Sto} {xs : List Ar} {r : List Sl} : ρ[i]? = some (.st S) → Fits ρ xs r → Fits ρ (.own i :: xs) (.st S :: r)
theorem argF_of {ρ : En} : ∀ {xs : List Ar} {k : List Sl → Prop}, argF ρ xs k → ∃ r, Fits ρ xs r ∧ k r
  | [], k, h => ⟨_, .nil, h⟩
  | .dat d :: xs, k, h => by
    obtain ⟨r, f, q⟩ := argF_of (xs := xs) h
    exact ⟨_, .dat f, q⟩
  | .own i :: xs, k, h => by
    unfold argF at h
    split at h
    · next ds e =>
      obtain ⟨r, f, q⟩ := argF_of (xs := xs) h
      exact ⟨_, .own e f, q⟩
    · next S e =>
      obtain ⟨r, f, q⟩ := argF_of (xs := xs) h
      exact ⟨_, .st e f, q⟩
    · exact h.elim
/-- arguments, behind them the store, or not -/
inductive ArsT (K : PySem.W.Frag) (G : Hp) (as : As) : List V → List Ar → Prop
  | nil : ArsT K G as [] []
  | cons {v : V} {vs : List V} {x : Ar} {xs : List Ar} : ArR K G as v x → ArsT K G as vs xs → ArsT K G as (v :: vs) (x :: xs)
  | sto {i : Nat} : as i = some .sto → ArsT K G as [] [.own i]
theorem ArsR.toT {G : Hp} {as : As} : ∀ {vs : List V} {xs : List Ar}, ArsR K G as vs xs → ArsT K G as vs xs
  | _, _, .nil => .nil
  | _, _, .cons a r => .cons a (ArsR.toT r)
theorem ArsR.snoc {G : Hp} {as : As} {i : Nat} (h : as i = some .sto) : ∀ {vs : List V} {xs : List Ar}, ArsR K G as vs xs → ArsT K G as vs (xs ++ [.own i])
  | _, _, .nil => .sto h
  | _, _, .cons a r => .cons a (ArsR.snoc h r)
/-- one argument's slot -/
theorem fits_at {O : Addr → Prop} {as : As} {H : Hs} {G : Hp} {ρ : En} {σ : L2.St} (E : EnR K J O as H ρ σ) (s : Same (hq O as H) G) : ∀ {xs : List Ar} {r : List Sl} {vs : List V} {j : Nat} {sl : Sl} {o : Option V}, Fits ρ xs r → ArsT K (hq O as H) as vs xs →
    r[j]? = some sl → (vs.map some)[j]? = some o → SlR K G H.hp (adrs as xs j) sl o
  | _, _, _, _, _, _, .nil, _, h, _ => by cases h
  | _, _, _, _, _, _, _, .sto q, h, h' => by cases h'
  | _, _, _, 0, _, _, .dat f, .cons (.dat q) _, h, h' => by cases h; cases h'; exact .fz (q.mono s)
  | _, _, _, 0, _, _, .own e f, .cons (.own q) _, h, h' => by
    cases h; cases h'
    obtain ⟨a, xs, e1, e2, e3, e4⟩ := E.own_at e
    rw [q] at e2
    cases e2
    show SlR K G H.hp (as _) _ _
    rw [q]
    exact .own e3 (e4.mono s)
  | _, _, _, 0, _, _, .st e f, .cons (.own q) _, h, h' => by
    have := (E.st_at e).1
    rw [q] at this
    cases this
  | _, _, _, j + 1, _, _, .st _ f, .cons _ r', h, h' => fits_at E s (j := j) f r' h h'
  | _, _, _, j + 1, _, _, .dat f, .cons _ r', h, h' => fits_at E s (j := j) f r' h h'
  | _, _, _, j + 1, _, _, .own _ f, .cons _ r', h, h' => fits_at E s (j := j) f r' h h'
theorem Fits.len {ρ : En} : ∀ {xs : List Ar} {r : List Sl}, Fits ρ xs r → r.length = xs.length
  | _, _, .nil => rfl
  | _, _, .dat f => by rw [List.length_cons, List.length_cons, Fits.len f]
  | _, _, .own _ f => by rw [List.length_cons, List.length_cons, Fits.len f]
  | _, _, .st _ f => by rw [List.length_cons, List.length_cons, Fits.len f]
theorem ArsT.len {G : Hp} {as : As} : ∀ {vs : List V} {xs : List Ar}, ArsT K G as vs xs → vs.length ≤ xs.length ∧ xs.length ≤ vs.length + 1
  | _, _, .nil => ⟨Nat.le_refl _, Nat.le_succ _⟩
  | _, _, .cons _ r => by
    have := ArsT.len r
    rw [List.length_cons, List.length_cons]
    omega
  | _, _, .sto _ => ⟨Nat.zero_le _, Nat.le_refl _⟩
theorem ArsR.len {G : Hp} {as : As} : ∀ {vs : List V} {xs : List Ar}, ArsR K G as vs xs → vs.length = xs.length
  | _, _, .nil => rfl
  | _, _, .cons _ r => by rw [List.length_cons, List.length_cons, ArsR.len r]
theorem ArsT.tl {G : Hp} {as : As} : ∀ {vs : List V} {xs : List Ar} {j : Nat}, ArsT K G as vs xs → j < xs.length → vs.length ≤ j → adrs as xs j = some .sto
  | _, _, _, .nil, h, _ => by cases h
  | _, _, 0, .cons _ r, _, h => by cases h
  | _, _, j + 1, .cons _ r, h, h' => ArsT.tl (j := j) r (Nat.lt_of_succ_lt_succ h) (Nat.le_of_succ_le_succ h')
  | _, _, 0, .sto q, _, _ => q
  | _, _, j + 1, .sto q, h, _ => by rw [List.length_singleton] at h; omega
theorem ArsT.at_sto {G : Hp} {as : As} : ∀ {vs : List V} {xs : List Ar} {j : Nat}, ArsT K G as vs xs → adrs as xs j = some .sto → j = vs.length
  | _, _, _, .nil, h => by cases h
  | _, _, 0, .cons (.dat _) r, h => by cases h
  | _, _, 0, .cons (.own q) r, h => by
    have h : as _ = some Rg.sto := h
    rw [q] at h; cases h
  | _, _, j + 1, .cons _ r, h => by rw [List.length_cons, ArsT.at_sto (j := j) r h]
  | _, _, 0, .sto q, _ => rfl
  | _, _, j + 1, .sto q, h => by cases h
def fCall (m : Nat) (F : FN) (dv : List PyData) (a : FC) : FE := fun ρ P => a ρ fun xs ρ1 => xs.length + dv.length = m ∧ (ownIx xs).Nodup ∧ argF ρ1 xs fun r => F (r ++ dv.map .fz) fun d out => P d (wb ρ1 xs out)
theorem dat_ars {G : Hp} {as : As} : ∀ {vs : List V} {ds : List PyData}, DqAll K G vs ds → ArsR K G as vs (ds.map .dat)
  | _, _, .nil => .nil
  | _, _, .cons a b => .cons (.dat a) (dat_ars b)
theorem fits_dat {ρ : En} : ∀ ds : List PyData, Fits ρ (ds.map .dat) (ds.map .fz)
  | [] => .nil
  | d :: r => .dat (fits_dat r)
theorem ArsR.app {G : Hp} {as : As} : ∀ {vs ws : List V} {xs ys : List Ar}, ArsR K G as vs xs → ArsR K G as ws ys → ArsR K G as (vs ++ ws) (xs ++ ys)
  | _, _, _, _, .nil, h => h
  | _, _, _, _, .cons a b, h => .cons a (ArsR.app b h)
theorem Fits.st_of {ρ : En} {i : Nat} {S : Sto} : ∀ {xs : List Ar} {r : List Sl} {j : Nat}, Fits ρ xs r → xs[j]? = some (.own i) → ρ[i]? = some (.st S) → r[j]? = some (.st S)
  | _, _, _, .nil, h, _ => by cases h
  | _, _, 0, .dat f, h, _ => by cases h
  | _, _, 0, .own e f, h, h' => by cases h; rw [e] at h'; cases h'
  | _, _, 0, .st e f, h, h' => by cases h; rw [e] at h'; cases h'; rfl
  | _, _, j + 1, .dat f, h, h' => Fits.st_of (j := j) f h h'
  | _, _, j + 1, .own _ f, h, h' => Fits.st_of (j := j) f h h'
  | _, _, j + 1, .st _ f, h, h' => Fits.st_of (j := j) f h h'
theorem Fits.app {ρ : En} : ∀ {xs ys : List Ar} {r s : List Sl}, Fits ρ xs r → Fits ρ ys s → Fits ρ (xs ++ ys) (r ++ s)
  | _, _, _, _, .nil, h => h
  | _, _, _, _, .dat f, h => .dat (Fits.app f h)
  | _, _, _, _, .own e f, h => .own e (Fits.app f h)
  | _, _, _, _, .st e f, h => .st e (Fits.app f h)
theorem ownIx_app : ∀ (xs : List Ar) (ds : List PyData), ownIx (xs ++ ds.map .dat) = ownIx xs
  | [], [] => rfl
  | [], d :: r => ownIx_app [] r
  | .dat _ :: xs, ds => ownIx_app xs ds
  | .own i :: xs, ds => by show i :: ownIx (xs ++ _) = _; rw [ownIx_app xs ds]; rfl
theorem wb_app (ρ : En) : ∀ (xs : List Ar) (ds : List PyData) (r : List Sl), wb ρ (xs ++ ds.map .dat) r = wb ρ xs r
  | [], [], r => rfl
  | [], d :: ds, r => by
    show wb ρ (ds.map .dat) r.tail = _
    have := wb_app ρ [] ds r.tail
    rw [List.nil_append] at this
    rw [this]
    rfl
  | .dat _ :: xs, ds, r => wb_app ρ xs ds r.tail
  | .own i :: xs, ds, r => by show (wb ρ (xs ++ _) r.tail).set i _ = _; rw [wb_app ρ xs ds r.tail]; rfl
theorem ArsT.own_at {G : Hp} {as : As} {i : Nat} : ∀ {vs : List V} {xs : List Ar} {j : Nat}, ArsT K G as vs xs → xs[j]? = some (Ar.own i) → ∃ a, as i = some a
  | _, _, _, .nil, h => by cases h
  | _, _, 0, .cons (.dat _) _, h => by cases h
  | _, _, 0, .cons (.own q) _, h => by cases h; exact ⟨_, q⟩
  | _, _, j + 1, .cons _ r, h => ArsT.own_at (j := j) r h
  | _, _, 0, .sto q, h => by cases h; exact ⟨_, q⟩
  | _, _, j + 1, .sto q, h => by cases h
/-- what a callee may not touch -/
def OutO (O : Addr → Prop) (as : As) (xs : List Ar) (H : Hs) : Addr → Prop := fun a => Hid O as H a ∧ ¬ Own (adrs as xs) H a
theorem adrs_sub {as : As} {xs : List Ar} {H : Hs} {a : Addr} (h : Own (adrs as xs) H a) : Own as H a := by
  rcases h with ⟨j, r, h, q⟩ | h
  · obtain ⟨i, _, h⟩ := adrs_own h
    exact .inl ⟨i, r, h, q⟩
  · exact .inr h
/-- the callee's view of the state -/
theorem call_in {O : Addr → Prop} {as : As} {H : Hs} {ρ : En} {σ : L2.St} {xs : List Ar} {r : List Sl} {vs : List V} (E : EnR K J O as H ρ σ) (fit : Fits ρ xs r) (ar : ArsT K (hq O as H) as vs xs) (nd : (ownIx xs).Nodup) : EnR K (J0 : Jv 0) (OutO O as xs H) (adrs as xs) H r (vs.map some) := by
  have s1 : Same (hq O as H) (hq (OutO O as xs H) (adrs as xs) H) := hp_less fun a h => h.elim (fun h => h.1) fun h => .inr (adrs_sub h)
  have L := ar.len
  refine ⟨by rw [List.length_map, fit.len]; exact L, fun j sl h1 h2 => ?_, fun j sl o h1 h2 => fits_at E s1 fit ar h1 h2, fun j h => ?_, fun j1 j2 r1 r2 b h1 h2 q1 q2 => ?_, fun j r1 b h q z => z.2 (.inl ⟨j, r1, h, q⟩), fun j r1 h => ?_, fun a h => E.full h.1, trivial, trivial, E.tab⟩
  · refine ar.tl ?_ (by rw [List.length_map] at h2; exact h2)
    rw [← fit.len]
    exact (List.getElem?_eq_some_iff.mp h1).1
  · obtain ⟨i, e, hi⟩ := adrs_own h
    obtain ⟨_, e2, e3⟩ := E.sto i hi
    refine ⟨by rw [List.length_map]; exact ar.at_sto h, fit.st_of e e2, e3.move s1 fun _ _ => rfl⟩
  · obtain ⟨i1, e1, h1⟩ := adrs_own h1
    obtain ⟨i2, e2, h2⟩ := adrs_own h2
    rw [E.inj i1 i2 r1 r2 b h1 h2 q1 q2] at e1
    exact ownIx_inj nd e1 e2
  · obtain ⟨i, e, _⟩ := adrs_own h
    rw [fit.len]
    exact (List.getElem?_eq_some_iff.mp e).1
/-- and back -/
theorem call_back {O : Addr → Prop} {as : As} {H H' : Hs} {ρ : En} {σ : L2.St} {xs : List Ar} {vs : List V} {out : List Sl} (E : EnR K J O as H ρ σ) (ar : ArsT K (hq O as H) as vs xs) (nd : (ownIx xs).Nodup) (fr : Fr (adrs as xs) H H') (bk : Bk K (OutO O as xs H) (adrs as xs) H' out) :
    Fr as H H' ∧ EnR K J O as H' (wb ρ xs out) σ ∧ (∀ a, Hid O as H' a → Hid (OutO O as xs H) (adrs as xs) H' a) ∧ ∀ i r b, i ∉ ownIx xs → as i = some r → Rgn H r b → H' b = H b ∧ ¬ Own (adrs as xs) H b := by
  have off : ∀ i r b, i ∉ ownIx xs → as i = some r → Rgn H r b → ¬ Own (adrs as xs) H b := fun i r b ni h q z => by
    rcases z with ⟨j, r', z, q'⟩ | z
    · obtain ⟨i', e', h'⟩ := adrs_own z
      rw [E.inj i' i r' r b h' h q' q] at e'
      exact ni (mem_ownIx e')
    · exact E.tab.nod (E.nod h q) z
  have stay : ∀ i r b, i ∉ ownIx xs → as i = some r → Rgn H r b → H' b = H b := fun i r b ni h q => by
    obtain ⟨o, e, _⟩ := E.nod h q
    rw [e]
    exact fr.fr _ _ (off i r b ni h q) e
  have inn : ∀ i r, i ∈ ownIx xs → as i = some r → ∃ j, xs[j]? = some (.own i) ∧ adrs as xs j = some r := fun i r q h => by
    obtain ⟨j, e⟩ := ownIx_mem q
    exact ⟨j, e, by unfold adrs; rw [e]; exact h⟩
  have stEq : ∀ i, i ∉ ownIx xs → as i = some .sto → H'.st = H.st := fun i ni h => fr.nst fun j z => by
    obtain ⟨i', e', h'⟩ := adrs_own z
    rw [(E.sto i' h').1, ← (E.sto i h).1] at e'
    exact ni (mem_ownIx e')
  have stayR : ∀ i r b, i ∉ ownIx xs → as i = some r → (Rgn H' r b ↔ Rgn H r b) := fun i r b ni h => by
    cases r with
    | lf a => exact Iff.rfl
    | sto => exact Rgn.st (stEq i ni h)
  have fr' : Fr as H H' := by
    refine ⟨fr.fr.up fun a h => adrs_sub h, fun a h => ?_, fr.liv, fun h => fr.nst fun j z => ?_⟩
    · rcases h with ⟨i, r, h, q⟩ | h
      · by_cases m : i ∈ ownIx xs
        · obtain ⟨j, _, e⟩ := inn i r m h
          exact (fr.new a (.inl ⟨j, r, e, q⟩)).imp adrs_sub id
        · exact .inl (.inl ⟨i, r, h, (stayR i r a m h).mp q⟩)
      · exact .inl (.inr h)
    · obtain ⟨i', e', h'⟩ := adrs_own z
      exact h i' h'
  have nO : ∀ i r b, i ∉ ownIx xs → as i = some r → Rgn H r b → OutO O as xs H b := fun i r b ni h q => ⟨.inr (.inl ⟨i, r, h, q⟩), off i r b ni h q⟩
  have oO : ∀ b, O b → (∃ p ∈ Tbs.T, p.1 = b) ∨ OutO O as xs H b := fun b h => by
    by_cases z : ∃ p ∈ Tbs.T, p.1 = b
    · exact .inl z
    · refine .inr ⟨.inl h, fun w => ?_⟩
      rcases w with ⟨j, r', w, q'⟩ | w
      · obtain ⟨i', _, h'⟩ := adrs_own w
        exact E.out i' r' b h' q' h
      · exact z w
  have hid : ∀ a, Hid O as H' a → Hid (OutO O as xs H) (adrs as xs) H' a := fun a h => by
    rcases h with h | ⟨i, r, h, q⟩ | h
    · rcases oO a h with z | z
      · exact .inr (.inr z)
      · exact .inl z
    · by_cases m : i ∈ ownIx xs
      · obtain ⟨j, _, e⟩ := inn i r m h
        exact .inr (.inl ⟨j, r, e, q⟩)
      · exact .inl (nO i r a m h ((stayR i r a m h).mp q))
    · exact .inr (.inr h)
  have s2 : Same (hq (OutO O as xs H) (adrs as xs) H') (hq O as H') := hp_less hid
  refine ⟨fr', ⟨by rw [wb_len]; exact E.len, fun i sl h1 h2 => ?_, fun i sl o h1 h2 => ?_, fun i h => ?_, fun i1 i2 r1 r2 b h1 h2 q1 q2 => ?_, fun i r b h q => ?_, fun i a h => by rw [wb_len]; exact E.bnd i a h, fun a h => E.occ' fr'.fr bk.tab h, J.fr E.inv fr', E.inq, bk.tab⟩, hid, fun i r b ni h q => ⟨stay i r b ni h q, off i r b ni h q⟩⟩
  · have hi : i < ρ.length := by
      have := (List.getElem?_eq_some_iff.mp h1).1
      rw [wb_len] at this
      exact this
    exact E.tl i _ (List.getElem?_eq_getElem hi) h2
  · by_cases q : i ∈ ownIx xs
    · obtain ⟨j, e⟩ := ownIx_mem q
      have hi : i < ρ.length := by
        have := (List.getElem?_eq_some_iff.mp h1).1
        rw [wb_len] at this
        exact this
      obtain ⟨a, ha⟩ := ar.own_at e
      have hadr : adrs as xs j = some a := by unfold adrs; rw [e]; exact ha
      obtain ⟨sl', e1, e2⟩ := bk.at_ j a hadr
      rw [wb_own ρ hi nd e e1] at h1
      cases h1
      cases a with
      | sto =>
        have := (E.sto i ha).1
        have := (List.getElem?_eq_some_iff.mp h2).1
        omega
      | lf a =>
        obtain ⟨_, _, _, e4, _⟩ := E.is_own ha
        rw [e4] at h2
        cases h2
        rw [ha]
        exact e2.mono s2
    · rw [wb_other ρ xs out q] at h1
      exact (E.at_ i sl o h1 h2).mono fr'.same fun b hb => stay i _ b q hb rfl
  · by_cases q : i ∈ ownIx xs
    · obtain ⟨j, e, hadr⟩ := inn i _ q h
      obtain ⟨sl', e1, e2, e3⟩ := bk.at_ j _ hadr
      refine ⟨(E.sto i h).1, ?_, e3.move s2 fun _ _ => rfl⟩
      rw [wb_own ρ (E.bnd i _ h) nd e e1, e2]
    · obtain ⟨e1, e2, e3⟩ := E.sto i h
      refine ⟨e1, by rw [wb_other ρ xs out q, e2, stEq i q h], ?_⟩
      rw [stEq i q h]
      exact e3.move fr'.same fun a z => stay i _ a q h z
  · by_cases m1 : i1 ∈ ownIx xs
    · obtain ⟨j1, x1, e1⟩ := inn i1 r1 m1 h1
      by_cases m2 : i2 ∈ ownIx xs
      · obtain ⟨j2, x2, e2⟩ := inn i2 r2 m2 h2
        have := bk.inj j1 j2 r1 r2 b e1 e2 q1 q2
        rw [this, x2] at x1
        cases x1
        rfl
      · exact absurd (nO i2 r2 b m2 h2 ((stayR i2 r2 b m2 h2).mp q2)) (bk.out j1 r1 b e1 q1)
    · by_cases m2 : i2 ∈ ownIx xs
      · obtain ⟨j2, x2, e2⟩ := inn i2 r2 m2 h2
        exact absurd (nO i1 r1 b m1 h1 ((stayR i1 r1 b m1 h1).mp q1)) (bk.out j2 r2 b e2 q2)
      · exact E.inj i1 i2 r1 r2 b h1 h2 ((stayR i1 r1 b m1 h1).mp q1) ((stayR i2 r2 b m2 h2).mp q2)
  · by_cases m : i ∈ ownIx xs
    · obtain ⟨j, x1, e1⟩ := inn i r m h
      intro z
      rcases oO b z with w | w
      · obtain ⟨sl, _, g⟩ := bk.at_ j r e1
        exact bk.tab.nod (g.nod q) w
      · exact bk.out j r b e1 q w
    · exact E.out i r b h ((stayR i r b m h).mp q)
theorem call_core {O : Addr → Prop} {as : As} {H : Hs} {ρ : En} {σ : L2.St} {xs : List Ar} {r : List Sl} {vs : List V} {m e : Nat} {F : FN} {P : PyData → En → Prop} {Q : VK} {E0 : XK} (E : EnR K J O as H ρ σ) (fit : Fits ρ xs r) (ar : ArsT K (hq O as H) as vs xs) (hv : vs.length = m) (hm : xs.length = m + e) (nd : (ownIx xs).Nodup)
    (f : F r fun d out => P d (wb ρ xs out)) (k : ∀ d ρ' v H', P d ρ' → Fr as H H' → EnR K J O as H' ρ' σ → Dq K (hq O as H') v d → Q v H') : spG K m e F vs H Q E0 := by
  refine ⟨hv, _, adrs as xs, H.st, r, _, call_in E fit ar nd, by rw [fit.len, hm], f, fun d out v H' p fr bk dv => ?_⟩
  obtain ⟨fr', E', hid, _⟩ := call_back E ar nd fr bk
  exact k d _ v H' p fr' E' (dv.mono (hp_less hid))
theorem re_call {m : Nat} {F : FN} {dvs : List V} {dv : List PyData} {E0 : XK} {t : TA} {f : FC} (hd : ∀ H, DqAll K H dvs dv) (ha : RC K J t f) : RE K J (tCall (spF K m F) dvs E0 t) (fCall m F dv f) := by
  intro O as σ H Q ρ P E q k
  refine ha O as σ H _ ρ _ E q fun xs ρ1 vs H1 q1 f1 E1 d1 => ?_
  obtain ⟨hm, nd, q1⟩ := q1
  obtain ⟨r, fit, q1⟩ := argF_of q1
  have hl : (vs ++ dvs).length = m := by rw [List.length_append, d1.len, (hd H1).length]; exact hm
  refine call_core (xs := xs ++ dv.map .dat) E1 (fit.app (fits_dat dv)) (d1.app (dat_ars (hd _))).toT hl (by rw [List.length_append, List.length_map]; exact hm) (by rw [ownIx_app]; exact nd) ?_ fun d ρ' v H' p fr E' q' => k d ρ' v H' p (f1.trans fr) E' q'
  · simp only [wb_app]
    exact q1
/-- a call that is handed the store, too; sx: where it stands -/
def fCallS (sx m : Nat) (F : FN) (dv : List PyData) (a : FC) : FE := fun ρ P => a ρ fun xs ρ1 => xs.length + dv.length = m ∧ (ownIx xs ++ [sx]).Nodup ∧ argF ρ1 xs fun r => match ρ1[sx]? with
  | some (.st S) => F (r ++ dv.map .fz ++ [.st S]) fun d out => P d ((wb ρ1 xs out).set sx ((out.drop m).headD .no))
  | _ => False
theorem ownIx_snoc (i : Nat) : ∀ xs : List Ar, ownIx (xs ++ [.own i]) = ownIx xs ++ [i]
  | [] => rfl
  | .dat _ :: xs => ownIx_snoc i xs
  | .own k :: xs => by show k :: ownIx (xs ++ _) = _; rw [ownIx_snoc i xs]; rfl
theorem wb_snoc (ρ : En) (i : Nat) : ∀ (xs : List Ar) (out : List Sl), wb ρ (xs ++ [.own i]) out = wb (ρ.set i ((out.drop xs.length).headD .no)) xs out
  | [], out => rfl
  | .dat _ :: xs, out => by show wb ρ (xs ++ _) out.tail = wb _ xs out.tail; rw [wb_snoc ρ i xs, List.length_cons, List.drop_tail]
  | .own k :: xs, out => by show (wb ρ (xs ++ _) out.tail).set k _ = (wb _ xs out.tail).set k _; rw [wb_snoc ρ i xs, List.length_cons, List.drop_tail]
theorem wb_set (ρ : En) (i : Nat) (sl : Sl) : ∀ (xs : List Ar) (out : List Sl), i ∉ ownIx xs → wb (ρ.set i sl) xs out = (wb ρ xs out).set i sl
  | [], out, _ => rfl
  | .dat _ :: xs, out, h => wb_set ρ i sl xs out.tail h
  | .own k :: xs, out, h => by
    have h' := not_or.mp (fun q => h (List.mem_cons.mpr q))
    show (wb (ρ.set i sl) xs out.tail).set k _ = ((wb ρ xs out.tail).set k _).set i sl
    rw [wb_set ρ i sl xs out.tail h'.2, List.set_comm _ _ h'.1]
theorem re_callS {sx m : Nat} {F : FN} {dvs : List V} {dv : List PyData} {E0 : XK} {t : TA} {f : FC} (hd : ∀ H, DqAll K H dvs dv) (ha : RC K J t f) : RE K J (tCall (spS K m F) dvs E0 t) (fCallS sx m F dv f) := by
  intro O as σ H Q ρ P E q k
  refine ha O as σ H _ ρ _ E q fun xs ρ1 vs H1 q1 f1 E1 d1 => ?_
  obtain ⟨hm, nd, q1⟩ := q1
  obtain ⟨r, fit, q1⟩ := argF_of q1
  split at q1
  · next S hs =>
    have hl : (vs ++ dvs).length = m := by rw [List.length_append, d1.len, (hd H1).length]; exact hm
    have ni : sx ∉ ownIx xs := fun z => (List.nodup_append.mp nd).2.2 _ z _ (List.mem_singleton.mpr rfl) rfl
    refine call_core (xs := xs ++ dv.map .dat ++ [.own sx]) E1 ((fit.app (fits_dat dv)).app (.st hs .nil)) ((d1.app (dat_ars (hd _))).snoc (E1.st_at hs).1) hl (by rw [List.length_append, List.length_append, List.length_map, hm]; rfl) (by rw [ownIx_snoc, ownIx_app]; exact nd) ?_ fun d ρ' v H' p fr E' q' => k d ρ' v H' p (f1.trans fr) E' q'
    · simp only [wb_snoc, wb_app, wb_set _ _ _ _ _ ni, List.length_append, List.length_map, hm]
      exact q1
  · exact q1.elim
/-! own lists -/
def ownF (ρ : En) (i : Nat) (k : List PyData → Prop) : Prop := match ρ[i]? with
  | some (.own ds) => k ds
  | _ => False
theorem ownF_of {ρ : En} {i : Nat} {k : List PyData → Prop} (h : ownF ρ i k) : ∃ ds, ρ[i]? = some (.own ds) ∧ k ds := by
  unfold ownF at h
  split at h
  · next ds e => exact ⟨ds, e, h⟩
  · exact h.elim
theorem DqAll.atI {G : Hp} {xs : List V} {ds : List PyData} {k : Int} {d : PyData} (r : DqAll K G xs ds) (h : L2.atI ds k = some d) : ∃ v, L2.atI xs k = some v ∧ Dq K G v d := by
  unfold L2.atI at h ⊢
  rw [r.length]
  cases e : ixN ds.length k with
  | none => rw [e] at h; cases h
  | some j =>
    rw [e] at h
    exact r.got h
def fIxO (i : Nat) (b : FE) : FE := fun ρ P => ownF ρ i fun _ => b ρ fun x ρ1 => intF x fun k => ownF ρ1 i fun ds => ∃ d, atI ds k = some d ∧ P d ρ1
theorem re_ixO {i : Nat} {tb : TE} {b : FE} (hb : RE K J tb b) : RE K J (tOp (rIxL K) (tVar i) tb) (fIxO i b) := by
  intro O as σ H Q ρ P E q k
  obtain ⟨ds0, h0, q⟩ := ownF_of q
  obtain ⟨a, xs0, e1, e2, _, _⟩ := E.own_at h0
  refine ⟨_, e1, ?_⟩
  refine hb O as σ H _ ρ _ E q fun x ρ1 v H1 q1 f1 E1 d1 => ?_
  unfold intF at q1
  split at q1
  · next z =>
    cases d1
    obtain ⟨ds, hds, d, hd, p⟩ := ownF_of q1
    obtain ⟨a', xs, e1', e2', e3, e4⟩ := E1.own_at hds
    rw [e2] at e2'
    cases e2'
    obtain ⟨v, hv, dv⟩ := e4.atI hd
    exact ⟨a, xs, z, v, rfl, rfl, SqL.of e3, hv, k d ρ1 v H1 p f1 E1 dv⟩
  · exact q1.elim
/-- len of an own list -/
def fLenO (i : Nat) : FE := fun ρ P => ownF ρ i fun ds => P (.int ds.length) ρ
theorem re_lenO {i : Nat} : RE K J (tCB (fun xs H Q => ∃ p ys, xs = [.ref p] ∧ (SqL K H p ys ∨ SqT K H p ys) ∧ Q (.int ys.length) H) (tCons (tVar i) tNil)) (fLenO i) := by
  intro O as σ H Q ρ P E q k
  obtain ⟨ds, h0, q⟩ := ownF_of q
  obtain ⟨a, xs, e1, e2, e3, e4⟩ := E.own_at h0
  refine ⟨_, e1, a, xs, rfl, .inl (SqL.of e3), ?_⟩
  rw [e4.length]
  exact k _ _ _ _ q (Fr.refl) E (.int _)
def fLenOK (i : Nat) : FE := fLenO i
theorem re_lenOK {i : Nat} : RE K J (tCB (rLenK K) (tCons (tVar i) tNil)) (fLenO i) := re_lenO
/-- own.append(e) -/
def fAppend (i : Nat) (a : FE) : FS := fun E ρ => ownF ρ i fun _ => a ρ fun d ρ1 => ownF ρ1 i fun ds => ds.length < sizeLine ∧ E.nx (ρ1.set i (.own (ds ++ [d])))
theorem rs_append {i : Nat} {te : TE} {a : FE} (ha : RE K J te a) : RS K J (tDrop (tBM K "list" rAppend (tVar i) (tCons te tNil))) (fAppend i a) := by
  intro O as σ H D ρ E R f C
  obtain ⟨ds0, h0, f⟩ := ownF_of f
  obtain ⟨p, xs0, e1, e2, e3, _⟩ := R.own_at h0
  refine ⟨_, e1, .inl ⟨rfl, _, SqL.of e3⟩, ?_⟩
  refine ha O as σ H _ ρ _ R f fun d ρ1 v H1 q1 f1 E1 d1 => ?_
  obtain ⟨ds, hds, hl, q1⟩ := ownF_of q1
  obtain ⟨p', xs, e1', e2', e3', e4'⟩ := E1.own_at hds
  rw [e2] at e2'
  cases e2'
  refine ⟨p, xs, v, rfl, rfl, e3', by rw [e4'.length]; exact hl, ?_⟩
  obtain ⟨E2, f2⟩ := E1.put e2 e3' (e4'.append (.cons d1 .nil))
  exact C.nx _ _ _ _ q1 (.of (f1.trans f2)) E2
/-- own[k] = e -/
def gSubO (i : Nat) (b : FE) : FG := fun d ρ P => ownF ρ i fun _ => b ρ fun x ρ1 => intF x fun k => ownF ρ1 i fun ds => ∃ j, ixN ds.length k = some j ∧ P (ρ1.set i (.own (ds.set j d)))
theorem rg_subO {i : Nat} {ti : TE} {b : FE} (hb : RE K J ti b) : RG K J [] (gSub (tVar i) ti rSetL) (gSubO i b) := by
  intro O as σ H R ρ P v d E q f k
  obtain ⟨ds0, h0, f⟩ := ownF_of f
  obtain ⟨p, xs0, e1, e2, e3, _⟩ := E.own_at h0
  refine ⟨_, e1, ?_⟩
  refine hb O as σ H _ ρ _ E f fun x ρ1 w H1 q1 f1 E1 d1 => ?_
  unfold intF at q1
  split at q1
  · next z =>
    cases d1
    obtain ⟨ds, hds, j, hj, q1⟩ := ownF_of q1
    obtain ⟨p', xs, e1', e2', e3', e4'⟩ := E1.own_at hds
    rw [e2] at e2'
    cases e2'
    refine ⟨p, xs, z, j, rfl, rfl, e3', by rw [e4'.length]; exact hj, ?_⟩
    obtain ⟨E2, f2⟩ := E1.put e2 e3' (e4'.set (q.fr f1) j)
    exact k _ _ _ q1 (f1.trans f2) E2 ⟨rfl, fun _ _ => rfl⟩
  · exact q1.elim
/-! the def -/
def fnF (n m : Nat) (b : FS) : FN := fun sls P => b { nx := fun ρ' => P .none (ρ'.take n), rt := fun d ρ' => P d (ρ'.take n) } (sls ++ List.replicate (m - n) .no)
/-- a def that is handed the store -/
def fnS (n m : Nat) (b : FS) : FN := fun sls P => b { nx := fun ρ' => P .none (ρ'.take n ++ ρ'.drop m), rt := fun d ρ' => P d (ρ'.take n ++ ρ'.drop m) } (sls.take n ++ List.replicate (m - n) .no ++ sls.drop n)
/-- slots of which nothing is known, ahead of the store -/
theorem EnR.more {n N : Nat} {n' n'' : Nat} {J : Jv n'} {J' : Jv n''} {O : Addr → Prop} {as : As} {H : Hs} {ρ : En} {σ : L2.St} (E : EnR K J O as H ρ σ) (hv : σ.length = n) (hN : n ≤ N) (hJ : J'.P (shA as n N) H) (hQ : J'.Q O) : EnR K J' O (shA as n N) H (ρ.take n ++ List.replicate (N - n) .no ++ ρ.drop n) (σ ++ List.replicate (N - n) none) := by
  have L := E.len
  rw [hv] at L
  have tk : (ρ.take n).length = n := by rw [List.length_take]; omega
  have ls : (σ ++ List.replicate (N - n) none).length = N := by rw [List.length_append, List.length_replicate]; omega
  have l1 : (ρ.take n ++ List.replicate (N - n) Sl.no).length = N := by rw [List.length_append, tk, List.length_replicate]; omega
  have hb : ∀ i r, as i = some r → (i < n ∧ r ≠ .sto) ∨ (i = n ∧ r = .sto) := fun i r h => by
    rcases E.is_reg h with ⟨a, ds, xs, rfl, e1, e2, _⟩ | ⟨rfl, e, _⟩
    · have := E.lt e1 (fun _ z => by cases z)
      rw [hv] at this
      exact .inl ⟨this, fun z => by cases z⟩
    · rw [hv] at e
      exact .inr ⟨e, rfl⟩
  have sh : ∀ j r, shA as n N j = some r → ∃ i, as i = some r ∧ ((i < n ∧ j = i) ∨ (i = n ∧ j = N ∧ r = .sto)) := fun j r h => by
    unfold shA at h
    split at h
    · exact ⟨j, h, .inl ⟨by assumption, rfl⟩⟩
    · split at h
      · rcases hb _ _ h with z | z
        · omega
        · exact ⟨n, h, .inr ⟨rfl, by assumption, z.2⟩⟩
      · cases h
  have own : ∀ a, Own (shA as n N) H a ↔ Own as H a := fun a => by
    constructor
    · rintro (⟨j, r, hc, q⟩ | hc)
      · obtain ⟨i, e, _⟩ := sh j r hc
        exact .inl ⟨i, r, e, q⟩
      · exact .inr hc
    · rintro (⟨j, r, hc, q⟩ | hc)
      · rcases hb j r hc with ⟨z, _⟩ | ⟨z, _⟩
        · exact .inl ⟨j, r, by unfold shA; rw [if_pos z]; exact hc, q⟩
        · exact .inl ⟨N, r, by unfold shA; rw [if_neg (by omega), if_pos rfl, ← z]; exact hc, q⟩
      · exact .inr hc
  have hS : Same (hq O as H) (hq O (shA as n N) H) := hp_less fun a h => h.imp id (own a).mp
  have last : ∀ i, N ≤ i → (ρ.take n ++ List.replicate (N - n) Sl.no ++ ρ.drop n)[i]? = ρ[n + (i - N)]? := fun i h => by
    rw [List.getElem?_append_right (by omega), l1, List.getElem?_drop]
  refine ⟨?_, fun i sl h1 h2 => ?_, fun i sl o h1 h2 => ?_, fun i h => ?_, fun i j r r' b h1 h2 q1 q2 => ?_, fun i r b h q => ?_, fun i r h => ?_, E.occ, hJ, hQ, E.tab⟩
  · rw [ls, List.length_append, l1, List.length_drop]
    omega
  · rw [ls] at h2
    rw [last i h2] at h1
    have hi : n + (i - N) < ρ.length := (List.getElem?_eq_some_iff.mp h1).1
    have e := E.tl _ _ h1 (by rw [hv]; omega)
    have : i = N := by omega
    unfold shA
    rw [if_neg (by omega), if_pos this]
    rw [this, Nat.sub_self] at e
    exact e
  · have hi : i < N := by rw [← ls]; exact (List.getElem?_eq_some_iff.mp h2).1
    rw [List.getElem?_append_left (by omega)] at h1
    by_cases q : i < n
    · rw [List.getElem?_append_left (by omega), List.getElem?_take, if_pos q] at h1
      rw [List.getElem?_append_left (by omega)] at h2
      unfold shA
      rw [if_pos q]
      exact (E.at_ i sl o h1 h2).mono hS fun _ _ => rfl
    · rw [List.getElem?_append_right (by omega), List.getElem?_replicate] at h1
      split at h1
      · cases h1
        unfold shA
        rw [if_neg q, if_neg (by omega)]
        exact .no
      · cases h1
  · obtain ⟨i', e, z⟩ := sh i _ h
    obtain ⟨e1, e2, e3⟩ := E.sto i' e
    rw [hv] at e1
    have : i = N := by omega
    refine ⟨by rw [ls]; exact this, ?_, e3.move hS fun _ _ => rfl⟩
    rw [last i (by omega), this, Nat.sub_self, Nat.add_zero, ← e1]
    exact e2
  · obtain ⟨i', e1, z1⟩ := sh i r h1
    obtain ⟨j', e2, z2⟩ := sh j r' h2
    have := E.inj i' j' r r' b e1 e2 q1 q2
    omega
  · obtain ⟨i', e1, z1⟩ := sh i r h
    exact E.out i' r b e1 q
  · obtain ⟨i', e1, z1⟩ := sh i r h
    have := E.bnd i' r e1
    rw [List.length_append, l1, List.length_drop]
    omega
theorem EnR.start {n : Nat} {n' n'' : Nat} {J : Jv n'} {J' : Jv n''} {O : Addr → Prop} {as : As} {H : Hs} {ρ : En} {vs : List V} (N : List Str) (E : EnR K J O as H ρ (vs.map some)) (hv : vs.length = n) (hN : n ≤ N.length) (hJ : J'.P (shA as n N.length) H) (hQ : J'.Q O) : EnR K J' O (shA as n N.length) H (ρ.take n ++ List.replicate (N.length - n) .no ++ ρ.drop n) (L2.start N vs) := by
  rw [L2.start, hv]
  exact E.more (by rw [List.length_map]; exact hv) hN hJ hQ
/-- what the parameters own -/
theorem EnR.pars {n : Nat} {n' : Nat} {J : Jv n'} {O : Addr → Prop} {as : As} {H : Hs} {ρ : En} {vs : List V} (E : EnR K J O as H ρ (vs.map some)) (hv : vs.length = n) : ∀ i r, as i = some r → (i < n ∧ r ≠ .sto) ∨ (i = n ∧ r = .sto) := fun i r h => by
  rcases E.is_reg h with ⟨a, ds, xs, rfl, e1, e2, _⟩ | ⟨rfl, e, _⟩
  · have := E.lt e1 (fun _ z => by cases z)
    rw [List.length_map, hv] at this
    exact .inl ⟨this, fun z => by cases z⟩
  · rw [List.length_map, hv] at e
    exact .inr ⟨e, rfl⟩
/-- the slots at a def's start; e: whether it is handed the store -/
def enS : Nat → Nat → Nat → List Sl → En
  | 0, n, m, sls => sls ++ List.replicate (m - n) .no
  | _, n, m, sls => sls.take n ++ List.replicate (m - n) .no ++ sls.drop n
/-- what is handed back of the slots -/
def outS : Nat → Nat → Nat → En → List Sl
  | 0, n, _, ρ => ρ.take n
  | _, n, m, ρ => ρ.take n ++ ρ.drop m
theorem fn_start {e m : Nat} {N : List Str} {O : Addr → Prop} {as : As} {H : Hs} {ρ : En} {vs : List V} (R : EnR K (J0 : Jv 0) O as H ρ (vs.map some)) (hv : vs.length = m) (hl : ρ.length = m + e) (hN : m ≤ N.length) :
    EnR K (Jst m O (shA as m N.length) H) O (shA as m N.length) H (enS e m N.length ρ) (L2.start N vs) := by
  have st := R.start (J' := Jst m O (shA as m N.length) H) N hv hN .refl fun _ h => h
  cases e with
  | succ e => exact st
  | zero =>
    rw [List.take_of_length_le (by omega), List.drop_of_length_le (by omega), List.append_nil] at st
    exact st
theorem fn_back {e m N : Nat} {O O' : Addr → Prop} {as as' : As} {H H' : Hs} {ρ ρ' : En} {vs : List V} {σ' : L2.St} {n' : Nat} {J' : Jv n'} (R : EnR K (J0 : Jv 0) O as H ρ (vs.map some)) (hv : vs.length = m) (hl : ρ.length = m + e) (hN : m ≤ N) (x : Ext m (shA as m N) as' H H') (R' : EnR K J' O' as' H' ρ' σ') :
    Fr as H H' ∧ Bk K O' as H' (outS e m N ρ') ∧ Same (hq O' as' H') (hq O' as H') := by
  have hb := R.pars hv
  have fx : ∀ i, i < m → as' i = as i := fun i hi => by
    rw [x.fix i hi]
    unfold shA
    rw [if_pos hi]
  have kn : as' N = some .sto ↔ as m = some .sto := by
    rw [x.ks]
    unfold shA
    rw [if_neg (by omega), if_pos rfl]
  obtain ⟨b, s⟩ := R'.back hN hb fx kn
  refine ⟨x.frB hb hN, ?_, s⟩
  cases e with
  | succ e => exact b
  | zero =>
    have hb' : ∀ i r, as i = some r → i < m := fun i r h => by have := R.bnd i r h; omega
    refine ⟨b.tab, fun i r e => ?_, b.inj, b.out⟩
    have hi := hb' i r e
    obtain ⟨sl, e1, e2⟩ := R'.reg_at (i := i) (r := r) (by rw [fx i hi]; exact e)
    exact ⟨sl, by show (List.take m ρ')[i]? = _; rw [List.getElem?_take, if_pos hi]; exact e1, e2.mono s⟩
/-- a run of a def's body -/
theorem fn_run {m e : Nat} {N : List Str} {b : FS} {t : TS} (rs : ∀ J : Jv m, RS K J t b) {vs : List V} {H : Hp} {Q : VK} {E : XK} (hN : m ≤ N.length) {F : FN} (hF : F = fun sls P => b { nx := fun ρ' => P .none (outS e m N.length ρ'), rt := fun d ρ' => P d (outS e m N.length ρ') } (enS e m N.length sls)) (h : spG K m e F vs H Q E) : t { nx := fun _ H' => Q .non H', rt := Q } (L2.start N vs) H := by
  obtain ⟨hv, O, as, S, ρ, P, R, hl, hf, q⟩ := h
  subst hF
  refine rs (Jst m O (shA as m N.length) ⟨H, S⟩) O _ _ ⟨H, S⟩ _ _ _ (fn_start R hv hl hN) hf ⟨fun ρ' as' σ' H' p x R' => ?_, fun d ρ' v as' σ' H' p x R' dv => ?_, fun _ _ _ _ p => p.elim, fun _ _ _ _ p => p.elim, fun _ _ _ _ _ _ _ p => p.elim⟩
  · obtain ⟨h1, h2, _⟩ := fn_back R hv hl hN x R'
    exact q _ _ _ _ p h1 h2 .non
  · obtain ⟨h1, h2, h3⟩ := fn_back R hv hl hN x R'
    exact q _ _ _ _ p h1 h2 (dv.mono h3)
theorem scope_le {N ps : List Str} {sc : Scope} (S : FnScope N ps sc) : ps.length ≤ N.length := by
  have := congrArg List.length S.pre
  rw [List.length_take] at this
  omega
theorem fn_core {ps : List Str} {N : List Str} {b : FS} {t : TS} (hN : ps.length ≤ N.length) (rs : ∀ J : Jv ps.length, RS K J t b) {vs : List V} {H : Hp} {Q : VK} {E : XK} (h : spF K ps.length (fnF ps.length N.length b) vs H Q E) : t { nx := fun _ H' => Q .non H', rt := Q } (L2.start N vs) H := fn_run rs hN rfl h
theorem fn_coreS {ps : List Str} {N : List Str} {b : FS} {t : TS} (hN : ps.length ≤ N.length) (rs : ∀ J : Jv ps.length, RS K J t b) {vs : List V} {H : Hp} {Q : VK} {E : XK} (h : spS K ps.length (fnS ps.length N.length b) vs H Q E) : t { nx := fun _ H' => Q .non H', rt := Q } (L2.start N vs) H := fn_run rs hN rfl h
section
variable {P : Program} {w : World} {mg : Str → Option Value} {base : Heap} {k : Nat} {f : Addr} {fd : FuncData} {ps : List Str} {x qual : Str} {st : Stmt} {N : List Str} {b : FS}
theorem okF (F : Fun K x qual st f fd) (S : FnScope N ps (defScope st))
    (body : ∀ (cdv : Value) (A : Around) (outer : List Env) (s : Shared) (H : Hp) (E : XK), Room k (A.deeper (envOfC qual (defScope st) s.heap.objs.size f cdv)) →
      (A.deeper (envOfC qual (defScope st) s.heap.objs.size f cdv)).guards = some [] →
      ∃ t, PSs (cxOf CX0 P w K mg base N qual (defScope st) f cdv A outer s H E).nox (defBody st) t ∧ ∀ J : Jv ps.length, RS K J t b) :
    FnG P w K mg base (k + 1) f fd ps (spF K ps.length (fnF ps.length N.length b)) := by
  refine okG F S (fun vs H Q E h => h.1) (fun cdv A outer s H vs Q E hr hg h => ?_)
  obtain ⟨t, pt, rs⟩ := body cdv A outer s H E hr hg
  exact ⟨t, pt, fn_core (scope_le S) rs h⟩
/-- without repr -/
theorem okF0 (F : Fun K x qual st f fd) (S : FnScope N ps (defScope st))
    (body : ∀ (cdv : Value) (A : Around) (outer : List Env) (s : Shared) (H : Hp) (E : XK), Room k (A.deeper (envOfC qual (defScope st) s.heap.objs.size f cdv)) →
      ∃ t, PSs (cxOf CX0 P w K mg base N qual (defScope st) f cdv A outer s H E).nox (defBody st) t ∧ ∀ J : Jv ps.length, RS K J t b) :
    FnOk P w K mg base CX0 (k + 1) f fd ps (spF K ps.length (fnF ps.length N.length b)) := by
  refine F.ok S (fun vs H Q E h => h.1) (fun cdv A outer s H vs Q E hr h => ?_)
  obtain ⟨t, pt, rs⟩ := body cdv A outer s H E hr
  exact ⟨t, pt, fn_core (scope_le S) rs h⟩
/-- with defaults -/
theorem okFD {params : Arguments} {bd : List Stmt} {scope : Scope} {dvs : List V} {kws : List (Str × V)} (F : FunD K x qual params bd scope dvs kws f fd) (S : FnScope N ps scope)
    (body : ∀ (cdv : Value) (A : Around) (outer : List Env) (s : Shared) (H : Hp) (E : XK), Room k (A.deeper (envOfC qual scope s.heap.objs.size f cdv)) →
      ∃ t, PSs (cxOf CX0 P w K mg base N qual scope f cdv A outer s H E).nox bd t ∧ ∀ J : Jv ps.length, RS K J t b) :
    FnOk P w K mg base CX0 (k + 1) f fd ps (spF K ps.length (fnF ps.length N.length b)) := by
  refine okD F S (fun vs H Q E h => h.1) (fun cdv A outer s H vs Q E hr h => ?_)
  obtain ⟨t, pt, rs⟩ := body cdv A outer s H E hr
  exact ⟨t, pt, fn_core (scope_le S) rs h⟩
theorem okS (F : Fun K x qual st f fd) (S : FnScope N ps (defScope st))
    (body : ∀ (cdv : Value) (A : Around) (outer : List Env) (s : Shared) (H : Hp) (E : XK), Room k (A.deeper (envOfC qual (defScope st) s.heap.objs.size f cdv)) →
      (A.deeper (envOfC qual (defScope st) s.heap.objs.size f cdv)).guards = some [] →
      ∃ t, PSs (cxOf CX0 P w K mg base N qual (defScope st) f cdv A outer s H E).nox (defBody st) t ∧ ∀ J : Jv ps.length, RS K J t b) :
    FnG P w K mg base (k + 1) f fd ps (spS K ps.length (fnS ps.length N.length b)) := by
  refine okG F S (fun vs H Q E h => h.1) (fun cdv A outer s H vs Q E hr hg h => ?_)
  obtain ⟨t, pt, rs⟩ := body cdv A outer s H E hr hg
  exact ⟨t, pt, fn_coreS (scope_le S) rs h⟩
/-- without repr -/
theorem okS0 (F : Fun K x qual st f fd) (S : FnScope N ps (defScope st))
    (body : ∀ (cdv : Value) (A : Around) (outer : List Env) (s : Shared) (H : Hp) (E : XK), Room k (A.deeper (envOfC qual (defScope st) s.heap.objs.size f cdv)) →
      ∃ t, PSs (cxOf CX0 P w K mg base N qual (defScope st) f cdv A outer s H E).nox (defBody st) t ∧ ∀ J : Jv ps.length, RS K J t b) :
    FnOk P w K mg base CX0 (k + 1) f fd ps (spS K ps.length (fnS ps.length N.length b)) := by
  refine F.ok S (fun vs H Q E h => h.1) (fun cdv A outer s H vs Q E hr h => ?_)
  obtain ⟨t, pt, rs⟩ := body cdv A outer s H E hr
  exact ⟨t, pt, fn_coreS (scope_le S) rs h⟩
/-- with defaults -/
theorem okSD {params : Arguments} {bd : List Stmt} {scope : Scope} {dvs : List V} {kws : List (Str × V)} (F : FunD K x qual params bd scope dvs kws f fd) (S : FnScope N ps scope)
    (body : ∀ (cdv : Value) (A : Around) (outer : List Env) (s : Shared) (H : Hp) (E : XK), Room k (A.deeper (envOfC qual scope s.heap.objs.size f cdv)) →
      ∃ t, PSs (cxOf CX0 P w K mg base N qual scope f cdv A outer s H E).nox bd t ∧ ∀ J : Jv ps.length, RS K J t b) :
    FnOk P w K mg base CX0 (k + 1) f fd ps (spS K ps.length (fnS ps.length N.length b)) := by
  refine okD F S (fun vs H Q E h => h.1) (fun cdv A outer s H vs Q E hr h => ?_)
  obtain ⟨t, pt, rs⟩ := body cdv A outer s H E hr
  exact ⟨t, pt, fn_coreS (scope_le S) rs h⟩
end
end
end DL
/-! operators and built-in calls over data -/
namespace DL
open PySem L2 Z PySem.Spec PyProof.Rows
variable [Tbs]
abbrev G2 := PyData → PyData → (PyData → Prop) → Prop
section
variable {K : PySem.W.Frag} {n : Nat} {J : Jv n}
def o2 (h : Int → Int → PyData) : G2 := fun a b P => match a, b with
  | .int i, .int j => P (h i j)
  | _, _ => False
def o2c (C : Int → Int → Prop) (h : Int → Int → PyData) : G2 := fun a b P => match a, b with
  | .int i, .int j => C i j ∧ P (h i j)
  | _, _ => False
theorem rr_i0 {h : Int → Int → V} {h' : Int → Int → PyData} (e : ∀ i j H, Dq K H (h i j) (h' i j)) : RR K (rI0 h) (o2 h') := by
  intro A H Q x y a b P oc da db g k
  unfold o2 at g
  split at g
  · cases da; cases db; exact ⟨_, _, rfl, rfl, k _ _ _ g (Same.refl _) (e _ _ _)⟩
  · exact g.elim
theorem rr_ic {C : Int → Int → Prop} {h : Int → Int → V} {h' : Int → Int → PyData} (e : ∀ i j H, Dq K H (h i j) (h' i j)) : RR K (rI C h) (o2c C h') := by
  intro A H Q x y a b P oc da db g k
  unfold o2c at g
  split at g
  · cases da; cases db; exact ⟨_, _, rfl, rfl, g.1, k _ _ _ g.2 (Same.refl _) (e _ _ _)⟩
  · exact g.elim
abbrev oAdd : G2 := o2 fun i j => .int (i + j)
abbrev oSub : G2 := o2 fun i j => .int (i - j)
abbrev oMul : G2 := o2c CMul fun i j => .int (i * j)
abbrev oDiv : G2 := o2c CDiv fun i j => .int (i / j)
abbrev oMod : G2 := o2c (fun _ j => 0 < j) fun i j => .int (i % j)
abbrev oPow : G2 := o2c CPow fun i j => .int (i ^ j.toNat)
abbrev oShl : G2 := o2c CPow fun i j => .int (i * 2 ^ j.toNat)
abbrev oShr : G2 := o2c (fun _ j => 0 ≤ j) fun i j => .int (i / 2 ^ j.toNat)
abbrev oBAnd : G2 := o2 fun i j => .int (Builtin.bitAnd i j)
abbrev oBOr : G2 := o2 fun i j => .int (Builtin.bitOr i j)
abbrev oLt : G2 := o2 fun i j => .bool (decide (i < j))
abbrev oLe : G2 := o2 fun i j => .bool (decide (i ≤ j))
abbrev oGt : G2 := o2 fun i j => .bool (decide (j < i))
abbrev oGe : G2 := o2 fun i j => .bool (decide (j ≤ i))
theorem rr_add : RR K (rI0 fun i j => .int (i + j)) oAdd := rr_i0 fun _ _ _ => .int _
theorem rr_sub : RR K (rI0 fun i j => .int (i - j)) oSub := rr_i0 fun _ _ _ => .int _
theorem rr_mul : RR K (rI CMul fun i j => .int (i * j)) oMul := rr_ic fun _ _ _ => .int _
theorem rr_fdiv : RR K (rI CDiv fun i j => .int (i / j)) oDiv := rr_ic fun _ _ _ => .int _
theorem rr_mod : RR K (rI (fun _ j => 0 < j) fun i j => .int (i % j)) oMod := rr_ic fun _ _ _ => .int _
theorem rr_pow : RR K (rI CPow fun i j => .int (i ^ j.toNat)) oPow := rr_ic fun _ _ _ => .int _
theorem rr_shl : RR K (rI CPow fun i j => .int (i * 2 ^ j.toNat)) oShl := rr_ic fun _ _ _ => .int _
theorem rr_shr : RR K (rI (fun _ j => 0 ≤ j) fun i j => .int (i / 2 ^ j.toNat)) oShr := rr_ic fun _ _ _ => .int _
theorem rr_and : RR K (rI0 fun i j => .int (Builtin.bitAnd i j)) oBAnd := rr_i0 fun _ _ _ => .int _
theorem rr_or : RR K (rI0 fun i j => .int (Builtin.bitOr i j)) oBOr := rr_i0 fun _ _ _ => .int _
theorem rr_lt : RR K (rI0 fun i j => .bl (decide (i < j))) oLt := rr_i0 fun _ _ _ => .bl _
theorem rr_le : RR K (rI0 fun i j => .bl (decide (i ≤ j))) oLe := rr_i0 fun _ _ _ => .bl _
theorem rr_gt : RR K (rI0 fun i j => .bl (decide (j < i))) oGt := rr_i0 fun _ _ _ => .bl _
theorem rr_ge : RR K (rI0 fun i j => .bl (decide (j ≤ i))) oGe := rr_i0 fun _ _ _ => .bl _
def oStr (C : Str → Str → Prop) (h : Str → Str → PyData) : G2 := fun a b P => match a, b with
  | .str i, .str j => C i j ∧ P (h i j)
  | _, _ => False
abbrev oAddS : G2 := oStr (fun i j => i.length + j.length ≤ sizeLine) fun i j => .str (i ++ j)
theorem rr_add_str : RR K (fun x y H Q => ∃ i j, x = .str i ∧ y = .str j ∧ i.length + j.length ≤ sizeLine ∧ Q (.str (i ++ j)) H) oAddS := by
  intro A H Q x y a b P oc da db g k
  unfold oAddS oStr at g
  split at g
  · cases da; cases db; exact ⟨_, _, rfl, rfl, g.1, k _ _ _ g.2 (Same.refl _) (.str _)⟩
  · exact g.elim
abbrev oLtS : G2 := oStr (fun _ _ => True) fun i j => .bool (decide (i.cps.toList < j.cps.toList))
theorem rr_lt_str : RR K (fun x y H Q => ∃ i j, x = .str i ∧ y = .str j ∧ Q (.bl (decide (i.cps.toList < j.cps.toList))) H) oLtS := by
  intro A H Q x y a b P oc da db g k
  unfold oLtS oStr at g
  split at g
  · cases da; cases db; exact ⟨_, _, rfl, rfl, k _ _ _ g.2 (Same.refl _) (.bl _)⟩
  · exact g.elim
/-- == of plain things -/
def oEqB (h : Bool → Bool) : G2 := fun a b P => match a, b with
  | .int i, .int j => P (.bool (h (decide (i = j))))
  | .str i, .str j => P (.bool (h (decide (i = j))))
  | .bool i, .bool j => P (.bool (h (decide (i = j))))
  | .none, .none => P (.bool (h true))
  | .none, .int _ => P (.bool (h false))
  | .int _, .none => P (.bool (h false))
  | .none, .str _ => P (.bool (h false))
  | .str _, .none => P (.bool (h false))
  | .none, .bool _ => P (.bool (h false))
  | .bool _, .none => P (.bool (h false))
  | .int _, .str _ => P (.bool (h false))
  | .str _, .int _ => P (.bool (h false))
  | _, _ => False
abbrev oEq : G2 := oEqB id
abbrev oNe : G2 := oEqB not
theorem dec_int {i j : Int} : decide (V.int i = V.int j) = decide (i = j) := by by_cases h : i = j <;> simp [h]
theorem dec_str {i j : Str} : decide (V.str i = V.str j) = decide (i = j) := by by_cases h : i = j <;> simp [h]
theorem dec_bl {i j : Bool} : decide (V.bl i = V.bl j) = decide (i = j) := by by_cases h : i = j <;> simp [h]
theorem rr_eq : RR K rEq oEq := by
  intro A H Q x y a b P oc da db g k
  unfold oEq oEqB at g
  split at g
  · cases da; cases db; refine ⟨rfl, ?_⟩; rw [dec_int]; exact k _ _ _ g (Same.refl _) (.bl _)
  · cases da; cases db; refine ⟨rfl, ?_⟩; rw [dec_str]; exact k _ _ _ g (Same.refl _) (.bl _)
  · cases da; cases db; refine ⟨rfl, ?_⟩; rw [dec_bl]; exact k _ _ _ g (Same.refl _) (.bl _)
  all_goals first | (exact g.elim) | (cases da; cases db; exact ⟨rfl, k _ _ _ g (Same.refl _) (.bl _)⟩)
theorem rr_ne : RR K rNe oNe := by
  intro A H Q x y a b P oc da db g k
  unfold oNe oEqB at g
  split at g
  · cases da; cases db; refine ⟨rfl, ?_⟩; rw [dec_int]; exact k _ _ _ g (Same.refl _) (.bl _)
  · cases da; cases db; refine ⟨rfl, ?_⟩; rw [dec_str]; exact k _ _ _ g (Same.refl _) (.bl _)
  · cases da; cases db; refine ⟨rfl, ?_⟩; rw [dec_bl]; exact k _ _ _ g (Same.refl _) (.bl _)
  all_goals first | (exact g.elim) | (cases da; cases db; exact ⟨rfl, k _ _ _ g (Same.refl _) (.bl _)⟩)
/-- == of data -/
def oEqD : G2 := fun a b P => SeqAt.shaped a = true ∧ SeqAt.shaped b = true ∧ P (.bool (PyData.eqv a b))
def oNeD : G2 := fun a b P => SeqAt.shaped a = true ∧ SeqAt.shaped b = true ∧ P (.bool (!PyData.eqv a b))
theorem rr_eqD : RR K (rEqD K) oEqD := fun A H Q x y a b P oc da db g k => ⟨a, b, Dp.mono hp_same (da.dp (plain_of g.1)), Dp.mono hp_same (db.dp (plain_of g.2.1)), g.1, g.2.1, k _ _ _ g.2.2 (Same.refl _) (.bl _)⟩
theorem rr_neD : RR K (rNeD K) oNeD := fun A H Q x y a b P oc da db g k => ⟨a, b, Dp.mono hp_same (da.dp (plain_of g.1)), Dp.mono hp_same (db.dp (plain_of g.2.1)), g.1, g.2.1, k _ _ _ g.2.2 (Same.refl _) (.bl _)⟩
def isNone : PyData → Bool
  | .none => true
  | _ => false
def oIsB (h : Bool → Bool) : G2 := fun a b P => match b with
  | .none => P (.bool (h (isNone a)))
  | _ => False
abbrev oIs : G2 := oIsB id
abbrev oIsnt : G2 := oIsB not
theorem isNone_of {H : Hp} {x : V} {a : PyData} (d : Dq K H x a) : decide (x = .non) = isNone a := by cases d <;> rfl
theorem rr_isN : RR K (fun x y H Q => y = .non ∧ Q (.bl (decide (x = .non))) H) oIs := by
  intro A H Q x y a b P oc da db g k
  unfold oIs oIsB at g
  split at g
  · cases db; refine ⟨rfl, ?_⟩; rw [isNone_of da]; exact k _ _ _ g (Same.refl _) (.bl _)
  · exact g.elim
theorem rr_notN : RR K (fun x y H Q => y = .non ∧ Q (.bl (!decide (x = .non))) H) oIsnt := by
  intro A H Q x y a b P oc da db g k
  unfold oIsnt oIsB at g
  split at g
  · cases db; refine ⟨rfl, ?_⟩; rw [isNone_of da]; exact k _ _ _ g (Same.refl _) (.bl _)
  · exact g.elim
/-- a sign in a text -/
def oInSB (h : Bool → Bool) : G2 := fun a b P => match a, b with
  | .str s, .str z => ∃ c, s = ⟨#[c]⟩ ∧ P (.bool (h (decide (c ∈ z.cps.toList))))
  | _, _ => False
abbrev oInS : G2 := oInSB id
abbrev oNinS : G2 := oInSB not
theorem rr_in_sign : RR K (fun x y H Q => ∃ (c : Nat) (z : Str), x = .str ⟨#[c]⟩ ∧ y = .str z ∧ Q (.bl (decide (c ∈ z.cps.toList))) H) oInS := by
  intro A H Q x y a b P oc da db g k
  unfold oInS oInSB at g
  split at g
  · cases da; cases db; obtain ⟨c, rfl, g⟩ := g; exact ⟨_, _, rfl, rfl, k _ _ _ g (Same.refl _) (.bl _)⟩
  · exact g.elim
theorem rr_notIn_sign : RR K (fun x y H Q => ∃ (c : Nat) (z : Str), x = .str ⟨#[c]⟩ ∧ y = .str z ∧ Q (.bl (!decide (c ∈ z.cps.toList))) H) oNinS := by
  intro A H Q x y a b P oc da db g k
  unfold oNinS oInSB at g
  split at g
  · cases da; cases db; obtain ⟨c, rfl, g⟩ := g; exact ⟨_, _, rfl, rfl, k _ _ _ g (Same.refl _) (.bl _)⟩
  · exact g.elim
def flatD : PyData → Bool
  | .none => true
  | .bool _ => true
  | .int _ => true
  | .str _ => true
  | _ => false
theorem flat_of {H : Hp} {x : V} {a : PyData} (d : Dq K H x a) (h : flatD a = true) : flatV x = true := by
  cases d <;> first | rfl | cases h
theorem eqV_of {H : Hp} {x y : V} {a b : PyData} (d : Dq K H x a) (e : Dq K H y b) (h : flatD a = true) (h' : flatD b = true) : eqV x y = PyData.eqv a b := by
  cases d <;> first | (cases h; done) | (cases e <;> first | (cases h'; done) | (unfold PyData.eqv; rfl))
theorem flats_of {H : Hp} : ∀ {xs : List V} {ds : List PyData}, DqAll K H xs ds → ds.all flatD = true → xs.all flatV = true
  | _, _, .nil, _ => rfl
  | _, _, .cons a b, h => by
    have h' := Bool.and_eq_true_iff.mp h
    exact Bool.and_eq_true_iff.mpr ⟨flat_of a h'.1, flats_of b h'.2⟩
def inD (a : PyData) (ds : List PyData) : Bool := ds.any fun y => PyData.eqv y a
theorem in_of {H : Hp} {x : V} {a : PyData} (d : Dq K H x a) (h : flatD a = true) : ∀ {xs : List V} {ds : List PyData}, DqAll K H xs ds → ds.all flatD = true → inV x xs = inD a ds
  | _, _, .nil, _ => rfl
  | _, _, .cons e b, h' => by
    have h' := Bool.and_eq_true_iff.mp h'
    show (eqV _ x || inV x _) = (PyData.eqv _ a || inD a _)
    rw [eqV_of e d h'.1 h, in_of d h b h'.2]
def seqF (a : PyData) (k : List PyData → Prop) : Prop := match a with
  | .list ds => k ds
  | .tuple ds => k ds
  | _ => False
def oIn (neg : Bool) : G2 := fun a b P => seqF b fun ds => flatD a = true ∧ ds.all flatD = true ∧ P (.bool (if neg then !inD a ds else inD a ds))
theorem seqF_of {A : Addr → Prop} {H : Hp} {x : V} {a : PyData} {k : List PyData → Prop} (d : Dq K (hp A H) x a) (h : seqF a k) : ∃ p xs ds, x = .ref p ∧ (SqL K H p xs ∨ SqT K H p xs) ∧ DqAll K (hp A H) xs ds ∧ k ds := by
  unfold seqF at h
  split at h
  · obtain ⟨p, xs, rfl, s, r⟩ := d.list_of
    exact ⟨p, xs, _, rfl, .inl (SqL.mono hp_same s), r, h⟩
  · obtain ⟨p, xs, rfl, s, r⟩ := d.tuple_of
    exact ⟨p, xs, _, rfl, .inr (SqT.mono hp_same s), r, h⟩
  · exact h.elim
theorem rr_in {neg : Bool} : RR K (rIn K neg) (oIn neg) := by
  intro A H Q x y a b P oc da db g k
  obtain ⟨p, xs, ds, rfl, s, r, h1, h2, g⟩ := seqF_of db g
  refine ⟨p, xs, rfl, s, flat_of da h1, flats_of r h2, ?_⟩
  rw [in_of da h1 r h2]
  exact k _ _ _ g (Same.refl _) (.bl _)
/-- x in own -/
def fInO (neg : Bool) (i : Nat) (a : FE) : FE := fun ρ P => a ρ fun x ρ1 => ownF ρ1 i fun ds => flatD x = true ∧ ds.all flatD = true ∧ P (.bool (if neg then !inD x ds else inD x ds)) ρ1
theorem re_inO {neg : Bool} {i : Nat} {ta : TE} {a : FE} (ha : RE K J ta a) : RE K J (tOp (rIn K neg) ta (tVar i)) (fInO neg i a) := by
  intro O as σ H Q ρ P E q k
  refine ha O as σ H _ ρ _ E q fun x ρ1 v H1 q1 f1 E1 d1 => ?_
  obtain ⟨ds, hds, h1, h2, q1⟩ := ownF_of q1
  obtain ⟨p, xs, e1, e2, e3, e4⟩ := E1.own_at hds
  refine ⟨_, e1, p, xs, rfl, .inl (SqL.of e3), flat_of d1 h1, flats_of e4 h2, ?_⟩
  rw [in_of d1 h1 e4 h2]
  exact k _ _ _ _ q1 f1 E1 (.bl _)
/-! places -/
def oIxL : G2 := fun a b P => match a, b with
  | .list ds, .int k => ∃ d, atI ds k = some d ∧ P d
  | _, _ => False
def oIxT : G2 := fun a b P => match a, b with
  | .tuple ds, .int k => ∃ d, atI ds k = some d ∧ P d
  | _, _ => False
def oIxS : G2 := fun a b P => match a, b with
  | .str z, .int k => z.length ≤ sizeLine ∧ ∃ c, atI z.cps.toList k = some c ∧ P (.str ⟨#[c]⟩)
  | _, _ => False
theorem rr_ixL : RR K (rIxL K) oIxL := by
  intro A H Q x y a b P oc da db g k
  unfold oIxL at g
  split at g
  · cases db
    obtain ⟨p, xs, rfl, s, r⟩ := da.list_of
    obtain ⟨d, hd, g⟩ := g
    obtain ⟨v, hv, dv⟩ := r.atI hd
    exact ⟨p, xs, _, v, rfl, rfl, SqL.mono hp_same s, hv, k _ _ _ g (Same.refl _) dv⟩
  · exact g.elim
theorem rr_ixT : RR K (rIxT K) oIxT := by
  intro A H Q x y a b P oc da db g k
  unfold oIxT at g
  split at g
  · cases db
    obtain ⟨p, xs, rfl, s, r⟩ := da.tuple_of
    obtain ⟨d, hd, g⟩ := g
    obtain ⟨v, hv, dv⟩ := r.atI hd
    exact ⟨p, xs, _, v, rfl, rfl, SqT.mono hp_same s, hv, k _ _ _ g (Same.refl _) dv⟩
  · exact g.elim
theorem rr_ixS : RR K rIxS oIxS := by
  intro A H Q x y a b P oc da db g k
  unfold oIxS at g
  split at g
  · cases da; cases db
    obtain ⟨hz, c, hc, g⟩ := g
    exact ⟨_, _, c, rfl, rfl, hz, hc, k _ _ _ g (Same.refl _) (.str _)⟩
  · exact g.elim
def oIx : G2 := fun a b P => match a, b with
  | .list ds, .int k => ∃ d, atI ds k = some d ∧ P d
  | .tuple ds, .int k => ∃ d, atI ds k = some d ∧ P d
  | .str z, .int k => z.length ≤ sizeLine ∧ ∃ c, atI z.cps.toList k = some c ∧ P (.str ⟨#[c]⟩)
  | _, _ => False
theorem rr_ix : RR K (rIx K) oIx := by
  intro A H Q x y a b P oc da db g k
  unfold oIx at g
  split at g
  · exact .inl (rr_ixL A H Q x y _ _ P oc da db g k)
  · exact .inr (.inl (rr_ixT A H Q x y _ _ P oc da db g k))
  · exact .inr (.inr (rr_ixS A H Q x y _ _ P oc da db g k))
  · exact g.elim
/-! slices -/
abbrev FO := En → (Option Int → En → Prop) → Prop
def RO (K : PySem.W.Frag) {n : Nat} (J : Jv n) (t : TO) (f : FO) : Prop := ∀ (O : Addr → Prop) (as : As) (σ : L2.St) (H : Hs) (Q : Option Int → Hp → Prop) (ρ : En) (P : Option Int → En → Prop), EnR K J O as H ρ σ → f ρ P →
  (∀ o ρ' H', P o ρ' → Fr as H H' → EnR K J O as H' ρ' σ → Q o H') → t σ H Q
def pNo : FO := fun ρ P => P none ρ
def pSo (a : FE) : FO := fun ρ P => a ρ fun d ρ1 => intF d fun i => P (some i) ρ1
theorem ro_no : RO K J tNoPart pNo := fun O as σ H Q ρ P E f k => k none ρ H f (Fr.refl) E
theorem ro_so {t : TE} {a : FE} (ha : RE K J t a) : RO K J (tPart t) (pSo a) := by
  intro O as σ H Q ρ P E q k
  refine ha O as σ H _ ρ _ E q fun d ρ1 v H1 q1 f1 E1 d1 => ?_
  unfold intF at q1
  split at q1
  · cases d1; exact ⟨_, rfl, k _ _ _ q1 f1 E1⟩
  · exact q1.elim
def RL (K : PySem.W.Frag) (r : V → Option Int → Option Int → Hp → VK → Prop) (g : PyData → Option Int → Option Int → (PyData → Prop) → Prop) : Prop := ∀ (A : Addr → Prop) (H : Hp) (Q : VK) (x : V) (a : PyData) (lo hi : Option Int) (P : PyData → Prop), (∀ c, A c → H c ≠ none) →
  Dq K (hp A H) x a → g a lo hi P → (∀ d v H', P d → Same H H' → Dq K (hp A H') v d → Q v H') → r x lo hi H Q
def fSl (g : PyData → Option Int → Option Int → (PyData → Prop) → Prop) (a : FE) (lo hi : FO) : FE := fun ρ P => a ρ fun x ρ1 => lo ρ1 fun l ρ2 => hi ρ2 fun u ρ3 => g x l u fun d => P d ρ3
theorem re_sl {r : V → Option Int → Option Int → Hp → VK → Prop} {g : PyData → Option Int → Option Int → (PyData → Prop) → Prop} {te : TE} {tl th : TO} {a : FE} {lo hi : FO} (hr : RL K r g) (ha : RE K J te a) (hl : RO K J tl lo) (hh : RO K J th hi) : RE K J (tSl r te tl th) (fSl g a lo hi) := by
  intro O as σ H Q ρ P E q k
  refine ha O as σ H _ ρ _ E q fun x ρ1 v H1 q1 f1 E1 d1 => ?_
  refine hl O as σ H1 _ ρ1 _ E1 q1 fun l ρ2 H2 q2 f2 E2 => ?_
  refine hh O as σ H2 _ ρ2 _ E2 q2 fun u ρ3 H3 q3 f3 E3 => ?_
  refine hr (Hid O as H3) H3 _ v x l u _ (fun c h => E3.full h) ((d1.fr f2).fr f3) q3 fun d w H4 p s4 d4 => ?_
  exact k _ _ _ _ p (((f1.trans f2).trans f3).trans (E3.frS s4)) (E3.grow s4) (d4.mono (E3.toS s4))
def cutD (xs : List PyData) (lo hi : Option Int) : List PyData := (xs.drop (HT.sIx xs.length 0 lo)).take (HT.sIx xs.length xs.length hi - HT.sIx xs.length 0 lo)
theorem DqAll.cut {G : Hp} {xs : List V} {ds : List PyData} (r : DqAll K G xs ds) (lo hi : Option Int) : DqAll K G (cutV xs lo hi) (cutD ds lo hi) := by
  unfold cutV cutD
  rw [r.length]
  exact (r.drop _).take _
def sL : PyData → Option Int → Option Int → (PyData → Prop) → Prop := fun a lo hi P => listF a fun ds => P (.list (cutD ds lo hi))
def sT : PyData → Option Int → Option Int → (PyData → Prop) → Prop := fun a lo hi P => tupleF a fun ds => P (.tuple (cutD ds lo hi))
def sS : PyData → Option Int → Option Int → (PyData → Prop) → Prop := fun a lo hi P => strF a fun z => z.length ≤ sizeLine ∧ P (.str (cutS z lo hi))
theorem rl_list : RL K (rSlL K) sL := by
  intro A H Q x a lo hi P oc da g k
  unfold sL listF at g
  split at g
  · obtain ⟨p, xs, rfl, s, r⟩ := da.list_of
    refine ⟨p, xs, rfl, SqL.mono hp_same s, fun l hl => ?_⟩
    have sm := Same.new (o := .lst (cutV xs lo hi)) hl
    exact k _ _ _ g sm (.lst (SqL.of (hp_mk (fun q => oc _ q hl) upd_same)) ((r.mono (hp_grow sm)).cut lo hi))
  · exact g.elim
theorem rl_tupA : RL K (rSlA K) sT := by
  intro A H Q x a lo hi P oc da g k
  unfold sT tupleF at g
  split at g
  · obtain ⟨p, xs, rfl, s, r⟩ := da.tuple_of
    refine ⟨p, xs, rfl, SqT.mono hp_same s, fun e => ?_, fun _ l hl => ?_⟩
    · refine k _ _ _ g (Same.refl _) (.tup (xs := cutV xs lo hi) ?_ (r.cut lo hi))
      unfold cutV
      rw [e.1, e.2, List.drop_zero, Nat.sub_zero, List.take_length]
      exact s
    · have sm := Same.new (o := .tup (cutV xs lo hi)) hl
      exact k _ _ _ g sm (.tup (SqT.of (hp_mk (fun q => oc _ q hl) upd_same)) ((r.mono (hp_grow sm)).cut lo hi))
  · exact g.elim
theorem rl_str : RL K rSlS sS := by
  intro A H Q x a lo hi P oc da g k
  unfold sS strF at g
  split at g
  · cases da; exact ⟨_, rfl, g.1, k _ _ _ g.2 (Same.refl _) (.str _)⟩
  · exact g.elim
end
end DL
namespace DL
open PySem L2 Z PySem.Spec PyProof.Rows
variable [Tbs]
section
variable {K : PySem.W.Frag} {n : Nat} {J : Jv n}
/-- list + list, each tracked, frozen or of the module -/
def rCatK (K : PySem.W.Frag) : R2 := fun x y H Q => ∃ l b xs zs, x = .ref l ∧ y = .ref b ∧ SqL K H l xs ∧ SqL K H b zs ∧ xs.length + zs.length ≤ sizeLine ∧ ∀ p, H p = none → Q (.ref p) (upd H p (.lst (xs ++ zs)))
theorem op_catK {X : Cx} : OpR X (binaryOp .Add) (rCatK X.K) := by
  intro pins s σ H x y v u Q I rx ry h
  obtain ⟨l, b, xs, zs, rfl, rfl, hH, hB, hz, q⟩ := h
  cases rx
  cases ry
  obtain ⟨its, r, ⟨⟨c1, d1, e1, sl1⟩, n1, ho1, hc1, hd1, hs1⟩, z1⟩ := I.list hH
  obtain ⟨its2, r2, ⟨⟨c2, d2, e2, sl2⟩, n2, ho2, hc2, hd2, hs2⟩, z2⟩ := I.list hB
  simp only at hc1 hd1 hs1 hc2 hd2 hs2
  subst hc1 hd1 hs1 hc2 hd2 hs2
  have ea : its.toArray ++ its2.toArray = (its ++ its2).toArray := by simp
  have l1 := r.length
  have l2 := r2.length
  refine concat_meets ⟨_, ho1, rfl⟩ ⟨_, ho2, rfl⟩ noFill_list_add seq_list_add PySem.F.slot_list_add PySem.F.entry_list_add (PySem.F.args_list_add_2 _ _) (list_addW l b its.toArray its2.toArray n1 n2 none none sl1 sl2 (by simp; omega)) ⟨ho1, ho2, ?_⟩
  rw [ea]
  exact ⟨.ref _, _, I.lnew (t' := s.toks) (r.append r2) (by rw [List.length_append]; omega), rfl, q _ I.fresh⟩
def oCatL : G2 := fun a b P => match a, b with
  | .list xs, .list ys => xs.length + ys.length ≤ sizeLine ∧ P (.list (xs ++ ys))
  | _, _ => False
theorem rr_cat : RR K (rCatK K) oCatL := by
  intro A H Q x y a b P oc da db g k
  unfold oCatL at g
  split at g
  · obtain ⟨p, xs, rfl, s, r⟩ := da.list_of
    obtain ⟨p', xs', rfl, s', r'⟩ := db.list_of
    refine ⟨p, p', xs, xs', rfl, rfl, SqL.mono hp_same s, SqL.mono hp_same s', by rw [r.length, r'.length]; exact g.1, fun l hl => ?_⟩
    have sm := Same.new (o := .lst (xs ++ xs')) hl
    exact k _ _ _ g.2 sm (.lst (SqL.of (hp_mk (fun q => oc _ q hl) upd_same)) ((r.mono (hp_grow sm)).append (r'.mono (hp_grow sm))))
  · exact g.elim
def oCatT : G2 := fun a b P => match a, b with
  | .tuple xs, .tuple ys => xs.length + ys.length ≤ sizeLine ∧ P (.tuple (xs ++ ys))
  | _, _ => False
theorem rr_catA : RR K (rCatA K) oCatT := by
  intro A H Q x y a b P oc da db g k
  unfold oCatT at g
  split at g
  · obtain ⟨p, xs, rfl, s, r⟩ := da.tuple_of
    obtain ⟨p', xs', rfl, s', r'⟩ := db.tuple_of
    have rr := r.append r'
    refine ⟨p, p', xs, xs', rfl, rfl, SqT.mono hp_same s, SqT.mono hp_same s', by rw [r.length, r'.length]; exact g.1, fun e => ?_, fun _ e => ?_, fun _ _ l hl => ?_⟩
    · subst e
      exact k _ _ _ g.2 (Same.refl _) (.tup s' rr)
    · subst e
      rw [List.append_nil] at rr
      exact k _ _ _ g.2 (Same.refl _) (.tup s rr)
    · have sm := Same.new (o := .tup (xs ++ xs')) hl
      exact k _ _ _ g.2 sm (.tup (SqT.of (hp_mk (fun q => oc _ q hl) upd_same)) (rr.mono (hp_grow sm)))
  · exact g.elim
def uNeg (a : PyData) (P : PyData → Prop) : Prop := intF a fun i => P (.int (-i))
theorem ru_neg : RU K (rU fun i => .int (-i)) uNeg := by
  intro A H Q x a P oc da g k
  unfold uNeg intF at g
  split at g
  · cases da; exact ⟨_, rfl, k _ _ _ g (Same.refl _) (.int _)⟩
  · exact g.elim
/-! built-in calls -/
def one (ds : List PyData) (k : PyData → Prop) : Prop := match ds with
  | [d] => k d
  | _ => False
theorem one_of {G : Hp} {vs : List V} {ds : List PyData} {k : PyData → Prop} (r : DqAll K G vs ds) (h : one ds k) : ∃ v d, vs = [v] ∧ Dq K G v d ∧ k d := by
  unfold one at h
  split at h
  · cases r with
    | cons a b => cases b; exact ⟨_, _, rfl, a, h⟩
  · exact h.elim
def bLenS (ds : List PyData) (P : PyData → Prop) : Prop := one ds fun d => strF d fun z => z.length ≤ sizeLine ∧ P (.int z.length)
theorem rb_len_str : RB K (fun xs H Q => ∃ z, xs = [.str z] ∧ z.length ≤ sizeLine ∧ Q (.int z.length) H) bLenS := by
  intro A H Q xs ds P oc r g k
  obtain ⟨v, d, rfl, q, g⟩ := one_of r g
  unfold strF at g
  split at g
  · cases q; exact ⟨_, rfl, g.1, k _ _ _ g.2 (Same.refl _) (.int _)⟩
  · exact g.elim
def bLen (ds : List PyData) (P : PyData → Prop) : Prop := one ds fun d => seqF d fun es => P (.int es.length)
theorem rb_len : RB K (fun xs H Q => ∃ p ys, xs = [.ref p] ∧ (SqL K H p ys ∨ SqT K H p ys) ∧ Q (.int ys.length) H) bLen := by
  intro A H Q xs ds P oc r g k
  obtain ⟨v, d, rfl, q, g⟩ := one_of r g
  obtain ⟨p, xs, ds, rfl, s, r, g⟩ := seqF_of q g
  refine ⟨p, xs, rfl, s, ?_⟩
  rw [r.length]
  exact k _ _ _ g (Same.refl _) (.int _)
theorem rb_lenK : RB K (rLenK K) bLen := rb_len
def bAbs (ds : List PyData) (P : PyData → Prop) : Prop := one ds fun d => intF d fun i => P (.int (if i < 0 then -i else i))
theorem rb_abs : RB K (fun xs H Q => ∃ i, xs = [.int i] ∧ Q (.int (if i < 0 then -i else i)) H) bAbs := by
  intro A H Q xs ds P oc r g k
  obtain ⟨v, d, rfl, q, g⟩ := one_of r g
  unfold intF at g
  split at g
  · cases q; exact ⟨_, rfl, k _ _ _ g (Same.refl _) (.int _)⟩
  · exact g.elim
def two (ds : List PyData) (k : Int → Int → Prop) : Prop := match ds with
  | [.int i, .int j] => k i j
  | _ => False
theorem two_of {G : Hp} {vs : List V} {ds : List PyData} {k : Int → Int → Prop} (r : DqAll K G vs ds) (h : two ds k) : ∃ i j, vs = [.int i, .int j] ∧ k i j := by
  unfold two at h
  split at h
  · cases r with
    | cons a b => cases b with
      | cons c d => cases a; cases c; cases d; exact ⟨_, _, rfl, h⟩
  · exact h.elim
def bMin (ds : List PyData) (P : PyData → Prop) : Prop := two ds fun i j => P (.int (if j < i then j else i))
def bMax (ds : List PyData) (P : PyData → Prop) : Prop := two ds fun i j => P (.int (if j > i then j else i))
theorem rb_min2 : RB K (fun xs H Q => ∃ i j, xs = [.int i, .int j] ∧ Q (.int (if j < i then j else i)) H) bMin := by
  intro A H Q xs ds P oc r g k
  obtain ⟨i, j, rfl, g⟩ := two_of r g
  exact ⟨_, _, rfl, k _ _ _ g (Same.refl _) (.int _)⟩
theorem rb_max2 : RB K (fun xs H Q => ∃ i j, xs = [.int i, .int j] ∧ Q (.int (if j > i then j else i)) H) bMax := by
  intro A H Q xs ds P oc r g k
  obtain ⟨i, j, rfl, g⟩ := two_of r g
  exact ⟨_, _, rfl, k _ _ _ g (Same.refl _) (.int _)⟩
def bDivmod (ds : List PyData) (P : PyData → Prop) : Prop := two ds fun i j => CDiv i j ∧ P (.tuple [.int (i / j), .int (i % j)])
theorem rb_divmod : RB K (fun xs H Q => ∃ i j, xs = [.int i, .int j] ∧ CDiv i j ∧ ∀ p, H p = none → Q (.ref p) (upd H p (.tup [.int (i / j), .int (i % j)]))) bDivmod := by
  intro A H Q xs ds P oc r g k
  obtain ⟨i, j, rfl, g⟩ := two_of r g
  refine ⟨_, _, rfl, g.1, fun p hp1 => ?_⟩
  exact k _ _ _ g.2 (Same.new hp1) (.tup (SqT.of (hp_mk (fun q => oc _ q hp1) upd_same)) (.cons (.int _) (.cons (.int _) .nil)))
def boolsF : List PyData → (List Bool → Prop) → Prop
  | [], k => k []
  | .bool b :: r, k => boolsF r fun bs => k (b :: bs)
  | _ :: _, _ => False
theorem boolsF_of : ∀ {ds : List PyData} {k : List Bool → Prop}, boolsF ds k → ∃ bs : List Bool, ds = bs.map .bool ∧ k bs
  | [], k, h => ⟨[], rfl, h⟩
  | .bool b :: r, k, h => by
    obtain ⟨bs, e, h'⟩ := boolsF_of (ds := r) h
    exact ⟨b :: bs, by rw [e]; rfl, h'⟩
theorem boolsF_map {bs : List Bool} : ∀ {k : List Bool → Prop}, k bs → boolsF (bs.map .bool) k := by
  induction bs with
  | nil => exact fun h => h
  | cons b r ih => exact fun {k} h => ih (k := fun bs => k (b :: bs)) h
def intsF : List PyData → (List Int → Prop) → Prop
  | [], k => k []
  | .int b :: r, k => intsF r fun bs => k (b :: bs)
  | _ :: _, _ => False
theorem intsF_of : ∀ {ds : List PyData} {k : List Int → Prop}, intsF ds k → ∃ bs : List Int, ds = bs.map .int ∧ k bs
  | [], k, h => ⟨[], rfl, h⟩
  | .int b :: r, k, h => by
    obtain ⟨bs, e, h'⟩ := intsF_of (ds := r) h
    exact ⟨b :: bs, by rw [e]; rfl, h'⟩
theorem intsF_map {bs : List Int} : ∀ {k : List Int → Prop}, k bs → intsF (bs.map .int) k := by
  induction bs with
  | nil => exact fun h => h
  | cons b r ih => exact fun {k} h => ih (k := fun bs => k (b :: bs)) h
def strsF : List PyData → (List Str → Prop) → Prop
  | [], k => k []
  | .str b :: r, k => strsF r fun bs => k (b :: bs)
  | _ :: _, _ => False
theorem strsF_of : ∀ {ds : List PyData} {k : List Str → Prop}, strsF ds k → ∃ bs : List Str, ds = bs.map .str ∧ k bs
  | [], k, h => ⟨[], rfl, h⟩
  | .str b :: r, k, h => by
    obtain ⟨bs, e, h'⟩ := strsF_of (ds := r) h
    exact ⟨b :: bs, by rw [e]; rfl, h'⟩
theorem strsF_map {bs : List Str} : ∀ {k : List Str → Prop}, k bs → strsF (bs.map .str) k := by
  induction bs with
  | nil => exact fun h => h
  | cons b r ih => exact fun {k} h => ih (k := fun bs => k (b :: bs)) h
def bAll (ds : List PyData) (P : PyData → Prop) : Prop := one ds fun d => listF d fun es => boolsF es fun bs => P (.bool (bs.all id))
def bAny (ds : List PyData) (P : PyData → Prop) : Prop := one ds fun d => listF d fun es => boolsF es fun bs => P (.bool (bs.any id))
def bSum (ds : List PyData) (P : PyData → Prop) : Prop := one ds fun d => listF d fun es => intsF es fun ns => P (.int ns.sum)
theorem rb_all : RB K (rAll K) bAll := by
  intro A H Q xs ds P oc r g k
  obtain ⟨v, d, rfl, q, g⟩ := one_of r g
  unfold listF at g
  split at g
  · obtain ⟨bs, e, g'⟩ := boolsF_of g
    subst e
    obtain ⟨a, ys, rfl, s, r⟩ := q.list_of
    cases r.bools_of
    exact ⟨a, bs, rfl, SqL.mono hp_same s, k _ _ _ g' (Same.refl _) (.bl _)⟩
  · exact g.elim
theorem rb_any : RB K (rAny K) bAny := by
  intro A H Q xs ds P oc r g k
  obtain ⟨v, d, rfl, q, g⟩ := one_of r g
  unfold listF at g
  split at g
  · obtain ⟨bs, e, g'⟩ := boolsF_of g
    subst e
    obtain ⟨a, ys, rfl, s, r⟩ := q.list_of
    cases r.bools_of
    exact ⟨a, bs, rfl, SqL.mono hp_same s, k _ _ _ g' (Same.refl _) (.bl _)⟩
  · exact g.elim
theorem rb_sum : RB K (rSum K) bSum := by
  intro A H Q xs ds P oc r g k
  obtain ⟨v, d, rfl, q, g⟩ := one_of r g
  unfold listF at g
  split at g
  · obtain ⟨bs, e, g'⟩ := intsF_of g
    subst e
    obtain ⟨a, ys, rfl, s, r⟩ := q.list_of
    cases r.ints_of
    exact ⟨a, bs, rfl, SqL.mono hp_same s, k _ _ _ g' (Same.refl _) (.int _)⟩
  · exact g.elim
def bMinL (ds : List PyData) (P : PyData → Prop) : Prop := one ds fun d => listF d fun es => intsF es fun ns => 0 < ns.length ∧ ∀ m, m ∈ ns → (∀ y, y ∈ ns → m ≤ y) → P (.int m)
def bMaxL (ds : List PyData) (P : PyData → Prop) : Prop := one ds fun d => listF d fun es => intsF es fun ns => 0 < ns.length ∧ ∀ m, m ∈ ns → (∀ y, y ∈ ns → y ≤ m) → P (.int m)
theorem rb_min : RB K (rMin K) bMinL := by
  intro A H Q xs ds P oc r g k
  obtain ⟨v, d, rfl, q, g⟩ := one_of r g
  unfold listF at g
  split at g
  · obtain ⟨bs, e, g'⟩ := intsF_of g
    subst e
    obtain ⟨a, ys, rfl, s, r⟩ := q.list_of
    cases r.ints_of
    exact ⟨a, bs, rfl, SqL.mono hp_same s, g'.1, fun m h1 h2 => k _ _ _ (g'.2 m h1 h2) (Same.refl _) (.int _)⟩
  · exact g.elim
theorem rb_max : RB K (rMax K) bMaxL := by
  intro A H Q xs ds P oc r g k
  obtain ⟨v, d, rfl, q, g⟩ := one_of r g
  unfold listF at g
  split at g
  · obtain ⟨bs, e, g'⟩ := intsF_of g
    subst e
    obtain ⟨a, ys, rfl, s, r⟩ := q.list_of
    cases r.ints_of
    exact ⟨a, bs, rfl, SqL.mono hp_same s, g'.1, fun m h1 h2 => k _ _ _ (g'.2 m h1 h2) (Same.refl _) (.int _)⟩
  · exact g.elim
def bSortI (ds : List PyData) (P : PyData → Prop) : Prop := one ds fun d => listF d fun es => intsF es fun ns => ∀ ms : List Int, ms.Perm ns → ms.Pairwise (· ≤ ·) → P (.list (ms.map .int))
theorem rb_sortI : RB K (rSortedI K) bSortI := by
  intro A H Q xs ds P oc r g k
  obtain ⟨v, d, rfl, q, g⟩ := one_of r g
  unfold listF at g
  split at g
  · obtain ⟨bs, e, g'⟩ := intsF_of g
    subst e
    obtain ⟨a, ys, rfl, s, r⟩ := q.list_of
    cases r.ints_of
    refine ⟨a, bs, rfl, SqL.mono hp_same s, fun ms p h1 h2 hp1 => ?_⟩
    exact k _ _ _ (g' ms h1 h2) (Same.new hp1) (.lst (SqL.of (hp_mk (fun q => oc _ q hp1) upd_same)) (DqAll.ints _))
  · exact g.elim
def bInt (ds : List PyData) (P : PyData → Prop) : Prop := one ds fun d => match d with
  | .int i => P (.int i)
  | .bool b => P (.int (if b then 1 else 0))
  | _ => False
theorem rb_int : RB K (fun xs H Q => (∃ i, xs = [.int i] ∧ Q (.int i) H) ∨ ∃ k, xs = [.bl k] ∧ Q (.int (if k then 1 else 0)) H) bInt := by
  intro A H Q xs ds P oc r g k
  obtain ⟨v, d, rfl, q, g⟩ := one_of r g
  split at g
  · cases q; exact .inl ⟨_, rfl, k _ _ _ g (Same.refl _) (.int _)⟩
  · cases q; exact .inr ⟨_, rfl, k _ _ _ g (Same.refl _) (.int _)⟩
  · exact g.elim
def bIntS (ds : List PyData) (P : PyData → Prop) : Prop := one ds fun d => strF d fun a => ∃ m, PySem.intText? a = some m ∧ a.length ≤ 640 ∧ P (.int m)
theorem rb_int_str : RB K (fun xs H Q => ∃ a n, xs = [.str a] ∧ PySem.intText? a = some n ∧ a.length ≤ 640 ∧ Q (.int n) H) bIntS := by
  intro A H Q xs ds P oc r g k
  obtain ⟨v, d, rfl, q, g⟩ := one_of r g
  unfold strF at g
  split at g
  · cases q; obtain ⟨m, h1, h2, g⟩ := g; exact ⟨_, _, rfl, h1, h2, k _ _ _ g (Same.refl _) (.int _)⟩
  · exact g.elim
def bStrI (ds : List PyData) (P : PyData → Prop) : Prop := one ds fun d => intF d fun i => i.natAbs.log2 < 1920 ∧ P (.str (toString i))
theorem rb_str_int : RB K (fun xs H Q => ∃ i, xs = [.int i] ∧ i.natAbs.log2 < 1920 ∧ Q (.str (toString i)) H) bStrI := by
  intro A H Q xs ds P oc r g k
  obtain ⟨v, d, rfl, q, g⟩ := one_of r g
  unfold intF at g
  split at g
  · cases q; exact ⟨_, rfl, g.1, k _ _ _ g.2 (Same.refl _) (.str _)⟩
  · exact g.elim
def bBool (ds : List PyData) (P : PyData → Prop) : Prop := one ds fun d => match d with
  | .int i => P (.bool (i != 0))
  | .bool b => P (.bool b)
  | _ => False
theorem rb_bool : RB K (fun xs H Q => (∃ i, xs = [.int i] ∧ Q (.bl (i != 0)) H) ∨ ∃ k, xs = [.bl k] ∧ Q (.bl k) H) bBool := by
  intro A H Q xs ds P oc r g k
  obtain ⟨v, d, rfl, q, g⟩ := one_of r g
  split at g
  · cases q; exact .inl ⟨_, rfl, k _ _ _ g (Same.refl _) (.bl _)⟩
  · cases q; exact .inr ⟨_, rfl, k _ _ _ g (Same.refl _) (.bl _)⟩
  · exact g.elim
def bList (ds : List PyData) (P : PyData → Prop) : Prop := one ds fun d => seqF d fun es => P (.list es)
theorem rb_list : RB K (fun xs H Q => ∃ p ys, xs = [.ref p] ∧ (SqL K H p ys ∨ SqT K H p ys) ∧ ∀ l, H l = none → Q (.ref l) (upd H l (.lst ys))) bList := by
  intro A H Q xs ds P oc r g k
  obtain ⟨v, d, rfl, q, g⟩ := one_of r g
  obtain ⟨p, xs, ds, rfl, s, r, g⟩ := seqF_of q g
  refine ⟨p, xs, rfl, s, fun l hl => ?_⟩
  have sm := Same.new (o := .lst xs) hl
  exact k _ _ _ g sm (.lst (SqL.of (hp_mk (fun q => oc _ q hl) upd_same)) (r.mono (hp_grow sm)))
def bTuple (ds : List PyData) (P : PyData → Prop) : Prop := one ds fun d => seqF d fun es => P (.tuple es)
theorem rb_tuple : RB K (fun xs H Q => ∃ p ys, xs = [.ref p] ∧ ((SqL K H p ys ∧ ∀ l, H l = none → Q (.ref l) (upd H l (.tup ys))) ∨ (SqT K H p ys ∧ Q (.ref p) H))) bTuple := by
  intro A H Q xs ds P oc r g k
  obtain ⟨v, d, rfl, q, g⟩ := one_of r g
  unfold seqF at g
  split at g
  · obtain ⟨p, xs, rfl, s, r⟩ := q.list_of
    refine ⟨p, xs, rfl, .inl ⟨SqL.mono hp_same s, fun l hl => ?_⟩⟩
    have sm := Same.new (o := .tup xs) hl
    exact k _ _ _ g sm (.tup (SqT.of (hp_mk (fun q => oc _ q hl) upd_same)) (r.mono (hp_grow sm)))
  · obtain ⟨p, xs, rfl, s, r⟩ := q.tuple_of
    exact ⟨p, xs, rfl, .inr ⟨SqT.mono hp_same s, k _ _ _ g (Same.refl _) (.tup s r)⟩⟩
  · exact g.elim
def bRepr (ds : List PyData) (P : PyData → Prop) : Prop := one ds fun d => seqF d fun _ => d.hasDict = false ∧ d.showable = true ∧ d.depth ≤ 60 ∧ d.shown.length ≤ sizeLine ∧ P (.str d.shown)
theorem rb_repr : RB K (fun xs H Q => ∃ (a : Addr) (d : PyData), xs = [.ref a] ∧ Dp K H (.ref a) d ∧ d.showable = true ∧ d.depth ≤ 60 ∧ d.shown.length ≤ sizeLine ∧ Q (.str d.shown) H) bRepr := by
  intro A H Q xs ds P oc r g k
  obtain ⟨v, d, rfl, q, g⟩ := one_of r g
  obtain ⟨p, xs, es, rfl, s, r, h0, h1, h2, h3, g⟩ := seqF_of q g
  exact ⟨p, d, rfl, Dp.mono hp_same (q.dp h0), h1, h2, h3, k _ _ _ g (Same.refl _) (.str _)⟩
/-! isinstance -/
def isObjD : PyData → Bool
  | .dict _ => true
  | _ => false
def fIsi (b : String) (a : FE) : FE := fun ρ P => a ρ fun d ρ1 => isObjD d = false ∧ ∃ c, kitB (kindD d) b = some c ∧ P (.bool c) ρ1
theorem Dq.ty {A : Addr → Prop} {H : Hp} {v : V} {d : PyData} (q : Dq K (hp A H) v d) (h : isObjD d = false) : TyX K H v (.type (kindD d)) := by
  cases q with
  | non => exact .base .non
  | bl b => exact .base (.bl b)
  | int i => exact .base (.int i)
  | str x => exact .base (.str x)
  | lst s _ => exact SqL.ty (SqL.mono hp_same s)
  | tup s _ => exact SqT.ty (SqT.mono hp_same s)
  | obj _ _ _ => cases h
  | exc _ _ _ _ => cases h
  | fnc _ => cases h
  | hdl => cases h
  | tn _ _ _ => cases h
theorem re_isi {b : String} {ta : TE} {a : FE} (ha : RE K J ta a) : RE K J (tCB (rIsi K) (tCons ta (tCons (tC (.ty b)) tNil))) (fIsi b a) := by
  intro O as σ H Q ρ P E q k
  refine ha O as σ H _ ρ _ E q fun d ρ1 v H1 q1 f1 E1 d1 => ?_
  obtain ⟨ho, c, hc, q1⟩ := q1
  exact ⟨_, _, _, _, c, rfl, .ty _, d1.ty ho, kit_ty hc, k _ _ _ _ q1 f1 E1 (.bl _)⟩
/-! methods of texts -/
def mStr1 (C : Str → Str → Prop) (h : Str → Str → PyData) : Str → List PyData → (PyData → Prop) → Prop := fun z ds P => one ds fun d => strF d fun b => C z b ∧ P (h z b)
theorem strs1_of {G : Hp} {vs : List V} {ds : List PyData} {k : Str → Prop} (r : DqAll K G vs ds) (h : one ds fun d => strF d k) : ∃ b, vs = [.str b] ∧ k b := by
  obtain ⟨v, d, rfl, q, g⟩ := one_of r h
  unfold strF at g
  split at g
  · cases q; exact ⟨_, rfl, g⟩
  · exact g.elim
abbrev mFind := mStr1 (fun _ _ => True) fun a b => .int (Txt.find a b)
theorem rm_find : RM K (fun x xs H Q => ∃ a b, x = .str a ∧ xs = [.str b] ∧ Q (.int (Txt.find a b)) H) mFind := by
  intro A H Q z xs ds P oc r g k
  obtain ⟨b, rfl, g⟩ := strs1_of r g
  exact ⟨_, _, rfl, rfl, k _ _ _ g.2 (Same.refl _) (.int _)⟩
abbrev mCount := mStr1 (fun _ _ => True) fun a b => .int (Txt.count a b)
theorem rm_count : RM K (fun x xs H Q => ∃ a b, x = .str a ∧ xs = [.str b] ∧ Q (.int (Txt.count a b)) H) mCount := by
  intro A H Q z xs ds P oc r g k
  obtain ⟨b, rfl, g⟩ := strs1_of r g
  exact ⟨_, _, rfl, rfl, k _ _ _ g.2 (Same.refl _) (.int _)⟩
abbrev mSplit := mStr1 (fun a b => (b.length == 0) = false ∧ a.length + 2 ≤ sizeLine) fun a b => .list ((Txt.split a b).map .str)
theorem rm_split : RM K (fun x xs H Q => ∃ a b, x = .str a ∧ xs = [.str b] ∧ (b.length == 0) = false ∧ a.length + 2 ≤ sizeLine ∧ rNewStrs (Txt.split a b) H Q) mSplit := by
  intro A H Q z xs ds P oc r g k
  obtain ⟨b, rfl, g⟩ := strs1_of r g
  refine ⟨_, _, rfl, rfl, g.1.1, g.1.2, fun p hp1 => ?_⟩
  exact k _ _ _ g.2 (Same.new hp1) (.lst (SqL.of (hp_mk (fun q => oc _ q hp1) upd_same)) (DqAll.strs _))
abbrev mPart := mStr1 (fun a b => (b.length == 0) = false ∧ a.length ≤ sizeLine) fun a b => .tuple [.str (Txt.partition a b).1, .str (Txt.partition a b).2.1, .str (Txt.partition a b).2.2]
theorem rm_partition : RM K (fun x xs H Q => ∃ a b, x = .str a ∧ xs = [.str b] ∧ (b.length == 0) = false ∧ a.length ≤ sizeLine ∧ ∀ p, H p = none → Q (.ref p) (upd H p (.tup [.str (Txt.partition a b).1, .str (Txt.partition a b).2.1, .str (Txt.partition a b).2.2]))) mPart := by
  intro A H Q z xs ds P oc r g k
  obtain ⟨b, rfl, g⟩ := strs1_of r g
  refine ⟨_, _, rfl, rfl, g.1.1, g.1.2, fun p hp1 => ?_⟩
  exact k _ _ _ g.2 (Same.new hp1) (.tup (SqT.of (hp_mk (fun q => oc _ q hp1) upd_same)) (.cons (.str _) (.cons (.str _) (.cons (.str _) .nil))))
abbrev mRpart := mStr1 (fun a b => (b.length == 0) = false ∧ a.length ≤ sizeLine) fun a b => .tuple [.str (Txt.rpartition a b).1, .str (Txt.rpartition a b).2.1, .str (Txt.rpartition a b).2.2]
theorem rm_rpartition : RM K (fun x xs H Q => ∃ a b, x = .str a ∧ xs = [.str b] ∧ (b.length == 0) = false ∧ a.length ≤ sizeLine ∧ ∀ p, H p = none → Q (.ref p) (upd H p (.tup [.str (Txt.rpartition a b).1, .str (Txt.rpartition a b).2.1, .str (Txt.rpartition a b).2.2]))) mRpart := by
  intro A H Q z xs ds P oc r g k
  obtain ⟨b, rfl, g⟩ := strs1_of r g
  refine ⟨_, _, rfl, rfl, g.1.1, g.1.2, fun p hp1 => ?_⟩
  exact k _ _ _ g.2 (Same.new hp1) (.tup (SqT.of (hp_mk (fun q => oc _ q hp1) upd_same)) (.cons (.str _) (.cons (.str _) (.cons (.str _) .nil))))
def mZfill : Str → List PyData → (PyData → Prop) → Prop := fun z ds P => one ds fun d => intF d fun i => PadOk i = true ∧ P (.str (Txt.zfill z i))
theorem rm_zfill : RM K (fun x xs H Q => ∃ (a : Str) (i : Int), x = .str a ∧ xs = [.int i] ∧ PadOk i = true ∧ Q (.str (Txt.zfill a i)) H) mZfill := by
  intro A H Q z xs ds P oc r g k
  obtain ⟨v, d, rfl, q, g⟩ := one_of r g
  unfold intF at g
  split at g
  · cases q; exact ⟨_, _, rfl, rfl, g.1, k _ _ _ g.2 (Same.refl _) (.str _)⟩
  · exact g.elim
def mJoin : Str → List PyData → (PyData → Prop) → Prop := fun z ds P => one ds fun d => seqF d fun es => strsF es fun ys => (ys.map (·.length)).sum + ys.length * z.length ≤ 16777216 ∧ P (.str (Txt.join z ys))
theorem rm_join : RM K (fun x xs H Q => ∃ a p, ∃ ys : List Str, x = .str a ∧ xs = [.ref p] ∧ (SqL K H p (ys.map V.str) ∨ SqT K H p (ys.map V.str)) ∧ (ys.map (·.length)).sum + ys.length * a.length ≤ 16777216 ∧ Q (.str (Txt.join a ys)) H) mJoin := by
  intro A H Q z xs ds P oc r g k
  obtain ⟨v, d, rfl, q, g⟩ := one_of r g
  obtain ⟨p, xs, es, rfl, s, r, g⟩ := seqF_of q g
  obtain ⟨ys, e, h, g'⟩ := strsF_of g
  subst e
  cases r.strs_of
  exact ⟨_, p, ys, rfl, rfl, s, h, k _ _ _ g' (Same.refl _) (.str _)⟩
/-! x += e -/
def fAug (i : Nat) (a : FE) (h : Int → Int → Int) : FS := fun E ρ => match ρ[i]? with
  | some (.fz (.int x)) => a ρ fun y ρ1 => intF y fun j => gN i (.int (h x j)) ρ1 E.nx
  | _ => False
theorem rs_aug {i : Nat} {te : TE} {a : FE} {h : Int → Int → Int} (ha : RE K J te a) : RS K J (tAug i te (ipI h)) (fAug i a h) := by
  intro O as σ H D ρ E R f C
  unfold fAug at f
  split at f
  · next x hx =>
    obtain ⟨v, e, _, q⟩ := R.fz_at hx
    cases q
    refine ⟨_, e, ?_⟩
    refine ha O as σ H _ ρ _ R f fun d ρ1 v H1 q1 f1 E1 d1 => ?_
    unfold intF at q1
    split at q1
    · cases d1
      exact ⟨_, _, rfl, rfl, C.nx _ _ _ _ q1.2 (.of f1) (E1.setFz q1.1 (.int _))⟩
    · exact q1.elim
  · exact f.elim
def fPar3 (i j l : Nat) (a : FA) : FS := fun E ρ => a ρ fun ds ρ1 => match ds with
  | [x, y, z] => gN i x ρ1 fun ρ2 => gN j y ρ2 fun ρ3 => gN l z ρ3 E.nx
  | _ => False
theorem rs_par3 {i j l : Nat} {t : TA} {a : FA} (ha : RA K J t a) : RS K J (tPar3 i j l t) (fPar3 i j l a) := by
  intro O as σ H D ρ E R f C
  refine ha O as σ H _ ρ _ R f fun ds ρ1 vs H1 q1 f1 E1 d1 => ?_
  split at q1
  · cases d1 with
    | cons d1 r => cases r with
      | cons d2 r => cases r with
        | cons d3 r =>
          cases r
          exact ⟨_, _, _, rfl, C.nx _ _ _ _ q1.2.2.2 (.of f1) (((E1.setFz q1.1 d1).setFz q1.2.1 d2).setFz q1.2.2.1 d3)⟩
  · exact q1.elim
/-! truth -/
theorem DqAll.empty {G : Hp} {xs : List V} {ds : List PyData} (r : DqAll K G xs ds) : xs.isEmpty = ds.isEmpty := by cases r <;> rfl
def truF (d : PyData) (k : Bool → Prop) : Prop := match d with
  | .none => k false
  | .bool b => k b
  | .int i => k (i != 0)
  | .str z => z.length ≤ sizeLine ∧ k ((z.length : Int) != 0)
  | .list ds => k (!ds.isEmpty)
  | .tuple ds => k (!ds.isEmpty)
  | _ => False
def fTru (f : FE) : FT := fun ρ P => f ρ fun d ρ1 => truF d fun b => P b ρ1
theorem rt_tru {t : TE} {f : FE} (h : RE K J t f) : RT K J (fun σ H Q => t σ H fun x H' => ∃ k, TruV K x H' k ∧ Q k H') (fTru f) := by
  intro O as σ H Q ρ P E q k
  refine h O as σ H _ ρ _ E q fun d ρ1 v H1 q1 f1 E1 d1 => ?_
  unfold truF at q1
  split at q1
  · cases d1; exact ⟨_, rfl, k _ _ _ q1 f1 E1⟩
  · cases d1; exact ⟨_, rfl, k _ _ _ q1 f1 E1⟩
  · cases d1; exact ⟨_, rfl, k _ _ _ q1 f1 E1⟩
  · cases d1; exact ⟨_, ⟨q1.1, rfl⟩, k _ _ _ q1.2 f1 E1⟩
  · obtain ⟨p, xs, rfl, s, r⟩ := d1.list_of
    refine ⟨_, .inl ⟨xs, SqL.mono hp_same s, rfl⟩, ?_⟩
    rw [r.empty]
    exact k _ _ _ q1 f1 E1
  · obtain ⟨p, xs, rfl, s, r⟩ := d1.tuple_of
    refine ⟨_, .inr (.inl ⟨xs, SqT.mono hp_same s, rfl⟩), ?_⟩
    rw [r.empty]
    exact k _ _ _ q1 f1 E1
  · exact q1.elim
def fYes : FT := fun ρ P => P true ρ
theorem rt_yes : RT K J tYes fYes := fun O as σ H Q ρ P E f k => k true ρ H f (Fr.refl) E
end
end DL
/-! the box of draws as data; promises weakened -/
namespace DL
open PySem L2 Z PySem.Spec PyProof.Rows
variable [Tbs]
def BoxD (ds : List PyData) (n : Nat) : Prop := ∃ b0 b1 b2 : Int, ds = [.int b0, .int b1, .int b2] ∧ 0 ≤ b0 ∧ 0 ≤ b1 ∧ b1 < 2147483647 ∧ 0 ≤ b2 ∧ b2 ≤ (n : Int)
theorem BoxD.mono {ds : List PyData} {n m : Nat} (b : BoxD ds n) (h : n ≤ m) : BoxD ds m := by
  obtain ⟨b0, b1, b2, e, h0, h1, h2, h3, h4⟩ := b
  exact ⟨b0, b1, b2, e, h0, h1, h2, h3, by omega⟩
/-- a draw: any number below m -/
def takeF (ds : List PyData) (m : Int) (P : Int → List PyData → Prop) : Prop := ∃ n, BoxD ds n ∧ 0 < m ∧ m < 1073741824 ∧ n < 1000000000 ∧ ∀ r ds', 0 ≤ r → r < m → BoxD ds' (n + 1) → P r ds'
def F__law_take : FN := fun sls P => match sls with
  | [.own ds, .fz (.int m)] => takeF ds m fun r ds' => P (.int r) [.own ds', .no]
  | _ => False
section
variable {P : Program} {w : World} {K : PySem.W.Frag} {mg : Str → Option Value} {base : Heap} {k : Nat} {f : Addr} {fd : FuncData} {ps : List Str} {sp sp' : Sp}
theorem _root_.Z.FnG.weak (F : FnG P w K mg base k f fd ps sp) (h : ∀ vs H Q E, sp' vs H Q E → sp vs H Q E) : FnG P w K mg base k f fd ps sp' :=
  ⟨fun vs H Q E q => F.size vs H Q E (h vs H Q E q), fun A outer s H args us vs Q E hr hg e b r q => F.goes A outer s H args us vs Q E hr hg e b r (h vs H Q E q)⟩
theorem _root_.L2.FnOk.guarded (F : FnOk P w K mg base CX0 k f fd ps sp) (h : ∀ vs H Q E, sp' vs H Q E → sp vs H Q E) : FnG P w K mg base k f fd ps sp' := (FnG.of F).weak h
def spTake : Sp := fun vs H Q _ => ∃ (B : Addr) (m : Int) (n : Nat), vs = [.ref B, .int m] ∧ Box H B n ∧ 0 < m ∧ m < 1073741824 ∧ n < 1000000000 ∧ ∀ (r : Int) H', 0 ≤ r → r < m → Z.Fr [B] H H' → Box H' B (n + 1) → Q (.int r) H'
theorem boxD_ints {G : Hp} {xs : List V} {b0 b1 b2 : Int} (h : DqAll K G xs [.int b0, .int b1, .int b2]) : xs = [.int b0, .int b1, .int b2] := by
  cases h with
  | cons a r => cases r with
    | cons b r => cases r with
      | cons c r => cases r; cases a; cases b; cases c; rfl
theorem TabsOk.frB {H H' : Hp} {B : Addr} {xs : List V} (t : TabsOk H) (f : Z.Fr [B] H H') (h : H B = some (.lst xs)) : TabsOk H' := fun p hp => by
  obtain ⟨ps, h1, h2, h3⟩ := t p hp
  have ne : ∀ b o, H b = some o → o ≠ .lst xs → b ∉ [B] := fun b o e n z => n (Option.some.inj (e.symm.trans (by rw [List.mem_singleton.mp z]; exact h)))
  refine ⟨ps, f _ _ (ne _ _ h1 (fun z => by cases z)) h1, h2, fun pos cv hc => ?_⟩
  obtain ⟨c, e1, e2⟩ := h3 pos cv hc
  exact ⟨c, e1, f _ _ (ne _ _ e2 (fun z => by unfold LamX.CodeO at z; cases z)) e2⟩
theorem take_of {vs : List V} {H : Hp} {Q : VK} {E : XK} (h : spF K 2 F__law_take vs H Q E) : spTake vs H Q E := by
  obtain ⟨hv, O, as, S, ρ, P, R, hl, hF, q⟩ := h
  match vs, hv with
  | [v0, v1], _ =>
    have hl : ρ.length = 2 := hl
    match ρ, hl with
    | [s0, s1], _ =>
      unfold F__law_take at hF
      split at hF
      · next ds m e =>
        injection e with e1 e2
        injection e2 with e2 _
        subst e1
        subst e2
        obtain ⟨n, hb, m0, m1, hn, st⟩ := hF
        obtain ⟨b0, b1, b2, rfl, h0, h1, h2, h3, h4⟩ := hb
        obtain ⟨B, xs, z1, z2, z3, z4⟩ := R.own_at (i := 0) rfl
        obtain ⟨v, y1, y2, y3⟩ := R.fz_at (i := 1) rfl
        cases boxD_ints z4
        cases z1
        cases y1
        cases y3
        refine ⟨B, m, n, rfl, ⟨b0, b1, b2, z3, h0, h1, h2, h3, h4⟩, m0, m1, hn, fun r H' r0 r1 fr hB => ?_⟩
        obtain ⟨c0, c1, c2, ec, k0, k1, k2, k3, k4⟩ := hB
        have as0 : ∀ i r, as i = some r → i = 0 ∧ r = .lf B := fun i r ha => by
          have hi := R.bnd i r ha
          match i, hi, ha with
          | 0, _, ha => rw [z2] at ha; cases ha; exact ⟨rfl, rfl⟩
          | 1, _, ha => rw [y2] at ha; cases ha
        have hfr : Fr as ⟨H, S⟩ ⟨H', S⟩ := by
          refine ⟨fun a o na e => fr a o (fun z => na (.inl ⟨0, _, z2, by rw [List.mem_singleton.mp z]; exact .here⟩)) e, fun a h => ?_, fun a h => ?_, fun _ => rfl⟩
          · rcases h with ⟨i, r', h, q'⟩ | h
            · obtain ⟨rfl, rfl⟩ := as0 i r' h
              rw [q'.lf_of]
              exact .inl (.inl ⟨0, _, z2, .here⟩)
            · exact .inl (.inr h)
          · show H' a ≠ none
            by_cases z : a = B
            · rw [z, ec]; exact Option.some_ne_none _
            · obtain ⟨o, e⟩ := Option.ne_none_iff_exists'.mp h
              rw [fr a o (fun w => z (List.mem_singleton.mp w)) e]
              exact Option.some_ne_none _
        refine q _ _ _ ⟨H', S⟩ (st r [.int c0, .int c1, .int c2] r0 r1 ⟨c0, c1, c2, rfl, k0, k1, k2, k3, k4⟩) hfr ⟨R.tab.frB fr z3, fun i a ha => ?_, fun i j r1 r2 b h1 h2 _ _ => by rw [(as0 i r1 h1).1, (as0 j r2 h2).1], fun i r' b h q' => ?_⟩ (.int _)
        · obtain ⟨rfl, rfl⟩ := as0 i a ha
          exact ⟨_, rfl, .own ec (.cons (.int _) (.cons (.int _) (.cons (.int _) .nil)))⟩
        · obtain ⟨rfl, rfl⟩ := as0 i r' h
          rw [q'.lf_of]
          exact R.out 0 _ B z2 .here
      · exact hF.elim
def spBox : Sp := fun vs H Q _ => ∃ (B : Addr), vs = [.ref B] ∧ Box H B 0 ∧ TabsOk H ∧ ∀ H', FrA (fun a => a = B ∨ ∃ p ∈ Tbs.T, p.1 = a) H H' → Q (.bl true) H'
/-- a law's def over the box alone -/
theorem box_of {F : FN} (hF : ∀ ds, BoxD ds 0 → F [.own ds] fun d _ => d = .bool true) {vs : List V} {H : Hp} {Q : VK} {E : XK} (h : spBox vs H Q E) : spF K 1 F vs H Q E := by
  obtain ⟨B, rfl, ⟨b0, b1, b2, e, h0, h1, h2, h3, h4⟩, tb, q⟩ := h
  have as0 : ∀ i r, (if i = 0 then some (Rg.lf B) else none) = some r → i = 0 ∧ r = .lf B := fun i r h => by
    split at h
    · next z => cases h; exact ⟨z, rfl⟩
    · cases h
  refine ⟨rfl, fun _ => False, fun i => if i = 0 then some (.lf B) else none, fun _ => none, [.own [.int b0, .int b1, .int b2]], _, ⟨⟨Nat.le_refl _, Nat.le_succ _⟩, fun i sl e1 e2 => by
    have := (List.getElem?_eq_some_iff.mp e1).1
    rw [List.length_map] at e2
    have e2 : 1 ≤ i := e2
    have this : i < 1 := this
    omega, fun i sl o e1 e2 => ?_, fun i h => (by cases (as0 i _ h).2), fun i j r1 r2 b h1 h2 _ _ => by rw [(as0 i r1 h1).1, (as0 j r2 h2).1], fun _ _ _ _ _ z => z, fun i a h => by rw [(as0 i a h).1]; exact Nat.one_pos, fun a z => z.elim, trivial, trivial, tb⟩, rfl, hF _ ⟨b0, b1, b2, rfl, h0, h1, h2, h3, h4⟩, fun d out v H' hd fr _ dv => ?_⟩
  · match i, e1, e2 with
    | 0, e1, e2 =>
      cases e1; cases e2
      exact .own e (.cons (.int _) (.cons (.int _) (.cons (.int _) .nil)))
  · subst hd
    cases dv
    refine q H' fun a o na e => fr.fr a o (fun z => ?_) e
    rcases z with ⟨i, r, z, q'⟩ | z
    · obtain ⟨rfl, rfl⟩ := as0 i r z
      exact na (.inl q'.lf_of)
    · exact na (.inr z)
end
end DL
/-! going through data -/
namespace DL
open PySem L2 Z PySem.Spec PyProof.Rows
variable [Tbs]
theorem kit_none_int : kitB (kindD .none) "int" = some false := by show kitB "NoneType" "int" = _; decide +kernel
theorem kit_none_bool : kitB (kindD .none) "bool" = some false := by show kitB "NoneType" "bool" = _; decide +kernel
theorem kit_none_str : kitB (kindD .none) "str" = some false := by show kitB "NoneType" "str" = _; decide +kernel
theorem kit_none_list : kitB (kindD .none) "list" = some false := by show kitB "NoneType" "list" = _; decide +kernel
theorem kit_none_tuple : kitB (kindD .none) "tuple" = some false := by show kitB "NoneType" "tuple" = _; decide +kernel
theorem kit_bool_int {b : Bool} : kitB (kindD (.bool b)) "int" = some true := by show kitB "bool" "int" = _; decide +kernel
theorem kit_bool_bool {b : Bool} : kitB (kindD (.bool b)) "bool" = some true := by show kitB "bool" "bool" = _; decide +kernel
theorem kit_bool_str {b : Bool} : kitB (kindD (.bool b)) "str" = some false := by show kitB "bool" "str" = _; decide +kernel
theorem kit_bool_list {b : Bool} : kitB (kindD (.bool b)) "list" = some false := by show kitB "bool" "list" = _; decide +kernel
theorem kit_bool_tuple {b : Bool} : kitB (kindD (.bool b)) "tuple" = some false := by show kitB "bool" "tuple" = _; decide +kernel
theorem kit_int_int {i : Int} : kitB (kindD (.int i)) "int" = some true := by show kitB "int" "int" = _; decide +kernel
theorem kit_int_bool {i : Int} : kitB (kindD (.int i)) "bool" = some false := by show kitB "int" "bool" = _; decide +kernel
theorem kit_int_str {i : Int} : kitB (kindD (.int i)) "str" = some false := by show kitB "int" "str" = _; decide +kernel
theorem kit_int_list {i : Int} : kitB (kindD (.int i)) "list" = some false := by show kitB "int" "list" = _; decide +kernel
theorem kit_int_tuple {i : Int} : kitB (kindD (.int i)) "tuple" = some false := by show kitB "int" "tuple" = _; decide +kernel
theorem kit_str_int {s : Str} : kitB (kindD (.str s)) "int" = some false := by show kitB "str" "int" = _; decide +kernel
theorem kit_str_bool {s : Str} : kitB (kindD (.str s)) "bool" = some false := by show kitB "str" "bool" = _; decide +kernel
theorem kit_str_str {s : Str} : kitB (kindD (.str s)) "str" = some true := by show kitB "str" "str" = _; decide +kernel
theorem kit_str_list {s : Str} : kitB (kindD (.str s)) "list" = some false := by show kitB "str" "list" = _; decide +kernel
theorem kit_str_tuple {s : Str} : kitB (kindD (.str s)) "tuple" = some false := by show kitB "str" "tuple" = _; decide +kernel
theorem kit_list_int {l : List PyData} : kitB (kindD (.list l)) "int" = some false := by show kitB "list" "int" = _; decide +kernel
theorem kit_list_bool {l : List PyData} : kitB (kindD (.list l)) "bool" = some false := by show kitB "list" "bool" = _; decide +kernel
theorem kit_list_str {l : List PyData} : kitB (kindD (.list l)) "str" = some false := by show kitB "list" "str" = _; decide +kernel
theorem kit_list_list {l : List PyData} : kitB (kindD (.list l)) "list" = some true := by show kitB "list" "list" = _; decide +kernel
theorem kit_list_tuple {l : List PyData} : kitB (kindD (.list l)) "tuple" = some false := by show kitB "list" "tuple" = _; decide +kernel
theorem kit_tuple_int {l : List PyData} : kitB (kindD (.tuple l)) "int" = some false := by show kitB "tuple" "int" = _; decide +kernel
theorem kit_tuple_bool {l : List PyData} : kitB (kindD (.tuple l)) "bool" = some false := by show kitB "tuple" "bool" = _; decide +kernel
theorem kit_tuple_str {l : List PyData} : kitB (kindD (.tuple l)) "str" = some false := by show kitB "tuple" "str" = _; decide +kernel
theorem kit_tuple_list {l : List PyData} : kitB (kindD (.tuple l)) "list" = some false := by show kitB "tuple" "list" = _; decide +kernel
theorem kit_tuple_tuple {l : List PyData} : kitB (kindD (.tuple l)) "tuple" = some true := by show kitB "tuple" "tuple" = _; decide +kernel
/-- a comprehension that draws nothing: of xs those of which k tells something -/
theorem lc_map {α : Type} {g : FG} {ft : FT} {fe : FE} {vs : List Nat} {ρ : En} {P : List PyData → En → Prop} {ds : List PyData} (xs : List α) (e : α → PyData) (k : α → Option PyData) (hd : ds = xs.map e) (hv : vs.all (slotF ρ) = true) (hl : xs.length ≤ sizeLine)
    (st : ∀ (x : α) (R : List PyData → En → Prop) (acc : List PyData), x ∈ xs → acc.length < sizeLine → R (acc ++ (k x).toList) (wipeF ρ vs) →
      g (e x) (wipeF ρ vs) fun ρ3 => ft ρ3 fun b ρ4 => if b = true then fe ρ4 fun y ρ5 => acc.length < sizeLine ∧ vs.all (slotF ρ5) = true ∧ R (acc ++ [y]) (wipeF ρ5 vs) else vs.all (slotF ρ4) = true ∧ R acc (wipeF ρ4 vs))
    (q : P (xs.filterMap k) (wipeF ρ vs)) : lcW ds g ft fe vs ρ P := by
  subst hd
  refine ⟨hv, fun i acc ρ2 => acc = (xs.take i).filterMap k ∧ ρ2 = wipeF ρ vs, ⟨rfl, rfl⟩, ?_, ?_⟩
  · rintro i d acc ρ2 hd ⟨rfl, rfl⟩
    rw [List.getElem?_map] at hd
    cases ex : xs[i]? with
    | none => rw [ex] at hd; cases hd
    | some x =>
      rw [ex] at hd
      cases hd
      have hi := (List.getElem?_eq_some_iff.mp ex).1
      refine st x (fun acc ρ2 => acc = (xs.take (i + 1)).filterMap k ∧ ρ2 = wipeF ρ vs) _ (List.mem_of_getElem? ex) ?_ ⟨?_, rfl⟩
      · refine Nat.lt_of_le_of_lt (List.length_filterMap_le _ _) ?_
        rw [List.length_take]
        omega
      · rw [List.take_add_one, ex, List.filterMap_append]
        cases h : k x <;> simp [h]
  · rintro acc ρ2 ⟨rfl, h⟩
    rw [h, List.length_map, List.take_length]
    exact q
/-- a comprehension by its state: W of the turn, what is laid, the slots -/
theorem lc_inv {α : Type} {g : FG} {ft : FT} {fe : FE} {vs : List Nat} {ρ : En} {P : List PyData → En → Prop} {ds : List PyData} (xs : List α) (e : α → PyData) (W : Nat → List PyData → En → Prop) (hd : ds = xs.map e) (hv : vs.all (slotF ρ) = true) (h0 : W 0 [] (wipeF ρ vs))
    (st : ∀ (i : Nat) (x : α) (acc : List PyData) (ρ2 : En), xs[i]? = some x → i < xs.length → W i acc ρ2 →
      g (e x) ρ2 fun ρ3 => ft ρ3 fun b ρ4 => if b = true then fe ρ4 fun y ρ5 => acc.length < sizeLine ∧ vs.all (slotF ρ5) = true ∧ W (i + 1) (acc ++ [y]) (wipeF ρ5 vs) else vs.all (slotF ρ4) = true ∧ W (i + 1) acc (wipeF ρ4 vs))
    (q : ∀ acc ρ2, W xs.length acc (wipeF ρ2 vs) → P acc (wipeF ρ2 vs)) : lcW ds g ft fe vs ρ P := by
  subst hd
  refine ⟨hv, W, h0, ?_, by rw [List.length_map]; exact q⟩
  intro i d acc ρ2 hd w
  rw [List.getElem?_map] at hd
  cases ex : xs[i]? with
  | none => rw [ex] at hd; cases hd
  | some x =>
    rw [ex] at hd
    cases hd
    exact st i x acc ρ2 ex (List.getElem?_eq_some_iff.mp ex).1 w
theorem boolsF_f {α : Type} {f : α → Bool} {xs : List α} {k : List Bool → Prop} (h : k (xs.map f)) : boolsF (xs.map fun x => .bool (f x)) k := by
  have := boolsF_map (bs := xs.map f) (k := k) h
  rw [List.map_map] at this
  exact this
theorem intsF_f {α : Type} {f : α → Int} {xs : List α} {k : List Int → Prop} (h : k (xs.map f)) : intsF (xs.map fun x => .int (f x)) k := by
  have := intsF_map (bs := xs.map f) (k := k) h
  rw [List.map_map] at this
  exact this
theorem strsF_f {α : Type} {f : α → Str} {xs : List α} {k : List Str → Prop} (h : k (xs.map f)) : strsF (xs.map fun x => .str (f x)) k := by
  have := strsF_map (bs := xs.map f) (k := k) h
  rw [List.map_map] at this
  exact this
theorem filterMap_if {α β : Type} (k : α → Bool) (f : α → β) (xs : List α) : xs.filterMap (fun x => if k x = true then some (f x) else none) = (xs.filter k).map f := by
  induction xs with
  | nil => rfl
  | cons x r ih =>
    rw [List.filterMap_cons, List.filter_cons, ih]
    cases h : k x <;> simp
theorem filterMap_some {α β : Type} (f : α → β) (xs : List α) : xs.filterMap (fun x => some (f x)) = xs.map f := by
  induction xs with
  | nil => rfl
  | cons x r ih => rw [List.filterMap_cons, ih]; rfl
/-- a loop by its state -/
theorem for_map {α : Type} {us : List Nat} {g : FG} {b : FS} {E : FEnds} {ρ : En} {ds : List PyData} (xs : List α) (e : α → PyData) (W : Nat → En → Prop) (hd : ds = xs.map e) (h0 : W 0 (fgt ρ us))
    (st : ∀ (i : Nat) (x : α) (ρ2 : En), xs[i]? = some x → i < xs.length → W i ρ2 → g (e x) ρ2 fun ρ3 => b { E with nx := fun ρ4 => W (i + 1) (fgt ρ4 us), ct := fun ρ4 => W (i + 1) (fgt ρ4 us), bk := E.nx } ρ3) (q : ∀ ρ2, W xs.length ρ2 → E.nx ρ2) : forW us ds g b E ρ := by
  subst hd
  refine ⟨W, h0, ?_, by rw [List.length_map]; exact q⟩
  intro i d ρ2 hd w
  rw [List.getElem?_map] at hd
  cases ex : xs[i]? with
  | none => rw [ex] at hd; cases hd
  | some x =>
    rw [ex] at hd
    cases hd
    exact st i x ρ2 ex (List.getElem?_eq_some_iff.mp ex).1 w
/-- a loop over range(m) -/
theorem for_range {us : List Nat} {g : FG} {b : FS} {E : FEnds} {ρ : En} {lo : Int} {m : Nat} (W : Nat → En → Prop) (h0 : W 0 (fgt ρ us))
    (st : ∀ (i : Nat) (ρ2 : En), i < m → W i ρ2 → g (.int (lo + (i : Int))) ρ2 fun ρ3 => b { E with nx := fun ρ4 => W (i + 1) (fgt ρ4 us), ct := fun ρ4 => W (i + 1) (fgt ρ4 us), bk := E.nx } ρ3) (q : ∀ ρ2, W m ρ2 → E.nx ρ2) : forW us (rangeD lo m) g b E ρ := by
  refine for_map (List.range m) (fun k : Nat => .int (lo + (k : Int))) W rfl h0 (fun i x ρ2 hx hi w => ?_) (by rw [List.length_range]; exact q)
  rw [List.length_range] at hi
  rw [List.getElem?_range hi] at hx
  cases hx
  exact st i ρ2 hi w
/-- a draw -/
theorem take_step {ds : List PyData} {m : Int} {n : Nat} {P : Int → List PyData → Prop} (hb : BoxD ds n) (h0 : 0 < m) (h1 : m < 1073741824) (h2 : n < 1000000000) (k : ∀ r ds', 0 ≤ r → r < m → BoxD ds' (n + 1) → P r ds') : takeF ds m P := ⟨n, hb, h0, h1, h2, k⟩
theorem sz0 : (0 ≤ sizeLine) = True := eq_true (by decide)
theorem sz1 : (1 ≤ sizeLine) = True := eq_true (by decide)
theorem sz2 : (2 ≤ sizeLine) = True := eq_true (by decide)
theorem sz3 : (3 ≤ sizeLine) = True := eq_true (by decide)
theorem sz4 : (4 ≤ sizeLine) = True := eq_true (by decide)
theorem sz5 : (5 ≤ sizeLine) = True := eq_true (by decide)
theorem sz6 : (6 ≤ sizeLine) = True := eq_true (by decide)
theorem sz7 : (7 ≤ sizeLine) = True := eq_true (by decide)
theorem sz8 : (8 ≤ sizeLine) = True := eq_true (by decide)
theorem sz9 : (9 ≤ sizeLine) = True := eq_true (by decide)
theorem sz10 : (10 ≤ sizeLine) = True := eq_true (by decide)
theorem sz11 : (11 ≤ sizeLine) = True := eq_true (by decide)
theorem sz12 : (12 ≤ sizeLine) = True := eq_true (by decide)
theorem sz13 : (13 ≤ sizeLine) = True := eq_true (by decide)
theorem sz14 : (14 ≤ sizeLine) = True := eq_true (by decide)
theorem sz15 : (15 ≤ sizeLine) = True := eq_true (by decide)
theorem sz16 : (16 ≤ sizeLine) = True := eq_true (by decide)
theorem sz17 : (17 ≤ sizeLine) = True := eq_true (by decide)
theorem sz18 : (18 ≤ sizeLine) = True := eq_true (by decide)
theorem sz19 : (19 ≤ sizeLine) = True := eq_true (by decide)
theorem sz20 : (20 ≤ sizeLine) = True := eq_true (by decide)
theorem at0 {α : Type} {x : α} {xs : List α} : L2.atI (x :: xs) 0 = some x := by simp [L2.atI, ixN]
theorem at1 {α : Type} {x y : α} {xs : List α} : L2.atI (x :: y :: xs) 1 = some y := by
  unfold L2.atI ixN
  rw [if_pos (by decide), if_pos (by simp only [List.length_cons]; omega)]
  rfl
theorem at2 {α : Type} {x y z : α} {xs : List α} : L2.atI (x :: y :: z :: xs) 2 = some z := by
  unfold L2.atI ixN
  rw [if_pos (by decide), if_pos (by simp only [List.length_cons]; omega)]
  rfl
theorem at3 {α : Type} {x y z w : α} {xs : List α} : L2.atI (x :: y :: z :: w :: xs) 3 = some w := by
  unfold L2.atI ixN
  rw [if_pos (by decide), if_pos (by simp only [List.length_cons]; omega)]
  rfl
theorem at4 {α : Type} {x y z w v : α} {xs : List α} : L2.atI (x :: y :: z :: w :: v :: xs) 4 = some v := by
  unfold L2.atI ixN
  rw [if_pos (by decide), if_pos (by simp only [List.length_cons]; omega)]
  rfl
theorem at_last {α : Type} {xs : List α} {x : α} (h : xs[xs.length - 1]? = some x) : L2.atI xs (-1) = some x := by
  have hl : xs.length - 1 < xs.length := (List.getElem?_eq_some_iff.mp h).1
  unfold L2.atI
  rw [ixN_last (by omega)]
  exact h
/-- a drawn one of a written list -/
theorem at_mem {α : Type} {xs : List α} {r : Int} (h0 : 0 ≤ r) (h1 : r < xs.length) : ∃ v, L2.atI xs r = some v ∧ v ∈ xs := by
  obtain ⟨j, rfl⟩ := Int.eq_ofNat_of_zero_le h0
  have hj : j < xs.length := by omega
  refine ⟨xs[j], ?_, List.getElem_mem hj⟩
  unfold L2.atI
  rw [ixN_nat hj]
  exact List.getElem?_eq_getElem hj
theorem rangeD_eq (lo : Int) (m : Nat) : rangeD lo m = (List.range m).map fun k : Nat => .int (lo + (k : Int)) := rfl
theorem range_at {m i x : Nat} (h : (List.range m)[i]? = some x) : x = i ∧ i < m := by
  have hi := (List.getElem?_eq_some_iff.mp h).1
  rw [List.length_range] at hi
  rw [List.getElem?_range hi] at h
  exact ⟨(Option.some.inj h).symm, hi⟩
theorem zipD_map {α β : Type} (xs : List α) (ys : List β) (e : α → PyData) (f : β → PyData) : zipD (xs.map e) (ys.map f) = (xs.zip ys).map fun z => .tuple [e z.1, f z.2] := by
  unfold zipD
  rw [List.zip_map, List.map_map]
  rfl
theorem cutD_tail {α : Type} (xs : List α) (e : α → PyData) : cutD (xs.map e) (some 1) none = xs.tail.map e := by
  unfold cutD
  have h : HT.sIx (xs.map e).length 0 (some 1) = min 1 (xs.map e).length := HT.sIx_nat _ _ 1
  rw [h, HT.sIx_none, List.length_map]
  cases xs with
  | nil => rfl
  | cons x r =>
    rw [List.length_cons, Nat.min_eq_left (by omega), List.map_cons, List.drop_succ_cons, List.drop_zero, List.take_of_length_le (by rw [List.length_map]; omega)]
    rfl
theorem cutD_take {α : Type} (xs : List α) (e : α → PyData) (k : Nat) : cutD (xs.map e) none (some (k : Int)) = (xs.take k).map e := by
  unfold cutD
  rw [HT.sIx_nat, HT.sIx_none, List.drop_zero, Nat.sub_zero, List.length_map]
  by_cases h : k ≤ xs.length
  · rw [Nat.min_eq_left h, List.map_take]
  · rw [Nat.min_eq_right (by omega), List.take_of_length_le (by rw [List.length_map]; omega), List.take_of_length_le (by omega)]
theorem cutD_drop {α : Type} (xs : List α) (e : α → PyData) (k : Nat) : cutD (xs.map e) (some (k : Int)) none = (xs.drop k).map e := by
  unfold cutD
  rw [HT.sIx_nat, HT.sIx_none, List.length_map]
  by_cases h : k ≤ xs.length
  · rw [Nat.min_eq_left h, List.take_of_length_le (by rw [List.length_drop, List.length_map]; omega), List.map_drop]
  · rw [Nat.min_eq_right (by omega), List.drop_of_length_le (by rw [List.length_map]; omega), List.take_nil, List.drop_of_length_le (by omega)]
    rfl
theorem atI_nat' {α : Type} {xs : List α} {k : Nat} {x : α} (h : xs[k]? = some x) : L2.atI xs (k : Int) = some x := by
  unfold L2.atI
  rw [ixN_nat (List.getElem?_eq_some_iff.mp h).1]
  exact h
theorem atI_map {α β : Type} (f : α → β) (xs : List α) (k : Int) : L2.atI (xs.map f) k = (L2.atI xs k).map f := by
  unfold L2.atI
  rw [List.length_map]
  cases ixN xs.length k with
  | none => rfl
  | some j => exact List.getElem?_map ..
end DL
/-! objects that stay, keywords, own lists in a parallel assignment, more of own lists -/
namespace DL
open PySem L2 Z PySem.Spec PyProof.Rows
variable [Tbs]
section
variable {K : PySem.W.Frag} {n : Nat} {J : Jv n}
def objF (c : Str) (d : PyData) (k : List (PyData × PyData) → Prop) : Prop := match d with
  | .dict ((.str c', .none) :: fs) => c' = c ∧ k fs
  | _ => False
theorem objF_of {H : Hp} {c : Str} {C : Addr} {v : V} {d : PyData} {k : List (PyData × PyData) → Prop} (hc : PySem.W.nsIn K mainGlobals c = some (some (.ref C))) (q : Dq K H v d) (h : objF c d k) : ∃ a dx fv fs, v = .ref a ∧ H a = some (.ins C dx fv) ∧ DqFs K H fv fs ∧ k fs := by
  unfold objF at h
  split at h
  · obtain ⟨rfl, h⟩ := h
    cases q with
    | obj e1 e2 r =>
      rw [hc] at e1
      cases e1
      exact ⟨_, _, _, _, rfl, e2, r, h⟩
  · exact h.elim
/-- e.f -/
def fFld (c f : Str) (a : FE) : FE := fun ρ P => a ρ fun d ρ1 => objF c d fun fs => ∃ v, fldD f fs = some v ∧ P v ρ1
theorem re_fld {C : Addr} {c f : Str} {ta : TE} {a : FE} (hc : PySem.W.nsIn K mainGlobals c = some (some (.ref C))) (cl : Cls K C) (na : NoAttr K C f) (ha : RE K J ta a) : RE K J (tFld K ta f) (fFld c f a) := by
  intro O as σ H Q ρ P E q k
  refine ha O as σ H _ ρ _ E q fun d ρ1 v H1 q1 f1 E1 d1 => ?_
  obtain ⟨x, dx, fv, fs, rfl, e, r, u, hu, p⟩ := objF_of hc d1 q1
  obtain ⟨w, hw, dw⟩ := r.get hu
  exact ⟨x, C, dx, fv, w, rfl, (hp_some e).2, cl, na, hw, k _ _ _ _ p f1 E1 dw⟩
/-- how __init__ lays the fields -/
def RMk (K : PySem.W.Frag) (C : Addr) (sp : Sp) (G : List PyData → (List (PyData × PyData) → Prop) → Prop) : Prop := ∀ (A : Addr → Prop) (H : Hp) (x dx : Addr) (vs : List V) (ds : List PyData) (Q : VK) (E : XK) (P : List (PyData × PyData) → Prop),
  DqAll K (hp A H) vs ds → G ds P → H x = some (.ins C dx []) → (∀ fs fv H', P fs → (∀ a o, a ≠ x → H a = some o → H' a = some o) → H' x = some (.ins C dx fv) → DqFs K (hp A H') fv fs → Q .non H') → sp (.ref x :: vs) H Q E
theorem mk_core {O : Addr → Prop} {as : As} {H : Hs} {ρ : En} {σ : L2.St} {C x dx : Addr} {c : Str} {sp : Sp} {G : List PyData → (List (PyData × PyData) → Prop) → Prop} {vs : List V} {ds : List PyData} {Q : VK} {E0 : XK} {P : PyData → En → Prop}
    (hc : PySem.W.nsIn K mainGlobals c = some (some (.ref C))) (h : RMk K C sp G) (E : EnR K J O as H ρ σ) (dv : DqAll K (hq O as H) vs ds) (g : G ds fun fs => P (.dict ((.str c, .none) :: fs)) ρ) (hx : H x = none) (hd : H dx = none) (ne : dx ≠ x)
    (k : ∀ d ρ' v H', P d ρ' → Fr as H H' → EnR K J O as H' ρ' σ → Dq K (hq O as H') v d → Q v H') :
    sp (.ref x :: vs) (upd (upd H dx (.own x)) x (.ins C dx [])) (fun v H2 => v = .non ∧ Q (.ref x) H2) E0 := by
  have s1 : Same H.hp (upd (upd H dx (.own x)) x (.ins C dx [])) := fun a o e => by
    rw [upd_ne (ne_of_none e hx), upd_ne (ne_of_none e hd)]
    exact e
  refine h (Hid O as H) _ x dx vs ds _ _ _ (dv.mono (hp_grow s1)) g upd_same fun fs fv H' p fr e r => ⟨rfl, ?_⟩
  have s2 : Same H.hp H' := fun a o e => fr a o (ne_of_none e hx) (s1 a o e)
  exact k _ _ _ ⟨H', H.st⟩ p (E.frS s2) (E.grow s2) (.obj hc (hp_mk (fun z => E.fresh hx ((E.hidS s2).mp z)) e) (r.mono (E.toS s2)))
def fMk (c : Str) (G : List PyData → (List (PyData × PyData) → Prop) → Prop) (dv : List PyData) (f : FA) : FE := fun ρ P => f ρ fun ds ρ1 => G (ds ++ dv) fun fs => P (.dict ((.str c, .none) :: fs)) ρ1
theorem re_mk {C : Addr} {c : Str} {sp : Sp} {G : List PyData → (List (PyData × PyData) → Prop) → Prop} {dvs : List V} {dv : List PyData} {E0 : XK} {t : TA} {f : FA} (hc : PySem.W.nsIn K mainGlobals c = some (some (.ref C))) (h : RMk K C sp G) (hd : ∀ H, DqAll K H dvs dv) (ha : RA K J t f) : RE K J (tMake C sp dvs E0 t) (fMk c G dv f) := by
  intro O as σ H Q ρ P E q k
  refine ha O as σ H _ ρ _ E q fun ds ρ1 vs H1 q1 f1 E1 d1 => ?_
  intro x dx hx hdx ne
  exact mk_core hc h E1 (d1.append (hd _)) q1 hx hdx ne fun d ρ' v H' p fr E' q' => k d ρ' v H' p (f1.trans fr) E' q'
def fMkN (c : Str) (G : List PyData → (List (PyData × PyData) → Prop) → Prop) (n m : Nat) (gD : List PyData → List PyData → List PyData) (f fk : FA) : FE := fun ρ P => f ρ fun ds ρ1 => fk ρ1 fun es ρ2 => ds.length = n ∧ es.length = m ∧ G (gD ds es) fun fs => P (.dict ((.str c, .none) :: fs)) ρ2
theorem re_mkN {C : Addr} {c : Str} {sp : Sp} {G : List PyData → (List (PyData × PyData) → Prop) → Prop} {n m : Nat} {gV : List V → List V → List V} {gD : List PyData → List PyData → List PyData} {E0 : XK} {t tk : TA} {f fk : FA} (hc : PySem.W.nsIn K mainGlobals c = some (some (.ref C))) (h : RMk K C sp G)
    (hg : ∀ (x : Addr) (vs zs : List V) (ds es : List PyData) (H : Hp), DqAll K H vs ds → DqAll K H zs es → ∃ ws, gV (.ref x :: vs) zs = .ref x :: ws ∧ DqAll K H ws (gD ds es)) (ha : RA K J t f) (hk : RA K J tk fk) : RE K J (tMakeN C n m sp gV E0 t tk) (fMkN c G n m gD f fk) := by
  intro O as σ H Q ρ P E q k
  refine ha O as σ H _ ρ _ E q fun ds ρ1 vs H1 q1 f1 E1 d1 => ?_
  refine hk O as σ H1 _ ρ1 _ E1 q1 fun es ρ2 zs H2 q2 f2 E2 d2 => ?_
  obtain ⟨l1, l2, q2⟩ := q2
  refine ⟨by rw [d1.length]; exact l1, by rw [d2.length]; exact l2, fun x dx hx hdx ne => ?_⟩
  obtain ⟨ws, e, r⟩ := hg x vs zs ds es _ (d1.fr f2) d2
  rw [e]
  exact mk_core hc h E2 r q2 hx hdx ne fun d ρ' v H' p fr E' q' => k d ρ' v H' p ((f1.trans f2).trans fr) E' q'
/-- a call with keywords, data alone -/
def fCallN (F : FN) (n m : Nat) (gD : List PyData → List PyData → List PyData) (f fk : FA) : FE := fun ρ P => f ρ fun ds ρ1 => fk ρ1 fun es ρ2 => ds.length = n ∧ es.length = m ∧ F ((gD ds es).map .fz) fun d _ => P d ρ2
theorem ownIx_dat : ∀ ds : List PyData, ownIx (ds.map .dat) = []
  | [] => rfl
  | _ :: r => ownIx_dat r
theorem wb_dat (ρ : En) : ∀ (ds : List PyData) (r : List Sl), wb ρ (ds.map .dat) r = ρ
  | [], _ => rfl
  | _ :: ds, r => wb_dat ρ ds r.tail
theorem re_callN {l n m : Nat} {F : FN} {gV : List V → List V → List V} {gD : List PyData → List PyData → List PyData} {E0 : XK} {t tk : TA} {f fk : FA}
    (hl : ∀ ds es : List PyData, ds.length = n → es.length = m → (gD ds es).length = l)
    (hg : ∀ (vs zs : List V) (ds es : List PyData) (H : Hp), DqAll K H vs ds → DqAll K H zs es → DqAll K H (gV vs zs) (gD ds es)) (ha : RA K J t f) (hk : RA K J tk fk) : RE K J (tCallN n m (spF K l F) gV E0 t tk) (fCallN F n m gD f fk) := by
  intro O as σ H Q ρ P E q k
  refine ha O as σ H _ ρ _ E q fun ds ρ1 vs H1 q1 f1 E1 d1 => ?_
  refine hk O as σ H1 _ ρ1 _ E1 q1 fun es ρ2 zs H2 q2 f2 E2 d2 => ?_
  obtain ⟨l1, l2, q2⟩ := q2
  refine ⟨by rw [d1.length]; exact l1, by rw [d2.length]; exact l2, ?_⟩
  refine call_core (xs := (gD ds es).map .dat) E2 (fits_dat _) (dat_ars (hg _ _ _ _ _ (d1.fr f2) d2)).toT (by rw [(hg _ _ _ _ _ (d1.fr f2) d2).length]; exact hl _ _ l1 l2) (by rw [List.length_map]; exact hl _ _ l1 l2) (by rw [ownIx_dat]; exact .nil) ?_ fun d ρ' v H' p fr E' q' => k d ρ' v H' p ((f1.trans f2).trans fr) E' q'
  simp only [wb_dat]
  exact q2
/-! own lists in a parallel assignment -/
theorem EnR.ownNew {O : Addr → Prop} {as : As} {H : Hs} {ρ : En} {σ : L2.St} {p : Addr} {xs : List V} {ds : List PyData} {i : Nat} (E : EnR K J (plus O p) as H ρ σ) (hi : slotL ρ i = true) (hJ : J.P (upA as i (some (.lf p))) H) (hQ : J.Q O) (np : ¬ O p) (h : H p = some (.lst xs)) (d : DqAll K (hq (plus O p) as H) xs ds) :
    EnR K J O (upA as i (some (.lf p))) H (ρ.set i (.own ds)) (σ.set i (some (.ref p))) := E.setOwn hQ (E.ltB hi) hJ h d np
theorem same_plus {O : Addr → Prop} {as : As} {H H' : Hs} {p : Addr} (f : Fr as H H') (h : NewO as H p) : Same (hq O as H) (hq (plus O p) as H') := fun a o e => by
  obtain ⟨na, e⟩ := hp_some e
  refine hp_mk (fun z => ?_) (f.fr a o (fun z => na (.inr z)) e)
  rcases z with (z | z) | z
  · exact na (.inl z)
  · rw [z] at e na
    rcases h with h | h
    · rw [h] at e; cases e
    · exact na (.inr h)
  · rcases f.new a z with z | z
    · exact na (.inr z)
    · rw [z] at e; cases e
theorem ext_own {as : As} {H H' : Hs} {p : Addr} {i : Nat} (f : Fr as H H') (hi : n ≤ i) (ns : as i ≠ some .sto) (h : NewO as H p) : Ext n as (upA as i (some (.lf p))) H H' := by
  refine ⟨f.fr, fun a q => ?_, fun j hj => upA_ne (by omega), f.liv, upA_ks ns (fun z => by cases z), f.nst⟩
  rcases q.up with ⟨r, e, q⟩ | q
  · cases e
    rw [q.lf_of]; exact h.symm
  · exact f.new a q
theorem less_own {O : Addr → Prop} {as : As} {H : Hs} {p : Addr} {i : Nat} : Same (hq (plus O p) as H) (hq O (upA as i (some (.lf p))) H) := hp_less fun a z => by
  rcases z with z | z
  · exact .inl (.inl z)
  · rcases z.up with ⟨r, e, z⟩ | z
    · cases e
      exact .inl (.inr z.lf_of)
    · exact .inr z
/-- i, j = e, [..] -/
def fParO2 (i j : Nat) (a : FE) (b : FA) : FS := fun E ρ => a ρ fun d ρ1 => b ρ1 fun ds ρ2 => gN i d ρ2 fun ρ3 => slotL ρ3 j = true ∧ E.nx (ρ3.set j (.own ds))
theorem none_back {as : As} {H H1 : Hs} {p : Addr} (f : Fr as H H1) (h : NewO as H1 p) : NewO as H p := (Ext.of (n := 0) f).old h
theorem rs_parO2 {i j : Nat} {ta tn : TE} {a : FE} {b : FA} (hj : n ≤ j) (ha : RE K J ta a) (hb : RN K J tn b) : RS K J (tPar i j (tCons ta (tCons tn tNil))) (fParO2 i j a b) := by
  intro O as σ H D ρ E R f C
  refine ha O as σ H _ ρ _ R f fun d ρ1 v H1 q1 f1 E1 d1 => ?_
  refine hb O as σ H1 _ ρ1 _ E1 q1 fun ds ρ2 p xs H2 q2 f2 hp1 E2 hp2 d2 => ?_
  refine ⟨_, _, rfl, ?_⟩
  have E3 := E2.setFz q2.1 (d1.mono (same_plus f2 hp1))
  have x := ext_own (f1.trans f2) hj (E3.nst_at (E3.ltB q2.2.1)) (none_back f1 hp1)
  exact C.nx _ _ _ _ q2.2.2 x (E3.ownNew q2.2.1 (J.cl _ _ _ _ R.inv x) R.inq (E1.notO E2 hp1 hp2) hp2 d2)
/-- i, j = [..], e -/
def fParO1 (i j : Nat) (b : FA) (a : FE) : FS := fun E ρ => b ρ fun ds ρ1 => a ρ1 fun d ρ2 => slotL ρ2 i = true ∧ slotF (ρ2.set i (.own ds)) j = true ∧ E.nx ((ρ2.set i (.own ds)).set j (.fz d))
theorem rs_parO1 {i j : Nat} {ta tn : TE} {a : FE} {b : FA} (hi : n ≤ i) (hb : RN K J tn b) (ha : RE K J ta a) : RS K J (tPar i j (tCons tn (tCons ta tNil))) (fParO1 i j b a) := by
  intro O as σ H D ρ E R f C
  refine hb O as σ H _ ρ _ R f fun ds ρ1 p xs H1 q1 f1 hp1 E1 hp2 d1 => ?_
  refine ha (plus O p) as σ H1 _ ρ1 _ E1 q1 fun d ρ2 v H2 q2 f2 E2 d2 => ?_
  refine ⟨_, _, rfl, ?_⟩
  have np := R.notO E1 hp1 hp2
  have hp3 : H2 p = some (.lst xs) := f2.fr _ _ (E1.newp hp2) hp2
  have x := ext_own (f1.trans f2) hi (E2.nst_at (E2.ltB q2.1)) hp1
  have E3 := E2.ownNew (i := i) q2.1 (J.cl _ _ _ _ R.inv x) R.inq np hp3 (d1.fr f2)
  have E4 := E3.setFz (v := v) q2.2.1 (d2.mono less_own)
  exact C.nx _ _ _ _ q2.2.2 x E4
theorem slotL_set {ρ : En} {i j : Nat} {ds : List PyData} (h : slotL ρ i = true) : slotL (ρ.set j (.own ds)) i = true := by
  unfold slotL at h ⊢
  rw [List.getElem?_set]
  by_cases e : j = i
  · subst e
    rw [if_pos rfl]
    split at h
    · cases h
    · next sl _ hn => rw [if_pos (List.getElem?_eq_some_iff.mp hn).1]
    · cases h
  · rw [if_neg e]
    exact h
/-- i, j = [..], [..] -/
def fParOO (i j : Nat) (a b : FA) : FS := fun E ρ => a ρ fun ds ρ1 => b ρ1 fun es ρ2 => slotL ρ2 i = true ∧ slotL ρ2 j = true ∧ E.nx ((ρ2.set i (.own ds)).set j (.own es))
theorem EnR.ownTwo {O : Addr → Prop} {as : As} {H0 H : Hs} {ρ : En} {σ : L2.St} {p q : Addr} {xs ys : List V} {ds es : List PyData} {i j : Nat} (E : EnR K J (plus (plus O p) q) as H ρ σ) (hij : i ≠ j) (hi : slotL ρ i = true) (hj : slotL ρ j = true) (ni : n ≤ i) (nj : n ≤ j) (h0 : J.P as H0) (hq0 : J.Q O) (f : Fr as H0 H)
    (hp : NewO as H0 p) (hq : NewO as H0 q) (np : ¬ O p) (nq : ¬ plus O p q) (h1 : H p = some (.lst xs)) (h2 : H q = some (.lst ys)) (d1 : DqAll K (DL.hq (plus (plus O p) q) as H) xs ds) (d2 : DqAll K (DL.hq (plus (plus O p) q) as H) ys es) :
    ∃ as', Ext n as as' H0 H ∧ EnR K J O as' H ((ρ.set i (.own ds)).set j (.own es)) ((σ.set i (some (.ref p))).set j (some (.ref q))) := by
  have x1 : Ext n as (upA as j (some (.lf q))) H0 H := ext_own f nj (E.nst_at (E.ltB hj)) hq
  have E1 := E.ownNew (i := j) hj (J.cl _ _ _ _ h0 x1) (J.up _ _ (fun _ z => .inl z) hq0) nq h2 d2
  have x2 : Ext n as (upA (upA as j (some (.lf q))) i (some (.lf p))) H0 H := ⟨f.fr, fun a z => by
    rcases z.up with ⟨r, e, z⟩ | z
    · cases e
      rw [z.lf_of]; exact hp.symm
    · exact x1.new a z, fun k hk => by rw [upA_ne (by omega)]; exact x1.fix k hk, f.liv, fun k => (upA_ks (o := some (.lf p)) (fun z => E.nst_at (E.ltB hi) ((x1.ks i).mp z)) (fun z => by cases z) k).trans (x1.ks k), f.nst⟩
  have E2 := E1.ownNew (i := i) (slotL_set hi) (J.cl _ _ _ _ h0 x2) hq0 np h1 (d1.mono less_own)
  refine ⟨_, x2, ?_⟩
  rw [List.set_comm _ _ hij, List.set_comm _ _ hij]
  exact E2
theorem rs_parOO {i j : Nat} {ta tb : TE} {a b : FA} (hij : i ≠ j) (hi : n ≤ i) (hj : n ≤ j) (ha : RN K J ta a) (hb : RN K J tb b) : RS K J (tPar i j (tCons ta (tCons tb tNil))) (fParOO i j a b) := by
  intro O as σ H D ρ E R f C
  refine ha O as σ H _ ρ _ R f fun ds ρ1 p xs H1 q1 f1 hp1 E1 hp2 d1 => ?_
  refine hb (plus O p) as σ H1 _ ρ1 _ E1 q1 fun es ρ2 q ys H2 q2 f2 hq1 E2 hq2 d2 => ?_
  refine ⟨_, _, rfl, ?_⟩
  obtain ⟨as', x, E3⟩ := E2.ownTwo hij q2.1 q2.2.1 hi hj R.inv R.inq (f1.trans f2) hp1 (none_back f1 hq1) (R.notO E1 hp1 hp2) (E1.notO E2 hq1 hq2) (f2.fr _ _ (E1.newp hp2) hp2) hq2 (d1.mono (same_plus f2 hq1)) d2
  exact C.nx _ _ _ _ q2.2.2 x E3
/-- i, j, l = e, e', [..] -/
def fPar3O3 (i j l : Nat) (a a' : FE) (b : FA) : FS := fun E ρ => a ρ fun d ρ1 => a' ρ1 fun d' ρ2 => b ρ2 fun ds ρ3 => gN i d ρ3 fun ρ4 => gN j d' ρ4 fun ρ5 => slotL ρ5 l = true ∧ E.nx (ρ5.set l (.own ds))
theorem rs_par3O3 {i j l : Nat} {ta ta' tn : TE} {a a' : FE} {b : FA} (hl : n ≤ l) (ha : RE K J ta a) (ha' : RE K J ta' a') (hb : RN K J tn b) : RS K J (tPar3 i j l (tCons ta (tCons ta' (tCons tn tNil)))) (fPar3O3 i j l a a' b) := by
  intro O as σ H D ρ E R f C
  refine ha O as σ H _ ρ _ R f fun d ρ1 v H1 q1 f1 E1 d1 => ?_
  refine ha' O as σ H1 _ ρ1 _ E1 q1 fun d' ρ2 v' H2 q2 f2 E2 d2 => ?_
  refine hb O as σ H2 _ ρ2 _ E2 q2 fun ds ρ3 p xs H3 q3 f3 hp1 E3 hp2 d3 => ?_
  refine ⟨_, _, _, rfl, ?_⟩
  have E4 := (E3.setFz q3.1 ((d1.fr f2).mono (same_plus f3 hp1))).setFz q3.2.1 (d2.mono (same_plus f3 hp1))
  have x := ext_own ((f1.trans f2).trans f3) hl (E4.nst_at (E4.ltB q3.2.2.1)) (none_back f1 (none_back f2 hp1))
  exact C.nx _ _ _ _ q3.2.2.2 x (E4.ownNew q3.2.2.1 (J.cl _ _ _ _ R.inv x) R.inq (E2.notO E3 hp1 hp2) hp2 d3)
/-- own[k] += e -/
def fAugO (i : Nat) (b a : FE) (h : Int → Int → Int) : FS := fun E ρ => ownF ρ i fun _ => b ρ fun x ρ1 => intF x fun k => ownF ρ1 i fun ds => ∃ c, atI ds k = some (.int c) ∧ a ρ1 fun y ρ2 => intF y fun y => ownF ρ2 i fun es => ∃ j, ixN es.length k = some j ∧ E.nx (ρ2.set i (.own (es.set j (.int (h c y)))))
theorem rs_augO {i : Nat} {ti te : TE} {b a : FE} {h : Int → Int → Int} (hb : RE K J ti b) (ha : RE K J te a) : RS K J (tAugS (tVar i) ti te (rIxL K) (ipI h) rSetL) (fAugO i b a h) := by
  intro O as σ H D ρ E R f C
  obtain ⟨ds0, h0, f⟩ := ownF_of f
  obtain ⟨p, xs0, e1, e2, e3, _⟩ := R.own_at h0
  refine ⟨_, e1, ?_⟩
  refine hb O as σ H _ ρ _ R f fun x ρ1 v H1 q1 f1 E1 d1 => ?_
  unfold intF at q1
  split at q1
  · next z =>
    cases d1
    obtain ⟨ds, hds, c, hc, q1⟩ := ownF_of q1
    obtain ⟨p', xs, e1', e2', e3', e4'⟩ := E1.own_at hds
    rw [e2] at e2'
    cases e2'
    obtain ⟨u, hu, du⟩ := e4'.atI hc
    cases du
    refine ⟨p, xs, z, _, rfl, rfl, SqL.of e3', hu, ?_⟩
    refine ha O as σ H1 _ ρ1 _ E1 q1 fun y ρ2 w H2 q2 f2 E2 d2 => ?_
    unfold intF at q2
    split at q2
    · cases d2
      obtain ⟨es, hes, j, hj, q2⟩ := ownF_of q2
      obtain ⟨p'', ys, e1'', e2'', e3'', e4''⟩ := E2.own_at hes
      rw [e2] at e2''
      cases e2''
      refine ⟨_, _, rfl, rfl, p, ys, z, j, rfl, rfl, e3'', by rw [e4''.length]; exact hj, ?_⟩
      obtain ⟨E3, f3⟩ := E2.put e2 e3'' (e4''.set (.int _) j)
      exact C.nx _ _ _ _ q2 (.of ((f1.trans f2).trans f3)) E3
    · exact q2.elim
  · exact q1.elim
/-- i, j = e, [..] by way of the tuple -/
theorem rs_asgO2 {i j : Nat} {ta tn : TE} {a : FE} {b : FA} (hj : n ≤ j) (ha : RE K J ta a) (hb : RN K J tn b) : RS K J (tAsg (tTup (tCons ta (tCons tn tNil))) (gTup K 2 (gCons (gName i) (gCons (gName j) gNil)))) (fParO2 i j a b) := by
  intro O as σ H D ρ E R f C
  refine ha O as σ H _ ρ _ R f fun d ρ1 v H1 q1 f1 E1 d1 => ?_
  refine hb O as σ H1 _ ρ1 _ E1 q1 fun ds ρ2 p xs H2 q2 f2 hp1 E2 hp2 d2 => ?_
  refine ⟨by show 2 ≤ sizeLine; decide, fun T hT => ?_⟩
  have s3 := Same.new (o := .tup [v, .ref p]) hT
  refine ⟨T, _, rfl, SqT.of upd_same, rfl, _, _, rfl, _, _, rfl, rfl, ?_⟩
  have E3 := E2.grow s3
  have E4 := E3.setFz q2.1 ((d1.mono (same_plus f2 hp1)).mono (E2.hgrow s3))
  have x := ext_own ((f1.trans f2).trans (E2.frS s3)) hj (E4.nst_at (E4.ltB q2.2.1)) (none_back f1 hp1)
  exact C.nx _ _ _ _ q2.2.2 x (E4.ownNew q2.2.1 (J.cl _ _ _ _ R.inv x) R.inq (E1.notO E2 hp1 hp2) (s3 _ _ hp2) (d2.mono (E2.hgrow s3)))
/-- own == e, own != e -/
def fEqO (h : Bool → Bool) (i : Nat) (b : FE) : FE := fun ρ P => ownF ρ i fun _ => b ρ fun y ρ1 => ownF ρ1 i fun ds => SeqAt.shaped (.list ds) = true ∧ SeqAt.shaped y = true ∧ P (.bool (h (PyData.eqv (.list ds) y))) ρ1
theorem own_dp {O : Addr → Prop} {as : As} {H : Hs} {ρ : En} {σ : L2.St} {i : Nat} {ds : List PyData} (E : EnR K J O as H ρ σ) (h : ρ[i]? = some (.own ds)) (sh : SeqAt.shaped (.list ds) = true) : ∃ a, as i = some (.lf a) ∧ σ[i]? = some (some (.ref a)) ∧ Dp K H (.ref a) (.list ds) := by
  obtain ⟨a, xs, e1, e2, e3, e4⟩ := E.own_at h
  exact ⟨a, e2, e1, .lst (SqL.of e3) (DpAll.mono hp_same (e4.dp (plain_of sh)))⟩
theorem re_eqO {i : Nat} {tb : TE} {b : FE} (hb : RE K J tb b) : RE K J (tOp (rEqD K) (tVar i) tb) (fEqO id i b) := by
  intro O as σ H Q ρ P E q k
  obtain ⟨ds0, h0, q⟩ := ownF_of q
  obtain ⟨a, xs0, e1, e2, _, _⟩ := E.own_at h0
  refine ⟨_, e1, ?_⟩
  refine hb O as σ H _ ρ _ E q fun x ρ1 v H1 q1 f1 E1 d1 => ?_
  obtain ⟨ds, hds, s1, s2, p⟩ := ownF_of q1
  obtain ⟨a', e2', _, dp⟩ := own_dp E1 hds s1
  rw [e2] at e2'
  cases e2'
  exact ⟨_, _, dp, Dp.mono hp_same (d1.dp (plain_of s2)), s1, s2, k _ _ _ _ p f1 E1 (.bl _)⟩
theorem re_neO {i : Nat} {tb : TE} {b : FE} (hb : RE K J tb b) : RE K J (tOp (rNeD K) (tVar i) tb) (fEqO not i b) := by
  intro O as σ H Q ρ P E q k
  obtain ⟨ds0, h0, q⟩ := ownF_of q
  obtain ⟨a, xs0, e1, e2, _, _⟩ := E.own_at h0
  refine ⟨_, e1, ?_⟩
  refine hb O as σ H _ ρ _ E q fun x ρ1 v H1 q1 f1 E1 d1 => ?_
  obtain ⟨ds, hds, s1, s2, p⟩ := ownF_of q1
  obtain ⟨a', e2', _, dp⟩ := own_dp E1 hds s1
  rw [e2] at e2'
  cases e2'
  exact ⟨_, _, dp, Dp.mono hp_same (d1.dp (plain_of s2)), s1, s2, k _ _ _ _ p f1 E1 (.bl _)⟩
end
end DL
/-! new lists handed back; own lists changed by methods; more built-in calls -/
namespace DL
open PySem L2 Z PySem.Spec PyProof.Rows
variable [Tbs]
section
variable {K : PySem.W.Frag} {n : Nat} {J : Jv n}
/-- what a slot owns is held from now on -/
theorem EnR.release {O : Addr → Prop} {as : As} {H : Hs} {ρ : En} {σ : L2.St} {i : Nat} {ds : List PyData} (E : EnR K J O as H ρ σ) (hn : n ≤ i) (h : ρ[i]? = some (.own ds)) :
    ∃ p xs, as i = some (.lf p) ∧ H p = some (.lst xs) ∧ EnR K J (plus O p) (upA as i none) H (ρ.set i .no) σ ∧ DqAll K (hq (plus O p) (upA as i none) H) xs ds := by
  obtain ⟨p, xs, e1, e2, e3, e4⟩ := E.own_at h
  have hi := E.lt h fun _ z => by cases z
  have hS : Same (hq O as H) (hq (plus O p) (upA as i none) H) := hp_less fun a q => by
    rcases q with (q | q) | q
    · exact .inl q
    · exact .inr (.inl ⟨i, _, e2, q⟩)
    · rcases q.up with ⟨_, q, _⟩ | q
      · cases q
      · exact .inr q
  have sub : ∀ j r', upA as i none j = some r' → j ≠ i ∧ as j = some r' := fun j r' h => by
    by_cases e : j = i
    · rw [e, upA_at] at h; cases h
    · rw [upA_ne e] at h; exact ⟨e, h⟩
  refine ⟨p, xs, e2, e3, ⟨by rw [List.length_set]; exact E.len, fun j sl h1 h2 => ?_, fun j sl o h1 h2 => ?_, fun j h => ?_, fun j k r1 r2 b h1 h2 => E.inj j k r1 r2 b (sub j r1 h1).2 (sub k r2 h2).2, fun j r1 b h q z => ?_, fun j b h => by rw [List.length_set]; exact E.bnd j b (sub j b h).2, fun a q => ?_, J.cl _ _ _ _ E.inv (Ext.go hn (E.nst_at hi)), J.up _ _ (fun _ z => .inl z) E.inq, E.tab⟩, e4.mono hS⟩
  · rw [List.getElem?_set_ne (by omega)] at h1
    rw [upA_ne (by omega)]
    exact E.tl j sl h1 h2
  · rw [List.getElem?_set] at h1
    by_cases e : i = j
    · subst e
      rw [if_pos rfl] at h1
      split at h1
      · cases h1
        rw [upA_at]
        exact .no
      · cases h1
    · rw [if_neg e] at h1
      rw [upA_ne (fun z => e z.symm)]
      exact (E.at_ j sl o h1 h2).mono hS fun _ _ => rfl
  · obtain ⟨ne, h⟩ := sub j _ h
    obtain ⟨z1, z2, z3⟩ := E.sto j h
    refine ⟨z1, ?_, z3.move hS fun _ _ => rfl⟩
    rw [List.getElem?_set_ne (fun z => ne z.symm)]
    exact z2
  · obtain ⟨ne, h⟩ := sub j r1 h
    rcases z with z | z
    · exact E.out j r1 b h q z
    · exact ne (E.inj j i r1 _ b h e2 q z)
  · rcases q with q | q
    · exact E.occ a q
    · rw [q, e3]; exact Option.some_ne_none _
/-- return own -/
def fRetO (i : Nat) : FS := fun E ρ => ownF ρ i fun ds => E.ro ds (ρ.set i .no)
theorem rs_retO {i : Nat} (hi : n ≤ i) : RS K J (tRet (tVar i)) (fRetO i) := by
  intro O as σ H D ρ E R f C
  obtain ⟨ds, h, f⟩ := ownF_of f
  obtain ⟨p, xs, e2, e3, R', d⟩ := R.release hi h
  obtain ⟨a, ys, e1, e2', _, _⟩ := R.own_at h
  rw [e2] at e2'
  cases e2'
  exact ⟨_, e1, C.ro _ _ _ _ _ _ _ f (Ext.go hi (R.nst_at (R.lt h fun _ z => by cases z))) (.inr (.inl ⟨i, _, e2, .here⟩)) R' e3 d⟩
/-- return of a new list -/
def fRetW (f : FA) : FS := fun E ρ => f ρ fun ds ρ1 => E.ro ds ρ1
theorem rs_retW {te : TE} {f : FA} (h : RN K J te f) : RS K J (tRet te) (fRetW f) := by
  intro O as σ H D ρ E R q C
  exact h O as σ H _ ρ _ R q fun ds ρ1 p xs H2 q1 f1 hp1 E1 hp2 d1 => C.ro _ _ _ _ _ _ _ q1 (.of f1) hp1 E1 hp2 d1
abbrev FM := List Sl → (List PyData → List Sl → Prop) → Prop
/-- a def that hands back a new list -/
def spNG (K : PySem.W.Frag) (n e : Nat) (F : FM) : Sp := fun vs H Q _ => vs.length = n ∧ ∃ (O : Addr → Prop) (as : As) (S : Sto) (ρ : En) (P : List PyData → List Sl → Prop), EnR K (J0 : Jv 0) O as ⟨H, S⟩ ρ (vs.map some) ∧ ρ.length = n + e ∧ F ρ P ∧
  ∀ ds out p xs H', P ds out → Fr as ⟨H, S⟩ H' → NewO as ⟨H, S⟩ p → Bk K (plus O p) as H' out → H' p = some (.lst xs) → DqAll K (hq (plus O p) as H') xs ds → Q (.ref p) H'
abbrev spN (K : PySem.W.Frag) (n : Nat) (F : FM) : Sp := spNG K n 0 F
abbrev spNS (K : PySem.W.Frag) (n : Nat) (F : FM) : Sp := spNG K n 1 F
def fnM (n m : Nat) (b : FS) : FM := fun sls P => b { nx := fun _ => False, rt := fun _ _ => False, ro := fun ds ρ' => P ds (ρ'.take n) } (sls ++ List.replicate (m - n) .no)
def fnMS (n m : Nat) (b : FS) : FM := fun sls P => b { nx := fun _ => False, rt := fun _ _ => False, ro := fun ds ρ' => P ds (ρ'.take n ++ ρ'.drop m) } (sls.take n ++ List.replicate (m - n) .no ++ sls.drop n)
theorem Ext.newS {n N : Nat} {as : As} {H : Hs} {p : Addr} (h : NewO (shA as n N) H p) : NewO as H p := h.imp id fun z => by
  rcases z with ⟨j, r, hc, q⟩ | hc
  · unfold shA at hc
    split at hc
    · exact .inl ⟨j, r, hc, q⟩
    · split at hc
      · exact .inl ⟨n, r, hc, q⟩
      · cases hc
  · exact .inr hc
theorem fn_runN {m e : Nat} {N : List Str} {b : FS} {t : TS} (rs : ∀ J : Jv m, RS K J t b) {vs : List V} {H : Hp} {Q : VK} {E : XK} (hN : m ≤ N.length) {F : FM} (hF : F = fun sls P => b { nx := fun _ => False, rt := fun _ _ => False, ro := fun ds ρ' => P ds (outS e m N.length ρ') } (enS e m N.length sls)) (h : spNG K m e F vs H Q E) : t { nx := fun _ H' => Q .non H', rt := Q } (L2.start N vs) H := by
  obtain ⟨hv, O, as, S, ρ, P, R, hl, hf, q⟩ := h
  subst hF
  refine rs (Jst m O (shA as m N.length) ⟨H, S⟩) O _ _ ⟨H, S⟩ _ _ _ (fn_start R hv hl hN) hf ⟨fun _ _ _ _ p => p.elim, fun _ _ _ _ _ _ p => p.elim, fun _ _ _ _ p => p.elim, fun _ _ _ _ p => p.elim, fun ds ρ' p xs as' σ' H' pr x o R' e d => ?_⟩
  obtain ⟨h1, h2, h3⟩ := fn_back R hv hl hN x R'
  exact q _ _ _ _ _ pr h1 (Ext.newS o) h2 e (d.mono h3)
theorem fn_coreN {ps : List Str} {N : List Str} {b : FS} {t : TS} (hN : ps.length ≤ N.length) (rs : ∀ J : Jv ps.length, RS K J t b) {vs : List V} {H : Hp} {Q : VK} {E : XK} (h : spN K ps.length (fnM ps.length N.length b) vs H Q E) : t { nx := fun _ H' => Q .non H', rt := Q } (L2.start N vs) H := fn_runN rs hN rfl h
theorem fn_coreNS {ps : List Str} {N : List Str} {b : FS} {t : TS} (hN : ps.length ≤ N.length) (rs : ∀ J : Jv ps.length, RS K J t b) {vs : List V} {H : Hp} {Q : VK} {E : XK} (h : spNS K ps.length (fnMS ps.length N.length b) vs H Q E) : t { nx := fun _ H' => Q .non H', rt := Q } (L2.start N vs) H := fn_runN rs hN rfl h
section
variable {P : Program} {w : World} {mg : Str → Option Value} {base : Heap} {k : Nat} {f : Addr} {fd : FuncData} {ps : List Str} {x qual : Str} {st : Stmt} {N : List Str} {b : FS}
theorem okN (F : Fun K x qual st f fd) (S : FnScope N ps (defScope st))
    (body : ∀ (cdv : Value) (A : Around) (outer : List Env) (s : Shared) (H : Hp) (E : XK), Room k (A.deeper (envOfC qual (defScope st) s.heap.objs.size f cdv)) →
      (A.deeper (envOfC qual (defScope st) s.heap.objs.size f cdv)).guards = some [] →
      ∃ t, PSs (cxOf CX0 P w K mg base N qual (defScope st) f cdv A outer s H E).nox (defBody st) t ∧ ∀ J : Jv ps.length, RS K J t b) :
    FnG P w K mg base (k + 1) f fd ps (spN K ps.length (fnM ps.length N.length b)) := by
  refine okG F S (fun vs H Q E h => h.1) (fun cdv A outer s H vs Q E hr hg h => ?_)
  obtain ⟨t, pt, rs⟩ := body cdv A outer s H E hr hg
  exact ⟨t, pt, fn_coreN (scope_le S) rs h⟩
theorem okN0 (F : Fun K x qual st f fd) (S : FnScope N ps (defScope st))
    (body : ∀ (cdv : Value) (A : Around) (outer : List Env) (s : Shared) (H : Hp) (E : XK), Room k (A.deeper (envOfC qual (defScope st) s.heap.objs.size f cdv)) →
      ∃ t, PSs (cxOf CX0 P w K mg base N qual (defScope st) f cdv A outer s H E).nox (defBody st) t ∧ ∀ J : Jv ps.length, RS K J t b) :
    FnOk P w K mg base CX0 (k + 1) f fd ps (spN K ps.length (fnM ps.length N.length b)) := by
  refine F.ok S (fun vs H Q E h => h.1) (fun cdv A outer s H vs Q E hr h => ?_)
  obtain ⟨t, pt, rs⟩ := body cdv A outer s H E hr
  exact ⟨t, pt, fn_coreN (scope_le S) rs h⟩
theorem okND {params : Arguments} {bd : List Stmt} {scope : Scope} {dvs : List V} {kws : List (Str × V)} (F : FunD K x qual params bd scope dvs kws f fd) (S : FnScope N ps scope)
    (body : ∀ (cdv : Value) (A : Around) (outer : List Env) (s : Shared) (H : Hp) (E : XK), Room k (A.deeper (envOfC qual scope s.heap.objs.size f cdv)) →
      ∃ t, PSs (cxOf CX0 P w K mg base N qual scope f cdv A outer s H E).nox bd t ∧ ∀ J : Jv ps.length, RS K J t b) :
    FnOk P w K mg base CX0 (k + 1) f fd ps (spN K ps.length (fnM ps.length N.length b)) := by
  refine okD F S (fun vs H Q E h => h.1) (fun cdv A outer s H vs Q E hr h => ?_)
  obtain ⟨t, pt, rs⟩ := body cdv A outer s H E hr
  exact ⟨t, pt, fn_coreN (scope_le S) rs h⟩
theorem okNS (F : Fun K x qual st f fd) (S : FnScope N ps (defScope st))
    (body : ∀ (cdv : Value) (A : Around) (outer : List Env) (s : Shared) (H : Hp) (E : XK), Room k (A.deeper (envOfC qual (defScope st) s.heap.objs.size f cdv)) →
      (A.deeper (envOfC qual (defScope st) s.heap.objs.size f cdv)).guards = some [] →
      ∃ t, PSs (cxOf CX0 P w K mg base N qual (defScope st) f cdv A outer s H E).nox (defBody st) t ∧ ∀ J : Jv ps.length, RS K J t b) :
    FnG P w K mg base (k + 1) f fd ps (spNS K ps.length (fnMS ps.length N.length b)) := by
  refine okG F S (fun vs H Q E h => h.1) (fun cdv A outer s H vs Q E hr hg h => ?_)
  obtain ⟨t, pt, rs⟩ := body cdv A outer s H E hr hg
  exact ⟨t, pt, fn_coreNS (scope_le S) rs h⟩
theorem okNS0 (F : Fun K x qual st f fd) (S : FnScope N ps (defScope st))
    (body : ∀ (cdv : Value) (A : Around) (outer : List Env) (s : Shared) (H : Hp) (E : XK), Room k (A.deeper (envOfC qual (defScope st) s.heap.objs.size f cdv)) →
      ∃ t, PSs (cxOf CX0 P w K mg base N qual (defScope st) f cdv A outer s H E).nox (defBody st) t ∧ ∀ J : Jv ps.length, RS K J t b) :
    FnOk P w K mg base CX0 (k + 1) f fd ps (spNS K ps.length (fnMS ps.length N.length b)) := by
  refine F.ok S (fun vs H Q E h => h.1) (fun cdv A outer s H vs Q E hr h => ?_)
  obtain ⟨t, pt, rs⟩ := body cdv A outer s H E hr
  exact ⟨t, pt, fn_coreNS (scope_le S) rs h⟩
theorem okNSD {params : Arguments} {bd : List Stmt} {scope : Scope} {dvs : List V} {kws : List (Str × V)} (F : FunD K x qual params bd scope dvs kws f fd) (S : FnScope N ps scope)
    (body : ∀ (cdv : Value) (A : Around) (outer : List Env) (s : Shared) (H : Hp) (E : XK), Room k (A.deeper (envOfC qual scope s.heap.objs.size f cdv)) →
      ∃ t, PSs (cxOf CX0 P w K mg base N qual scope f cdv A outer s H E).nox bd t ∧ ∀ J : Jv ps.length, RS K J t b) :
    FnOk P w K mg base CX0 (k + 1) f fd ps (spNS K ps.length (fnMS ps.length N.length b)) := by
  refine okD F S (fun vs H Q E h => h.1) (fun cdv A outer s H vs Q E hr h => ?_)
  obtain ⟨t, pt, rs⟩ := body cdv A outer s H E hr
  exact ⟨t, pt, fn_coreNS (scope_le S) rs h⟩
end
/-- back from a def that hands back the place p -/
theorem call_backX {O : Addr → Prop} {p : Addr} {as : As} {H H' : Hs} {ρ : En} {σ : L2.St} {xs : List Ar} {vs : List V} {out : List Sl} (E : EnR K J O as H ρ σ) (ar : ArsT K (hq O as H) as vs xs) (nd : (ownIx xs).Nodup) (fr : Fr (adrs as xs) H H') (hX : NewO (adrs as xs) H p) (hL : H' p ≠ none) (bk : Bk K (plus (OutO O as xs H) p) (adrs as xs) H' out) :
    Fr as H H' ∧ EnR K J (plus O p) as H' (wb ρ xs out) σ ∧ ∀ a, Hid (plus O p) as H' a → Hid (plus (OutO O as xs H) p) (adrs as xs) H' a := by
  have bk0 : Bk K (OutO O as xs H) (adrs as xs) H' out := ⟨bk.tab, fun i r h => by
    obtain ⟨sl, e, q⟩ := bk.at_ i r h
    exact ⟨sl, e, q.mono (hp_less fun _ => hid_plus)⟩, bk.inj, fun i r b h q z => bk.out i r b h q (.inl z)⟩
  obtain ⟨fr', E', hid, st⟩ := call_back E ar nd fr bk0
  have hidX : ∀ a, Hid (plus O p) as H' a → Hid (plus (OutO O as xs H) p) (adrs as xs) H' a := fun a h => by
    rcases h with (h | h) | h
    · exact (hid a (.inl h)).imp .inl id
    · exact .inl (.inr h)
    · exact (hid a (.inr h)).imp .inl id
  have sX : Same (hq O as H) (hq (plus O p) as H') := fun a o e => by
    obtain ⟨na, e⟩ := hp_some e
    refine hp_mk (fun z => ?_) (fr'.fr a o (fun z => na (.inr z)) e)
    rcases z with (z | z) | z
    · exact na (.inl z)
    · rw [z] at e na
      rcases hX with h | h
      · rw [h] at e; cases e
      · exact na (.inr (adrs_sub h))
    · rcases fr'.new a z with z | z
      · exact na (.inr z)
      · rw [z] at e; cases e
  have np : ∀ i r b, as i = some r → Rgn H' r b → b ≠ p := fun i r b h q z => by
    by_cases m : i ∈ ownIx xs
    · obtain ⟨j, e⟩ := ownIx_mem m
      exact bk.out j r b (by unfold adrs; rw [e]; exact h) q (.inr z)
    · have q' : Rgn H r b := by
        cases r with
        | lf a => exact q
        | sto =>
          refine (Rgn.st (fr.nst fun j z => ?_)).mp q
          obtain ⟨i', e', h'⟩ := adrs_own z
          rw [(E.sto i' h').1, ← (E.sto i h).1] at e'
          exact m (mem_ownIx e')
      rw [z] at q'
      rcases hX with w | w
      · obtain ⟨o, e, _⟩ := E.nod h q'
        rw [show H.hp p = none from w] at e; cases e
      · exact (st i r p m h q').2 w
  refine ⟨fr', ⟨E'.len, E'.tl, fun i sl o h1 h2 => ?_, fun i h => ?_, E'.inj, fun i r b h q z => ?_, E'.bnd, fun a h => ?_, E'.inv, J.up _ _ (fun _ z => .inl z) E.inq, E'.tab⟩, hidX⟩
  · by_cases q : i ∈ ownIx xs
    · obtain ⟨j, e⟩ := ownIx_mem q
      have hi : i < ρ.length := by
        have := (List.getElem?_eq_some_iff.mp h1).1
        rw [wb_len] at this
        exact this
      obtain ⟨a, ha⟩ := ar.own_at e
      have hadr : adrs as xs j = some a := by unfold adrs; rw [e]; exact ha
      obtain ⟨sl', e1, e2⟩ := bk.at_ j a hadr
      rw [wb_own ρ hi nd e e1] at h1
      cases h1
      cases a with
      | sto =>
        have := (E.sto i ha).1
        have := (List.getElem?_eq_some_iff.mp h2).1
        omega
      | lf a =>
        obtain ⟨_, _, _, e4, _⟩ := E.is_own ha
        rw [e4] at h2
        cases h2
        rw [ha]
        exact RgR.mono (hp_less hidX) e2
    · rw [wb_other ρ xs out q] at h1
      exact (E.at_ i sl o h1 h2).mono sX fun b hb => (st i _ b q hb rfl).1
  · obtain ⟨e1, e2, e3⟩ := E'.sto i h
    refine ⟨e1, e2, ?_⟩
    by_cases q : i ∈ ownIx xs
    · obtain ⟨j, e⟩ := ownIx_mem q
      obtain ⟨sl', x1, x2⟩ := bk.at_ j .sto (by unfold adrs; rw [e]; exact h)
      exact x2.2.move (hp_less hidX) fun _ _ => rfl
    · have se : H'.st = H.st := fr.nst fun j z => by
        obtain ⟨i', e', h'⟩ := adrs_own z
        rw [(E.sto i' h').1, ← (E.sto i h).1] at e'
        exact q (mem_ownIx e')
      rw [se]
      exact (E.sto i h).2.2.move sX fun a z => (st i _ a q h z).1
  · rcases z with z | z
    · exact E'.out i r b h q z
    · exact np i r b h q z
  · rcases h with h | h
    · exact E'.occ a h
    · rw [h]; exact hL
theorem call_coreN {O : Addr → Prop} {as : As} {H : Hs} {ρ : En} {σ : L2.St} {xs : List Ar} {r : List Sl} {vs : List V} {m e : Nat} {F : FM} {P : List PyData → En → Prop} {Q : VK} {E0 : XK} (E : EnR K J O as H ρ σ) (fit : Fits ρ xs r) (ar : ArsT K (hq O as H) as vs xs) (hv : vs.length = m) (hm : xs.length = m + e) (nd : (ownIx xs).Nodup)
    (f : F r fun d out => P d (wb ρ xs out)) (k : ∀ ds ρ' p ys H', P ds ρ' → Fr as H H' → NewO as H p → EnR K J (plus O p) as H' ρ' σ → H' p = some (.lst ys) → DqAll K (hq (plus O p) as H') ys ds → Q (.ref p) H') : spNG K m e F vs H Q E0 := by
  refine ⟨hv, _, adrs as xs, H.st, r, _, call_in E fit ar nd, by rw [fit.len, hm], f, fun d out p ys H' pr fr hp1 bk hp2 dv => ?_⟩
  obtain ⟨fr', E', hid⟩ := call_backX E ar nd fr hp1 (by rw [hp2]; exact Option.some_ne_none _) bk
  exact k d _ p ys H' pr fr' (hp1.imp id adrs_sub) E' hp2 (dv.mono (hp_less hid))
def fCallW (m : Nat) (F : FM) (dv : List PyData) (a : FC) : FA := fun ρ P => a ρ fun xs ρ1 => xs.length + dv.length = m ∧ (ownIx xs).Nodup ∧ argF ρ1 xs fun r => F (r ++ dv.map .fz) fun d out => P d (wb ρ1 xs out)
theorem rn_call {m : Nat} {F : FM} {dvs : List V} {dv : List PyData} {E0 : XK} {t : TA} {f : FC} (hd : ∀ H, DqAll K H dvs dv) (ha : RC K J t f) : RN K J (tCall (spN K m F) dvs E0 t) (fCallW m F dv f) := by
  intro O as σ H Q ρ P E q k
  refine ha O as σ H _ ρ _ E q fun xs ρ1 vs H1 q1 f1 E1 d1 => ?_
  obtain ⟨hm, nd, q1⟩ := q1
  obtain ⟨r, fit, q1⟩ := argF_of q1
  refine call_coreN (xs := xs ++ dv.map .dat) E1 (fit.app (fits_dat dv)) (d1.app (dat_ars (hd _))).toT (by rw [List.length_append, d1.len, (hd H1).length]; exact hm) (by rw [List.length_append, List.length_map]; exact hm) (by rw [ownIx_app]; exact nd) ?_ fun ds ρ' p ys H' pr fr hp1 E' hp2 q' => k ds ρ' p ys H' pr (f1.trans fr) (none_back f1 hp1) E' hp2 q'
  simp only [wb_app]
  exact q1
/-- the same, handed the store, too -/
def fCallWS (sx m : Nat) (F : FM) (dv : List PyData) (a : FC) : FA := fun ρ P => a ρ fun xs ρ1 => xs.length + dv.length = m ∧ (ownIx xs ++ [sx]).Nodup ∧ argF ρ1 xs fun r => match ρ1[sx]? with
  | some (.st S) => F (r ++ dv.map .fz ++ [.st S]) fun d out => P d ((wb ρ1 xs out).set sx ((out.drop m).headD .no))
  | _ => False
theorem rn_callS {sx m : Nat} {F : FM} {dvs : List V} {dv : List PyData} {E0 : XK} {t : TA} {f : FC} (hd : ∀ H, DqAll K H dvs dv) (ha : RC K J t f) : RN K J (tCall (spNS K m F) dvs E0 t) (fCallWS sx m F dv f) := by
  intro O as σ H Q ρ P E q k
  refine ha O as σ H _ ρ _ E q fun xs ρ1 vs H1 q1 f1 E1 d1 => ?_
  obtain ⟨hm, nd, q1⟩ := q1
  obtain ⟨r, fit, q1⟩ := argF_of q1
  split at q1
  · next S hs =>
    have hl : (vs ++ dvs).length = m := by rw [List.length_append, d1.len, (hd H1).length]; exact hm
    have ni : sx ∉ ownIx xs := fun z => (List.nodup_append.mp nd).2.2 _ z _ (List.mem_singleton.mpr rfl) rfl
    refine call_coreN (xs := xs ++ dv.map .dat ++ [.own sx]) E1 ((fit.app (fits_dat dv)).app (.st hs .nil)) ((d1.app (dat_ars (hd _))).snoc (E1.st_at hs).1) hl (by rw [List.length_append, List.length_append, List.length_map, hm]; rfl) (by rw [ownIx_snoc, ownIx_app]; exact nd) ?_ fun ds ρ' p ys H' pr fr hp1 E' hp2 q' => k ds ρ' p ys H' pr (f1.trans fr) (none_back f1 hp1) E' hp2 q'
    · simp only [wb_snoc, wb_app, wb_set _ _ _ _ _ ni, List.length_append, List.length_map, hm]
      exact q1
  · exact q1.elim
def fCallNW (F : FM) (n m : Nat) (gD : List PyData → List PyData → List PyData) (f fk : FA) : FA := fun ρ P => f ρ fun ds ρ1 => fk ρ1 fun es ρ2 => ds.length = n ∧ es.length = m ∧ F ((gD ds es).map .fz) fun d _ => P d ρ2
theorem rn_callN {l n m : Nat} {F : FM} {gV : List V → List V → List V} {gD : List PyData → List PyData → List PyData} {E0 : XK} {t tk : TA} {f fk : FA}
    (hl : ∀ ds es : List PyData, ds.length = n → es.length = m → (gD ds es).length = l)
    (hg : ∀ (vs zs : List V) (ds es : List PyData) (H : Hp), DqAll K H vs ds → DqAll K H zs es → DqAll K H (gV vs zs) (gD ds es)) (ha : RA K J t f) (hk : RA K J tk fk) : RN K J (tCallN n m (spN K l F) gV E0 t tk) (fCallNW F n m gD f fk) := by
  intro O as σ H Q ρ P E q k
  refine ha O as σ H _ ρ _ E q fun ds ρ1 vs H1 q1 f1 E1 d1 => ?_
  refine hk O as σ H1 _ ρ1 _ E1 q1 fun es ρ2 zs H2 q2 f2 E2 d2 => ?_
  obtain ⟨l1, l2, q2⟩ := q2
  refine ⟨by rw [d1.length]; exact l1, by rw [d2.length]; exact l2, ?_⟩
  refine call_coreN (xs := (gD ds es).map .dat) E2 (fits_dat _) (dat_ars (hg _ _ _ _ _ (d1.fr f2) d2)).toT (by rw [(hg _ _ _ _ _ (d1.fr f2) d2).length]; exact hl _ _ l1 l2) (by rw [List.length_map]; exact hl _ _ l1 l2) (by rw [ownIx_dat]; exact .nil) ?_ fun ds ρ' p ys H' pr fr hp1 E' hp2 q' => k ds ρ' p ys H' pr ((f1.trans f2).trans fr) (none_back f1 (none_back f2 hp1)) E' hp2 q'
  simp only [wb_dat]
  exact q2
/-! built-in calls and operators that make a new list -/
def RBN (K : PySem.W.Frag) (r : List V → Hp → VK → Prop) (g : List PyData → (List PyData → Prop) → Prop) : Prop := ∀ (A : Addr → Prop) (H : Hp) (Q : VK) (xs : List V) (ds : List PyData) (P : List PyData → Prop),
  DqAll K (hp A H) xs ds → g ds P → (∀ es p ys, P es → H p = none → DqAll K (hp A H) ys es → Q (.ref p) (upd H p (.lst ys))) → r xs H Q
theorem new_step {O : Addr → Prop} {as : As} {H H1 : Hs} {ρ1 : En} {σ : L2.St} {p : Addr} {ys : List V} {es : List PyData} {P : List PyData → En → Prop} {Q : VK} (f1 : Fr as H H1) (E1 : EnR K J O as H1 ρ1 σ) (q : P es ρ1) (hp1 : H1 p = none) (d : DqAll K (hq O as H1) ys es)
    (k : ∀ ds ρ' p xs H', P ds ρ' → Fr as H H' → NewO as H p → EnR K J (plus O p) as H' ρ' σ → H' p = some (.lst xs) → DqAll K (hq (plus O p) as H') xs ds → Q (.ref p) H') : Q (.ref p) (H1.w (upd H1 p (.lst ys))) := by
  obtain ⟨E2, s2⟩ := E1.addO (o := .lst ys) hp1
  exact k _ _ _ _ _ q (f1.trans (E1.frS (Same.new hp1))) (none_back f1 (.inl hp1)) E2 upd_same (d.mono s2)
def fCBN (g : List PyData → (List PyData → Prop) → Prop) (a : FA) : FA := fun ρ P => a ρ fun ds ρ1 => g ds fun es => P es ρ1
theorem rn_cb {r : List V → Hp → VK → Prop} {g : List PyData → (List PyData → Prop) → Prop} {t : TA} {f : FA} (hr : RBN K r g) (ha : RA K J t f) : RN K J (tCB r t) (fCBN g f) := by
  intro O as σ H Q ρ P E q k
  refine ha O as σ H _ ρ _ E q fun ds ρ1 vs H1 q1 f1 E1 d1 => ?_
  exact hr (Hid O as H1) H1 _ vs ds _ d1 q1 fun es p ys pr hp1 d => new_step f1 E1 pr hp1 d k
def nList (ds : List PyData) (P : List PyData → Prop) : Prop := one ds fun d => seqF d P
theorem rbn_list : RBN K (fun xs H Q => ∃ p ys, xs = [.ref p] ∧ (SqL K H p ys ∨ SqT K H p ys) ∧ ∀ l, H l = none → Q (.ref l) (upd H l (.lst ys))) nList := by
  intro A H Q xs ds P r g k
  obtain ⟨v, d, rfl, q, g⟩ := one_of r g
  obtain ⟨p, ys, es, rfl, s, r, g⟩ := seqF_of q g
  exact ⟨p, ys, rfl, s, fun l hl => k _ _ _ g hl r⟩
def nSortI (ds : List PyData) (P : List PyData → Prop) : Prop := one ds fun d => listF d fun es => intsF es fun ns => ∀ ms : List Int, ms.Perm ns → ms.Pairwise (· ≤ ·) → P (ms.map .int)
theorem rbn_sortI : RBN K (rSortedI K) nSortI := by
  intro A H Q xs ds P r g k
  obtain ⟨v, d, rfl, q, g⟩ := one_of r g
  unfold listF at g
  split at g
  · obtain ⟨ns, e, g'⟩ := intsF_of g
    subst e
    obtain ⟨a, ys, rfl, s, r⟩ := q.list_of
    cases r.ints_of
    exact ⟨a, ns, rfl, SqL.mono hp_same s, fun ms p h1 h2 hp1 => k _ _ _ (g' ms h1 h2) hp1 (DqAll.ints _)⟩
  · exact g.elim
def nSortS (ds : List PyData) (P : List PyData → Prop) : Prop := one ds fun d => listF d fun es => strsF es fun ns => ns.length < 64 ∧ ∀ ms : List Str, ms.Perm ns → sortedS ms = true → P (ms.map .str)
theorem rbn_sortS : RBN K (rSortedS K) nSortS := by
  intro A H Q xs ds P r g k
  obtain ⟨v, d, rfl, q, g⟩ := one_of r g
  unfold listF at g
  split at g
  · obtain ⟨ns, e, hl, g'⟩ := strsF_of g
    subst e
    obtain ⟨a, ys, rfl, s, r⟩ := q.list_of
    cases r.strs_of
    exact ⟨a, ns, rfl, SqL.mono hp_same s, hl, fun ms p h1 h2 hp1 => k _ _ _ (g' ms h1 h2) hp1 (DqAll.strs _)⟩
  · exact g.elim
def RRN (K : PySem.W.Frag) (r : R2) (g : PyData → PyData → (List PyData → Prop) → Prop) : Prop := ∀ (A : Addr → Prop) (H : Hp) (Q : VK) (x y : V) (a b : PyData) (P : List PyData → Prop),
  Dq K (hp A H) x a → Dq K (hp A H) y b → g a b P → (∀ es p ys, P es → H p = none → DqAll K (hp A H) ys es → Q (.ref p) (upd H p (.lst ys))) → r x y H Q
def fOpN (g : PyData → PyData → (List PyData → Prop) → Prop) (a b : FE) : FA := fun ρ P => a ρ fun x ρ1 => b ρ1 fun y ρ2 => g x y fun es => P es ρ2
theorem rn_op {r : R2} {g : PyData → PyData → (List PyData → Prop) → Prop} {ta tb : TE} {fa fb : FE} (hr : RRN K r g) (ha : RE K J ta fa) (hb : RE K J tb fb) : RN K J (tOp r ta tb) (fOpN g fa fb) := by
  intro O as σ H Q ρ P E q k
  refine ha O as σ H _ ρ _ E q fun a ρ1 x H1 q1 f1 E1 d1 => ?_
  refine hb O as σ H1 _ ρ1 _ E1 q1 fun b ρ2 y H2 q2 f2 E2 d2 => ?_
  exact hr (Hid O as H2) H2 _ x y a b _ (d1.fr f2) d2 q2 fun es p ys pr hp1 d => new_step (f1.trans f2) E2 pr hp1 d k
def nCat : PyData → PyData → (List PyData → Prop) → Prop := fun a b P => match a, b with
  | .list xs, .list ys => xs.length + ys.length ≤ sizeLine ∧ P (xs ++ ys)
  | _, _ => False
theorem rrn_cat : RRN K (rCatK K) nCat := by
  intro A H Q x y a b P da db g k
  unfold nCat at g
  split at g
  · obtain ⟨p, xs, rfl, s, r⟩ := da.list_of
    obtain ⟨p', xs', rfl, s', r'⟩ := db.list_of
    exact ⟨p, p', xs, xs', rfl, rfl, SqL.mono hp_same s, SqL.mono hp_same s', by rw [r.length, r'.length]; exact g.1, fun l hl => k _ _ _ g.2 hl (r.append r')⟩
  · exact g.elim
theorem own_out {O : Addr → Prop} {as : As} {H : Hs} {ρ : En} {σ : L2.St} {p : Addr} {xs : List V} (E : EnR K J (plus O p) as H ρ σ) (e : H p = some (.lst xs)) : ¬ Own as H p := E.newp e
theorem plus_sub {O : Addr → Prop} {p : Addr} : ∀ a, O a → plus O p a := fun _ h => .inl h
/-- [..] * k, the list being written there -/
def fRep (a : FA) (b : FE) : FA := fun ρ P => a ρ fun ds ρ1 => b ρ1 fun y ρ2 => intF y fun k => -(2 ^ 63) ≤ k ∧ k < 2 ^ 63 ∧ ds.length * k.toNat ≤ sizeLine ∧ P (List.replicate k.toNat ds).flatten ρ2
theorem rn_rep {ta tb : TE} {a : FA} {b : FE} (ha : RN K J ta a) (hb : RE K J tb b) : RN K J (tOp rRep ta tb) (fRep a b) := by
  intro O as σ H Q ρ P E q k
  refine ha O as σ H _ ρ _ E q fun ds ρ1 p xs H1 q1 f1 hp1 E1 hp2 d1 => ?_
  refine hb (plus O p) as σ H1 _ ρ1 _ E1 q1 fun y ρ2 v H2 q2 f2 E2 d2 => ?_
  unfold intF at q2
  split at q2
  · cases d2
    refine ⟨p, _, xs, rfl, rfl, f2.fr _ _ (own_out E1 hp2) hp2, q2.1, q2.2.1, by rw [d1.length]; exact q2.2.2.1, fun l hl => ?_⟩
    have E3 := E2.lessO E.inq
    exact new_step (f1.trans f2) E3 q2.2.2.2 hl (((d1.fr f2).mono (hp_less fun _ => hid_plus)).rep _) k
  · exact q2.elim
def fSlN (a : FE) (lo hi : FO) : FA := fun ρ P => a ρ fun x ρ1 => lo ρ1 fun l ρ2 => hi ρ2 fun u ρ3 => listF x fun ds => P (cutD ds l u) ρ3
theorem rn_sl {te : TE} {tl th : TO} {a : FE} {lo hi : FO} (ha : RE K J te a) (hl : RO K J tl lo) (hh : RO K J th hi) : RN K J (tSl (rSlL K) te tl th) (fSlN a lo hi) := by
  intro O as σ H Q ρ P E q k
  refine ha O as σ H _ ρ _ E q fun x ρ1 v H1 q1 f1 E1 d1 => ?_
  refine hl O as σ H1 _ ρ1 _ E1 q1 fun l ρ2 H2 q2 f2 E2 => ?_
  refine hh O as σ H2 _ ρ2 _ E2 q2 fun u ρ3 H3 q3 f3 E3 => ?_
  unfold listF at q3
  split at q3
  · obtain ⟨p, xs, rfl, s, r⟩ := ((d1.fr f2).fr f3).list_of
    exact ⟨p, xs, rfl, SqL.mono hp_same s, fun l hl => new_step ((f1.trans f2).trans f3) E3 q3 hl (r.cut _ _) k⟩
  · exact q3.elim
/-- xs[::-1] -/
def fRev (a : FE) : FA := fun ρ P => a ρ fun x ρ1 => listF x fun ds => P ds.reverse ρ1
theorem rn_rev {te : TE} {a : FE} (ha : RE K J te a) : RN K J (tRevL K te) (fRev a) := by
  intro O as σ H Q ρ P E q k
  refine ha O as σ H _ ρ _ E q fun x ρ1 v H1 q1 f1 E1 d1 => ?_
  unfold listF at q1
  split at q1
  · obtain ⟨p, xs, rfl, s, r⟩ := d1.list_of
    exact ⟨p, xs, rfl, SqL.mono hp_same s, fun l hl => new_step f1 E1 q1 hl r.rev k⟩
  · exact q1.elim
/-! own lists changed by methods -/
/-- own.pop(k), its value -/
def fPopAt (i : Nat) (a : FE) : FE := fun ρ P => ownF ρ i fun _ => a ρ fun x ρ1 => intF x fun k => ownF ρ1 i fun ds => -(2 ^ 63) ≤ k ∧ k < 2 ^ 63 ∧ ∃ j d, seqIndex? k ds.length = some j ∧ ds[j]? = some d ∧ P d (ρ1.set i (.own (ds.eraseIdx j)))
theorem DqAll.erase {G : Hp} : ∀ {v : List V} {d : List PyData} (m : Nat), DqAll K G v d → DqAll K G (v.eraseIdx m) (d.eraseIdx m)
  | _, _, _, .nil => .nil
  | _, _, 0, .cons _ b => b
  | _, _, m + 1, .cons a b => .cons a (DqAll.erase m b)
theorem re_popAt {i : Nat} {te : TE} {a : FE} (ha : RE K J te a) : RE K J (tBM K "list" rPopAt (tVar i) (tCons te tNil)) (fPopAt i a) := by
  intro O as σ H Q ρ P E q kk
  obtain ⟨ds0, h0, q⟩ := ownF_of q
  obtain ⟨p, xs0, e1, e2, e3, _⟩ := E.own_at h0
  refine ⟨_, e1, .inl ⟨rfl, _, SqL.of e3⟩, ?_⟩
  refine ha O as σ H _ ρ _ E q fun x ρ1 v H1 q1 f1 E1 d1 => ?_
  unfold intF at q1
  split at q1
  · cases d1
    obtain ⟨ds, hds, b1, b2, j, d, hj, hd, pr⟩ := ownF_of q1
    obtain ⟨p', xs, e1', e2', e3', e4'⟩ := E1.own_at hds
    rw [e2] at e2'
    cases e2'
    obtain ⟨y, hy, dy⟩ := e4'.got hd
    obtain ⟨E2, f2⟩ := E1.put (i := i) e2 e3' (e4'.erase j)
    exact ⟨p, xs, _, j, y, rfl, rfl, e3', b1, b2, by rw [e4'.length]; exact hj, hy, kk _ _ _ _ pr (f1.trans f2) E2 (dy.fr f2)⟩
  · exact q1.elim
/-- own.pop(), its value -/
def fPop (i : Nat) : FE := fun ρ P => ownF ρ i fun ds => ∃ d, ds[ds.length - 1]? = some d ∧ P d (ρ.set i (.own ds.dropLast))
theorem DqAll.last {G : Hp} {v : List V} {d : List PyData} (h : DqAll K G v d) : DqAll K G v.dropLast d.dropLast := by
  rw [List.dropLast_eq_take, List.dropLast_eq_take, h.length]
  exact h.take _
theorem re_pop {i : Nat} : RE K J (tBM0 K "list" rPop (tVar i)) (fPop i) := by
  intro O as σ H Q ρ P E q k
  obtain ⟨ds, h0, d, hd, q⟩ := ownF_of q
  obtain ⟨p, xs, e1, e2, e3, e4⟩ := E.own_at h0
  obtain ⟨y, hy, dy⟩ := e4.got hd
  obtain ⟨E2, f2⟩ := E.put e2 e3 e4.last
  exact ⟨_, e1, .inl ⟨rfl, _, SqL.of e3⟩, p, xs, y, rfl, rfl, e3, by rw [e4.length]; exact hy, k _ _ _ _ q f2 E2 (dy.fr f2)⟩
/-- own.insert(k, e) -/
def fInsert (i : Nat) (a b : FE) : FS := fun E ρ => ownF ρ i fun _ => a ρ fun x ρ1 => intF x fun k => b ρ1 fun d ρ2 => ownF ρ2 i fun ds => ds.length < sizeLine ∧ 0 ≤ k ∧ k < 2 ^ 63 ∧ E.nx (ρ2.set i (.own (ds.take k.toNat ++ [d] ++ ds.drop k.toNat)))
theorem rs_insert {i : Nat} {ta tb : TE} {a b : FE} (ha : RE K J ta a) (hb : RE K J tb b) : RS K J (tDrop (tBM K "list" (fun x vs H Q => ∃ (l : Addr) (xs : List V) (i : Int) (y : V), x = .ref l ∧ vs = [.int i, y] ∧ H l = some (.lst xs) ∧ xs.length < sizeLine ∧ 0 ≤ i ∧ i < 2 ^ 63 ∧ Q .non (upd H l (.lst (xs.take i.toNat ++ [y] ++ xs.drop i.toNat)))) (tVar i) (tCons ta (tCons tb tNil)))) (fInsert i a b) := by
  intro O as σ H D ρ E R f C
  obtain ⟨ds0, h0, f⟩ := ownF_of f
  obtain ⟨p, xs0, e1, e2, e3, _⟩ := R.own_at h0
  refine ⟨_, e1, .inl ⟨rfl, _, SqL.of e3⟩, ?_⟩
  refine ha O as σ H _ ρ _ R f fun x ρ1 v H1 q1 f1 E1 d1 => ?_
  unfold intF at q1
  split at q1
  · cases d1
    refine hb O as σ H1 _ ρ1 _ E1 q1 fun d ρ2 w H2 q2 f2 E2 d2 => ?_
    obtain ⟨ds, hds, hl, k0, k1, q2⟩ := ownF_of q2
    obtain ⟨p', xs, e1', e2', e3', e4'⟩ := E2.own_at hds
    rw [e2] at e2'
    cases e2'
    obtain ⟨E3, f3⟩ := E2.put e2 e3' (((e4'.take _).append (.cons d2 .nil)).append (e4'.drop _))
    exact ⟨p, xs, _, w, rfl, rfl, e3', by rw [e4'.length]; exact hl, k0, k1, C.nx _ _ _ _ q2 (.of ((f1.trans f2).trans f3)) E3⟩
  · exact q1.elim
/-- own.extend(e), e being a list that is made there -/
def fExtend (i : Nat) (a : FA) : FS := fun E ρ => ownF ρ i fun _ => a ρ fun es ρ1 => ownF ρ1 i fun ds => ds.length + es.length ≤ sizeLine ∧ E.nx (ρ1.set i (.own (ds ++ es)))
theorem rs_extend {i : Nat} {te : TE} {a : FA} (ha : RN K J te a) : RS K J (tDrop (tBM K "list" rExtend (tVar i) (tCons te tNil))) (fExtend i a) := by
  intro O as σ H D ρ E R f C
  obtain ⟨ds0, h0, f⟩ := ownF_of f
  obtain ⟨p, xs0, e1, e2, e3, _⟩ := R.own_at h0
  refine ⟨_, e1, .inl ⟨rfl, _, SqL.of e3⟩, ?_⟩
  refine ha O as σ H _ ρ _ R f fun es ρ1 b zs H1 q1 f1 hb0 E1' hb1 r => ?_
  have E1 := E1'.lessO R.inq
  obtain ⟨ds, hds, hl, q1⟩ := ownF_of q1
  obtain ⟨p', xs, e1', e2', e3', e4'⟩ := E1.own_at hds
  rw [e2] at e2'
  cases e2'
  obtain ⟨E2, f2⟩ := E1.put e2 e3' (e4'.append (r.mono (hp_less fun _ => hid_plus)))
  exact ⟨p, b, xs, zs, rfl, rfl, e3', hb1, by rw [e4'.length, r.length]; exact hl, C.nx _ _ _ _ q1 (.of (f1.trans f2)) E2⟩
/-- own.reverse() -/
def fReverse (i : Nat) : FS := fun E ρ => ownF ρ i fun ds => E.nx (ρ.set i (.own ds.reverse))
theorem rs_reverse {i : Nat} : RS K J (tDrop (tBM0 K "list" rReverse (tVar i))) (fReverse i) := by
  intro O as σ H D ρ E R f C
  obtain ⟨ds, h0, f⟩ := ownF_of f
  obtain ⟨p, xs, e1, e2, e3, e4⟩ := R.own_at h0
  obtain ⟨E2, f2⟩ := R.put e2 e3 e4.rev
  exact ⟨_, e1, .inl ⟨rfl, _, SqL.of e3⟩, p, xs, rfl, rfl, e3, C.nx _ _ _ _ f (.of f2) E2⟩
/-! isinstance(x, (list, tuple)) -/
def fIsiLT (a : FE) : FE := fun ρ P => a ρ fun d ρ1 => isObjD d = false ∧ ∃ b c, kitB (kindD d) "list" = some b ∧ kitB (kindD d) "tuple" = some c ∧ P (.bool (b || c)) ρ1
theorem re_isiLT {ta : TE} {a : FE} (ha : RE K J ta a) : RE K J (tCB (rIsiT K) (tCons ta (tCons (tTup (tCons (tC (.ty "list")) (tCons (tC (.ty "tuple")) tNil))) tNil))) (fIsiLT a) := by
  intro O as σ H Q ρ P E q k
  refine ha O as σ H _ ρ _ E q fun d ρ1 v H1 q1 f1 E1 d1 => ?_
  obtain ⟨ho, b, c, hb, hc, q1⟩ := q1
  refine ⟨by show 2 ≤ sizeLine; decide, fun T hT => ?_⟩
  have s := Same.new (o := .tup [.ty "list", .ty "tuple"]) hT
  exact ⟨v, T, _, _, _, _, rfl, upd_same, ltC, (d1.mono (E1.hgrow s)).ty ho, kitLT _ b c hb hc, k _ _ _ _ q1 (f1.trans (E1.frS s)) (E1.grow s) (.bl _)⟩
/-! the greatest of three -/
def bMax3 (ds : List PyData) (P : PyData → Prop) : Prop := match ds with
  | [.int i, .int j, .int k] => P (.int (max3 i j k))
  | _ => False
theorem rb_max3 : RB K (fun xs H Q => ∃ i j k, xs = [.int i, .int j, .int k] ∧ Q (.int (max3 i j k)) H) bMax3 := by
  intro A H Q xs ds P oc r g k
  unfold bMax3 at g
  split at g
  · cases r with
    | cons a r => cases r with
      | cons b r => cases r with
        | cons c r => cases r; cases a; cases b; cases c; exact ⟨_, _, _, rfl, k _ _ _ g (Same.refl _) (.int _)⟩
  · exact g.elim
/-! the law's own likeness -/
def F__law_same : FN := fun sls P => match sls with
  | [.fz a, .fz b] => a = b ∧ SeqAt.shaped a = true ∧ a.depth < 8 ∧ nodes a ≤ 1000000 ∧ ∀ sl, P (.bool true) sl
  | _ => False
def spSame (K : PySem.W.Frag) (n : Nat) : Sp := fun vs H Q _ => ∃ (v1 v2 : V) (d : PyData), vs = [v1, v2] ∧ Dp K H v1 d ∧ Dp K H v2 d ∧ SeqAt.shaped d = true ∧ d.depth < n ∧ nodes d ≤ 1000000 ∧ ∀ H', Same H H' → Q (.bl true) H'
theorem same_of {vs : List V} {H : Hp} {Q : VK} {E : XK} (h : spF K 2 F__law_same vs H Q E) : spSame K 8 vs H Q E := by
  obtain ⟨hv, O, as, S, ρ, P, R, hl, hF, q⟩ := h
  match vs, hv with
  | [v0, v1], _ =>
    have hl : ρ.length = 2 := hl
    match ρ, hl with
    | [s0, s1], _ =>
      unfold F__law_same at hF
      split at hF
      · next a b e =>
        injection e with e1 e2
        injection e2 with e2 _
        subst e1
        subst e2
        obtain ⟨rfl, sh, dp, nd, hP⟩ := hF
        obtain ⟨v, y1, y2, y3⟩ := R.fz_at (i := 0) rfl
        obtain ⟨w, z1, z2, z3⟩ := R.fz_at (i := 1) rfl
        cases y1
        cases z1
        have no : ∀ i a, as i = some a → False := fun i a ha => by
          have hi := R.bnd i a ha
          match i, hi, ha with
          | 0, _, ha => rw [y2] at ha; cases ha
          | 1, _, ha => rw [z2] at ha; cases ha
        refine ⟨_, _, a, rfl, Dp.mono hp_same (y3.dp (plain_of sh)), Dp.mono hp_same (z3.dp (plain_of sh)), sh, dp, nd, fun H' s => ?_⟩
        exact q _ _ _ ⟨H', S⟩ (hP []) (R.frS s) ⟨R.tab.ext s, fun i a ha => (no i a ha).elim, fun i _ a _ _ ha => (no i a ha).elim, fun i a _ ha => (no i a ha).elim⟩ (.bl _)
      · exact hF.elim
end
end DL
/-! exceptions of own classes over any built-in one: made, raised, called for; those of __init__ -/
namespace DL
open PySem L2 Z PySem.Spec PyProof.Rows
variable [Tbs]
section
open Builtin Builtin.ObjectAttr
variable {prog : Program} {w : World} {A : Around} {E : Value → Shared → Prop} {R : Result → Shared → Prop} {hh : Heap} {g : Array GenState} {d : Drawn} {t : Nat} {os : OsState}
/-- what is known of an own exception's class C over B -/
structure OxB (K : PySem.W.Frag) (C : Addr) (B nI iI : String) (bm : List Value) : Prop where
  fb : ExcBaseFacts B nI iI bm
  st : StoreFacts B bm "object.__setattr__" "object"
  ci : PySem.W.excInitIn K C bm nI = true
  co : PySem.W.excOver K C bm = true
  hd : PySem.W.hasDictIn K C = true
  sa : PySem.W.findIn K (.ref C) "__setattr__" = some (some (.builtin "object.__setattr__"))
  exC : PySem.W.subIn K (.ref C) (.type "BaseException") = some true
  tyC : PySem.W.typeIn K (.ref C) = some (.type "type")
  kC : PySem.W.keepIn K (.ref C) = true
  nw : PySem.W.findIn K (.ref C) "what" = some none
/-- the first field of an exception -/
theorem ox_set {K : PySem.W.Frag} {tk : Tok} {v : Value} {x C : Addr} {fv : Array Value} {B nI iI : String} {bm : List Value} (T : OxB K C B nI iI bm) (X : K.In hh) (hx : hh.get? x = some ({ cls := .ref C, data := .fields fv } : Obj))
    (hq : ∀ h' tk' dx, (∀ b o, b ≠ x → hh.get? b = some o → h'.get? b = some o) → hh.objs.size ≤ dx → dx ≠ x → h'.get? x = some ({ cls := .ref C, dict := some dx, data := .fields fv } : Obj) →
      h'.Ns1 dx (fun y => if y = "what" then some v else none) → R (.ok (.ret .none)) ⟨h', g, d, tk', os⟩) :
    codeAny (model prog w) A (.call (.builtin "object.__setattr__") ⟨[.ref x, .str "what" tk, v], []⟩) R ⟨hh, g, d, t, os⟩ := by
  have lx : x ≠ hh.objs.size := Nat.ne_of_lt (Heap.lt_size hx)
  refine PySem.W.osa_openX (od := none) T.st X ⟨hx, rfl, rfl, trivial⟩ T.co (by unfold PySem.W.takerIn; rw [T.nw]; rfl) fun b => ?_
  obtain ⟨cd, hcd, hdc⟩ := PySem.W.any_some T.hd
  have lk : PySem.W.Looks (model prog w) hh (classData C) cd := PySem.W.looks_clsIn X hcd
  obtain ⟨nm, bs, mro, ns, qn, hd, sn, sb, ab, col, del⟩ := cd
  have hdc' : hd = true := hdc
  subst hdc'
  unfold storeInOwnDict ownDictForStores
  repeat (first
    | with_reducible refine HandSPX.store_in_new ?_ ?_
    | with_reducible refine wpAny_loadPart_at hx ?_
    | with_reducible refine lk.at ?_
    | wp_step)
  · refine ⟨_, #[], _, (Heap.get?_update_ne _ _ _ _ lx.symm).trans (Heap.get?_push_at rfl rfl), rfl, fun e he => ?_, fun _ => rfl⟩
    simp at he
  · intro h' tk' hn' hs
    have e1 : (hh.push ({ cls := .type "dict", data := .dict #[] } : Obj)).get? x = some ({ cls := .ref C, data := .fields fv } : Obj) := Heap.get?_push_of_some _ hx
    refine hq h' tk' _ (fun b o nb ho => ?_) (Nat.le_refl _) lx.symm ?_ hn'
    · rw [hs.2 b (Nat.ne_of_lt (Heap.lt_size ho)), Heap.get?_update_ne _ _ _ _ nb]
      exact Heap.get?_push_of_some _ ho
    · rw [hs.2 x lx]
      exact Heap.get?_update_self _ e1 rfl
end
section
variable {X : Cx} {pins : List (Addr × Obj)} {σ : L2.St} {H : Hp} {s : Shared} {a C : Addr} {y : V} {u : Value} {E : Value → Shared → Prop} {A : Around} {B nI iI : String} {bm : List Value}
/-- self.what = y -/
theorem ox_put {Q : Unit → Shared → Prop} (T : OxB X.K C B nI iI bm) (I : Inv X pins σ H s) (e : H a = some (exo a C none)) (ry : RelV y u)
    (h : ∀ dx s', H dx = none → dx ≠ a → Inv X pins σ (upd (upd H dx (exd dx [("what", y)])) a (exo a C (some dx))) s' → Q () s') : wpAny (model X.prog X.w) A (setAttr (.ref a) "what" u) Q E s := by
  obtain ⟨t1, ho⟩ := exo_at I.hok e
  obtain ⟨hh, g, d, t, os⟩ := s
  refine PySem.W.set_plain I.kIn (ox := ({ cls := .ref C, data := .fields #[.ref t1, .none, .none, .none, .bool false, .none] } : Obj)) (od := none) ⟨ho, rfl, rfl, trivial⟩ T.sa (ox_set T I.kIn ho fun h' tk' dx k dn dne hx hn => ?_)
  have fresh : H dx = none := I.hok.fresh dn
  have old : ∀ {b : Addr} {o : Obj}, hh.get? b = some o → b ≠ dx := fun q => Nat.ne_of_lt (Nat.lt_of_lt_of_le (Heap.lt_size q) dn)
  have noa : ∀ {b : Addr}, H b = none → b ≠ a := fun n z => by rw [z, e] at n; cases n
  refine h dx _ fresh dne (I.un (t' := tk') ⟨fun b o q n _ _ => k b o (noa n) q, fun b o q n _ _ => ⟨o.slots, k b o (noa n) q⟩, fun b o q n _ => (upd_ne (noa n)).trans ((upd_ne (old q)).trans n), fun b o q _ => ?_,
    fun b xs q => (upd_ne (at_ne e q exo_tup)).trans ((upd_ne (ne_of_none q fresh)).trans q), fun b o v q => (upd_ne (at_ne e q exo_frz)).trans ((upd_ne (ne_of_none q fresh)).trans q),
    fun b ps q => ⟨#[], (upd_ne (at_ne e q exo_tbl)).trans ((upd_ne (ne_of_none q fresh)).trans (by rw [q, Array.append_empty]))⟩⟩ fun b o q => ?_)
  · by_cases hb : b = a
    · exact ⟨_, by rw [hb]; exact hx⟩
    · exact ⟨o, k b o hb q⟩
  · by_cases hb : b = a
    · subst hb
      rw [upd_same] at q
      cases q
      exact exo_ok hx
    · rw [upd_ne hb] at q
      by_cases hd : b = dx
      · subst hd
        rw [upd_same] at q
        cases q
        exact exd_ok hn (relO_put (fs := []) ry fun _ => True.intro)
      · rw [upd_ne hd] at q
        refine (I.hok b o q).stay (fun c v hc z => k c v ?_ z) (fun c hc => (upd_ne (at_ne e hc exo_own)).trans ((upd_ne (ne_of_none hc fresh)).trans hc)) fun c xs hc => (upd_ne (at_ne e hc exo_tup)).trans ((upd_ne (ne_of_none hc fresh)).trans hc)
        rcases hc with rfl | hc
        · exact hb
        · exact at_ne e hc exo_own
/-- B.__init__(self, ..): nothing of it is told -/
theorem ox_init {us : List Value} {Q : Value → Shared → Prop} (T : OxB X.K C B nI iI bm) (I : Inv X pins σ H s) (e : H a = some (exo a C none)) (hl : us.length ≤ sizeLine) (h : ∀ s', Inv X pins σ H s' → Q .none s') :
    wpAny (model X.prog X.w) A (call (.builtin iI) (.ref a :: us)) Q E s := by
  obtain ⟨nm, N, qn, bs, bm', hdct, sn, sub, ab, col, dd, k0, k1, k2, k3, k5, hC, hT⟩ := PySem.W.excInit_of I.kIn T.ci
  obtain ⟨t1, ho⟩ := exo_at I.hok e
  obtain ⟨hh, g, d, t, os⟩ := s
  refine wpAny_call (HandSPX.init_base T.fb hT hC ho hl fun h' t2 k hx => h _ ?_)
  have z : upd H a (exo a C none) = H := funext fun b => by
    by_cases q : b = a
    · rw [q, upd_same, e]
    · exact upd_ne q
  have W := I.write (t' := t) (x := a) (e := a) (o := exo a C none) (by rw [e]; trivial) (.inl rfl) k ⟨_, hx⟩ (exo_ok hx)
  rwa [z] at W
end
def tBi (K : PySem.W.Frag) (B nI iI : String) (bm : List Value) (ta : TA) : TE := fun σ H Q => ta σ H fun vs H1 => ∃ (a C : Addr) (ws : List V), vs = .ref a :: ws ∧ ws.length ≤ 1000 ∧ OxB K C B nI iI bm ∧ H1 a = some (exo a C none) ∧ Q .non H1
def tOw (K : PySem.W.Frag) (to te : TE) : TS := fun D σ H => te σ H fun y H1 => to σ H1 fun x H2 => ∃ (a C : Addr) (B nI iI : String) (bm : List Value), x = .ref a ∧ OxB K C B nI iI bm ∧ H2 a = some (exo a C none) ∧
  ∀ dx, H2 dx = none → dx ≠ a → D.nx σ (upd (upd H2 dx (exd dx [("what", y)])) a (exo a C (some dx)))
section
variable {X : Cx} {o e : Expr} {es : List Expr} {to te : TE} {ta : TA} {p p' p1 p2 pos : Pos} {B nI iI : String} {bm : List Value} {b : Str}
theorem pe_bi {pl : Sem Bool} (hg : Gl X b) (hm : X.mg b = none) (hv : bootBuiltins b = some (.type B)) (hty : typeOf (.type B) = pure (.type "type")) (hf : PySem.W.findCls X.K (.type B) (.type "type") "__init__" = some (.val (.builtin iI))) (ha : PA X (e :: es) ta)
    (z1 : b ≠ "__name__" := by decide) (z2 : (b == ("__debug__" : Str)) = false := by decide) (hB : Manifest.isStub B = false := by decide +kernel) (hi : PySem.W.handedIn (.builtin iI) = true := by decide +kernel)
    (hc : eval (.Call (.Attribute (.Name b p1) "__init__" p2) (e :: es) [] pos) X.env = (do
      let ov ← eval (.Name b p1) X.env
      standAt p2.atName
      let (f, first) ← holding [ov] (getMethod ov "__init__" pl)
      callWith pos f first (backTo pos (starEach (e :: es) X.env)) (backToKw pos (keywordEach [] X.env))) := by rfl)
    (he : starEach (e :: es) X.env = (false, eval e X.env) :: starEach es X.env := by rfl) (hpl : (backTo pos (starEach es X.env)).any (·.1) = false := by rfl) :
    PE X (.Call (.Attribute (.Name b p1) "__init__" p2) (e :: es) [] pos) (tBi X.K B nI iI bm ta) := by
  refine ⟨fun pins s σ H Q I h => ?_⟩
  refine PySem.W.methodCall_KW (ld_blt I hg hm hv ?_ z1 z2) hc
  obtain ⟨m, fr⟩ := I.fr
  refine PySem.W.method_type fr I.ok.mod.kin hty hB hf hi ?_
  refine PyProof.Rows.callWith_method1 (thn (ha.run pos pins _ σ H _ (I.tok _) h) fun us s1 hh => ?_) he hpl
  obtain ⟨vs, H1, J, rs, a, C, ws, rfl, hz, T, ea, q⟩ := hh
  cases rs with
  | @cons _ u _ ur ra rr =>
    have eu : u = Value.ref a := ra
    subst eu
    exact ox_init T J ea (by rw [← Paired.length rr, sizeLine_eq]; omega) fun s' J' => ⟨.non, H1, J', rfl, q⟩
theorem ps_ow (ho : PE X o to) (he : PE X e te) (hs : swapsWith e (some (.Attribute o "what" p')) pos.line X.env = pure false := by rfl) : PS X (.Assign [.Attribute o "what" p'] e pos) (tOw X.K to te) := by
  refine ⟨fun pins s σ H D I h => plainObj_wpAny_Assign_Attribute (thn (he.run pins s σ H _ I h) fun v s1 q1 => ?_) hs⟩
  obtain ⟨y, H1, I1, r1, q1⟩ := q1
  refine thn (ho.run pins s1 σ H1 _ I1 q1) fun u s2 q2 => ?_
  obtain ⟨x, H2, I2, r2, a, C, B, nI, iI, bm, rfl, T, ea, q⟩ := q2
  have eu : u = Value.ref a := r2
  subst eu
  exact ox_put T I2 ea r1 fun dx s' n ne J => ⟨σ, _, J, q dx n ne⟩
/-- C(e), its __init__ keeping what it is told -/
def tMkB (C : Addr) (te : TE) : L2.St → Hp → XK → Prop := fun σ H Q => te σ H fun y H1 => ∀ d, H1 d = none → Q (.ref C) (some d) (upd H1 d (.xd [("what", y)]))
/-- what __init__ of such a class does -/
def spIn (K : PySem.W.Frag) (C : Addr) : Sp := fun vs H Q _ => ∃ (a : Addr) (y : V), vs = [.ref a, y] ∧ H a = some (exo a C none) ∧ ∀ dx, H dx = none → dx ≠ a → Q .non (upd (upd H dx (exd dx [("what", y)])) a (exo a C (some dx)))
theorem ox_call {C fI : Addr} {k : Nat} {fd : FuncData} {ps : List Str} {pins : List (Addr × Obj)} {σ : L2.St} {H : Hp} {s : Shared} {Q : XK} {y : V} {u : Value} (T : OxB X.K C B nI iI bm) (iC : PySem.W.findIn X.K (.ref C) "__init__" = some (some (.ref fI))) (tI : PySem.W.typeIn X.K (.ref fI) = some (.type "function"))
    (F1 : FnOk X.prog X.w X.K X.mg X.base CX0 k fI fd ps (spIn X.K C)) (hr : Room (k + 1) X.A) (hb : Binds X.K fd ps []) (I : Inv X pins σ H s) (ry : RelV y u) (q1 : ∀ d, H d = none → Q (.ref C) (some d) (upd H d (.xd [("what", y)]))) :
    wpAny (model X.prog X.w) X.A (call (.ref C) [u]) (MkP X pins σ Q) X.xe s := by
  obtain ⟨nm, N, qn, bs, bm', hdct, sn, sub, ab, col, dd, k0, k1, k2, k3, k5, hC, hT⟩ := PySem.W.excInit_of I.kIn T.ci
  obtain ⟨g0, g1, g2, g3, g4⟩ := s
  obtain ⟨z, ez⟩ : ∃ z, z = g0.objs.size + 1 := ⟨_, rfl⟩
  obtain ⟨h1, eh⟩ : ∃ h1, h1 = (g0.push (PySem.W.kdv_tup [u])).push (HandSPX.excO C g0.objs.size) := ⟨_, rfl⟩
  have big : g0.objs.size ≤ z := by rw [ez]; exact Nat.le_succ _
  have fresh : H z = none := I.hok.fresh big
  have kk : ∀ b o, g0.get? b = some o → h1.get? b = some o := fun b o q => by rw [eh]; exact Heap.get?_push_of_some _ (Heap.get?_push_of_some _ q)
  have hx : h1.get? z = some (HandSPX.excO C g0.objs.size) := by rw [ez, eh]; heap_get
  have I2 : Inv X pins σ (upd H z (exo z C none)) ⟨h1, g1, g2, g3, g4⟩ := I.laid (t' := g3) (a := z) (o := exo z C none) (h' := h1) kk big (exo_ok hx)
  have r2 : Vals [V.ref z, y] [Value.ref z, u] := .cons rfl (.cons ry .nil)
  have sp : spIn X.K C [.ref z, y] (upd H z (exo z C none)) (fun v H2 => v = .non ∧ ∃ dx, H2 z = some (exo z C (some dx)) ∧ H2 dx = some (exd dx [("what", y)]) ∧ H dx = none ∧ Q (.ref C) (some dx) (upd (del H2 z) dx (.xd [("what", y)]))) (fun _ _ _ => False) := by
    refine ⟨_, y, rfl, upd_same, fun dx n ne => ⟨rfl, dx, upd_same, (upd_ne ne).trans upd_same, (upd_ne ne).symm.trans n, ?_⟩⟩
    have w := q1 dx ((upd_ne ne).symm.trans n)
    have eq : upd (del (upd (upd (upd H z (exo z C none)) dx (exd dx [("what", y)])) z (exo z C (some dx))) z) dx (.xd [("what", y)]) = upd H dx (.xd [("what", y)]) := funext fun b => by
      by_cases h1 : b = dx
      · rw [h1, upd_same, upd_same]
      · rw [upd_ne h1, upd_ne h1]
        by_cases h2 : b = z
        · rw [h2, del_same, fresh]
        · rw [del_ne h2, upd_ne h2, upd_ne h1, upd_ne h2]
    rw [eq]
    exact w
  have hl : ([Value.ref z, u] ++ []).length = ps.length := by
    rw [List.append_nil, ← r2.length]
    exact F1.len _ _ _ _ sp
  have bd := hb _ [Value.ref z, u] I2.kIn hl
  have run := F1.run _ X.stack _ _ ⟨[Value.ref z, u], []⟩ [Value.ref z, u] _ _ (fun _ _ _ => False) (hr.make C [u] []) (I2.env0.make C [u] []) bd r2 sp
  subst eh
  subst ez
  refine wpAny_call (HandSPX.call_own T.fb hT hC (PySem.W.looks_findIn I.kIn iC) (fun self => PySem.W.bind_fn I.kIn self tI) (by show 1 ≤ sizeLine; rw [sizeLine_eq]; omega) (codeAny_mono run fun r s' hq' => ?_))
  cases r with
  | error er => exact False.elim hq'
  | ok fl =>
    cases fl with
    | ret z =>
      obtain ⟨v, H2, os2, bare2, un2, hok2, rv, rfl, dx, ea, ed, hd1, q2⟩ := hq'
      obtain ⟨f0, f1, f2, f3, f4⟩ := s'
      exact ⟨rv, mk_end (raises_own T.exC T.tyC) I big kk un2 hok2 os2 bare2 ea ed hd1 q2⟩
    | _ => exact False.elim hq'
def one1 : List V → (V → Prop) → Prop
  | [y], k => k y
  | _, _ => False
theorem one1_of {vs : List V} {k : V → Prop} (h : one1 vs k) : ∃ y, vs = [y] ∧ k y := by
  unfold one1 at h
  split at h
  · exact ⟨_, rfl, h⟩
  · exact h.elim
theorem pmk_b {x : Str} {C fI : Addr} {k : Nat} {fd : FuncData} {ps : List Str} (T : OxB X.K C B nI iI bm) (iC : PySem.W.findIn X.K (.ref C) "__init__" = some (some (.ref fI))) (tI : PySem.W.typeIn X.K (.ref fI) = some (.type "function"))
    (F1 : FnOk X.prog X.w X.K X.mg X.base CX0 k fI fd ps (spIn X.K C)) (hr : Room (k + 1) X.A) (hb : Binds X.K fd ps []) (hg : Gl X x) (hm : X.mg x = some (.ref C)) (ha : PE X e te)
    (hdb : (x == ("__debug__" : Str)) = false := by decide) (he : starEach [e] X.env = (false, eval e X.env) :: starEach [] X.env := by rfl) :
    PMk X (.Call (.Name x p) [e] [] pos) (tMkB C te) := by
  intro pins s σ H Q I h
  refine wpAny_Call_Name_kw (ld_glob I hg hm ?_ hdb)
  have pa : PA X [e] (tCons te tNil) := pa_cons ha pa_nil he
  have h' : tCons te tNil σ H fun vs H1 => one1 vs fun y => ∀ d, H1 d = none → Q (.ref C) (some d) (upd H1 d (.xd [("what", y)])) := h
  refine PySem.W.callWith_K (h₀ := X.base) I.ok.mod.kin T.kC (thn (pa.run pos pins s σ H _ I h') fun us s1 hh => ?_) he
  obtain ⟨vs, H1, I1, r1, q1⟩ := hh
  obtain ⟨y, rfl, q1⟩ := one1_of q1
  cases r1 with
  | cons ry rr =>
    cases rr
    exact ⟨I1.kIn, ox_call T iC tI F1 hr hb I1 ry q1⟩
end
end DL
/-! try .. except (C, ..) as e: what is caught is kept -/
namespace DL
open PySem PySem.W
variable [Tbs]
/-- a loop that looks at each and goes on -/
theorem loop_all {M : Model} {A : Around} {E : Value → Shared → Prop} {f : Value → PUnit → Sem (ForInStep PUnit)} {s : Shared} {Q : PUnit → Shared → Prop} : ∀ {cs : List Value}, (∀ c ∈ cs, ∀ Q' : ForInStep PUnit → Shared → Prop, Q' (.yield ⟨⟩) s → wpAny M A (f c ⟨⟩) Q' E s) → Q ⟨⟩ s → wpAny M A (forIn cs ⟨⟩ f) Q E s
  | [], _, q => by rw [List.forIn_nil]; exact wpAny_pure q
  | c :: r, h, q => by
    rw [List.forIn_cons]
    exact wpAny_bind (h c List.mem_cons_self _ (loop_all (fun x hx => h x (List.mem_cons_of_mem _ hx)) q))
/-- a loop that ends at the first one -/
theorem loop_any {M : Model} {A : Around} {E : Value → Shared → Prop} {K : Frag} {cls : Value} {f : Value → Option Bool × Unit → Sem (ForInStep (Option Bool × Unit))} {s : Shared} {Q : Option Bool × Unit → Shared → Prop}
    (hf : ∀ c b, exmOne K cls c = some b → ∀ Q' : ForInStep (Option Bool × Unit) → Shared → Prop, Q' (if b = true then .done (some true, ()) else .yield (none, ())) s → wpAny M A (f c (none, ())) Q' E s) : ∀ {cs : List Value} {b : Bool}, exmAny K cls cs = some b → Q (if b = true then some true else none, ()) s → wpAny M A (forIn cs (none, ()) f) Q E s
  | [], b, e, q => by
    cases (Option.some.inj (show some false = some b from e))
    rw [List.forIn_nil]; exact wpAny_pure q
  | c :: r, b, e, q => by
    obtain ⟨b1, d1, e1, e2, rfl⟩ := exmAny_cons e
    rw [List.forIn_cons]
    refine wpAny_bind (hf c b1 e1 _ ?_)
    cases b1
    · exact loop_any hf e2 (by simpa using q)
    · exact wpAny_pure (by simpa using q)
theorem exm_mem {K : Frag} {cls : Value} : ∀ {cs : List Value} {b : Bool}, exmAny K cls cs = some b → ∀ c ∈ cs, ∃ b1, exmOne K cls c = some b1
  | [], _, _, _, h => by cases h
  | c :: r, b, e, x, h => by
    obtain ⟨b1, d1, e1, e2, _⟩ := exmAny_cons e
    rcases List.mem_cons.mp h with rfl | h
    · exact ⟨b1, e1⟩
    · exact exm_mem e2 x h
theorem exm_all {K : Frag} {M : Model} {cls : Value} {tp e : Addr} {b : Bool} {h : Heap} {cs : List Value} (X : K.In h) (LT : Looks M h (typeOf (.ref e)) cls) (hp : h.get? tp = some { cls := .type "tuple", data := .seq cs.toArray }) (hx : exmAny K cls cs = some b) :
    Looks M h (excMatches (.ref e) (.ref tp)) b := by
  intro A Q E s kk q
  have L0 : Looks M h (isInstance (.ref tp) (.type "tuple")) true := ((Looks.ld hp).andThen .now).andThen (Looks.of_pure isSubtype_tuple_tuple)
  have hp' := kk _ _ hp
  unfold excMatches
  refine wpAny_bind ((L0.keeps kk).here ?_)
  dsimp only
  rw [if_pos rfl]
  refine wpAny_bind (wpAny_seqItems hp' rfl (wpAny_bind (wpAny_pure ?_)))
  dsimp only [Option.getD_some, Option.getD]
  refine wpAny_bind (loop_all (fun c hc Q' q' => ?_) ?_)
  · obtain ⟨b1, e1⟩ := exm_mem hx c hc
    refine wpAny_bind (((exm_cls (M := M) X e1).1.keeps kk).here ?_)
    rw [if_neg (by decide)]
    exact wpAny_pure q'
  · refine wpAny_bind ((LT.keeps kk).here ?_)
    refine wpAny_bind (loop_any (K := K) (cls := cls) (fun c b1 e1 Q' q' => ?_) hx ?_)
    · refine wpAny_bind (((exm_cls (M := M) X e1).2.keeps kk).here ?_)
      cases b1
      · exact wpAny_pure q'
      · exact wpAny_pure q'
    · cases b <;> exact wpAny_pure q
end DL
namespace DL
open PySem L2 Z PySem.Spec PyProof.Rows
variable [Tbs]
/-- the classes that an except clause names -/
inductive ExT (X : Cx) : Expr → List Value → Prop
  | one {x : Str} {c : Value} {p : Pos} : Names X x c → ExT X (.Name x p) [c]
  | many {xs : List (Str × Pos × Value)} {k : Nat} {p : Pos} : (∀ q ∈ xs, Names X q.1 q.2.2) → xs.length ≤ 1000 → ExT X (.Tuple (xs.map fun q => .Name q.1 q.2.1) k p) (xs.map (·.2.2))
section
variable {X : Cx} {pins : List (Addr × Obj)} {σ : L2.St} {H : Hp} {s : Shared} {E : Value → Shared → Prop}
theorem name_run {x : Str} {c : Value} {p : Pos} {Q : Value → Shared → Prop} (I : Inv X pins σ H s) (n : Names X x c) (q : Q c s) : wpAny (model X.prog X.w) X.A (eval (.Name x p) X.env) Q E s := by
  obtain ⟨g, db, m | ⟨m, v, nn⟩⟩ := n
  · exact ld_glob I g m q db
  · exact ld_blt I g m v q nn db
theorem names_run {pos : Pos} (I : Inv X pins σ H s) : ∀ {xs : List (Str × Pos × Value)} {Q : List Value → Shared → Prop}, (∀ q ∈ xs, Names X q.1 q.2.2) → Q (xs.map (·.2.2)) s → wpAny (model X.prog X.w) X.A (spliced (backTo pos (starEach (xs.map fun q => Expr.Name q.1 q.2.1) X.env))) Q E s
  | [], Q, _, q => wpAny_items_nil q
  | z :: r, Q, h, q => wpAny_items_cons (name_run I (h z List.mem_cons_self) (names_run I (fun y hy => h y (List.mem_cons_of_mem _ hy)) q))
/-- the test of an except clause -/
theorem ExT.run {T : Expr} {cs : List Value} {a : Addr} {cls : Value} {b : Bool} {Q : Bool → Shared → Prop} (t : ExT X T cs) (I : Inv X pins σ H s) (LT : PySem.W.Looks (model X.prog X.w) s.heap (typeOf (.ref a)) cls) (e : PySem.W.exmAny X.K cls cs = some b)
    (q : ∀ h', (∀ b o, s.heap.get? b = some o → h'.get? b = some o) → Q b { s with heap := h' }) : wpAny (model X.prog X.w) X.A (eval T X.env) (fun c s₁ => wpAny (model X.prog X.w) X.A (excMatches (.ref a) c) Q E s₁) E s := by
  cases t with
  | one n =>
    obtain ⟨b1, d1, e1, e2, rfl⟩ := PySem.W.exmAny_cons e
    cases (Option.some.inj (show some false = some d1 from e2))
    rw [Bool.or_false] at q
    exact name_run I n ((PySem.W.exm_one I.kIn LT e1).here (q s.heap fun _ _ z => z))
  | @many xs kk pp n l =>
    refine wpAny_Tuple (names_run I n ⟨by rw [List.length_map, sizeLine_eq]; omega, ?_⟩)
    have kp : ∀ b o, s.heap.get? b = some o → (s.heap.push ({ cls := .type "tuple", data := .seq (xs.map (·.2.2)).toArray } : Obj)).get? b = some o := fun _ _ z => Heap.get?_push_of_some _ z
    exact (exm_all (I.kIn.keeps kp) (LT.keeps kp) (Heap.get?_push_size s.heap rfl) e).here (q _ kp)
theorem fly_keeps {B : Heap} {l : List Env} {a : Addr} {Z : Obj → Prop} {h h' : Heap} (f : HandSPX.FlyingZ B l a Z h) (k : ∀ b o, h.get? b = some o → h'.get? b = some o) : HandSPX.FlyingZ B l a Z h' := by
  obtain ⟨z1, z2, z3, oe, vs, T, oT, ts, y1, y2, y3, y4, y5, y6, y7, y8⟩ := f
  exact ⟨fun b o e => k b o (z1 b o e), z2, Heap.FunFrames.of_keeps (fun b o e _ => ⟨o, k b o e, rfl⟩) z3, oe, vs, T, oT, ts, k _ _ y1, y2, y3, y4, y5, y6, k _ _ y7, y8⟩
/-- the pinned exception, tracked from now on -/
theorem absorb {a C dx : Addr} {oe : Obj} {vs : Array Value} (I : Inv X ((a, oe) :: pins) σ H s) (ne : ∀ p ∈ X.pn ++ pins, p.1 ≠ a) (new : X.s_0.heap.get? a = none) (hz : Zc (.ref C) (some dx) oe) (hd : oe.data = .fields vs) : Inv X pins σ (upd H a (exk a C dx)) s := by
  obtain ⟨g, n, nL, nF, nc⟩ := I.pin (a, oe) (List.mem_append.mpr (.inr List.mem_cons_self))
  have na : ∀ {b : Addr} {u : HO}, H b = some u → b ≠ a := fun e => ne_of_none e n
  refine ⟨I.ok, I.os, I.bare, ⟨I.base.keep, I.base.slot, fun b o e n' x => ?_, I.base.there, fun b xs e => ?_, fun b o u e => ?_, fun b ps e => ?_⟩, I.loc, I.cell, ?_, fun x c e => ?_, fun p hp => ?_, fun b u e => ?_, I.len⟩
  · rw [upd_ne (fun z => by rw [z, new] at e; cases e)]
    exact I.base.free b o e n' x
  · have := I.base.tups b xs e
    rw [upd_ne (na this)]; exact this
  · have := I.base.frzs b o u e
    rw [upd_ne (na this)]; exact this
  · obtain ⟨more, this⟩ := I.base.tbls b ps e
    exact ⟨more, by rw [upd_ne (na this)]; exact this⟩
  · rw [upd_ne (Ne.symm nL)]; exact I.free
  · rw [upd_ne]
    · exact I.freeC x c e
    · rintro rfl
      obtain ⟨v, o, e1, e2⟩ := I.cell x _ e
      rw [g] at e1
      cases e1
      exact nc v e2
  · obtain ⟨z1, z2, z3⟩ := I.pin p (by
      rcases List.mem_append.mp hp with h | h
      · exact List.mem_append.mpr (.inl h)
      · exact List.mem_append.mpr (.inr (List.mem_cons_of_mem _ h)))
    exact ⟨z1, by rw [upd_ne (ne p hp)]; exact z2, z3⟩
  · by_cases hb : b = a
    · subst hb
      rw [upd_same] at e
      cases e
      exact ⟨⟨oe, vs, g, hz.1, hz.2, hd⟩, ⟨oe, g⟩, fun h1 h2 ⟨o, v, e1, e2⟩ k => ⟨o, v, k _ e1, e2⟩⟩
    · rw [upd_ne hb] at e
      exact (I.hok b u e).stay (fun c v _ z => z) (fun c z => by rw [upd_ne (na z)]; exact z) fun c xs z => by rw [upd_ne (na z)]; exact z
/-- what the clause 'except T as n' wishes of an exception of the body: what is caught stays -/
def wKeep (K : PySem.W.Frag) (cs : List Value) (i : Nat) (ts : Addr → TS) (Wout : WX) (D : Ends) : WX := fun cls d σ H =>
  ∃ b, PySem.W.exmAny K cls cs = some b ∧ (b = true → ∃ C dx, cls = .ref C ∧ d = some dx ∧ ∀ a, H a = none → ts a { nx := fun σ' H' => D.nx (σ'.set i none) (upd H' a (exk a C dx)), rt := fun v H' => D.rt v (upd H' a (exk a C dx)), bk := fun σ' H' => D.bk (σ'.set i none) (upd H' a (exk a C dx)), ct := fun σ' H' => D.ct (σ'.set i none) (upd H' a (exk a C dx)) } (σ.set i (some (.ref a))) H) ∧
    (b = false → Wout cls d σ H)
theorem keepSuite {a : Addr} {q : Addr × Obj} (I : Inv (X.suite a (q :: (X.pn ++ pins))) [] σ H s) (ok : X.Ok) : Inv X (q :: pins) σ H s :=
  ⟨ok, I.os, I.bare, I.base, I.loc, I.cell, I.free, I.freeC, fun p hp => I.pin p (by
    rw [List.append_nil]
    rcases List.mem_append.mp hp with h | h
    · exact List.mem_cons_of_mem _ (List.mem_append.mpr (.inl h))
    · rcases List.mem_cons.mp h with h | h
      · rw [h]; exact List.mem_cons_self
      · exact List.mem_cons_of_mem _ (List.mem_append.mpr (.inr h))), I.hok, I.len⟩
end
section
variable {X : Cx} {n : Str} {T : Expr} {cs : List Value} {i : Nat} {body suite : List Stmt} {b₀ : Stmt} {pos pos' : Pos} {tb : WX → TS} {ts : Addr → TS} {Wout : WX}
theorem ps_try_keep (hs : X.stack = X.env :: X.outer) (hf : X.env.frame = some X.env.locals) (hex : X.ex = []) (hN : X.N.Nodup) (hi : X.N[i]? = some n) (hln : X.env.kindOf n = some .local) (ht : ExT X T cs) (tk : Takes X Wout)
    (hb : ∀ (W : WX) (pn : List (Addr × Obj)) (xe : Value → Shared → Prop), Takes (X.tr pn xe) W → PassesOwn (model X.prog X.w) X.A X.env xe → PSs (X.tr pn xe) body (tb W))
    (hsu : ∀ (a : Addr) (pn : List (Addr × Obj)), PSs (X.suite a pn) (b₀ :: suite) (ts a)) :
    PS X (.Try body [.ExceptHandler (some T) (some n) (b₀ :: suite) pos'] [] [] pos) (fun D σ H => tb (wKeep X.K cs i ts Wout D) D σ H) := by
  refine ⟨fun pins s σ H D I h => wpAny_Try_except ?_⟩
  have ok := I.ok
  have hfr : X.A.frames = some (X.env :: X.outer) := hs ▸ ok.frames
  refine wpAny_mono ((hb _ (X.pn ++ pins) _ (fun u s' xx => ?_) PassesOwn.looking).run [] s σ H D (I.toTry _) h) (fun f s1 hsp => ?_) (fun e s1 he => he)
  · obtain ⟨a, B, sI, pins', σ', H', cls, d, rfl, J', nb, up, sky, na, os, ag, b, hb1, hyes, hno⟩ := xx
    have J : Inv X pins σ' H' sI := J'.ofTry ok
    rw [show (X.tr (X.pn ++ pins) _).stack = X.env :: X.outer from hs] at sky
    refine Sky.land Zc.steady hfr hf sky fun h3 fl3 up3 => ?_
    have J3 : Inv X pins σ' H' { s' with heap := h3 } := J.landed nb fl3.1 (up.trans up3) os ag
    obtain ⟨o3, v3, g3, z3, d3⟩ := fl3.there
    have out : a ∉ frs (X.env :: X.outer) := fun hm => by
      obtain ⟨_, o', e', hnf⟩ := fl3.2.2.1.mem hm
      rw [g3] at e'
      cases e'
      exact hnf _ d3
    have nL : a ≠ X.env.locals := fun z => out (List.mem_filterMap.mpr ⟨X.env, List.mem_cons_self, by rw [hf, z]⟩)
    have nF : a ∉ X.fs := fun hm => by
      obtain ⟨e, he, q⟩ := List.mem_filterMap.mp hm
      exact out (List.mem_filterMap.mpr ⟨e, List.mem_cons_of_mem _ he, q⟩)
    have inB : ∀ b o, sI.heap.get? b = some o → b ∉ frs (X.env :: X.outer) → b ≠ a := fun b o e hb z => by
      have y := nb b o e (by show b ∉ frs X.stack; rw [hs]; exact hb)
      rw [z, fl3.2.1] at y
      cases y
    have new : X.s_0.heap.get? a = none := by
      cases e : X.s_0.heap.get? a with
      | none => rfl
      | some o =>
        obtain ⟨o', e'⟩ := J.base.there a o e (by rw [hex]; exact List.not_mem_nil)
        exact absurd rfl (inB a o' e' out)
    have pne : ∀ p ∈ X.pn ++ pins, p.1 ≠ a := fun p hp => by
      obtain ⟨z1, _, z3, z4, _⟩ := J.pin p hp
      refine inB _ _ z1 fun hm => ?_
      obtain ⟨e, he, q⟩ := List.mem_filterMap.mp hm
      rcases List.mem_cons.mp he with he | he
      · rw [he, hf] at q
        exact z3 (Option.some.inj q).symm
      · exact z4 (List.mem_filterMap.mpr ⟨e, he, q⟩)
    have S3 := J3.suite g3 d3 na nL nF
    refine wpAny_handleBy_cons (codeAny_handlers_test ?_) (by intro q; cases q)
    refine ExT.run (X := X.suite a _) (by cases ht with | one n => exact .one n | many n l => exact .many n l) S3 (fun A Q E s k q => wpAny_typeOf_ref (k _ _ g3) (by rw [z3.1]; exact q)) hb1 fun h5 k5 => ?_
    have fl5 := fly_keeps fl3 k5
    have up5 : sI.heap.UpToSlots h5 := (up.trans up3).trans (Heap.UpToSlots.of_keeps k5)
    cases b with
    | true =>
      refine codeAny_handlers_suite_as (HandSPX.lands_againZ fl5 fun h4 fl4 up4 => ?_)
      obtain ⟨o4, v4, g4, z4, d4⟩ := fl4.there
      have J4 : Inv X pins σ' H' { s' with heap := h4 } := J.landed nb fl4.1 (up5.trans up4) os ag
      obtain ⟨C, dx, rfl, rfl, hy⟩ := hyes rfl
      refine store_ok (X := X.suite a ((a, o4) :: (X.pn ++ pins))) (v := .ref a) (J4.suite g4 d4 na nL nF) hN hi (.inl hln) rfl (fun s5 S5 => ?_) (.inr hln)
      refine wpAny_mono ((hsu a _).run [] s5 _ H' _ S5 (hy a na)) (fun f s6 hsp => ?_) (fun _ _ z => False.elim z)
      have fin : ∀ {σ6 : L2.St} {H6 : Hp} {Q : Shared → Prop}, Inv (X.suite a ((a, o4) :: (X.pn ++ pins))) [] σ6 H6 s6 → (∀ s7, Inv X pins (σ6.set i none) (upd H6 a (exk a C dx)) s7 → Q s7) →
          wpAny (model X.prog X.w) X.A (do bindName X.env n .none; unbindBehindTheSuite X.env n pos') (fun _ s7 => Q s7) X.xe s6 := fun S6 hq => gone_ok (keepSuite S6 ok) hN hi hln fun s7 J7 => hq s7 (absorb J7 pne new z4 d4)
      cases f with
      | ret u =>
        obtain ⟨v6, σ6, H6, S6, r6, q6⟩ := hsp
        exact fin S6 fun s7 J7 => ⟨_, _, _, J7, r6, q6⟩
      | _ =>
        obtain ⟨σ6, H6, S6, q6⟩ := hsp
        exact fin S6 fun s7 J7 => ⟨_, _, J7, q6⟩
    | false =>
      refine wpAny_handleBy_nil ?_
      obtain ⟨_, _, _, oe, vs, T0, oT, ts', he, hz, hd, h1, _⟩ := id fl5
      unfold PySem.passOn
      refine wpAny_bind (wpAny_field he hd h1 ?_)
      rw [if_neg (show ¬ ((Value.ref T0 == Value.none) = true) from by simp)]
      refine wpAny_bind ?_
      rw [hf]
      refine HandSPX.setFlight_upZ fl5 fun h4 hh4 up4 => wpAny_throw (tk _ _ ⟨a, B, sI, pins, σ', H', cls, d, rfl, J, nb, up5.trans up4, .inr (.inr ?_), na, os, ag, hno rfl⟩)
      rw [hs]
      exact hh4
  · cases f with
    | next =>
      obtain ⟨σ', H', J', q⟩ := hsp
      exact wpAny_execs_nil ⟨σ', H', J'.ofTry ok, q⟩
    | ret u =>
      obtain ⟨v, σ', H', J', r, q⟩ := hsp
      exact ⟨v, σ', H', J'.ofTry ok, r, q⟩
    | _ =>
      obtain ⟨σ', H', J', q⟩ := hsp
      exact ⟨σ', H', J'.ofTry ok, q⟩
end
end DL
/-! kept exceptions asked; what is raised, over data -/
namespace DL
open PySem L2 Z PySem.Spec PyProof.Rows
variable [Tbs]
/-- what is known of the class of a kept exception -/
structure ExK (K : PySem.W.Frag) (C : Addr) : Prop where
  cl : (PySem.W.clsIn K C).isSome = true
  ga : PySem.W.findIn K (.ref C) "__getattribute__" = some (some (.builtin "BaseException.__getattribute__"))
  gt : PySem.W.findIn K (.ref C) "__getattr__" = some none
  ex : PySem.W.subIn K (.ref C) (.type "BaseException") = some true
  ca : PySem.W.findIn K (.ref C) "__class__" = some (some (.builtin "object.__class__"))
  dg : PySem.W.specialIn K (.builtin "object.__class__") "__get__" = some (some (.builtin "getset_descriptor.__get__"))
  tk : PySem.W.takesIn K (.builtin "object.__class__") = some true
  ob : PySem.W.mroIn K C (.type "object") = some true
  hd : PySem.W.hasDictIn K C = true
  nw : PySem.W.findIn K (.ref C) "what" = some none
section
variable {X : Cx} {pins : List (Addr × Obj)} {σ : L2.St} {H : Hp} {s : Shared} {a C dx : Addr} {fv : List (Str × V)}
theorem exk_at (I : Inv X pins σ H s) (ea : H a = some (exk a C dx)) (ed : H dx = some (.xd fv)) : ∃ ox od mA, PySem.W.InstAt s.heap a ox C (some od) ∧ s.heap.Ns1 dx mA ∧ (∀ f, RelO (fv.lookup f) (mA f)) ∧ s.heap.get? dx = some od := by
  obtain ⟨⟨o, vs, e1, e2, e3, e4⟩, _⟩ := (show ObjOk X.prog X.w H s.heap a (exk a C dx) from I.hok a _ ea)
  obtain ⟨mA, hn, hr⟩ := (show ObjOk X.prog X.w H s.heap dx (.xd fv) from I.hok dx _ ed)
  obtain ⟨od, es, ep, e5, e6⟩ := id hn
  refine ⟨o, od, mA, ⟨e1, e2, ?_, ?_⟩, hn, hr, e5⟩
  · unfold PySem.W.notCls
    rw [e4] <;> rfl
  · rw [e3]
    exact e5
/-- isinstance(e, c) of a kept exception -/
def rIsX (K : PySem.W.Frag) : List V → Hp → VK → Prop := fun xs H Q => ∃ (a C dx : Addr) (fv : List (Str × V)) (c : V) (u : Value) (b : Bool), xs = [.ref a, c] ∧ ClsV c u ∧ ExK K C ∧ H a = some (exk a C dx) ∧ H dx = some (.xd fv) ∧ PySem.W.kitOne K (.ref C) u = some b ∧ Q (.bl b) H
theorem call_isX : CallR X (.builtin "isinstance") (rIsX X.K) := by
  intro pins s σ H xs us Q I r h
  obtain ⟨a, C, dx, fv, c, u, b, rfl, k, T, ea, ed, e, q⟩ := h
  obtain ⟨u1, u2, rfl, r1, r2⟩ := vals2 r
  have := k.eq r2
  subst this
  cases (show u1 = Value.ref a from r1)
  obtain ⟨ox, od, mA, J, _⟩ := exk_at I ea ed
  exact PySem.W.kia_one (PySem.W.kitx_exc T.cl T.ga T.gt T.ex T.ca T.dg T.tk T.ob) I.kIn J e (fun z => nomatch z) fun tk => ⟨.bl b, H, I.tok tk, rfl, q⟩
def rIsXT (K : PySem.W.Frag) : List V → Hp → VK → Prop := fun xs H Q => ∃ (a C dx tp : Addr) (fv : List (Str × V)) (cs : List V) (us : List Value) (b : Bool), xs = [.ref a, .ref tp] ∧ H tp = some (.tup cs) ∧ Paired ClsV cs us ∧ ExK K C ∧ H a = some (exk a C dx) ∧ H dx = some (.xd fv) ∧ PySem.W.kitAny K (.ref C) us = some b ∧ Q (.bl b) H
theorem call_isXT : CallR X (.builtin "isinstance") (rIsXT X.K) := by
  intro pins s σ H xs us Q I r h
  obtain ⟨a, C, dx, tp, fv, cs, ws, b, rfl, hT, k, T, ea, ed, e, q⟩ := h
  obtain ⟨u1, u2, rfl, r1, r2⟩ := vals2 r
  cases (show u1 = Value.ref a from r1)
  cases (show u2 = Value.ref tp from r2)
  obtain ⟨ox, od, mA, J, _⟩ := exk_at I ea ed
  obtain ⟨_, its, rv, o, h1, h2, n, h3⟩ := (show ObjOk X.prog X.w H s.heap tp (.tup cs) from I.hok tp _ hT)
  have := ClsV.all k rv
  subst this
  obtain ⟨oc, od', dt, sl⟩ := o
  cases h2
  cases h3
  exact PySem.W.kia_tup (PySem.W.kitx_exc T.cl T.ga T.gt T.ex T.ca T.dg T.tk T.ob) I.kIn J h1 e (fun z => nomatch z) fun tk => ⟨.bl b, H, I.tok tk, rfl, q⟩
/-- e.what -/
def tWhat (K : PySem.W.Frag) (te : TE) : TE := fun σ H Q => te σ H fun x H1 => ∃ (a C dx : Addr) (fv : List (Str × V)) (v : V), x = .ref a ∧ ExK K C ∧ H1 a = some (exk a C dx) ∧ H1 dx = some (.xd fv) ∧ fv.lookup ("what" : Str) = some v ∧ Q v H1
theorem pe_what {e : Expr} {te : TE} {pos : Pos} (he : PE X e te) (hb : attributeBase e "what" X.env (eval e X.env) = eval e X.env := by rfl) : PE X (.Attribute e "what" pos) (tWhat X.K te) := by
  refine ⟨fun pins s σ H Q I h => attr_of hb (thn (he.run pins s σ H _ I h) fun u s1 hh => ?_)⟩
  obtain ⟨x, H1, I1, rx, a, C, dx, fv, v, rfl, T, ea, ed, l, q⟩ := hh
  cases (show u = Value.ref a from rx)
  obtain ⟨ox, od, mA, J, hn, hr, e5⟩ := exk_at I1 ea ed
  obtain ⟨od', e6, hl⟩ := lookIn_ns hn
  rw [e5] at e6
  cases e6
  obtain ⟨w, hw, rw'⟩ := RelO.some_of (v := v) (o := mA "what") (by rw [← l]; exact hr "what")
  exact HandSPX.exc_get I1.kIn J T.ga T.gt T.ex (PySem.W.findObj_own T.hd T.nw rfl (by rw [hl, hw])) (handed_of rw') ⟨v, H1, I1.tok _, rw', q⟩
end
/-! over data -/
section
variable {K : PySem.W.Frag} {n : Nat} {J : Jv n}
def excF (d : PyData) (k : Str → List (PyData × PyData) → Prop) : Prop := match d with
  | .dict ((.str c, .bool true) :: fs) => k c fs
  | _ => False
theorem excF_of {G : Hp} {v : V} {d : PyData} {k : Str → List (PyData × PyData) → Prop} (q : Dq K G v d) (h : excF d k) : ∃ a C dx c fv fs, v = .ref a ∧ PySem.W.nsIn K mainGlobals c = some (some (.ref C)) ∧ G a = some (exk a C dx) ∧ G dx = some (.xd fv) ∧ DqFs K G fv fs ∧ k c fs := by
  unfold excF at h
  split at h
  · cases q with
    | exc c h1 h2 r => exact ⟨_, _, _, _, _, _, rfl, c, h1, h2, r, h⟩
  · exact h.elim
def fIsX (tab : Str → Option Bool) (a : FE) : FE := fun ρ P => a ρ fun d ρ1 => excF d fun c _ => ∃ b, tab c = some b ∧ P (.bool b) ρ1
theorem re_isX {tab : Str → Option Bool} {cv : V} {u : Value} {ta : TE} {a : FE} (hc : ClsV cv u) (ht : ∀ c C b, tab c = some b → PySem.W.nsIn K mainGlobals c = some (some (.ref C)) → ExK K C ∧ PySem.W.kitOne K (.ref C) u = some b) (ha : RE K J ta a) :
    RE K J (tCB (rIsX K) (tCons ta (tCons (tC cv) tNil))) (fIsX tab a) := by
  intro O as σ H Q ρ P E q k
  refine ha O as σ H _ ρ _ E q fun d ρ1 v H1 q1 f1 E1 d1 => ?_
  obtain ⟨p, C, dx, c, fv, fs, rfl, hn, h1, h2, _, b, e, q1⟩ := excF_of d1 q1
  obtain ⟨T, e'⟩ := ht c C b e hn
  exact ⟨p, C, dx, fv, cv, u, b, rfl, hc, T, (hp_some h1).2, (hp_some h2).2, e', k _ _ _ _ q1 f1 E1 (.bl _)⟩
@[reducible] def taC : List V → TA
  | [] => tNil
  | c :: r => tCons (tC c) (taC r)
theorem taC_run {σ : L2.St} {H : Hp} : ∀ {cs : List V} {Q : List V → Hp → Prop}, Q cs H → taC cs σ H Q
  | [], _, q => q
  | _ :: r, Q, q => taC_run (cs := r) (Q := fun xs H2 => Q (_ :: xs) H2) q
theorem re_isXT {tab : Str → Option Bool} {cs : List V} {us : List Value} {ta : TE} {a : FE} (hc : Paired ClsV cs us) (hl : cs.length ≤ sizeLine) (ht : ∀ c C b, tab c = some b → PySem.W.nsIn K mainGlobals c = some (some (.ref C)) → ExK K C ∧ PySem.W.kitAny K (.ref C) us = some b) (ha : RE K J ta a) :
    RE K J (tCB (rIsXT K) (tCons ta (tCons (tTup (taC cs)) tNil))) (fIsX tab a) := by
  intro O as σ H Q ρ P E q k
  refine ha O as σ H _ ρ _ E q fun d ρ1 v H1 q1 f1 E1 d1 => ?_
  refine taC_run ⟨hl, fun T hT => ?_⟩
  have s := Same.new (o := .tup cs) hT
  obtain ⟨p, C, dx, c, fv, fs, rfl, hn, h1, h2, _, b, e, q1⟩ := excF_of (d1.mono (E1.hgrow s)) q1
  obtain ⟨T', e'⟩ := ht c C b e hn
  exact ⟨p, C, dx, T, fv, cs, us, b, rfl, upd_same, hc, T', (hp_some h1).2, (hp_some h2).2, e', k _ _ _ _ q1 (f1.trans (E1.frS s)) (E1.grow s) (.bl _)⟩
def fWhat (L : List Str) (a : FE) : FE := fun ρ P => a ρ fun d ρ1 => excF d fun c fs => c ∈ L ∧ ∃ w, fldD "what" fs = some w ∧ P w ρ1
theorem re_what {L : List Str} {ta : TE} {a : FE} (ht : ∀ c C, c ∈ L → PySem.W.nsIn K mainGlobals c = some (some (.ref C)) → ExK K C) (ha : RE K J ta a) : RE K J (tWhat K ta) (fWhat L a) := by
  intro O as σ H Q ρ P E q k
  refine ha O as σ H _ ρ _ E q fun d ρ1 v H1 q1 f1 E1 d1 => ?_
  obtain ⟨p, C, dx, c, fv, fs, rfl, hn, h1, h2, r, hL, w, e, q1⟩ := excF_of d1 q1
  obtain ⟨x, hx, dq⟩ := r.get e
  exact ⟨p, C, dx, fv, x, rfl, ht c C hL hn, (hp_some h1).2, (hp_some h2).2, hx, k _ _ _ _ q1 f1 E1 dq⟩
/-- an exception, raised: its class, its dict, as data -/
def XcAt (K : PySem.W.Frag) (G : Hp) (cls : Value) (dd : Option Addr) (d : PyData) : Prop := ∃ (c : Str) (C dx : Addr) (fv : List (Str × V)) (fs : List (PyData × PyData)), d = .dict ((.str c, .bool true) :: fs) ∧ cls = .ref C ∧ dd = some dx ∧ PySem.W.nsIn K mainGlobals c = some (some (.ref C)) ∧ G dx = some (.xd fv) ∧ DqFs K G fv fs
theorem XcAt.mono {G G' : Hp} {cls : Value} {dd : Option Addr} {d : PyData} (x : XcAt K G cls dd d) (s : Same G G') : XcAt K G' cls dd d := by
  obtain ⟨c, C, dx, fv, fs, e1, e2, e3, e4, e5, r⟩ := x
  exact ⟨c, C, dx, fv, fs, e1, e2, e3, e4, s _ _ e5, DqFs.mono s r⟩
/-- a wish over data carries the wish -/
def Lk (K : PySem.W.Frag) {n : Nat} (J : Jv n) (X : PyData → En → Prop) (W : WX) : Prop := ∀ (O : Addr → Prop) (as : As) (σ : L2.St) (H : Hs) (ρ : En) (cls : Value) (dd : Option Addr) (d : PyData), EnR K J O as H ρ σ → XcAt K (hq O as H) cls dd d → X d ρ → W cls dd σ H
theorem Lk.le {J' : Jv n} {X : PyData → En → Prop} {W : WX} (l : Lk K J X W) (h : J'.le J) : Lk K J' X W := fun O as σ H ρ cls dd d E => l O as σ H ρ cls dd d (E.reJ (h.1 _ _ E.inv) (h.2 _ E.inq))
def excD (c : Str) (w : PyData) : PyData := .dict [(.str c, .bool true), (.str "what", w)]
def fRaise (c : Str) (a : FE) (X : PyData → En → Prop) : FS := fun _ ρ => a ρ fun d ρ1 => X (excD c d) ρ1
theorem rs_raise {c : Str} {C : Addr} {te : TE} {a : FE} {X : PyData → En → Prop} {W : WX} (hn : PySem.W.nsIn K mainGlobals c = some (some (.ref C))) (l : Lk K J X W) (ha : RE K J te a) : RS K J (fun _ σ H => tMkB C te σ H fun cls d H' => W cls d σ H') (fRaise c a X) := by
  intro O as σ H D ρ E R q C'
  refine ha O as σ H _ ρ _ R q fun d ρ1 v H1 q1 f1 E1 d1 => fun dx hdx => ?_
  have s := Same.new (o := .xd [("what", v)]) hdx
  exact l O as σ _ ρ1 _ _ _ (E1.grow s) ⟨c, C, dx, _, _, rfl, rfl, rfl, hn, hp_mk (E1.fresh1 hdx) upd_same, .cons (d1.mono (E1.hgrow s)) .nil⟩ q1
end
end DL
/-! defs that raise, over data; try -/
namespace DL
open PySem L2 Z PySem.Spec PyProof.Rows
variable [Tbs]
abbrev FX := List Sl → (PyData → List Sl → Prop) → (PyData → List Sl → Prop) → Prop
def spXG (K : PySem.W.Frag) (n e : Nat) (F : FX) : Sp := fun vs H Q E => vs.length = n ∧ ∃ (O : Addr → Prop) (as : As) (S : Sto) (ρ : En) (P X : PyData → List Sl → Prop), EnR K (J0 : Jv 0) O as ⟨H, S⟩ ρ (vs.map some) ∧ ρ.length = n + e ∧ F ρ P X ∧
  (∀ d out v H', P d out → Fr as ⟨H, S⟩ H' → Bk K O as H' out → Dq K (hq O as H') v d → Q v H') ∧
  ∀ d out cls dd H', X d out → Fr as ⟨H, S⟩ H' → Bk K O as H' out → XcAt K (hq O as H') cls dd d → E cls dd H'
abbrev spX (K : PySem.W.Frag) (n : Nat) (F : FX) : Sp := spXG K n 0 F
abbrev spXS (K : PySem.W.Frag) (n : Nat) (F : FX) : Sp := spXG K n 1 F
def fnX (n m : Nat) (b : (PyData → En → Prop) → FS) : FX := fun sls P X => b (fun d ρ' => X d (ρ'.take n)) { nx := fun ρ' => P .none (ρ'.take n), rt := fun d ρ' => P d (ρ'.take n) } (sls ++ List.replicate (m - n) .no)
def fnXS (n m : Nat) (b : (PyData → En → Prop) → FS) : FX := fun sls P X => b (fun d ρ' => X d (ρ'.take n ++ ρ'.drop m)) { nx := fun ρ' => P .none (ρ'.take n ++ ρ'.drop m), rt := fun d ρ' => P d (ρ'.take n ++ ρ'.drop m) } (sls.take n ++ List.replicate (m - n) .no ++ sls.drop n)
section
variable {K : PySem.W.Frag} {n : Nat} {J : Jv n}
theorem EnR.sub {O O2 : Addr → Prop} {as : As} {H : Hs} {ρ : En} {σ : L2.St} (E : EnR K J O2 as H ρ σ) (h : ∀ a, O a → O2 a) (hq : J.Q O) : EnR K J O as H ρ σ :=
  ⟨E.len, E.tl, fun i sl o h1 h2 => (E.at_ i sl o h1 h2).mono (hp_less fun a z => z.imp (h a) id) fun _ _ => rfl, fun i z => ⟨(E.sto i z).1, (E.sto i z).2.1, (E.sto i z).2.2.move (hp_less fun a z => z.imp (h a) id) fun _ _ => rfl⟩, E.inj, fun i r b e q z => E.out i r b e q (h b z), E.bnd, fun a q => E.occ a (h a q), E.inv, hq, E.tab⟩
theorem Car.le {J' : Jv n} {O : Addr → Prop} {as : As} {H : Hs} {E : FEnds} {D : Ends} (C : Car K J O as H E D) (h : J'.le J) : Car K J' O as H E D :=
  ⟨fun ρ' as' σ' H' p x R => C.nx ρ' as' σ' H' p x (R.reJ (h.1 _ _ R.inv) (h.2 _ R.inq)), fun d ρ' v as' σ' H' p x R => C.rt d ρ' v as' σ' H' p x (R.reJ (h.1 _ _ R.inv) (h.2 _ R.inq)), fun ρ' as' σ' H' p x R => C.bk ρ' as' σ' H' p x (R.reJ (h.1 _ _ R.inv) (h.2 _ R.inq)),
    fun ρ' as' σ' H' p x R => C.ct ρ' as' σ' H' p x (R.reJ (h.1 _ _ R.inv) (h.2 _ R.inq)), fun ds ρ' p xs as' σ' H' q x o R => C.ro ds ρ' p xs as' σ' H' q x o (R.reJ (h.1 _ _ R.inv) (h.2 _ R.inq))⟩
theorem lkF {W : WX} : Lk K J (fun _ _ => False) W := fun _ _ _ _ _ _ _ _ _ _ h => h.elim
/-- the body of a def that raises -/
theorem fn_runX {m e : Nat} {N : List Str} {b : (PyData → En → Prop) → FS} {t : WX → TS} (hN : m ≤ N.length) (rs : ∀ (J : Jv m) (X : PyData → En → Prop) (W : WX), Lk K J X W → RS K J (t W) (b X)) {vs : List V} {H : Hp} {Q : VK} {E : XK} {F : FX}
    (hF : F = fun sls P X => b (fun d ρ' => X d (outS e m N.length ρ')) { nx := fun ρ' => P .none (outS e m N.length ρ'), rt := fun d ρ' => P d (outS e m N.length ρ') } (enS e m N.length sls)) (h : spXG K m e F vs H Q E) :
    t (fun cls d _ H => E cls d H) { nx := fun _ H' => Q .non H', rt := Q } (L2.start N vs) H := by
  obtain ⟨hv, O, as, S, ρ, P, X, R, hl, hf, q, qx⟩ := h
  subst hF
  refine rs (Jst m O (shA as m N.length) ⟨H, S⟩) (fun d ρ' => X d (outS e m N.length ρ')) _ (fun O' as' σ' H' ρ' cls dd d R' xc hx => ?_) O _ _ ⟨H, S⟩ _ _ _ (fn_start R hv hl hN) hf ⟨fun ρ' as' σ' H' p x R' => ?_, fun d ρ' v as' σ' H' p x R' dv => ?_, fun _ _ _ _ p => p.elim, fun _ _ _ _ p => p.elim, fun _ _ _ _ _ _ _ p => p.elim⟩
  · have R2 : EnR K (Jst m O (shA as m N.length) ⟨H, S⟩) O as' H' ρ' σ' := R'.sub R'.inq fun _ h => h
    obtain ⟨h1, h2, h3⟩ := fn_back R hv hl hN R'.inv R2
    exact qx d _ cls dd H' hx h1 h2 ((xc.mono (hp_less fun a z => z.imp (R'.inq a) id)).mono h3)
  · obtain ⟨h1, h2, _⟩ := fn_back R hv hl hN x R'
    exact q _ _ _ _ p h1 h2 .non
  · obtain ⟨h1, h2, h3⟩ := fn_back R hv hl hN x R'
    exact q _ _ _ _ p h1 h2 (dv.mono h3)
theorem fn_coreX {ps : List Str} {N : List Str} {b : (PyData → En → Prop) → FS} {t : WX → TS} (hN : ps.length ≤ N.length) (rs : ∀ (J : Jv ps.length) (X : PyData → En → Prop) (W : WX), Lk K J X W → RS K J (t W) (b X)) {vs : List V} {H : Hp} {Q : VK} {E : XK} (h : spX K ps.length (fnX ps.length N.length b) vs H Q E) :
    t (fun cls d _ H => E cls d H) { nx := fun _ H' => Q .non H', rt := Q } (L2.start N vs) H := fn_runX hN rs rfl h
theorem fn_coreXS {ps : List Str} {N : List Str} {b : (PyData → En → Prop) → FS} {t : WX → TS} (hN : ps.length ≤ N.length) (rs : ∀ (J : Jv ps.length) (X : PyData → En → Prop) (W : WX), Lk K J X W → RS K J (t W) (b X)) {vs : List V} {H : Hp} {Q : VK} {E : XK} (h : spXS K ps.length (fnXS ps.length N.length b) vs H Q E) :
    t (fun cls d _ H => E cls d H) { nx := fun _ H' => Q .non H', rt := Q } (L2.start N vs) H := fn_runX hN rs rfl h
/-- a call that may raise -/
theorem call_coreX {O : Addr → Prop} {as : As} {H : Hs} {ρ : En} {σ : L2.St} {xs : List Ar} {r : List Sl} {vs : List V} {m e : Nat} {F : FX} {P X : PyData → En → Prop} {Q : VK} {W : WX} (E : EnR K J O as H ρ σ) (fit : Fits ρ xs r) (ar : ArsT K (hq O as H) as vs xs) (hv : vs.length = m) (hm : xs.length = m + e) (nd : (ownIx xs).Nodup)
    (f : F r (fun d out => P d (wb ρ xs out)) fun d out => X d (wb ρ xs out)) (l : Lk K J X W) (k : ∀ d ρ' v H', P d ρ' → Fr as H H' → EnR K J O as H' ρ' σ → Dq K (hq O as H') v d → Q v H') : spXG K m e F vs H Q (WE W σ) := by
  refine ⟨hv, _, adrs as xs, H.st, r, _, _, call_in E fit ar nd, by rw [fit.len, hm], f, fun d out v H' p fr bk dv => ?_, fun d out cls dd H' p fr bk xc => ?_⟩
  · obtain ⟨fr', E', hid, _⟩ := call_back E ar nd fr bk
    exact k d _ v H' p fr' E' (dv.mono (hp_less hid))
  · obtain ⟨fr', E', hid, _⟩ := call_back E ar nd fr bk
    exact l O as σ H' _ cls dd d E' (xc.mono (hp_less hid)) p
def fCallX (m : Nat) (F : FX) (dv : List PyData) (X : PyData → En → Prop) (a : FC) : FE := fun ρ P => a ρ fun xs ρ1 => xs.length + dv.length = m ∧ (ownIx xs).Nodup ∧ argF ρ1 xs fun r => F (r ++ dv.map .fz) (fun d out => P d (wb ρ1 xs out)) fun d out => X d (wb ρ1 xs out)
theorem re_callX {m : Nat} {F : FX} {dvs : List V} {dv : List PyData} {X : PyData → En → Prop} {W : WX} {t : TA} {f : FC} (l : Lk K J X W) (hd : ∀ H, DqAll K H dvs dv) (ha : RC K J t f) : RE K J (tCallSD (spX K m F) dvs (WE W) t) (fCallX m F dv X f) := by
  intro O as σ H Q ρ P E q k
  refine ha O as σ H _ ρ _ E q fun xs ρ1 vs H1 q1 f1 E1 d1 => ?_
  obtain ⟨hm, nd, q1⟩ := q1
  obtain ⟨r, fit, q1⟩ := argF_of q1
  refine call_coreX (xs := xs ++ dv.map .dat) E1 (fit.app (fits_dat dv)) (d1.app (dat_ars (hd _))).toT (by rw [List.length_append, d1.len, (hd H1).length]; exact hm) (by rw [List.length_append, List.length_map]; exact hm) (by rw [ownIx_app]; exact nd) ?_ l fun d ρ' v H' p fr E' q' => k d ρ' v H' p (f1.trans fr) E' q'
  simp only [wb_app]
  exact q1
def fCallXS (sx m : Nat) (F : FX) (dv : List PyData) (X : PyData → En → Prop) (a : FC) : FE := fun ρ P => a ρ fun xs ρ1 => xs.length + dv.length = m ∧ (ownIx xs ++ [sx]).Nodup ∧ argF ρ1 xs fun r => match ρ1[sx]? with
  | some (.st S) => F (r ++ dv.map .fz ++ [.st S]) (fun d out => P d ((wb ρ1 xs out).set sx ((out.drop m).headD .no))) fun d out => X d ((wb ρ1 xs out).set sx ((out.drop m).headD .no))
  | _ => False
theorem re_callXS {sx m : Nat} {F : FX} {dvs : List V} {dv : List PyData} {X : PyData → En → Prop} {W : WX} {t : TA} {f : FC} (l : Lk K J X W) (hd : ∀ H, DqAll K H dvs dv) (ha : RC K J t f) : RE K J (tCallSD (spXS K m F) dvs (WE W) t) (fCallXS sx m F dv X f) := by
  intro O as σ H Q ρ P E q k
  refine ha O as σ H _ ρ _ E q fun xs ρ1 vs H1 q1 f1 E1 d1 => ?_
  obtain ⟨hm, nd, q1⟩ := q1
  obtain ⟨r, fit, q1⟩ := argF_of q1
  split at q1
  · next S hs =>
    have hl : (vs ++ dvs).length = m := by rw [List.length_append, d1.len, (hd H1).length]; exact hm
    have ni : sx ∉ ownIx xs := fun z => (List.nodup_append.mp nd).2.2 _ z _ (List.mem_singleton.mpr rfl) rfl
    refine call_coreX (xs := xs ++ dv.map .dat ++ [.own sx]) E1 ((fit.app (fits_dat dv)).app (.st hs .nil)) ((d1.app (dat_ars (hd _))).snoc (E1.st_at hs).1) hl (by rw [List.length_append, List.length_append, List.length_map, hm]; rfl) (by rw [ownIx_snoc, ownIx_app]; exact nd) ?_ l fun d ρ' v H' p fr E' q' => k d ρ' v H' p (f1.trans fr) E' q'
    · simp only [wb_snoc, wb_app, wb_set _ _ _ _ _ ni, List.length_append, List.length_map, hm]
      exact q1
  · exact q1.elim
/-- try: body except T as i: j = i -/
def fTryK (i j : Nat) (tab : Str → Option Bool) (X : PyData → En → Prop) (b : (PyData → En → Prop) → FS) : FS := fun E ρ => b (fun d ρ' => excF d fun c _ => ∃ k, tab c = some k ∧ if k = true then slotF ρ' i = true ∧ slotF (ρ'.set i .no) j = true ∧ E.nx ((ρ'.set i .no).set j (.fz d)) else X d ρ') E ρ
theorem rs_tryK {i j : Nat} {tab : Str → Option Bool} {cs : List Value} {X : PyData → En → Prop} {Wout : WX} {tb : WX → TS} {b : (PyData → En → Prop) → FS} (hij : i ≠ j) (l : Lk K J X Wout) (ht : ∀ c C k, tab c = some k → PySem.W.nsIn K mainGlobals c = some (some (.ref C)) → PySem.W.exmAny K (.ref C) cs = some k)
    (hb : ∀ (J' : Jv n) (X' : PyData → En → Prop) (W' : WX), J'.le J → Lk K J' X' W' → RS K J' (tb W') (b X')) : RS K J (fun D σ H => tb (wKeep K cs i (fun _ => tAsg (tVar i) (gName j)) Wout D) D σ H) (fTryK i j tab X b) := by
  intro O as σ H D ρ E R f C
  have le : (J.and (Jst n O as H)).le J := ⟨fun _ _ h => h.1, fun _ h => h.1⟩
  refine hb (J.and (Jst n O as H)) _ _ le (fun O2 as2 σ2 H2 ρ2 cls dd d E2 xc x2 => ?_) O as σ H D ρ E (R.reJ ⟨R.inv, Ext.refl⟩ ⟨R.inq, fun _ h => h⟩) f (C.le le)
  obtain ⟨c, Cc, dx, fv, fs, rfl, rfl, rfl, hn, hd, r⟩ := xc
  obtain ⟨k, ek, x2⟩ := x2
  refine ⟨k, ht c Cc k ek hn, fun hk => ?_, fun hk => ?_⟩
  · rw [if_pos hk] at x2
    obtain ⟨s1, s2, nx⟩ := x2
    refine ⟨Cc, dx, rfl, rfl, fun a ha => ?_⟩
    have s := Same.new (o := exk a Cc dx) ha
    have E3 : EnR K J O as2 H2 ρ2 σ2 := (E2.reJ (E2.inv.1) (E2.inq.1)).sub E2.inq.2 R.inq
    have gs : Same (hq O2 as2 H2) (hq O as2 (H2.w (upd H2 a (exk a Cc dx)))) := fun b o e => hp_mk (fun z => (hp_some e).1 (((E3.hidS s).mp z).imp (E2.inq.2 b) id)) (s _ _ (hp_some e).2)
    have dq : Dq K (hq O as2 (H2.w (upd H2 a (exk a Cc dx)))) (.ref a) (.dict ((.str c, .bool true) :: fs)) := .exc hn (hp_mk (E3.fresh1 ha) upd_same) (gs _ _ hd) (DqFs.mono gs r)
    have E4 := ((E3.grow s).setNo s1 none).setFz s2 dq
    have hi : i < σ2.length := by
      obtain ⟨sl, e, _, ns⟩ := slotF_of s1
      exact E3.lt e ns
    refine ⟨.ref a, by rw [List.getElem?_set_self hi], ?_⟩
    show D.nx (((σ2.set i (some (.ref a))).set j (some (.ref a))).set i none) _
    rw [List.set_comm _ _ (Ne.symm hij), List.set_set]
    exact C.nx _ _ _ _ nx (E2.inv.2.trans (.of (E3.frS s))) E4
  · rw [hk, if_neg (by decide)] at x2
    exact l O2 as2 σ2 H2 ρ2 _ _ _ (E2.reJ E2.inv.1 E2.inq.1) ⟨c, Cc, dx, fv, fs, rfl, rfl, rfl, hn, hd, r⟩ x2
end
end DL
/-! defs that raise: the promise; calls by keywords -/
namespace DL
open PySem L2 Z PySem.Spec PyProof.Rows
variable [Tbs]
section
variable {P : Program} {w : World} {K : PySem.W.Frag} {mg : Str → Option Value} {base : Heap} {k : Nat} {f : Addr} {fd : FuncData} {ps : List Str} {x qual : Str} {st : Stmt} {N : List Str} {b : (PyData → En → Prop) → FS}
theorem okX0 (F : Fun K x qual st f fd) (S : FnScope N ps (defScope st))
    (body : ∀ (cdv : Value) (A : Around) (outer : List Env) (s : Shared) (H : Hp) (E : XK), Room k (A.deeper (envOfC qual (defScope st) s.heap.objs.size f cdv)) →
      ∃ t : WX → TS, (∀ W, Takes (cxOf (L2.CX P w) P w K mg base N qual (defScope st) f cdv A outer s H E) W → PSs (cxOf (L2.CX P w) P w K mg base N qual (defScope st) f cdv A outer s H E) (defBody st) (t W)) ∧ ∀ (J : Jv ps.length) (X : PyData → En → Prop) (W : WX), Lk K J X W → RS K J (t W) (b X)) :
    FnOk P w K mg base (L2.CX P w) (k + 1) f fd ps (spX K ps.length (fnX ps.length N.length b)) := by
  refine F.okX S (fun vs H Q E h => h.1) (fun cdv A outer s H vs Q E hr h => ?_)
  obtain ⟨t, pt, rs⟩ := body cdv A outer s H E hr
  exact ⟨_, pt _ (takes_of (E := E) rfl rfl rfl rfl), fn_coreX (scope_le S) rs h⟩
theorem okXD {params : Arguments} {bd : List Stmt} {scope : Scope} {dvs : List V} {kws : List (Str × V)} (F : FunD K x qual params bd scope dvs kws f fd) (S : FnScope N ps scope)
    (body : ∀ (cdv : Value) (A : Around) (outer : List Env) (s : Shared) (H : Hp) (E : XK), Room k (A.deeper (envOfC qual scope s.heap.objs.size f cdv)) →
      ∃ t : WX → TS, (∀ W, Takes (cxOf (L2.CX P w) P w K mg base N qual scope f cdv A outer s H E) W → PSs (cxOf (L2.CX P w) P w K mg base N qual scope f cdv A outer s H E) bd (t W)) ∧ ∀ (J : Jv ps.length) (X : PyData → En → Prop) (W : WX), Lk K J X W → RS K J (t W) (b X)) :
    FnOk P w K mg base (L2.CX P w) (k + 1) f fd ps (spX K ps.length (fnX ps.length N.length b)) := by
  refine F.ok S (fun vs H Q E h => h.1) (fun cdv A outer s H vs Q E hr h => ?_)
  obtain ⟨t, pt, rs⟩ := body cdv A outer s H E hr
  exact ⟨_, pt _ (takes_of (E := E) rfl rfl rfl rfl), fn_coreX (scope_le S) rs h⟩
theorem okXS0 (F : Fun K x qual st f fd) (S : FnScope N ps (defScope st))
    (body : ∀ (cdv : Value) (A : Around) (outer : List Env) (s : Shared) (H : Hp) (E : XK), Room k (A.deeper (envOfC qual (defScope st) s.heap.objs.size f cdv)) →
      ∃ t : WX → TS, (∀ W, Takes (cxOf (L2.CX P w) P w K mg base N qual (defScope st) f cdv A outer s H E) W → PSs (cxOf (L2.CX P w) P w K mg base N qual (defScope st) f cdv A outer s H E) (defBody st) (t W)) ∧ ∀ (J : Jv ps.length) (X : PyData → En → Prop) (W : WX), Lk K J X W → RS K J (t W) (b X)) :
    FnOk P w K mg base (L2.CX P w) (k + 1) f fd ps (spXS K ps.length (fnXS ps.length N.length b)) := by
  refine F.okX S (fun vs H Q E h => h.1) (fun cdv A outer s H vs Q E hr h => ?_)
  obtain ⟨t, pt, rs⟩ := body cdv A outer s H E hr
  exact ⟨_, pt _ (takes_of (E := E) rfl rfl rfl rfl), fn_coreXS (scope_le S) rs h⟩
theorem okXSD {params : Arguments} {bd : List Stmt} {scope : Scope} {dvs : List V} {kws : List (Str × V)} (F : FunD K x qual params bd scope dvs kws f fd) (S : FnScope N ps scope)
    (body : ∀ (cdv : Value) (A : Around) (outer : List Env) (s : Shared) (H : Hp) (E : XK), Room k (A.deeper (envOfC qual scope s.heap.objs.size f cdv)) →
      ∃ t : WX → TS, (∀ W, Takes (cxOf (L2.CX P w) P w K mg base N qual scope f cdv A outer s H E) W → PSs (cxOf (L2.CX P w) P w K mg base N qual scope f cdv A outer s H E) bd (t W)) ∧ ∀ (J : Jv ps.length) (X : PyData → En → Prop) (W : WX), Lk K J X W → RS K J (t W) (b X)) :
    FnOk P w K mg base (L2.CX P w) (k + 1) f fd ps (spXS K ps.length (fnXS ps.length N.length b)) := by
  refine F.ok S (fun vs H Q E h => h.1) (fun cdv A outer s H vs Q E hr h => ?_)
  obtain ⟨t, pt, rs⟩ := body cdv A outer s H E hr
  exact ⟨_, pt _ (takes_of (E := E) rfl rfl rfl rfl), fn_coreXS (scope_le S) rs h⟩
/-- a def that raises is passed by its own context -/
theorem passX {cdv : Value} {A : Around} {outer : List Env} {s : Shared} {H : Hp} {E : XK} {scope : Scope} : PassesOwn (model P w) (cxOf (L2.CX P w) P w K mg base N qual scope f cdv A outer s H E).A (cxOf (L2.CX P w) P w K mg base N qual scope f cdv A outer s H E).env (cxOf (L2.CX P w) P w K mg base N qual scope f cdv A outer s H E).xe :=
  passes_of (X := cxOf (L2.CX P w) P w K mg base N qual scope f cdv A outer s H E) rfl
end
/-! the call with keywords, where it may raise -/
def tCallNS (n m : Nat) (sp : Sp) (gV : List V → List V → List V) (E : L2.St → XK) (t tk : TA) : TE := fun σ H Q => t σ H fun vs H1 => tk σ H1 fun zs H2 => vs.length = n ∧ zs.length = m ∧ sp (gV vs zs) H2 Q (E σ)
section
variable {X : Cx} {CX : CXT} {k n : Nat} {f : Addr} {fd : FuncData} {ps ks : List Str} {sp : Sp} {E : L2.St → XK} {x : Str} {p pos : Pos} {e : Expr} {es : List Expr} {kws : List Keyword} {t tk : TA} {g : List Value → List Value → List Value} {gV : List V → List V → List V}
theorem pe_callNS (F : FnOk X.prog X.w X.K X.mg X.base CX k f fd ps sp) (hr : Room k X.A) (hg : Gl X x) (hm : X.mg x = some (.ref f)) (hk : PySem.W.keepIn X.K (.ref f) = true) (hb : KBn X.K fd ps n ks g gV) (hx : ∀ σ, PassesAt CX X σ (E σ))
    (ha : PA X (e :: es) t) (hkw : PK X kws tk) (hall : (backToKw pos (keywordEach kws X.env)).all (·.1.isSome) = true := by rfl) (hks : (backToKw pos (keywordEach kws X.env)).filterMap (·.1) = ks := by rfl)
    (hdb : (x == ("__debug__" : Str)) = false := by decide) (he : starEach (e :: es) X.env = (false, eval e X.env) :: starEach es X.env := by rfl)
    (hpl : ((backTo pos (starEach (e :: es) X.env)).any (·.1) || (backToKw pos (keywordEach kws X.env)).any (·.1.isNone)) = false := by rfl) :
    PE X (.Call (.Name x p) (e :: es) kws pos) (tCallNS n ks.length sp gV E t tk) := by
  refine ⟨fun pins s σ H Q I h => wpAny_Call_Name_kw (ld_glob I hg hm ?_ hdb)⟩
  refine PySem.W.callWith_KW (h₀ := X.base) I.ok.mod.kin hk hall (thn (ha.run pos pins s σ H _ I h) fun us s1 hh => ?_) hpl he
  obtain ⟨vs, H1, I1, r, q⟩ := hh
  refine thn (hkw.run pos pins s1 σ H1 _ I1 q) fun ws s2 hh => ?_
  obtain ⟨zs, H2, I2, rz, l1, l2, q2⟩ := hh
  rw [hks]
  refine ⟨I2.kIn, wpAny_call (codeAny_mono (F.run X.A X.stack s2 H2 ⟨us, ks.zip ws⟩ (g us ws) (gV vs zs) Q (E σ) hr I2.env0 (hb.to s2 us ws I2.kIn (r.length.symm.trans l1) (rz.length.symm.trans l2)) (hb.rel r rz) q2) fun y s' hq => ?_)⟩
  cases y with
  | error er => exact hx σ pins H2 s2 er s' I2 hq
  | ok fl =>
    cases fl with
    | ret u => exact I2.after hq
    | _ => exact False.elim hq
end
section
variable {K : PySem.W.Frag} {n : Nat} {J : Jv n}
def fCallNX (F : FX) (n m : Nat) (gD : List PyData → List PyData → List PyData) (X : PyData → En → Prop) (f fk : FA) : FE := fun ρ P => f ρ fun ds ρ1 => fk ρ1 fun es ρ2 => ds.length = n ∧ es.length = m ∧ F ((gD ds es).map .fz) (fun d _ => P d ρ2) fun d _ => X d ρ2
theorem re_callNX {l n m : Nat} {F : FX} {gV : List V → List V → List V} {gD : List PyData → List PyData → List PyData} {X : PyData → En → Prop} {W : WX} {t tk : TA} {f fk : FA} (lk : Lk K J X W)
    (hl : ∀ ds es : List PyData, ds.length = n → es.length = m → (gD ds es).length = l)
    (hg : ∀ (vs zs : List V) (ds es : List PyData) (H : Hp), DqAll K H vs ds → DqAll K H zs es → DqAll K H (gV vs zs) (gD ds es)) (ha : RA K J t f) (hk : RA K J tk fk) : RE K J (tCallNS n m (spX K l F) gV (WE W) t tk) (fCallNX F n m gD X f fk) := by
  intro O as σ H Q ρ P E q k
  refine ha O as σ H _ ρ _ E q fun ds ρ1 vs H1 q1 f1 E1 d1 => ?_
  refine hk O as σ H1 _ ρ1 _ E1 q1 fun es ρ2 zs H2 q2 f2 E2 d2 => ?_
  obtain ⟨l1, l2, q2⟩ := q2
  refine ⟨by rw [d1.length]; exact l1, by rw [d2.length]; exact l2, ?_⟩
  refine call_coreX (xs := (gD ds es).map .dat) E2 (fits_dat _) (dat_ars (hg _ _ _ _ _ (d1.fr f2) d2)).toT (by rw [(hg _ _ _ _ _ (d1.fr f2) d2).length]; exact hl _ _ l1 l2) (by rw [List.length_map]; exact hl _ _ l1 l2) (by rw [ownIx_dat]; exact .nil) ?_ lk fun d ρ' v H' p fr E' q' => k d ρ' v H' p ((f1.trans f2).trans fr) E' q'
  simp only [wb_dat]
  exact q2
/-- calls by keywords of defs that are handed the store -/
def fCallNXS (sx l : Nat) (F : FX) (n m : Nat) (gD : List PyData → List PyData → List PyData) (X : PyData → En → Prop) (f fk : FA) : FE := fun ρ P => f ρ fun ds ρ1 => fk ρ1 fun es ρ2 => ds.length = n ∧ es.length = m ∧ match ρ2[sx]? with
  | some (.st S) => F ((gD ds es).map .fz ++ [.st S]) (fun d out => P d (ρ2.set sx ((out.drop l).headD .no))) fun d out => X d (ρ2.set sx ((out.drop l).headD .no))
  | _ => False
theorem re_callNXS {sx l n m : Nat} {F : FX} {gV : List V → List V → List V} {gD : List PyData → List PyData → List PyData} {X : PyData → En → Prop} {W : WX} {t tk : TA} {f fk : FA} (lk : Lk K J X W)
    (hl : ∀ ds es : List PyData, ds.length = n → es.length = m → (gD ds es).length = l)
    (hg : ∀ (vs zs : List V) (ds es : List PyData) (H : Hp), DqAll K H vs ds → DqAll K H zs es → DqAll K H (gV vs zs) (gD ds es)) (ha : RA K J t f) (hk : RA K J tk fk) : RE K J (tCallNS n m (spXS K l F) gV (WE W) t tk) (fCallNXS sx l F n m gD X f fk) := by
  intro O as σ H Q ρ P E q k
  refine ha O as σ H _ ρ _ E q fun ds ρ1 vs H1 q1 f1 E1 d1 => ?_
  refine hk O as σ H1 _ ρ1 _ E1 q1 fun es ρ2 zs H2 q2 f2 E2 d2 => ?_
  obtain ⟨l1, l2, q2⟩ := q2
  refine ⟨by rw [d1.length]; exact l1, by rw [d2.length]; exact l2, ?_⟩
  have L := hl _ _ l1 l2
  have D := hg _ _ _ _ _ (d1.fr f2) d2
  split at q2
  · next S hs =>
    refine call_coreX (xs := (gD ds es).map .dat ++ [.own sx]) E2 ((fits_dat _).app (.st hs .nil)) ((dat_ars D).snoc (E2.st_at hs).1) (by rw [D.length]; exact L) (by rw [List.length_append, List.length_map, L]; rfl) (by rw [ownIx_snoc, ownIx_dat]; exact List.nodup_cons.mpr ⟨List.not_mem_nil, .nil⟩) ?_ lk fun d ρ' v H' p fr E' q' => k d ρ' v H' p ((f1.trans f2).trans fr) E' q'
    simp only [wb_snoc, wb_dat, List.length_map, L]
    exact q2
  · exact q2.elim
def fCallNS (sx l : Nat) (F : FN) (n m : Nat) (gD : List PyData → List PyData → List PyData) (f fk : FA) : FE := fun ρ P => f ρ fun ds ρ1 => fk ρ1 fun es ρ2 => ds.length = n ∧ es.length = m ∧ match ρ2[sx]? with
  | some (.st S) => F ((gD ds es).map .fz ++ [.st S]) fun d out => P d (ρ2.set sx ((out.drop l).headD .no))
  | _ => False
theorem re_callNS {sx l n m : Nat} {F : FN} {gV : List V → List V → List V} {gD : List PyData → List PyData → List PyData} {E0 : XK} {t tk : TA} {f fk : FA}
    (hl : ∀ ds es : List PyData, ds.length = n → es.length = m → (gD ds es).length = l)
    (hg : ∀ (vs zs : List V) (ds es : List PyData) (H : Hp), DqAll K H vs ds → DqAll K H zs es → DqAll K H (gV vs zs) (gD ds es)) (ha : RA K J t f) (hk : RA K J tk fk) : RE K J (tCallN n m (spS K l F) gV E0 t tk) (fCallNS sx l F n m gD f fk) := by
  intro O as σ H Q ρ P E q k
  refine ha O as σ H _ ρ _ E q fun ds ρ1 vs H1 q1 f1 E1 d1 => ?_
  refine hk O as σ H1 _ ρ1 _ E1 q1 fun es ρ2 zs H2 q2 f2 E2 d2 => ?_
  obtain ⟨l1, l2, q2⟩ := q2
  refine ⟨by rw [d1.length]; exact l1, by rw [d2.length]; exact l2, ?_⟩
  have L := hl _ _ l1 l2
  have D := hg _ _ _ _ _ (d1.fr f2) d2
  split at q2
  · next S hs =>
    refine call_core (xs := (gD ds es).map .dat ++ [.own sx]) E2 ((fits_dat _).app (.st hs .nil)) ((dat_ars D).snoc (E2.st_at hs).1) (by rw [D.length]; exact L) (by rw [List.length_append, List.length_map, L]; rfl) (by rw [ownIx_snoc, ownIx_dat]; exact List.nodup_cons.mpr ⟨List.not_mem_nil, .nil⟩) ?_ fun d ρ' v H' p fr E' q' => k d ρ' v H' p ((f1.trans f2).trans fr) E' q'
    simp only [wb_snoc, wb_dat, List.length_map, L]
    exact q2
  · exact q2.elim
/-- a def that raises, where it doesn't -/
def noX (F : FX) : FN := fun ss P => F ss P fun _ _ => False
theorem noX_of {m : Nat} {F : FX} {vs : List V} {H : Hp} {Q : VK} {E : XK} (h : spF K m (noX F) vs H Q E) : spX K m F vs H Q E := by
  obtain ⟨hv, O, as, S, ρ, P, R, hl, hF, q⟩ := h
  exact ⟨hv, O, as, S, ρ, P, _, R, hl, hF, q, fun _ _ _ _ _ z => z.elim⟩
end
/-! is True, is False -/
theorem op_isB {X : Cx} : OpR X (compareOp .Is) (fun x y H Q => ∃ b, y = .bl b ∧ (∀ n, x ≠ .ty n) ∧ Q (.bl (decide (x = .bl b))) H) := by
  intro pins s σ H x y v u Q I rx ry h
  obtain ⟨b, rfl, nt, q⟩ := h
  cases ry
  have key : ∀ c : Bool, decide (x = V.bl b) = c → wpAny (model X.prog X.w) X.A (pure (.bool c)) (EP X pins σ Q) X.xe s := fun c e => wpAny_pure ⟨.bl c, H, I, rfl, by rw [← e]; exact q⟩
  cases x with
  | non => cases rx; exact key false rfl
  | bl c => cases rx; cases c <;> cases b <;> first | exact key true rfl | exact key false rfl
  | int i => obtain ⟨t, rfl⟩ := rx; exact key false rfl
  | str i => obtain ⟨t, rfl⟩ := rx; exact key false rfl
  | byt i => obtain ⟨t, rfl⟩ := rx; exact key false rfl
  | flt i => obtain ⟨t, rfl⟩ := rx; exact key false rfl
  | ref a => cases rx; exact key false rfl
  | ty n => exact absurd rfl (nt n)
def isBool (b : Bool) : PyData → Bool
  | .bool c => c == b
  | _ => false
def oIsT : G2 := fun a d P => match d with
  | .bool b => P (.bool (isBool b a))
  | _ => False
section
variable {K : PySem.W.Frag}
theorem rr_isB : RR K (fun x y H Q => ∃ b, y = .bl b ∧ (∀ n, x ≠ .ty n) ∧ Q (.bl (decide (x = .bl b))) H) oIsT := by
  intro A H Q x y a c P oc da db g k
  unfold oIsT at g
  split at g
  · next b =>
    cases db
    refine ⟨b, rfl, fun n => ?_, ?_⟩
    · cases da <;> exact fun z => nomatch z
    · have e : decide (x = V.bl b) = isBool b a := by
        cases da <;> first | rfl | (next z => cases z <;> cases b <;> rfl)
      rw [e]
      exact k _ _ _ g (Same.refl _) (.bl _)
  · exact g.elim
end
/-! what the printed texts use -/
theorem names_nil {X : Cx} : ∀ q ∈ ([] : List (Str × Pos × Value)), Names X q.1 q.2.2 := fun _ h => by cases h
theorem names_cons {X : Cx} {x : Str} {p : Pos} {c : Value} {r : List (Str × Pos × Value)} (h : Names X x c) (t : ∀ q ∈ r, Names X q.1 q.2.2) : ∀ q ∈ (x, p, c) :: r, Names X q.1 q.2.2 := fun q hq => by
  rcases List.mem_cons.mp hq with rfl | hq
  · exact h
  · exact t q hq
def tabL : List (Str × Bool) → Str → Option Bool
  | [], _ => none
  | (x, b) :: r, c => if c = x then some b else tabL r c
section
variable {K : PySem.W.Frag} {p : Addr → Bool → Prop}
theorem tab_nil : ∀ c C b, tabL [] c = some b → PySem.W.nsIn K mainGlobals c = some (some (.ref C)) → p C b := fun _ _ _ h => by cases h
theorem tab_cons {x : Str} {C0 : Addr} {b0 : Bool} {l : List (Str × Bool)} (q : PySem.W.nsIn K mainGlobals x = some (some (.ref C0))) (h : p C0 b0) (r : ∀ c C b, tabL l c = some b → PySem.W.nsIn K mainGlobals c = some (some (.ref C)) → p C b) :
    ∀ c C b, tabL ((x, b0) :: l) c = some b → PySem.W.nsIn K mainGlobals c = some (some (.ref C)) → p C b := fun c C b e n => by
  unfold tabL at e
  split at e
  · next z =>
    subst z
    cases e
    rw [q] at n
    cases n
    exact h
  · exact r c C b e n
theorem cls_nil {q : Addr → Prop} : ∀ c C, c ∈ ([] : List Str) → PySem.W.nsIn K mainGlobals c = some (some (.ref C)) → q C := fun _ _ h => by cases h
theorem cls_cons {q : Addr → Prop} {x : Str} {C0 : Addr} {l : List Str} (n0 : PySem.W.nsIn K mainGlobals x = some (some (.ref C0))) (h : q C0) (r : ∀ c C, c ∈ l → PySem.W.nsIn K mainGlobals c = some (some (.ref C)) → q C) : ∀ c C, c ∈ x :: l → PySem.W.nsIn K mainGlobals c = some (some (.ref C)) → q C := fun c C hc n => by
  rcases List.mem_cons.mp hc with rfl | hc
  · rw [n0] at n
    cases n
    exact h
  · exact r c C hc n
end
end DL
/-! the law's def over data; functions as data -/
namespace DL
open PySem L2 Z PySem.Spec PyProof.Rows
variable [Tbs]
section
variable {P : Program} {w : World} {K : PySem.W.Frag} {mg : Str → Option Value} {base : Heap} {k : Nat} {f : Addr} {fd : FuncData} {ps : List Str} {sp sp' : Sp}
theorem _root_.Z.FnG.imp (F : FnG P w K mg base k f fd ps sp) (h : ∀ vs H Q E, sp' vs H Q E → sp vs H Q E) : FnG P w K mg base k f fd ps sp' :=
  ⟨fun vs H Q E q => F.size vs H Q E (h vs H Q E q), fun A outer s H args us vs Q E hr c e b v q => F.goes A outer s H args us vs Q E hr c e b v (h vs H Q E q)⟩
def spLaw (K : PySem.W.Frag) : Sp := fun vs H Q _ => ∃ (a : Addr) (ns : List Int), vs = [.ref a] ∧ SqL K H a (ns.map V.int) ∧ ns.length ≤ 63 ∧ TabsOk H ∧ ∀ H', Q (.bl true) H'
/-- the store at the law's begin -/
def noS : Sto := fun _ => none
theorem sqL_noT {as : As} {H : Hp} {a : Addr} {xs : List V} (t : TabsOk H) (ha : ∀ i r, as i = some r → r = .sto) (h : SqL K H a xs) : SqL K (hq (fun _ => False) as ⟨H, noS⟩) a xs := by
  have no : ∀ o, H a = some o → (∀ ps, o ≠ .tbl ps) → ¬ Hid (fun _ => False) as ⟨H, noS⟩ a := fun o e n q => by
    rcases q with q | ⟨_, _, q, w⟩ | ⟨p, hp, q⟩
    · exact q
    · rw [ha _ _ q] at w
      exact w rfl
    · obtain ⟨ps, h1, _⟩ := t p hp
      rw [q, e] at h1
      exact n ps (Option.some.inj h1)
  rcases h with (h | ⟨o, h⟩) | h
  · exact .inl (.inl (hp_mk (no _ h fun _ z => by cases z) h))
  · exact .inl (.inr ⟨o, hp_mk (no _ h fun _ z => by cases z) h⟩)
  · exact .inr h
/-- the law's def -/
theorem law_of {F : FN} (hF : ∀ ns : List Int, ns.length ≤ 63 → F [.fz (.list (ns.map .int))] fun d _ => d = .bool true) {vs : List V} {H : Hp} {Q : VK} {E : XK} (h : spLaw K vs H Q E) : spF K 1 F vs H Q E := by
  obtain ⟨a, ns, rfl, hS, hl, tb, q⟩ := h
  refine ⟨rfl, fun _ => False, fun _ => none, noS, [.fz (.list (ns.map .int))], _, ⟨⟨Nat.le_refl _, Nat.le_succ _⟩, fun i sl e1 e2 => ?_, fun i sl o e1 e2 => ?_, fun i h => (by cases h), fun i j a _ _ h1 => (by cases h1), fun _ _ _ h _ => (by cases h), fun i a h => (by cases h), fun a z => z.elim, trivial, trivial, tb⟩, rfl, hF ns hl, fun d out v H' hd fr _ dv => ?_⟩
  · have h1 : i < 1 := (List.getElem?_eq_some_iff.mp e1).1
    have h2 : 1 ≤ i := e2
    omega
  · match i, e1, e2 with
    | 0, e1, e2 =>
      cases e1
      cases e2
      exact .fz (.lst (sqL_noT tb (fun _ _ z => by cases z) hS) (DqAll.ints _))
  · subst hd
    cases dv
    exact q _
/-- the law's def, which begins with an empty store -/
theorem law_ofS {F : FN} (hF : ∀ ns : List Int, ns.length ≤ 63 → F [.fz (.list (ns.map .int)), .st noS] fun d _ => d = .bool true) {vs : List V} {H : Hp} {Q : VK} {E : XK} (h : spLaw K vs H Q E) : spS K 1 F vs H Q E := by
  obtain ⟨a, ns, rfl, hS, hl, tb, q⟩ := h
  have as1 : ∀ i r, (if i = 1 then some Rg.sto else none) = some r → i = 1 ∧ r = .sto := fun i r h => by
    split at h
    · next z => cases h; exact ⟨z, rfl⟩
    · cases h
  refine ⟨rfl, fun _ => False, fun i => if i = 1 then some .sto else none, noS, [.fz (.list (ns.map .int)), .st noS], _, ⟨⟨Nat.le_succ _, Nat.le_refl _⟩, fun i sl e1 e2 => ?_, fun i sl o e1 e2 => ?_, fun i h => ?_, fun i j r r' b h1 h2 _ _ => by rw [(as1 i r h1).1, (as1 j r' h2).1], fun i r b h w => ?_, fun i r h => by rw [(as1 i r h).1]; exact Nat.lt_succ_self 1, fun a z => z.elim, trivial, trivial, tb⟩, rfl, hF ns hl, fun d out v H' hd fr _ dv => ?_⟩
  · have h1 : i < 2 := (List.getElem?_eq_some_iff.mp e1).1
    have h2 : 1 ≤ i := e2
    rw [if_pos (by omega)]
  · match i, e1, e2 with
    | 0, e1, e2 =>
      cases e1
      cases e2
      exact .fz (.lst (sqL_noT tb (fun i r z => (as1 i r z).2) hS) (DqAll.ints _))
  · rw [(as1 i _ h).1]
    exact ⟨rfl, rfl, fun a o e => by cases e⟩
  · rw [(as1 i r h).2] at w
    exact absurd rfl w
  · subst hd
    cases dv
    exact q _
end
/-! a local name that holds a def which may raise -/
structure HeldX (P : Program) (w : World) (K : PySem.W.Frag) (mg : Str → Option Value) (base : Heap) (k : Nat) (f : Addr) (sp : Sp) : Prop where
  ex : ∃ (fd : FuncData) (ps : List Str), FnOk P w K mg base (L2.CX P w) k f fd ps sp ∧ PySem.W.keepIn K (.ref f) = true ∧ Binds K fd ps []
def tCallV (i : Nat) (S : Addr → Sp → Prop) (E : L2.St → XK) (t : TA) : TE := fun σ H Q => ∃ f sp, σ[i]? = some (some (.ref f)) ∧ S f sp ∧ t σ H fun vs H1 => sp vs H1 Q (E σ)
section
variable {X : Cx} {k i : Nat} {E : L2.St → XK} {x : Str} {p pos : Pos} {e : Expr} {es : List Expr} {t : TA}
theorem pe_callV {S : Addr → Sp → Prop} (A : ∀ f sp, S f sp → HeldX X.prog X.w X.K X.mg X.base k f sp) (hr : Room k X.A) (hN : X.N[i]? = some x) (hv : Vis X.env.scope x) (hx : ∀ σ, PassesAt (L2.CX X.prog X.w) X σ (E σ)) (ha : PA X (e :: es) t)
    (hdb : (x == ("__debug__" : Str)) = false := by decide) (hcd : (x == ("__classdict__" : Str)) = false := by decide)
    (he : starEach (e :: es) X.env = (false, eval e X.env) :: starEach es X.env := by rfl) (hpl : (backTo pos (starEach es X.env)).any (·.1) = false := by rfl) : PE X (.Call (.Name x p) (e :: es) [] pos) (tCallV i S E t) := by
  refine ⟨fun pins s σ H Q I h => ?_⟩
  obtain ⟨f, sp, hs, hS, ht⟩ := h
  obtain ⟨fd, ps, F, hk, hb⟩ := (A f sp hS).ex
  refine wpAny_Call_Name_kw (thn ((pe_var (pos := p) hN hv hdb hcd).run pins s σ H (fun v H1 => v = .ref f ∧ H1 = H) I ⟨.ref f, hs, rfl, rfl⟩) fun u s1 ⟨v, H1, I1, r1, q1⟩ => ?_)
  obtain ⟨rfl, rfl⟩ := q1
  cases r1
  refine PySem.W.callWith_K (h₀ := X.base) I.ok.mod.kin hk (thn (ha.run pos pins s1 σ _ _ I1 ht) fun us s2 ⟨vs, H2, I2, r, q⟩ => ⟨I2.kIn, ?_⟩) he hpl
  exact run_fnSD F hr hb .nil (hx σ) I2 r (by rw [List.append_nil]; exact q)
end
section
variable {K : PySem.W.Frag} {n : Nat} {J : Jv n}
def fnD (x : Str) : PyData := .dict [(.str x, .int 0)]
def funF (ρ : En) (i : Nat) (k : Str → Prop) : Prop := match ρ[i]? with
  | some (.fz (.dict [(.str x, .int 0)])) => k x
  | _ => False
theorem funF_of {ρ : En} {i : Nat} {k : Str → Prop} (h : funF ρ i k) : ∃ x, ρ[i]? = some (.fz (fnD x)) ∧ k x := by
  unfold funF at h
  split at h
  · next x e => exact ⟨x, e, h⟩
  · exact h.elim
def tabF : List (Str × Nat × FX) → Str → (Nat → FX → Prop) → Prop
  | [], _, _ => False
  | (y, m, F) :: l, x, k => if y = x then k m F else tabF l x k
theorem tabF_of {x : Str} {k : Nat → FX → Prop} : ∀ {l : List (Str × Nat × FX)}, tabF l x k → ∃ m F, (x, m, F) ∈ l ∧ k m F
  | [], h => h.elim
  | (y, m, F) :: l, h => by
    unfold tabF at h
    split at h
    · next e => subst e; exact ⟨m, F, List.mem_cons_self, h⟩
    · obtain ⟨m', F', hm, hk⟩ := tabF_of h
      exact ⟨m', F', List.mem_cons_of_mem _ hm, hk⟩
theorem Dq.fn_of {G : Hp} {v : V} {x : Str} (q : Dq K G v (fnD x)) : ∃ f, v = .ref f ∧ PySem.W.nsIn K mainGlobals x = some (some (.ref f)) := by
  unfold fnD at q
  cases q with
  | fnc h => exact ⟨_, rfl, h⟩
/-- the def that a slot holds, called -/
def fCallV (i : Nat) (tab : List (Str × Nat × FX)) (X : PyData → En → Prop) (a : FC) : FE := fun ρ P => funF ρ i fun x => tabF tab x fun m F => a ρ fun xs ρ1 => xs.length = m ∧ (ownIx xs).Nodup ∧ argF ρ1 xs fun r => F r (fun d out => P d (wb ρ1 xs out)) fun d out => X d (wb ρ1 xs out)
theorem re_callV {i : Nat} {S : Addr → Sp → Prop} {tab : List (Str × Nat × FX)} {X : PyData → En → Prop} {W : WX} {t : TA} {f : FC} (l : Lk K J X W) (hS : ∀ x m F a, (x, m, F) ∈ tab → PySem.W.nsIn K mainGlobals x = some (some (.ref a)) → S a (spX K m F)) (ha : RC K J t f) : RE K J (tCallV i S (WE W) t) (fCallV i tab X f) := by
  intro O as σ H Q ρ P E q k
  obtain ⟨x, hx, q⟩ := funF_of q
  obtain ⟨m, F, hm, q⟩ := tabF_of q
  obtain ⟨v, e1, _, d0⟩ := E.fz_at hx
  obtain ⟨a, rfl, hn⟩ := Dq.fn_of d0
  refine ⟨a, _, e1, hS x m F a hm hn, ?_⟩
  refine ha O as σ H _ ρ _ E q fun xs ρ1 vs H1 q1 f1 E1 d1 => ?_
  obtain ⟨hm, nd, q1⟩ := q1
  obtain ⟨r, fit, q1⟩ := argF_of q1
  exact call_coreX (e := 0) E1 fit d1.toT (by rw [d1.len]; exact hm) hm nd q1 l fun d ρ' v H' p fr E' q' => k d ρ' v H' p (f1.trans fr) E' q'
theorem held_nil {S : Addr → Sp → Prop} : ∀ x m F a, (x, m, F) ∈ ([] : List (Str × Nat × FX)) → PySem.W.nsIn K mainGlobals x = some (some (.ref a)) → S a (spX K m F) := fun _ _ _ _ h => by cases h
theorem held_cons {S : Addr → Sp → Prop} {x0 : Str} {m0 : Nat} {F0 : FX} {a0 : Addr} {l : List (Str × Nat × FX)} (q : PySem.W.nsIn K mainGlobals x0 = some (some (.ref a0))) (h : S a0 (spX K m0 F0)) (r : ∀ x m F a, (x, m, F) ∈ l → PySem.W.nsIn K mainGlobals x = some (some (.ref a)) → S a (spX K m F)) :
    ∀ x m F a, (x, m, F) ∈ (x0, m0, F0) :: l → PySem.W.nsIn K mainGlobals x = some (some (.ref a)) → S a (spX K m F) := fun x m F a hm hn => by
  rcases List.mem_cons.mp hm with e | e
  · cases e
    rw [q] at hn
    cases hn
    exact h
  · exact r x m F a e hn
end
/-! a list or a tuple, walked -/
def iAny (K : PySem.W.Frag) (tl : TE) : TI := fun σ H R => tl σ H fun x H1 => ∃ a, x = .ref a ∧ (((∃ xs, SqL K H1 a xs) ∧ R (Itl K a) H1) ∨ ((∃ xs, SqT K H1 a xs) ∧ R (Itt K a) H1))
theorem pi_any {X : Cx} {tg l : Expr} {tl : TE} (hl : PE X l tl) : PI X tg l (iAny X.K tl) := by
  refine ⟨fun pins s σ H R I h => ?_⟩
  refine thn (hl.run pins s σ H _ I h) fun v s1 ⟨x, H1, I1, r1, q1⟩ => ?_
  obtain ⟨a, e, q1⟩ := q1
  subst e
  cases r1
  rcases q1 with ⟨⟨xs, hq⟩, q⟩ | ⟨⟨xs, hq⟩, q⟩
  · obtain ⟨its, rv, p, hz⟩ := I1.list hq
    refine wpAny_pyIter_list p.isList ?_
    refine ⟨s1.heap.objs.size, [s1.heap.objs.size], _, _, H1, rfl, I1.kept (t' := s1.toks) fun b o e => Heap.get?_push_of_some _ e, turn_list a _, ⟨_, Heap.get?_push_size _ rfl, rfl, rfl⟩, fun b hb => ?_, q⟩
    have e : b = s1.heap.objs.size := by simpa using hb
    subst e
    exact I1.fpOk (Nat.le_refl _) (I1.hok.fresh (Nat.le_refl _))
  · obtain ⟨its, rv, p, hz⟩ := I1.tuple hq
    refine wpAny_pyIter_tuple (show s1.heap.IsTuple a its.toArray from p) ?_
    refine ⟨s1.heap.objs.size, [s1.heap.objs.size], _, _, H1, rfl, I1.kept (t' := s1.toks) fun b o e => Heap.get?_push_of_some _ e, turn_tuple a _, ⟨_, Heap.get?_push_size _ rfl, rfl, rfl⟩, fun b hb => ?_, q⟩
    have e : b = s1.heap.objs.size := by simpa using hb
    subst e
    exact I1.fpOk (Nat.le_refl _) (I1.hok.fresh (Nat.le_refl _))
section
variable {K : PySem.W.Frag} {n : Nat} {J : Jv n}
def iA (f : FE) : FA := fun ρ P => f ρ fun d ρ1 => seqF d fun ds => P ds ρ1
theorem ri_any {tl : TE} {f : FE} (h : RE K J tl f) : RI K J (iAny K tl) (iA f) := by
  intro O as σ H R ρ P E q k
  refine h O as σ H _ ρ _ E q fun d ρ1 v H1 q1 f1 E1 d1 => ?_
  unfold seqF at q1
  split at q1
  · next ds =>
    obtain ⟨a, xs, rfl, s, r⟩ := d1.list_of
    refine ⟨a, rfl, .inl ⟨⟨_, SqL.mono hp_same s⟩, k _ _ _ _ q1 f1 E1 ?_⟩⟩
    refine ⟨_, _, by rw [← r.length]; exact walk_list (xs := xs), fun A' H2 s2 => SqL.mono hp_same (SqL.mono s2 s), fun i d A' H2 x H3 hd s2 oc y => ?_⟩
    obtain ⟨rfl, hx⟩ := y
    obtain ⟨d', e, q⟩ := r.get hx
    rw [hd] at e
    cases e
    exact ⟨Same.refl _, q.mono s2⟩
  · next ds =>
    obtain ⟨a, xs, rfl, s, r⟩ := d1.tuple_of
    refine ⟨a, rfl, .inr ⟨⟨_, SqT.mono hp_same s⟩, k _ _ _ _ q1 f1 E1 ?_⟩⟩
    refine ⟨_, _, by rw [← r.length]; exact walk_tup (xs := xs), fun A' H2 s2 => SqT.mono hp_same (SqT.mono s2 s), fun i d A' H2 x H3 hd s2 oc y => ?_⟩
    obtain ⟨rfl, hx⟩ := y
    obtain ⟨d', e, q⟩ := r.get hx
    rw [hd] at e
    cases e
    exact ⟨Same.refl _, q.mono s2⟩
  · exact q1.elim
end
end DL
/-! texts and tuples turned about -/
namespace DL
open PySem L2 Z PySem.Spec PyProof.Rows
variable [Tbs]
section
variable {X : Cx}
def revS (z : Str) : Str := ⟨z.cps.toList.reverse.toArray⟩
theorem rev_picked (z : Str) : ((Builtin.Str.strSliceIndices none none (-1) z.length).filterMap (z.cps[·]?)) = z.cps.toList.reverse := by
  show ((sliceRange ((z.length : Int) - 1) (-1) (-1)).filterMap (z.cps[·]?)) = _
  rw [PySem.W.krv_sliceRange, PySem.W.krv_range, List.filterMap_reverse]
  exact congrArg List.reverse (PySem.W.krv_all z.cps)
def tRevS (te : TE) : TE := fun σ H Q => te σ H fun x H1 => ∃ z, x = .str z ∧ z.length ≤ sizeLine ∧ Q (.str (revS z)) H1
theorem pe_revS {e : Expr} {te : TE} {k : Nat} {p1 p2 p3 pos : Pos} (he : PE X e te) : PE X (.Subscript e (.Slice none none (some (.UnaryOp .USub (.Constant (.int 1) k p1) p2)) p3) pos) (tRevS te) := by
  refine ⟨fun pins s σ H Q I h => ?_⟩
  refine Subscript_ (thn (he.run pins s σ H _ I h) fun v s1 ⟨x, H1, I1, r1, q1⟩ => ?_)
  obtain ⟨z, ex, hz, q⟩ := q1
  subst ex
  obtain ⟨t, rfl⟩ := r1
  have hst : PO X (some (.UnaryOp .USub (.Constant (.int 1) k p1) p2)) (tPart (tUn (rU fun i => .int (-i)) (tC (.int 1)))) := po_some (pe_un un_neg pe_int)
  refine wpAny_Slice (thn (po_none.run pins s1 σ H1 (fun o H2 => o = none ∧ H2 = H1) I1 ⟨rfl, rfl⟩) fun vl s2 ⟨l, H2, I2, pl, el, e2⟩ => ?_)
  subst el e2
  refine thn (po_none.run pins s2 σ H2 (fun o H3 => o = none ∧ H3 = H2) I2 ⟨rfl, rfl⟩) fun vu s3 ⟨u, H3, I3, pu, eu, e3⟩ => ?_
  subst eu e3
  refine thn (hst.run pins s3 σ H3 (fun o H4 => o = some (-1) ∧ H4 = H3) I3 ⟨1, rfl, -1, rfl, rfl, rfl⟩) fun vs s4 ⟨o, H4, I4, ps, eo, e4⟩ => ?_
  subst eo e4
  have I5 : Inv X pins σ H4 { s4 with heap := s4.heap.push { cls := .type "slice", data := .fields #[vl, vu, vs] } } := I4.kept (t' := s4.toks) fun b ob q => Heap.get?_push_of_some _ q
  obtain ⟨l, rfl, hl⟩ := IsPart.raw pl
  obtain ⟨u, rfl, hu⟩ := IsPart.raw pu
  obtain ⟨st, rfl, hs⟩ := IsPart.raw ps
  cases l with
  | some _ => cases hl
  | none =>
  cases u with
  | some _ => cases hu
  | none =>
  cases st with
  | none => cases hs
  | some st =>
  obtain ⟨i, tk⟩ := st
  cases hs
  show wpAny (model X.prog X.w) X.A (subscriptTail e (.Slice none none (some (.UnaryOp .USub (.Constant (.int 1) k p1) p2)) p3) (.str z t) (.ref s4.heap.objs.size)) (EP X pins σ Q) X.xe _
  refine tail_any (ops := [.str z t, .ref s4.heap.objs.size]) (typeIs_str _ _ _) F.slot_str_getitem.lookup ?_ (by with_unfolding_all rfl)
  refine wpAny_getItem_str_slice (l := none) (u := none) (st := some (-1, tk)) ⟨_, Heap.get?_push_size _ rfl, rfl, rfl⟩ rfl ?_
  show Made.post (Made.str ⟨((Builtin.Str.strSliceIndices none none (-1) z.length).filterMap (z.cps[·]?)).toArray⟩) (EP X pins σ Q) _
  rw [rev_picked]
  exact ⟨by show z.cps.toList.reverse.toArray.size ≤ _; rw [List.size_toArray, List.length_reverse]; exact hz, .str _, H4, I5.tok _, ⟨_, rfl⟩, q⟩
end
section
variable {K : PySem.W.Frag} {n : Nat} {J : Jv n}
def fRevS (a : FE) : FE := fun ρ P => a ρ fun d ρ1 => strF d fun z => z.length ≤ sizeLine ∧ P (.str (revS z)) ρ1
theorem re_revS {te : TE} {a : FE} (ha : RE K J te a) : RE K J (tRevS te) (fRevS a) := by
  intro O as σ H Q ρ P E q k
  refine ha O as σ H _ ρ _ E q fun d ρ1 v H1 q1 f1 E1 d1 => ?_
  unfold strF at q1
  split at q1
  · cases d1
    exact ⟨_, rfl, q1.1, k _ _ _ _ q1.2 f1 E1 (.str _)⟩
  · exact q1.elim
end
end DL
/-! numbers and truths; repr and str of any data; tuples turned about -/
namespace DL
open PySem L2 Z PySem.Spec PyProof.Rows
variable [Tbs]
section
variable {X : Cx}
def numV : V → Option Int
  | .int i => some i
  | .bl b => some (b2i b)
  | _ => none
def rNum (f : Int → Int → Int) : R2 := fun x y H Q => ∃ i j, numV x = some i ∧ numV y = some j ∧ Q (.int (f i j)) H
theorem op_addN : OpR X (binaryOp .Add) (rNum (· + ·)) := by
  intro pins s σ H x y v u Q I rx ry h
  obtain ⟨i, j, h1, h2, q⟩ := h
  cases x with
  | bl b =>
    cases h1
    cases rx
    cases y with
    | bl c => cases h2; cases ry; exact add_bool ⟨.int _, H, I.tok _, ⟨_, rfl⟩, q⟩
    | int c => cases h2; obtain ⟨t, rfl⟩ := ry; exact PySem.IntBool.add_bool_int ⟨.int _, H, I.tok _, ⟨_, rfl⟩, q⟩
    | _ => cases h2
  | int b =>
    cases h1
    cases y with
    | bl c => cases h2; obtain ⟨t, rfl⟩ := rx; cases ry; exact add_int_bool ⟨.int _, H, I.tok _, ⟨_, rfl⟩, q⟩
    | int c => cases h2; exact op_add pins s σ H _ _ v u Q I rx ry ⟨_, _, rfl, rfl, q⟩
    | _ => cases h2
  | _ => cases h1
theorem op_subN : OpR X (binaryOp .Sub) (rNum (· - ·)) := by
  intro pins s σ H x y v u Q I rx ry h
  obtain ⟨i, j, h1, h2, q⟩ := h
  cases x with
  | bl b =>
    cases h1
    cases rx
    cases y with
    | bl c => cases h2; cases ry; exact sub_bool ⟨.int _, H, I.tok _, ⟨_, rfl⟩, q⟩
    | int c => cases h2; obtain ⟨t, rfl⟩ := ry; exact PySem.IntBool.sub_bool_int ⟨.int _, H, I.tok _, ⟨_, rfl⟩, q⟩
    | _ => cases h2
  | int b =>
    cases h1
    cases y with
    | bl c => cases h2; obtain ⟨t, rfl⟩ := rx; cases ry; exact PySem.IntBool.sub_int_bool ⟨.int _, H, I.tok _, ⟨_, rfl⟩, q⟩
    | int c => cases h2; exact op_sub pins s σ H _ _ v u Q I rx ry ⟨_, _, rfl, rfl, q⟩
    | _ => cases h2
  | _ => cases h1
/-- repr(x), x any data -/
theorem call_reprV (calm : X.A.guards = some []) (hu : X.A.units + 64 < cLine) : CallR X (.builtin "repr") (fun xs H Q => ∃ (v : V) (d : PyData), xs = [v] ∧ Dp X.K H v d ∧
    d.showable = true ∧ d.depth ≤ 60 ∧ d.shown.length ≤ sizeLine ∧ Q (.str d.shown) H) := by
  intro pins s σ H xs us Q I r h
  obtain ⟨v, d, rfl, hd, sh, dp, sz, q⟩ := h
  obtain ⟨u, rfl, rx⟩ := vals1 r
  clear r
  cases hd with
  | non => cases rx; exact PySem.P.repr_of_none ⟨.str _, H, I.tok _, ⟨_, rfl⟩, q⟩
  | bl b => cases rx; exact PySem.P.repr_of_bool ⟨.str _, H, I.tok _, ⟨_, rfl⟩, q⟩
  | int i => obtain ⟨t, rfl⟩ := rx; exact PySem.P.repr_of_int (of_decide_eq_true sh) ⟨.str _, H, I.tok _, ⟨_, rfl⟩, q⟩
  | str z => obtain ⟨t, rfl⟩ := rx; exact PySem.P.repr_of_str ⟨.str _, H, I.tok _, ⟨_, rfl⟩, q⟩ sz
  | lst h r =>
    obtain ⟨as, rd⟩ := Dp.reads I (.list _) _ u (.lst h r) rx
    cases rx
    exact repr_of_reads' rd sh (PyData.noDict_hsm (Dp.plain (.lst h r))) calm (by omega) (fun _ _ e => e) (fun h' u tk hk => ⟨.str _, H, I.kept (t' := tk) hk, ⟨u, rfl⟩, q⟩) sz
  | tup h r =>
    obtain ⟨as, rd⟩ := Dp.reads I (.tuple _) _ u (.tup h r) rx
    cases rx
    exact repr_of_reads' rd sh (PyData.noDict_hsm (Dp.plain (.tup h r))) calm (by omega) (fun _ _ e => e) (fun h' u tk hk => ⟨.str _, H, I.kept (t' := tk) hk, ⟨u, rfl⟩, q⟩) sz
/-- str(x) of what stands by itself -/
def strV : V → Option Str
  | .non => some "None"
  | .bl b => some (if b then "True" else "False")
  | .int i => if i.natAbs.log2 < 1920 then some (toString i) else none
  | .str z => some z
  | _ => none
theorem call_strV : CallR X (.type "str") (fun xs H Q => ∃ v z, xs = [v] ∧ strV v = some z ∧ Q (.str z) H) := by
  intro pins s σ H xs us Q I r h
  obtain ⟨v, z, rfl, hz, q⟩ := h
  obtain ⟨u, rfl, rx⟩ := vals1 r
  cases v with
  | non => cases hz; cases rx; exact PySem.P.str_of_none ⟨.str _, H, I.tok _, ⟨_, rfl⟩, q⟩
  | bl b => cases hz; cases rx; exact PySem.P.str_of_bool ⟨.str _, H, I.tok _, ⟨_, rfl⟩, q⟩
  | int i =>
    obtain ⟨t, rfl⟩ := rx
    have hz' : (if i.natAbs.log2 < 1920 then some (Str.ofString (toString i)) else none) = some z := hz
    split at hz'
    · next hl => cases hz'; exact PySem.P.str_of_int hl ⟨.str _, H, I.tok _, ⟨_, rfl⟩, q⟩
    · cases hz'
  | str x => cases hz; obtain ⟨t, rfl⟩ := rx; exact PySem.P.str_of_str ⟨.str _, H, I, ⟨_, rfl⟩, q⟩
  | _ => cases hz
/-! ### t[::-1] -/
theorem places_rev (n : Nat) : Builtin.Slice.sliceAdjust none none (-1) (n : Int) = ((n : Int) - 1, -1) ∧ Builtin.Slice.slicePlaces ((n : Int) - 1) (-1) (-1) = n := by
  refine ⟨rfl, ?_⟩
  unfold Builtin.Slice.slicePlaces
  have h1 : ¬ ((-1 : Int) > 0) := by decide
  rw [if_neg h1]
  split
  · rw [show (- -1 : Int) = 1 from rfl, Int.ediv_one]
    omega
  · omega
theorem pick_rev (xs : Array Value) : ((List.range xs.size).filterMap fun (m : Nat) => xs[(((xs.size : Int) - 1) + (m : Int) * (-1)).toNat]?) = xs.toList.reverse := by
  have e : ((List.range xs.size).filterMap fun (m : Nat) => xs[(((xs.size : Int) - 1) + (m : Int) * (-1)).toNat]?) = ((List.range xs.size).map fun m => xs.size - 1 - m).filterMap (xs[·]?) := by
    rw [List.filterMap_map]
    have gen : ∀ l : List Nat, (∀ m ∈ l, m < xs.size) → (l.filterMap fun (m : Nat) => xs[(((xs.size : Int) - 1) + (m : Int) * (-1)).toNat]?) = l.filterMap ((fun x => xs[x]?) ∘ fun m => xs.size - 1 - m) := by
      intro l
      induction l with
      | nil => intro _; rfl
      | cons m l ih =>
        intro h
        have hm := h m List.mem_cons_self
        have e : (((xs.size : Int) - 1) + (m : Int) * (-1)).toNat = xs.size - 1 - m := by omega
        rw [List.filterMap_cons, List.filterMap_cons, ih fun k hk => h k (List.mem_cons_of_mem _ hk), e]
        rfl
    exact gen _ fun m hm => List.mem_range.mp hm
  rw [e, PySem.W.krv_range, List.filterMap_reverse, PySem.W.krv_all]
theorem getItem_tuple_rev {prog : Program} {w : World} {A : Around} {E : Value → Shared → Prop} {s : Shared} {t sl : Addr} {items : Array Value} {vl vu vs : Value} {Q : Value → Shared → Prop} (ht : IsTup s.heap t items) (hs : s.heap.IsSliceOf sl vl vu vs) (pl : IsPart vl none) (pu : IsPart vu none) (ps : IsPart vs (some (-1)))
    (h : Q (.ref s.heap.objs.size) { s with heap := s.heap.push { cls := .type "tuple", data := .seq items.toList.reverse.toArray } })
    (hsz : items.size ≤ sizeLine) : wpAny (model prog w) A (getItem (.ref t) (.ref sl)) Q E s := by
  have htake : sizeOk (.seq items.toList.reverse.toArray) := by
    show items.toList.reverse.toArray.size ≤ sizeLine
    rw [List.size_toArray, List.length_reverse, Array.length_toList]
    exact hsz
  obtain ⟨os, hos, hcs, hds⟩ := id hs
  have hTs : s.TypeIs (.ref sl) "slice" := ⟨os, hos, hcs⟩
  unfold getItem
  try with_reducible refine wpAny_holding ?_
  first | refine wpAny_bind (wpAny_pure ?_) | skip
  refine wpAny_bind (wpAny_sequenceKey ht.typeIs (by decide) ?_)
  refine wpAny_bind (wpAny_callSpecial?_slot (name := Str.ofString "__getitem__") ht.typeIs PyProof.Rows.slot_tuple_getitem
    (wpAny_call_entry PyProof.Rows.slot_tuple_getitem ht.typeIs entry_tuple_getitem ?_ (args_tuple_getitem _ _)))
  show wpAny _ _ (Builtin.Tuple.tupleItemsOf (.ref t) >>= _) _ _ s
  refine wpAny_bind (tupleItemsOf_ ht ?_)
  refine wpAny_bind (wpAny_typeOf hTs ?_)
  rw [if_pos (by decide)]
  refine wpAny_bind ?_
  unfold Builtin.Slice.sliceApplied Builtin.Slice.sliceFields
  refine wpAny_bind (wpAny_bind (wpAny_field hos hds (x := vl) rfl (wpAny_bind (wpAny_field hos hds (x := vu) rfl (wpAny_bind (wpAny_field hos hds (x := vs) rfl (wpAny_pure ?_)))))))
  refine wpAny_bind (HT.slicePart_ ps ?_)
  show wpAny _ _ (if ((-1 : Int) == 0) = true then _ else _) _ _ s
  rw [if_neg (by decide)]
  refine wpAny_bind (HT.slicePart_ pl (wpAny_bind (HT.slicePart_ pu (wpAny_bind (wpAny_pure ?_)))))
  show wpAny _ _ (match Builtin.Slice.sliceAdjust none none (-1) (items.size : Int) with | (lo, hi) => pure (lo, (-1 : Int), Builtin.Slice.slicePlaces lo hi (-1))) _ _ s
  rw [(places_rev _).1]
  show wpAny _ _ (pure (((items.size : Int) - 1), (-1 : Int), Builtin.Slice.slicePlaces ((items.size : Int) - 1) (-1) (-1))) _ _ s
  rw [(places_rev _).2]
  refine wpAny_pure ?_
  show wpAny _ _ (if (((items.size : Int) - 1) == 0 && (-1 : Int) == 1 && items.size == items.size) = true then _ else _) _ _ s
  rw [if_neg (by rw [show ((-1 : Int) == 1) = false from rfl, Bool.and_false, Bool.false_and]; decide), pick_rev]
  first
    | exact wpAny_bind (m := Builtin.Tuple.tupleExact _) (wpAny_newObj_type (wpAny_pure ⟨_, rfl, wpAny_pure h⟩) htake)
    | exact wpAny_bind (m := Builtin.Tuple.tupleExact _) (wpAny_newObj_type (wpAny_bind (wpAny_pure (wpAny_pure ⟨_, rfl, wpAny_pure h⟩))) htake)
    | exact wpAny_bind (wpAny_bind (m := Builtin.Tuple.tupleExact _) (wpAny_newObj_type (wpAny_pure (wpAny_pure ⟨_, rfl, wpAny_pure h⟩)) htake))
    | exact wpAny_bind (wpAny_bind (m := Builtin.Tuple.tupleExact _) (wpAny_newObj_type (wpAny_pure ⟨_, rfl, wpAny_pure h⟩) htake))
def tRevT (K : PySem.W.Frag) (te : TE) : TE := fun σ H Q => te σ H fun x H1 => ∃ a xs, x = .ref a ∧ SqT K H1 a xs ∧ ∀ p, H1 p = none → Q (.ref p) (upd H1 p (.tup xs.reverse))
theorem pe_revT {e : Expr} {te : TE} {k : Nat} {p1 p2 p3 pos : Pos} (he : PE X e te) : PE X (.Subscript e (.Slice none none (some (.UnaryOp .USub (.Constant (.int 1) k p1) p2)) p3) pos) (tRevT X.K te) := by
  refine ⟨fun pins s σ H Q I h => ?_⟩
  refine Subscript_ (thn (he.run pins s σ H _ I h) fun v s1 ⟨x, H1, I1, r1, q1⟩ => ?_)
  obtain ⟨a, xs, ex, hx, q⟩ := q1
  subst ex
  cases r1
  have hst : PO X (some (.UnaryOp .USub (.Constant (.int 1) k p1) p2)) (tPart (tUn (rU fun i => .int (-i)) (tC (.int 1)))) := po_some (pe_un un_neg pe_int)
  refine wpAny_Slice (thn (po_none.run pins s1 σ H1 (fun o H2 => o = none ∧ H2 = H1) I1 ⟨rfl, rfl⟩) fun vl s2 ⟨l, H2, I2, pl, el, e2⟩ => ?_)
  subst el e2
  refine thn (po_none.run pins s2 σ H2 (fun o H3 => o = none ∧ H3 = H2) I2 ⟨rfl, rfl⟩) fun vu s3 ⟨u, H3, I3, pu, eu, e3⟩ => ?_
  subst eu e3
  refine thn (hst.run pins s3 σ H3 (fun o H4 => o = some (-1) ∧ H4 = H3) I3 ⟨1, rfl, -1, rfl, rfl, rfl⟩) fun vs s4 ⟨o, H4, I4, ps, eo, e4⟩ => ?_
  subst eo e4
  have I5 : Inv X pins σ H4 { s4 with heap := s4.heap.push { cls := .type "slice", data := .fields #[vl, vu, vs] } } := I4.kept (t' := s4.toks) fun b ob q => Heap.get?_push_of_some _ q
  obtain ⟨its, r, ht, hz⟩ := I5.tuple hx
  have hlen := r.length
  show wpAny (model X.prog X.w) X.A (subscriptTail e (.Slice none none (some (.UnaryOp .USub (.Constant (.int 1) k p1) p2)) p3) (.ref a) (.ref s4.heap.objs.size)) (EP X pins σ Q) X.xe { s4 with heap := s4.heap.push { cls := .type "slice", data := .fields #[vl, vu, vs] } }
  refine tail_any (ops := [.ref a, .ref s4.heap.objs.size]) ht.typeIs (PyProof.Rows.slot_tuple_getitem.lookup) ?_ (by with_unfolding_all rfl)
  refine getItem_tuple_rev ht (Heap.IsSliceOf.new _ vl vu vs) pl pu ps ?_ (by rw [List.size_toArray]; omega)
  refine ⟨.ref _, _, I5.laid (t' := s4.toks) (o := .tup xs.reverse) (fun b ob q => Heap.get?_push_of_some _ q) (Nat.le_refl _) ?_, rfl, q _ (I5.hok.fresh (Nat.le_refl _))⟩
  exact ⟨by rw [List.length_reverse]; exact hz, _, r.reverse, IsTup.new _ _⟩
end
section
variable {K : PySem.W.Frag} {n : Nat} {J : Jv n}
def fRevT (a : FE) : FE := fun ρ P => a ρ fun d ρ1 => tupleF d fun ds => P (.tuple ds.reverse) ρ1
theorem re_revT {te : TE} {a : FE} (ha : RE K J te a) : RE K J (tRevT K te) (fRevT a) := by
  intro O as σ H Q ρ P E q k
  refine ha O as σ H _ ρ _ E q fun d ρ1 v H1 q1 f1 E1 d1 => ?_
  unfold tupleF at q1
  split at q1
  · obtain ⟨a, xs, rfl, s, r⟩ := d1.tuple_of
    refine ⟨a, xs, rfl, SqT.mono hp_same s, fun p hp1 => ?_⟩
    have sm := Same.new (o := .tup xs.reverse) hp1
    exact k _ _ _ _ q1 (f1.trans (E1.frS sm)) (E1.grow sm) (.tup (SqT.of (hp_mk (E1.fresh1 hp1) upd_same)) ((r.mono (E1.hgrow sm)).rev))
  · exact q1.elim
def numD : PyData → Option Int
  | .int i => some i
  | .bool b => some (if b then 1 else 0)
  | _ => none
def oNumD (f : Int → Int → Int) : G2 := fun a b P => match numD a, numD b with
  | some i, some j => P (.int (f i j))
  | _, _ => False
theorem numD_of {H : Hp} {x : V} {a : PyData} (d : Dq K H x a) {i : Int} (h : numD a = some i) : numV x = some i := by
  cases d <;> first | cases h; rfl | cases h
theorem rr_num {f : Int → Int → Int} : RR K (rNum f) (oNumD f) := by
  intro A H Q x y a b P oc da db g k
  unfold oNumD at g
  split at g
  · next i j h1 h2 => exact ⟨i, j, numD_of da h1, numD_of db h2, k _ _ _ g (Same.refl _) (.int _)⟩
  · exact g.elim
abbrev oAddN : G2 := oNumD (· + ·)
abbrev oSubN : G2 := oNumD (· - ·)
def bReprV (ds : List PyData) (P : PyData → Prop) : Prop := one ds fun d => d.hasDict = false ∧ d.showable = true ∧ d.depth ≤ 60 ∧ d.shown.length ≤ sizeLine ∧ P (.str d.shown)
theorem rb_reprV : RB K (fun xs H Q => ∃ (v : V) (d : PyData), xs = [v] ∧ Dp K H v d ∧ d.showable = true ∧ d.depth ≤ 60 ∧ d.shown.length ≤ sizeLine ∧ Q (.str d.shown) H) bReprV := by
  intro A H Q xs ds P oc r g k
  obtain ⟨v, d, rfl, q, g⟩ := one_of r g
  exact ⟨v, d, rfl, Dp.mono hp_same (q.dp g.1), g.2.1, g.2.2.1, g.2.2.2.1, k _ _ _ g.2.2.2.2 (Same.refl _) (.str _)⟩
def strD : PyData → Option Str
  | .none => some "None"
  | .bool b => some (if b then "True" else "False")
  | .int i => if i.natAbs.log2 < 1920 then some (toString i) else none
  | .str z => some z
  | _ => none
def bStrV (ds : List PyData) (P : PyData → Prop) : Prop := one ds fun d => ∃ z, strD d = some z ∧ P (.str z)
theorem rb_strV : RB K (fun xs H Q => ∃ v z, xs = [v] ∧ strV v = some z ∧ Q (.str z) H) bStrV := by
  intro A H Q xs ds P oc r g k
  obtain ⟨v, d, rfl, q, z, hz, g⟩ := one_of r g
  refine ⟨v, z, rfl, ?_, k _ _ _ g (Same.refl _) (.str _)⟩
  cases q <;> first | exact hz | cases hz
end
end DL
/-! sorted(places, key=lambda place: parts[place][1], reverse=True) -/
namespace DL
open PySem L2 Z PySem.Spec PyProof.Rows
section
variable {X : Cx} {pins : List (Addr × Obj)} {σ : L2.St} {H : Hp} {s : Shared}
/-- a lambda is made: but for the table, all stays -/
theorem lam_mk {T : List (Addr × Str)} {c P : Addr} {params : Arguments} {body : Expr} {scope : Scope} {pos : Pos} {E Q : Value → Shared → Prop} (I : Inv X pins σ H s) (TB : LamX.TabB X.base X.mg c P) (hcode : X.env.code = .ref c)
    (hm : (P, X.env.qual ++ "<lambda>") ∈ T) (hu : ∀ p ∈ T, p.1 = P → p.2 = X.env.qual ++ "<lambda>") (hT : LamX.Tabs T H) (hdef : defaultsOf params X.env = ([], [])) (hfree : ∀ y ∈ scope.names, y.2 = .free → ∃ c, X.env.cells.lookup y.1 = some c)
    (h : ∀ (f c' : Addr) (pm ctv : Value) (H1 : Hp) (s' : Shared), Inv X pins σ H1 s' → (∀ b o, b ≠ P → H b = some o → H1 b = some o) → LamX.Tabs T H1 →
      s'.heap.get? f = some (PySem.W.kla_obj "<lambda>" (X.env.qual ++ "<lambda>") params body scope (cloFrom X.env.cells scope.names []) pm c' ctv) → H1 c' = some (LamX.CodeO c' (X.env.qual ++ "<lambda>")) → Q (.ref f) s') :
    wpAny (model X.prog X.w) X.A (eval (.Lambda params body scope pos) X.env) Q E s := by
  obtain ⟨ps, hP, ht, ha⟩ := hT _ hm
  refine PySem.W.kla_eval hdef ?_
  have bP : s.heap.BuiltinsAt X.mg P := TB.bm.keeps I.bk
  have hP' : s.heap.get? P = some { cls := .none, data := .fields ps } := I.hok P _ hP
  cases hc : codeAmong pos ps.toList with
  | some cv =>
    obtain ⟨c', e, hco⟩ := ha pos cv hc
    subst e
    refine PySem.W.kla_makeFunctionHit (mg := X.mg) (c := c) (P := P) (ps := ps) (closure_ok hfree) I.ok.glob (I.mod.glob.keeps I.bk) hcode (TB.code.keeps I.bk) hP' ht hc bP fun ctv h' tk hx hsz => ?_
    exact h h'.objs.size c' ((X.mg "__name__").getD .none) ctv H _ (I.kept fun b o e => Heap.get?_push_of_some _ (hx b o e)) (fun _ _ _ e => e) hT (Heap.get?_push_size _ rfl) hco
  | none =>
    refine PySem.W.kla_makeFunction (mg := X.mg) (c := c) (P := P) (ps := ps) (closure_ok hfree) I.ok.glob (I.mod.glob.keeps I.bk) hcode (TB.code.keeps I.bk) hP' ht hc TB.gP bP fun c' ctv h' tk hx hge hlt hrec htb => ?_
    obtain ⟨c2, oc, vs, t, e2, hoc, hd, hv⟩ := hrec
    cases e2
    have nC : H c' = none := I.hok.fresh hge
    have J := LamX.inv_table (t' := tk) (more := #[rawInt pos.line, rawInt pos.col, .ref c']) (h' := h'.push (PySem.W.kla_obj "<lambda>" (X.env.qual ++ "<lambda>") params body scope (cloFrom X.env.cells scope.names []) ((X.mg "__name__").getD .none) c' ctv)) I hP
      (fun b o hb e => Heap.get?_push_of_some _ (hx b o hb e)) (Heap.get?_push_of_some _ htb) hge ⟨oc, vs, t, Heap.get?_push_of_some _ hoc, hd, hv⟩
    have keep : ∀ b o, b ≠ P → H b = some o → upd (upd H P (.tbl (ps ++ #[rawInt pos.line, rawInt pos.col, .ref c']))) c' (LamX.CodeO c' (X.env.qual ++ "<lambda>")) b = some o := fun b o hb e => by
      rw [upd_ne (ne_of_none e nC), upd_ne hb]
      exact e
    have eL : (ps ++ #[rawInt pos.line, rawInt pos.col, .ref c']).toList = ps.toList ++ [rawInt pos.line, rawInt pos.col, .ref c'] := by simp
    refine h h'.objs.size c' ((X.mg "__name__").getD .none) ctv _ _ J keep (fun p hp => ?_) (Heap.get?_push_size _ rfl) upd_same
    have known : ∀ {c0 : Addr} {q : Str}, H c0 = some (LamX.CodeO c0 q) → c0 ≠ P := fun {c0 q} e z => by
      rw [z, hP] at e
      exact LamX.codeO_ne _ (Option.some.inj e).symm
    by_cases hb : p.1 = P
    · rw [hu p hp hb, hb]
      refine ⟨_, by rw [upd_ne (ne_of_none hP nC), upd_same], by rw [eL]; exact PySem.TriplesOk_snoc _ _ _ _ ht, fun p' cv hcv => ?_⟩
      rw [eL] at hcv
      rcases LamX.among_app _ ht hcv with z | z
      · obtain ⟨c0, e1, e2⟩ := ha p' cv z
        exact ⟨c0, e1, keep _ _ (known e2) e2⟩
      · exact ⟨c', z, upd_same⟩
    · obtain ⟨ps', a1, a2, a3⟩ := hT p hp
      refine ⟨ps', keep _ _ hb a1, a2, fun p' cv hcv => ?_⟩
      obtain ⟨c0, e1, e2⟩ := a3 p' cv hcv
      exact ⟨c0, e1, keep _ _ (known e2) e2⟩
/-- all that stands in a heap but at L -/
def newsOf (h : Heap) (L : Addr) : List (Addr × Obj) := (List.range h.objs.size).filterMap fun a => if a = L then none else (h.get? a).map fun o => (a, o)
theorem mem_newsOf {h : Heap} {L b : Addr} {o : Obj} (hb : b ≠ L) (e : h.get? b = some o) : (b, o) ∈ newsOf h L :=
  List.mem_filterMap.mpr ⟨b, List.mem_range.mpr (Heap.lt_size e), by rw [if_neg hb, e]; rfl⟩
theorem of_newsOf {h : Heap} {L : Addr} {p : Addr × Obj} (hp : p ∈ newsOf h L) : p.1 ≠ L ∧ h.get? p.1 = some p.2 := by
  obtain ⟨a, _, e⟩ := List.mem_filterMap.mp hp
  split at e
  · cases e
  · next n =>
    cases q : h.get? a with
    | none => rw [q] at e; cases e
    | some o => rw [q] at e; cases e; exact ⟨n, q⟩
theorem ns_one {h : Heap} {L : Addr} {m m' : Str → Option Value} (a : h.Ns L m) (b : h.Ns L m') : m' = m := by
  obtain ⟨o, es, ep, e1, e2, _, e3⟩ := a
  obtain ⟨o', es', ep', f1, f2, _, f3⟩ := b
  rw [e1] at f1
  cases f1
  rw [e2] at f2
  cases f2
  funext n
  exact (f3 n).symm.trans (e3 n)
/-- the heap read anew, but for the frame's names, with one more object -/
theorem inv_again {h' : Heap} {tk : Nat} {m : Str → Option Value} {H' : Hp} (I : Inv X pins σ H s) (hm : s.heap.Ns X.env.locals m) (hn : h'.Ns X.env.locals m) (kp : ∀ b o, b ≠ X.env.locals → s.heap.get? b = some o → h'.get? b = some o)
    (old : ∀ b o, s.heap.get? b = some o → H' b = H b) (ok : ∀ b u, H' b = some u → s.heap.get? b = none → ObjOk X.prog X.w H' h' b u) : Inv X pins σ H' { s with heap := h', toks := tk } := by
  have sm : ∀ b u, H b = some u → H' b = some u := fun b u e => by
    cases q : s.heap.get? b with
    | none => rw [I.hok.gone q] at e; cases e
    | some o => rw [old b o q]; exact e
  have nL : ∀ b u, H b = some u → b ≠ X.env.locals := fun b u e z => by
    rw [z, I.free] at e
    cases e
  refine I.step (g' := s.gens) (d' := s.drawn) (ch := []) (fun b hb => absurd hb (by simp)) (fun b o hb _ _ e _ => kp b o hb e) (fun b o hb _ _ e _ => ⟨o.slots, kp b o hb e⟩) (fun b o _ e n => by rw [old b o e]; exact n) (fun b o _ e => ?_) (fun b xs e => sm b _ e) (fun b o u e => sm b _ e)
    (fun b ps e => ⟨#[], by rw [sm b _ e]; simp⟩) (fun m' hn' => by rw [ns_one hm hn']; exact hn) (fun b u e => ?_) I.bare
  · by_cases hb : b = X.env.locals
    · obtain ⟨o', _, _, e', _⟩ := hn
      rw [hb]
      exact ⟨o', e'⟩
    · exact ⟨o, kp b o hb e⟩
  · cases q : s.heap.get? b with
    | none => exact ok b u e q
    | some o =>
      rw [old b o q] at e
      refine (I.hok b u e).stay (fun d v hd z => kp d v ?_ z) (fun d z => sm d _ z) fun d xs z => sm d _ z
      rcases hd with z' | z'
      · rw [z']; exact nL b u e
      · exact nL d _ z'
/-- what a lambda by one name asks -/
structure Lam1 (sc scope : Scope) (px x : Str) : Prop where
  kind : scope.kind = .function
  co : scope.isCoroutine = false
  gen : scope.isGenerator = false
  nocell : ∀ y ∈ scope.names, y.2 ≠ .cell
  here : scope.names.lookup x = some .local
  caught : scope.names.lookup px = some .free
  cell : sc.names.lookup px = some .cell
  free : ∀ y ∈ scope.names, y.2 = .free → sc.names.lookup y.1 = some .cell ∨ sc.names.lookup y.1 = some .free
def lam1B (sc scope : Scope) (px x : Str) : Bool :=
  decide (scope.kind = .function) && !scope.isCoroutine && !scope.isGenerator && decide (scope.names.lookup x = some .local) && decide (scope.names.lookup px = some .free) && decide (sc.names.lookup px = some .cell) &&
    scope.names.all fun y => !decide (y.2 = .cell) && (!decide (y.2 = .free) || decide (sc.names.lookup y.1 = some .cell) || decide (sc.names.lookup y.1 = some .free))
theorem lam1_by {sc scope : Scope} {px x : Str} (h : lam1B sc scope px x = true) : Lam1 sc scope px x := by
  unfold lam1B at h
  simp only [Bool.and_eq_true, Bool.or_eq_true, Bool.not_eq_true', decide_eq_true_eq, decide_eq_false_iff_not, List.all_eq_true] at h
  obtain ⟨⟨⟨⟨⟨⟨h1, h2⟩, h3⟩, h4⟩, h5⟩, h6⟩, h7⟩ := h
  refine ⟨h1, h2, h3, fun y hy => (h7 y hy).1, h4, h5, h6, fun y hy e => ?_⟩
  rcases (h7 y hy).2 with (z | z) | z
  · exact absurd e z
  · exact .inl z
  · exact .inr z
theorem Lam1.has {scope : Scope} {px x : Str} (L : Lam1 X.env.scope scope px x) (ok : X.Ok) : ∀ y ∈ scope.names, y.2 = .free → ∃ c, X.env.cells.lookup y.1 = some c := fun y hy e => by
  rcases L.free y hy e with k | k
  · exact ok.has _ (.inl k)
  · exact ok.has _ (.inr k)
/-- one asking of the key: all stays -/
theorem key_run {A : Around} {R : Result → Shared → Prop} {f c' pa : Addr} {pm ctv : Value} {params : Arguments} {scope : Scope} {px x : Str} {p1 p2 p3 p4 p5 : Pos} {j jp : Nat} {n k : Int} {t : Tok} {vps xs : List V} {q : Addr} (I : Inv X pins σ H s) (L : Lam1 X.env.scope scope px x) (hroom : A.depth < recursionLimit)
    (hbind : ∀ (q : Str) (cl : List (Str × Addr)) (pm cv ctv u : Value), bindArgs (PySem.W.kla_fn "<lambda>" q params (.Subscript (.Subscript (.Name px p1) (.Name x p2) p3) (.Constant (.int 1) j p4) p5) scope cl pm cv ctv) ⟨[u], []⟩ = pure [(x, u)])
    (hf : s.heap.get? f = some (PySem.W.kla_obj "<lambda>" (X.env.qual ++ "<lambda>") params (.Subscript (.Subscript (.Name px p1) (.Name x p2) p3) (.Constant (.int 1) j p4) p5) scope (cloFrom X.env.cells scope.names []) pm c' ctv)) (hc : H c' = some (LamX.CodeO c' (X.env.qual ++ "<lambda>")))
    (hN : X.N[jp]? = some px) (hσ : σ[jp]? = some (some (.ref pa))) (hp : SqL X.K H pa vps) (h0 : 0 ≤ n) (hv : vps[n.toNat]? = some (.ref q)) (hq : SqT X.K H q xs) (hx : xs[1]? = some (.int k))
    (h : ∀ h' tk t', (∀ b o, s.heap.get? b = some o → h'.get? b = some o) → R (.ok (.ret (.int k t'))) { s with heap := h', toks := tk })
    (hd : (px == ("__debug__" : Str)) = false := by decide) (hcd : (px == ("__classdict__" : Str)) = false := by decide) (hd2 : (x == ("__debug__" : Str)) = false := by decide) :
    codeAny (model X.prog X.w) A (.call (.ref f) ⟨[.int n t], []⟩) R s := by
  obtain ⟨⟨oc, vs, tt, hoc, hdc, hvc⟩, _, _⟩ := I.hok c' _ hc
  obtain ⟨m, hn, hl⟩ := I.loc
  obtain ⟨u, r, lk⟩ := hl jp px _ hN hσ (.inr (.inl L.cell))
  cases r
  rcases lk with ⟨hk, _⟩ | ⟨_, cc, hcc, hcell⟩
  · have hk : X.env.scope.names.lookup px = some .local := hk
    rw [L.cell] at hk
    cases hk
  obtain ⟨its, ri, pl, hz⟩ := I.list hp
  obtain ⟨w1, ew1, rw1⟩ := ri.get hv
  cases rw1
  obtain ⟨jts, rj, pt, hz2⟩ := I.tuple hq
  obtain ⟨w2, ew2, rw2⟩ := rj.get hx
  obtain ⟨t2, rfl⟩ := rw2
  have hll := ri.length
  have hjl := rj.length
  have hn63 := line63
  have hlt : n.toNat < vps.length := (List.getElem?_eq_some_iff.mp hv).1
  have hlt2 : 1 < xs.length := (List.getElem?_eq_some_iff.mp hx).1
  refine PySem.W.kla_callFunE hroom hf rfl L.co L.gen rfl ⟨c', oc, vs, tt, rfl, hoc, hdc, hvc⟩ ?_
  rw [hbind]
  refine wpAny_pure (wpAny_newFunctionEnv L.nocell (fun y hy => by rw [List.mem_singleton.mp hy]; exact L.here) (fun h₁ hns hsb => ⟨I.nolimit.fresh _ hsb, ?_⟩) L.kind)
  show codeAny _ _ (.expr _ (LamX.lamEnv X scope s.heap.objs.size f c')) _ _
  have kp : ∀ b o, s.heap.get? b = some o → h₁.get? b = some o := fun b o e => hsb.extBut b o (Nat.ne_of_lt (Heap.lt_size e)) (Heap.get?_push_of_some _ e)
  have hcl : (cloFrom X.env.cells scope.names []).lookup px = some cc := by
    obtain ⟨c1, h1⟩ := mem_lookup (cloFrom_has (cells := X.env.cells) (acc := []) (PySem.mem_of_lookup L.caught))
    rcases cloFrom_mem (PySem.mem_of_lookup h1) with z | ⟨_, z⟩
    · cases z
    · rw [h1, z, hcc]
      rfl
  have cellK : h₁.IsCell cc (some (.ref pa)) := by
    obtain ⟨o, ho, hd⟩ := hcell
    exact ⟨o, kp _ _ ho, hd⟩
  have pl1 : h₁.IsList pa its.toArray := by
    obtain ⟨o, e, r⟩ := pl.isList
    exact ⟨o, kp _ _ e, r⟩
  have pt1 : IsTup h₁ q jts.toArray := by
    obtain ⟨o, e, r⟩ := pt
    exact ⟨o, kp _ _ e, r⟩
  refine PySem.W.kla_codeExpr (Subscript_ (Subscript_ (wpAny_Name (wpAny_loadName_free L.kind L.caught hcl cellK ?_ hcd) hd)))
  refine wpAny_Name (wpAny_loadName_local L.kind L.here hns (v := .int n t) (by show ([(x, Value.int n t)].reverse.lookup x) = _; simp) ?_) hd2
  refine item_listR pl1 h0 (by omega) (x := .ref q) (by simpa using ew1) ?_ rfl
  refine wpAny_Constant_int ?_
  exact subscriptTail_builtinR (x := .int k t2) pt1.typeIs slot_tuple_getitem.lookup (getItem_tuple (j := 1) (Q := fun r s' => r = .int k t2 ∧ R (.ok (.ret r)) s') pt1 (by decide) (by decide) (by rw [List.size_toArray, ← hjl]; unfold seqIndex?; simp; omega) (by simpa using ew2) ⟨rfl, h _ _ _ kp⟩) rfl
/-- sorted(l, key=.., reverse=True) -/
theorem sorted_lam {f c' l pa : Addr} {pm ctv : Value} {params : Arguments} {scope : Scope} {px x : Str} {p1 p2 p3 p4 p5 : Pos} {j jp : Nat} {ns : List Int} {g : Int → Int} {vps : List V} {Q : VK} (I : Inv X pins σ H s) (L : Lam1 X.env.scope scope px x) (hr : Room 3 X.A)
    (hbind : ∀ (q : Str) (cl : List (Str × Addr)) (pm cv ctv u : Value), bindArgs (PySem.W.kla_fn "<lambda>" q params (.Subscript (.Subscript (.Name px p1) (.Name x p2) p3) (.Constant (.int 1) j p4) p5) scope cl pm cv ctv) ⟨[u], []⟩ = pure [(x, u)])
    (hf : s.heap.get? f = some (PySem.W.kla_obj "<lambda>" (X.env.qual ++ "<lambda>") params (.Subscript (.Subscript (.Name px p1) (.Name x p2) p3) (.Constant (.int 1) j p4) p5) scope (cloFrom X.env.cells scope.names []) pm c' ctv)) (hc : H c' = some (LamX.CodeO c' (X.env.qual ++ "<lambda>")))
    (hs : SqL X.K H l (ns.map V.int)) (hN : X.N[jp]? = some px) (hσ : σ[jp]? = some (some (.ref pa))) (hp : SqL X.K H pa vps) (hx : ∀ n ∈ ns, 0 ≤ n ∧ ∃ q xs, vps[n.toNat]? = some (.ref q) ∧ SqT X.K H q xs ∧ xs[1]? = some (.int (g n)))
    (q : ∀ (ns' : List Int) (p : Addr), ns'.Perm ns → ns'.Pairwise (fun x y => g y ≤ g x) → (∀ z, ns'.filter (fun x => g x == z) = ns.filter (fun x => g x == z)) → H p = none → Q (.ref p) (upd H p (.lst (ns'.map V.int))))
    (hd : (px == ("__debug__" : Str)) = false := by decide) (hcd : (px == ("__classdict__" : Str)) = false := by decide) (hd2 : (x == ("__debug__" : Str)) = false := by decide) :
    wpAny (model X.prog X.w) X.A (call (.builtin "sorted") [.ref l] [(Str.ofString "key", .ref f), (Str.ofString "reverse", .bool true)]) (EP X pins σ Q) X.xe s := by
  obtain ⟨its, rv, pl, hz⟩ := I.list hs
  have hi := rv.ints
  obtain ⟨m, hm, _⟩ := I.loc
  have hz' : ns.length ≤ sizeLine := by rw [List.length_map] at hz; exact hz
  have gone : ∀ b, (⟨#[], {}⟩ : Heap).get? b = none := fun b => Heap.get?_none_of_le (Nat.zero_le b)
  have kept : ∀ {h : Heap} {own : List (Addr × Obj)}, News ⟨#[], {}⟩ X.env.locals h (newsOf s.heap X.env.locals ++ own) → ∀ b o, b ≠ X.env.locals → s.heap.get? b = some o → h.get? b = some o := fun N b o hb e => (N (b, o) (List.mem_append_left _ (mem_newsOf hb e))).1
  refine ksk_letterSt (h₀ := ⟨#[], {}⟩) (L := X.env.locals) (m := m) (news := newsOf s.heap X.env.locals) (b := true) (ns := ns) (f := .ref f) (kw := [(Str.ofString "key", .ref f), (Str.ofString "reverse", .bool true)]) g
    ⟨hm, fun b o e => (by rw [gone] at e; cases e), Nat.zero_le _⟩ (fun p hp => ⟨(of_newsOf hp).2, (of_newsOf hp).1, gone _⟩) pl.isList hi hz' (ksk_s2 _ _ _) (fun _ => ksk_l2 _ _ _) (fun x => ksk_t2 f x true) (fun n t h tk own hn F N => ?_) fun D vs' ns' c h' tk F N lt hI hlen hP hO _ hS => ?_
  · have J : Inv X pins σ H { s with heap := h, toks := tk } := inv_again I hm F.ns (kept N) (fun _ _ _ => rfl) fun b u e z => by
      rw [I.hok.gone z] at e
      cases e
    have nfl : f ≠ X.env.locals := fun z => by
      obtain ⟨o, es, ep, e1, e2, _⟩ := hm
      rw [z, e1] at hf
      cases hf
      cases e2
    obtain ⟨h0, qa, xs, e1, e2, e3⟩ := hx n hn
    refine wpAny_call (codeAny_mono (key_run (R := fun r s' => ∃ v, r = .ok (.ret v) ∧ KskEnd ⟨#[], {}⟩ X.env.locals m (newsOf s.heap X.env.locals ++ own) (g n) { s with heap := h, toks := tk } v s') J L (hr.in1.in1).depth hbind (kept N f _ nfl hf) hc hN hσ hp h0 e1 e2 e3 (fun h2 tk2 t2 kp => ?_) hd hcd hd2) fun r s' hq => ?_)
    · refine ⟨_, rfl, h2, tk2, t2, rfl, rfl, ⟨?_, fun b o e => (by rw [gone] at e; cases e), Nat.zero_le _⟩, fun p hp => ⟨kp _ _ (N p hp).1, (N p hp).2⟩⟩
      obtain ⟨o, es, ep, e1, r⟩ := F.ns
      exact ⟨o, es, ep, kp _ _ e1, r⟩
    · obtain ⟨v, rfl, k⟩ := hq
      exact k
  · have nD : D ≠ X.env.locals := (N _ (.head _)).2.1
    have oldD : s.heap.get? D = none := by
      cases e : s.heap.get? D with
      | none => rfl
      | some o => exact absurd (lt (D, o) (mem_newsOf nD e)) (Nat.lt_irrefl _)
    have hD : H D = none := I.hok.gone oldD
    refine ⟨.ref D, upd H D (.lst (ns'.map V.int)), inv_again I hm F.ns (fun b o hb e => (N (b, o) (List.mem_cons_of_mem _ (mem_newsOf hb e))).1) (fun b o e => ?_) (fun b u e z => ?_), rfl, q ns' D hP hO hS hD⟩
    · rw [upd_ne]
      rintro rfl
      rw [oldD] at e
      cases e
    · by_cases hb : b = D
      · rw [hb, upd_same] at e
        cases e
        rw [hb]
        exact ⟨by rw [List.length_map, hlen]; exact hz', vs', c, vals_of_ints hI, (N _ (.head _)).1⟩
      · rw [upd_ne hb, I.hok.gone z] at e
        cases e
def SortQ (T : List (Addr × Str)) (K : PySem.W.Frag) (jp : Nat) (σ : L2.St) (Q : VK) : List V → Hp → Prop
  | [v], H1 => ∃ (l pa : Addr) (ns : List Int) (vps : List V) (g : Int → Int), v = .ref l ∧ SqL K H1 l (ns.map V.int) ∧ σ[jp]? = some (some (.ref pa)) ∧ SqL K H1 pa vps ∧
    (∀ n ∈ ns, 0 ≤ n ∧ ∃ q xs, vps[n.toNat]? = some (.ref q) ∧ SqT K H1 q xs ∧ xs[1]? = some (.int (g n))) ∧ LamX.Tabs T H1 ∧
    ∀ H2, (∀ b o, (∀ p ∈ T, p.1 ≠ b) → H1 b = some o → H2 b = some o) → LamX.Tabs T H2 → ∀ (ns' : List Int) (p : Addr), ns'.Perm ns → ns'.Pairwise (fun x y => g y ≤ g x) → (∀ z, ns'.filter (fun x => g x == z) = ns.filter (fun x => g x == z)) → H2 p = none →
      Q (.ref p) (upd H2 p (.lst (ns'.map V.int)))
  | _, _ => False
def tSortLam (T : List (Addr × Str)) (K : PySem.W.Frag) (jp : Nat) (ta : TE) : TE := fun σ H Q => ta σ H fun v H1 => SortQ T K jp σ Q [v] H1
theorem sqL_out {K : PySem.W.Frag} {H H' : Hp} {T : List (Addr × Str)} {a : Addr} {xs : List V} (t : LamX.Tabs T H) (e : ∀ b o, (∀ p ∈ T, p.1 ≠ b) → H b = some o → H' b = some o) (h : SqL K H a xs) : SqL K H' a xs := by
  have no : ∀ o, H a = some o → (∀ ps, o ≠ .tbl ps) → ∀ p ∈ T, p.1 ≠ a := fun o h n p hp z => by
    obtain ⟨ps, h1, _⟩ := t p hp
    rw [z, h] at h1
    exact n ps (Option.some.inj h1)
  rcases h with (h | ⟨o, h⟩) | h
  · exact .inl (.inl (e _ _ (no _ h fun _ z => by cases z) h))
  · exact .inl (.inr ⟨o, e _ _ (no _ h fun _ z => by cases z) h⟩)
  · exact .inr h
theorem sqT_out {K : PySem.W.Frag} {H H' : Hp} {T : List (Addr × Str)} {a : Addr} {xs : List V} (t : LamX.Tabs T H) (e : ∀ b o, (∀ p ∈ T, p.1 ≠ b) → H b = some o → H' b = some o) (h : SqT K H a xs) : SqT K H' a xs := by
  have no : ∀ o, H a = some o → (∀ ps, o ≠ .tbl ps) → ∀ p ∈ T, p.1 ≠ a := fun o h n p hp z => by
    obtain ⟨ps, h1, _⟩ := t p hp
    rw [z, h] at h1
    exact n ps (Option.some.inj h1)
  rcases h with h | h
  · first
      | exact .inl (e _ _ (no _ h fun _ z => by cases z) h)
      | (rcases h with h | ⟨o, h⟩
         · exact .inl (.inl (e _ _ (no _ h fun _ z => by cases z) h))
         · exact .inl (.inr ⟨o, e _ _ (no _ h fun _ z => by cases z) h⟩))
  · exact .inr h
theorem pe_sortLam {T : List (Addr × Str)} {c P : Addr} {params : Arguments} {scope : Scope} {px x : Str} {p p1 p2 p3 p4 p5 lpos kp1 kp2 pos cp : Pos} {j j2 jp : Nat} {a : Expr} {ta : TE} (hg : Gl X "sorted") (hmg : X.mg "sorted" = none) (TB : LamX.TabB X.base X.mg c P) (hcode : X.env.code = .ref c)
    (hm : (P, X.env.qual ++ "<lambda>") ∈ T) (hu : ∀ p ∈ T, p.1 = P → p.2 = X.env.qual ++ "<lambda>") (L : Lam1 X.env.scope scope px x) (hr : Room 3 X.A) (hdef : defaultsOf params X.env = ([], []))
    (hbind : ∀ (q : Str) (cl : List (Str × Addr)) (pm cv ctv u : Value), bindArgs (PySem.W.kla_fn "<lambda>" q params (.Subscript (.Subscript (.Name px p1) (.Name x p2) p3) (.Constant (.int 1) j p4) p5) scope cl pm cv ctv) ⟨[u], []⟩ = pure [(x, u)])
    (hN : X.N[jp]? = some px) (ha : PE X a ta) (hd : (px == ("__debug__" : Str)) = false := by decide) (hcd : (px == ("__classdict__" : Str)) = false := by decide) (hd2 : (x == ("__debug__" : Str)) = false := by decide)
    (he : backTo pos (starEach [a] X.env) = (false, eval a X.env) :: backTo pos (starEach [] X.env) := by rfl) (hst : starEach [a] X.env = (false, eval a X.env) :: starEach [] X.env := by rfl) (hpl : (backTo pos (starEach [a] X.env)).any (·.1) = false := by rfl) :
    PE X (.Call (.Name "sorted" p) [a] [⟨some "key", .Lambda params (.Subscript (.Subscript (.Name px p1) (.Name x p2) p3) (.Constant (.int 1) j p4) p5) scope lpos, kp1⟩, ⟨some "reverse", .Constant (.bool true) j2 cp, kp2⟩] pos) (tSortLam T X.K jp ta) := by
  refine ⟨fun pins s σ H Q I h => ?_⟩
  refine wpAny_Call_Name_kw (ld_blt I hg hmg (u := .builtin "sorted") rfl ?_)
  refine PyProof.Rows.callWith_kw (thn ((pa_cons ha pa_nil hst).run pos pins s σ H (SortQ T X.K jp σ Q) I h) fun us s1 ⟨vs, H1, I1, r1, q1⟩ => ?_) he hpl rfl rfl
  match vs, r1, q1 with
  | [v], r1, q1 =>
    obtain ⟨l, pa, ns, vps, g, rfl, hl, hs, hp, hx, hT, k⟩ := q1
    obtain rfl := Vals.ref1 r1
    show wpAny _ _ (evalAll [(do let v ← eval (.Lambda params (.Subscript (.Subscript (.Name px p1) (.Name x p2) p3) (.Constant (.int 1) j p4) p5) scope lpos) X.env; standAt pos; pure v), (do let v ← eval (.Constant (.bool true) j2 cp) X.env; standAt pos; pure v)]) _ _ s1
    refine wpAny_evalAll_cons (wpAny_bind (lam_mk I1 TB hcode hm hu hT hdef (L.has I1.ok) fun f c' pm ctv H2 s2 I2 keep T2 hf hc => wpAny_bind (wpAny_standAt (wpAny_pure ?_))))
    refine wpAny_evalAll_cons (wpAny_bind (Constant_bool (wpAny_bind (wpAny_standAt (wpAny_pure (wpAny_evalAll_nil ?_))))))
    have keep' : ∀ b o, (∀ p ∈ T, p.1 ≠ b) → H1 b = some o → H2 b = some o := fun b o n e => keep b o (fun z => n _ hm z.symm) e
    exact sorted_lam I2 L hr hbind hf hc (sqL_out hT keep' hl) hN hs (sqL_out hT keep' hp) (fun n hn => by
      obtain ⟨h0, q, xs, e1, e2, e3⟩ := hx n hn
      exact ⟨h0, q, xs, e1, sqT_out hT keep' e2, e3⟩) (fun ns' p h1 h2 h3 h4 => k H2 keep' T2 ns' p h1 h2 h3 h4) hd hcd hd2
end
end DL
namespace DL
open PySem L2 Z PySem.Spec PyProof.Rows
variable [Tbs]
section
variable {K : PySem.W.Frag} {n : Nat} {J : Jv n}
/-- tables alone have changed -/
theorem EnR.tabs {O : Addr → Prop} {as : As} {H : Hs} {H' : Hp} {ρ : En} {σ : L2.St} (E : EnR K J O as H ρ σ) (k : ∀ b o, (∀ p ∈ Tbs.T, p.1 ≠ b) → H b = some o → H' b = some o) (t : TabsOk H') : EnR K J O as (H.w H') ρ σ ∧ Fr as H (H.w H') := by
  have st : Stay as H (H.w H') := ⟨fun i r b h q => by
    have nd := E.nod h q
    obtain ⟨o, e, _⟩ := id nd
    rw [e]
    exact k _ _ (fun p hp z => E.tab.nod nd ⟨p, hp, z⟩) e, rfl⟩
  have f : Fr as H (H.w H') := by
    refine ⟨fun b o nb e => k b o (fun p hp z => nb (.inr ⟨p, hp, z⟩)) e, fun a h => .inl (st.own.mp h), fun a h => ?_, fun _ => rfl⟩
    by_cases z : ∃ p ∈ Tbs.T, p.1 = a
    · obtain ⟨p, hp, z⟩ := z
      rw [← z]
      exact t.full hp
    · obtain ⟨o, e⟩ := Option.ne_none_iff_exists'.mp h
      show H' a ≠ none
      rw [k a o (fun p hp w => z ⟨p, hp, w⟩) e]
      exact Option.some_ne_none _
  exact ⟨E.keepS st f t, f⟩
/-- sorted(places, key=lambda place: parts[place][1], reverse=True) -/
def fSortLam (jp : Nat) (a : FE) : FA := fun ρ P => a ρ fun d ρ1 => ∃ (ns : List Int) (ds : List PyData) (g : Int → Int), d = .list (ns.map .int) ∧ ρ1[jp]? = some (.fz (.list ds)) ∧ (∀ n ∈ ns, 0 ≤ n ∧ ∃ es, ds[n.toNat]? = some (.tuple es) ∧ es[1]? = some (.int (g n))) ∧
  ∀ ns' : List Int, ns'.Perm ns → ns'.Pairwise (fun x y => g y ≤ g x) → (∀ z, ns'.filter (fun x => g x == z) = ns.filter (fun x => g x == z)) → P (ns'.map .int) ρ1
theorem rn_sortLam {jp : Nat} {ta : TE} {a : FE} (ha : RE K J ta a) : RN K J (tSortLam Tbs.T K jp ta) (fSortLam jp a) := by
  intro O as σ H Q ρ P E q k
  refine ha O as σ H _ ρ _ E q fun d ρ1 v H1 q1 f1 E1 d1 => ?_
  obtain ⟨ns, ds, g, rfl, hρ, hx, q1⟩ := q1
  obtain ⟨l, xs, rfl, sl, dl⟩ := d1.list_of
  obtain rfl := dl.ints_of
  obtain ⟨v, e1, e2, dv⟩ := E1.fz_at hρ
  obtain ⟨pa, vps, rfl, sp, dp⟩ := dv.list_of
  refine ⟨l, pa, ns, vps, g, rfl, SqL.mono hp_same sl, e1, SqL.mono hp_same sp, fun n hn => ?_, E1.tab, fun H2 keep T2 ns' p h1 h2 h3 h4 => ?_⟩
  · obtain ⟨h0, es, e3, e4⟩ := hx n hn
    obtain ⟨y, e5, dy⟩ := dp.got e3
    obtain ⟨q, ys, rfl, st, dt⟩ := dy.tuple_of
    obtain ⟨z, e6, dz⟩ := dt.got e4
    cases dz
    exact ⟨h0, q, ys, e5, SqT.mono hp_same st, e6⟩
  · obtain ⟨E2, f2⟩ := E1.tabs keep T2
    exact new_step (f1.trans f2) E2 (q1 ns' h1 h2 h3) h4 (DqAll.ints ns') k
end
end DL
namespace DL
open PySem L2 Z PySem.Spec PyProof.Rows
variable [Tbs]
section
variable {P : Program} {w : World} {K : PySem.W.Frag} {mg : Str → Option Value} {base : Heap} {k : Nat} {f : Addr} {fd : FuncData} {ps : List Str} {x qual : Str} {st : Stmt} {N : List Str}
/-- a def that raises, its code known -/
theorem okX0c {b : (PyData → En → Prop) → FS} (F : Fun K x qual st f fd) (S : FnScope N ps (defScope st))
    (body : ∀ (cdv : Value), fd.code = cdv → ∀ (A : Around) (outer : List Env) (s : Shared) (H : Hp) (E : XK), Room k (A.deeper (envOfC qual (defScope st) s.heap.objs.size f cdv)) →
      ∃ t : WX → TS, (∀ W, Takes (cxOf (L2.CX P w) P w K mg base N qual (defScope st) f cdv A outer s H E) W → PSs (cxOf (L2.CX P w) P w K mg base N qual (defScope st) f cdv A outer s H E) (defBody st) (t W)) ∧ ∀ (J : Jv ps.length) (X : PyData → En → Prop) (W : WX), Lk K J X W → RS K J (t W) (b X)) :
    FnOk P w K mg base (L2.CX P w) (k + 1) f fd ps (spX K ps.length (fnX ps.length N.length b)) := by
  obtain ⟨oc, od, kV, doc, pm, an, cdv, ct, osl, rfl, lk, hcd⟩ := F.ex
  refine fn_of lk hcd S (fun vs H Q E h => h.1) fun A outer s H vs Q E hr h => ?_
  obtain ⟨t, pt, rs⟩ := body cdv rfl A outer s H E hr
  exact ⟨_, pt _ (takes_of (E := E) rfl rfl rfl rfl), fn_coreX (scope_le S) rs h⟩
theorem okF0c {b : FS} (F : Fun K x qual st f fd) (S : FnScope N ps (defScope st))
    (body : ∀ (cdv : Value), fd.code = cdv → ∀ (A : Around) (outer : List Env) (s : Shared) (H : Hp) (E : XK), Room k (A.deeper (envOfC qual (defScope st) s.heap.objs.size f cdv)) →
      ∃ t, PSs (cxOf CX0 P w K mg base N qual (defScope st) f cdv A outer s H E).nox (defBody st) t ∧ ∀ J : Jv ps.length, RS K J t b) :
    FnOk P w K mg base CX0 (k + 1) f fd ps (spF K ps.length (fnF ps.length N.length b)) := by
  obtain ⟨oc, od, kV, doc, pm, an, cdv, ct, osl, rfl, lk, hcd⟩ := F.ex
  refine fn_of lk hcd S (fun vs H Q E h => h.1) fun A outer s H vs Q E hr h => ?_
  obtain ⟨t, pt, rs⟩ := body cdv rfl A outer s H E hr
  exact ⟨_, pt.nox, fn_core (scope_le S) rs h⟩
end
section
variable {K : PySem.W.Frag} {n : Nat} {J : Jv n}
/-- sum(own) -/
def fSumO (i : Nat) : FE := fun ρ P => ownF ρ i fun ds => intsF ds fun ns => P (.int ns.sum) ρ
theorem re_sumO {i : Nat} : RE K J (tCB (rSum K) (tCons (tVar i) tNil)) (fSumO i) := by
  intro O as σ H Q ρ P E q k
  obtain ⟨ds, h, q⟩ := ownF_of q
  obtain ⟨ns, e, g⟩ := intsF_of q
  subst e
  obtain ⟨p, xs, e1, e2, e3, e4⟩ := E.own_at h
  cases e4.ints_of
  exact ⟨_, e1, p, ns, rfl, SqL.of e3, k _ _ _ _ g (Fr.refl) E (.int _)⟩
end
/-- xs[i] -/
theorem get_list {X : Cx} : PGet X (rIxL X.K) := by
  intro pins s σ H x y v u Q I rx ry h
  obtain ⟨p, xs, i, z, rfl, rfl, hq, he, q⟩ := h
  cases rx
  obtain ⟨t, rfl⟩ := ry
  obtain ⟨its, r, pl, hz⟩ := I.list hq
  obtain ⟨j, h1, h2, h3, h4, h5⟩ := atI_get he
  obtain ⟨w, ew, rw'⟩ := r.get h2
  have hl := r.length
  have hn := line63
  have fin : EP X pins σ Q w s := ⟨z, H, I, rw', q⟩
  by_cases h0 : 0 ≤ i
  · have hj : i.toNat = j := by
      rw [seqIndex_of h0 h5] at h1
      exact Option.some.inj h1
    exact wpAny_getItem_list pl.isList h0 (by omega) (by rw [hj]; simpa using ew) fin
  · have hj : (i + (its.toArray.size : Int)).toNat = j := by
      rw [seqIndex_neg (by omega) h4] at h1
      rw [List.size_toArray, ← hl]
      exact Option.some.inj h1
    exact wpAny_getItem_list_neg pl.isList (by omega) (by rw [List.size_toArray] <;> omega) (by omega) (by rw [hj]; simpa using ew) fin
end DL
/-! sorted of pairs; a new list handed on at once; defs that raise or hand back a new list -/
namespace DL
open PySem L2 Z PySem.Spec PyProof.Rows
variable [Tbs]
/-! pairs of numbers, sorted -/
def PrAt (K : PySem.W.Frag) (H : Hp) (x : V) (p : Int × Int) : Prop := ∃ t, x = V.ref t ∧ SqT K H t [.int p.1, .int p.2]
inductive PrsAt (K : PySem.W.Frag) (H : Hp) : List V → List (Int × Int) → Prop
  | nil : PrsAt K H [] []
  | cons {x : V} {p : Int × Int} {xs : List V} {ps : List (Int × Int)} : PrAt K H x p → PrsAt K H xs ps → PrsAt K H (x :: xs) (p :: ps)
def lexLe (p q : Int × Int) : Prop := p.1 < q.1 ∨ (p.1 = q.1 ∧ p.2 ≤ q.2)
def rSortedPD (K : PySem.W.Frag) : List V → Hp → VK → Prop := fun vs H Q => ∃ (a : Addr) (xs : List V) (ps : List (Int × Int)), vs = [V.ref a] ∧ SqL K H a xs ∧ PrsAt K H xs ps ∧
  ∀ (zs : List (V × Int × Int)) p, zs.Perm (xs.zip ps) → zs.Pairwise (fun x y => lexLe x.2 y.2) → H p = none → Q (.ref p) (upd H p (.lst (zs.map (·.1))))
theorem zip_map_self {α β : Type} (k : α → β) : ∀ xs : List α, xs.zip (xs.map k) = xs.map fun x => (x, k x)
  | [] => rfl
  | x :: xs => by show (x, k x) :: xs.zip (xs.map k) = _; rw [zip_map_self k xs]; rfl
theorem PrsAt.all {K : PySem.W.Frag} {H : Hp} {k : V → Int × Int} (u : ∀ x p, PrAt K H x p → k x = p) : ∀ {xs : List V} {ps : List (Int × Int)}, PrsAt K H xs ps → ps = xs.map k ∧ ∀ x ∈ xs, PrAt K H x (k x)
  | _, _, .nil => ⟨rfl, fun _ h => by cases h⟩
  | _, _, .cons a b => by
    obtain ⟨e, r⟩ := PrsAt.all u b
    refine ⟨by rw [List.map_cons, u _ _ a, ← e], fun y hy => ?_⟩
    rcases List.mem_cons.mp hy with rfl | hy
    · rw [u _ _ a]; exact a
    · exact r y hy
section
variable {X : Cx}
theorem cr_sortedPD : CallR X (.builtin "sorted") (rSortedPD X.K) := by
  intro pins s σ H vs us Q I r h
  obtain ⟨a, xs, ps, rfl, hs, hx, q⟩ := h
  obtain ⟨its, rv, hl, hz⟩ := I.list hs
  obtain ⟨u, rfl, ru⟩ := vals1 r
  obtain rfl : u = Value.ref a := ru
  let kr : Value → Int × Int := fun u => ((TS.intsOf s.heap u).getD 0 0, (TS.intsOf s.heap u).getD 1 0)
  let k : V → Int × Int := fun x => match x with
    | .ref t => kr (.ref t)
    | _ => (0, 0)
  have raw : ∀ {t : Addr} {p : Int × Int}, SqT X.K H t [.int p.1, .int p.2] → TS.TupInts s.heap (.ref t) [p.1, p.2] := fun {t p} h => by
    obtain ⟨its, rv, hT, _⟩ := I.tuple h
    have rv' : Vals (([p.1, p.2] : List Int).map V.int) its := rv
    exact ⟨t, its.toArray, rfl, hT, by simpa using rv'.ints⟩
  have uq : ∀ x p, PrAt X.K H x p → k x = p := fun x p ⟨t, e, h⟩ => by
    subst e
    show kr (.ref t) = p
    have := (raw h).ints
    simp only [kr, this]
    rfl
  obtain ⟨eps, hall⟩ := hx.all uq
  obtain ⟨e1, e2⟩ := refs_back rv fun x m => by
    obtain ⟨t, e, _⟩ := hall x m
    exact ⟨t, e⟩
  refine SrtO.sorted_pairsO (k := kr) hl.isList (by rw [← rv.length]; exact hz) (fun v hv => ?_) fun h' d out h1 h2 kp hd hn => ?_
  · obtain ⟨t, rfl⟩ := e2 v hv
    have hm : V.ref t ∈ xs := by rw [e1]; exact List.mem_map.mpr ⟨_, hv, rfl⟩
    obtain ⟨t', e, ht⟩ := hall _ hm
    cases e
    obtain ⟨its2, r2, ⟨o, ho, hc, n, hd⟩, _⟩ := I.tuple ht
    obtain ⟨u1, u2, rfl, ri, rj⟩ := vals2 r2
    obtain ⟨t1, rfl⟩ := ri
    obtain ⟨t2, rfl⟩ := rj
    exact ⟨t, o, t1, t2, n, rfl, ho, hc, hd⟩
  · have h3 : ∀ u ∈ out, ∃ a, u = Value.ref a := fun u hu => e2 u (h2.perm.mem_iff.mp hu)
    obtain ⟨n, hn⟩ := hn
    have kk : ∀ u ∈ out, k (backV u) = kr u := fun u hu => by
      obtain ⟨t, rfl⟩ := h3 u hu
      rfl
    have pm : (out.map backV).Perm xs := by rw [e1]; exact h2.perm.map backV
    have ez : xs.zip ps = xs.map fun x => (x, k x) := by rw [eps]; exact zip_map_self k xs
    have em : ((out.map backV).map fun x => (x, k x)).map (·.1) = out.map backV := by rw [List.map_map]; exact List.map_id _
    refine ⟨.ref d, upd H d (.lst (out.map backV)), I.laid (t' := s.toks) kp hd ⟨?_, out, n, vals_back h3, hn⟩, rfl, ?_⟩
    · rw [pm.length_eq]; exact hz
    · rw [← em]
      refine q ((out.map backV).map fun x => (x, k x)) d (by rw [ez]; exact pm.map _) ?_ (I.hok.fresh hd)
      rw [List.map_map, List.pairwise_map]
      refine List.Pairwise.imp_of_mem (fun {u v} hu hv huv => ?_) h1
      have : SrtO.lexB (kr v) (kr u) = false := huv
      show lexLe (k (backV u)) (k (backV v))
      rw [kk u hu, kk v hv]
      have := SrtO.lexB_no.mp this
      unfold lexLe
      omega
end
section
variable {K : PySem.W.Frag} {n : Nat} {J : Jv n}
abbrev prD (p : Int × Int) : PyData := .tuple [.int p.1, .int p.2]
theorem prs_of {G : Hp} : ∀ {ps : List (Int × Int)} {xs : List V}, DqAll K G xs (ps.map prD) → PrsAt K G xs ps
  | [], _, .nil => .nil
  | p :: ps, _, .cons a b => by
    obtain ⟨t, ys, rfl, s, r⟩ := a.tuple_of
    refine .cons ⟨t, rfl, ?_⟩ (prs_of b)
    cases r with
    | cons r1 r =>
      cases r with
      | cons r2 r => cases r; cases r1; cases r2; exact s
/-- data that is a list of pairs of numbers -/
def prsF (es : List PyData) (k : List (Int × Int) → Prop) : Prop := ∃ ps : List (Int × Int), es = ps.map prD ∧ k ps
theorem dq_zip {G : Hp} : ∀ {ps : List (Int × Int)} {xs : List V}, DqAll K G xs (ps.map prD) → ∀ z ∈ xs.zip ps, Dq K G z.1 (prD z.2)
  | [], _, .nil, _, h => by cases h
  | p :: ps, _, .cons a b, z, h => by
    rcases List.mem_cons.mp (show z ∈ _ :: _ from h) with rfl | h
    · exact a
    · exact dq_zip b z h
theorem dq_map {G : Hp} : ∀ {zs : List (V × Int × Int)}, (∀ z ∈ zs, Dq K G z.1 (prD z.2)) → DqAll K G (zs.map (·.1)) ((zs.map (·.2)).map prD)
  | [], _ => .nil
  | z :: zs, h => .cons (h z List.mem_cons_self) (dq_map fun y hy => h y (List.mem_cons_of_mem _ hy))
theorem prs_mono {H H' : Hp} (s : Same H H') : ∀ {xs : List V} {ps : List (Int × Int)}, PrsAt K H xs ps → PrsAt K H' xs ps
  | _, _, .nil => .nil
  | _, _, .cons ⟨t, e, h⟩ b => .cons ⟨t, e, SqT.mono s h⟩ (prs_mono s b)
def nSortP (ds : List PyData) (P : List PyData → Prop) : Prop := one ds fun d => listF d fun es => prsF es fun ps => ∀ qs : List (Int × Int), qs.Perm ps → qs.Pairwise lexLe → P (qs.map prD)
theorem rbn_sortP : RBN K (rSortedPD K) nSortP := by
  intro A H Q xs ds P r g k
  obtain ⟨v, d, rfl, q, g⟩ := one_of r g
  unfold listF at g
  split at g
  · obtain ⟨ps, e, g'⟩ := g
    subst e
    obtain ⟨a, ys, rfl, s, r⟩ := q.list_of
    have hl : ys.length = ps.length := by rw [r.length, List.length_map]
    refine ⟨a, ys, ps, rfl, SqL.mono hp_same s, prs_mono hp_same (prs_of r), fun zs p pm pw hp1 => ?_⟩
    refine k _ _ _ (g' (zs.map (·.2)) ?_ ?_) hp1 (dq_map fun z hz => dq_zip r z (pm.mem_iff.mp hz))
    · have := pm.map (·.2)
      rw [show (ys.zip ps).map (·.2) = ps from List.map_snd_zip (by omega)] at this
      exact this
    · rw [List.pairwise_map]
      exact pw
  · exact g.elim
/-! a new list handed on at once -/
theorem wb_app2 (ρ τ : En) : ∀ (ys : List Ar) (r : List Sl), (∀ i ∈ ownIx ys, i < ρ.length) → wb (ρ ++ τ) ys r = wb ρ ys r ++ τ
  | [], _, _ => rfl
  | .dat _ :: ys, r, h => by rw [wb, wb]; exact wb_app2 ρ τ ys r.tail h
  | .own i :: ys, r, h => by
    rw [wb, wb, wb_app2 ρ τ ys r.tail fun j hj => h j (List.mem_cons_of_mem _ hj), List.set_append_left]
    rw [wb_len]
    exact h i List.mem_cons_self
theorem Fits.moved {ρ ρ' : En} {n : Nat} (h : ∀ i, i < n → ρ'[i]? = ρ[i]?) : ∀ {ys : List Ar} {r : List Sl}, Fits ρ ys r → (∀ i ∈ ownIx ys, i < n) → Fits ρ' ys r
  | _, _, .nil, _ => .nil
  | _, _, .dat f, k => .dat (f.moved h k)
  | _, _, .own e f, k => .own (by rw [h _ (k _ List.mem_cons_self)]; exact e) (f.moved h fun j hj => k j (List.mem_cons_of_mem _ hj))
  | _, _, .st e f, k => .st (by rw [h _ (k _ List.mem_cons_self)]; exact e) (f.moved h fun j hj => k j (List.mem_cons_of_mem _ hj))
theorem ArsR.imp {G G' : Hp} {as as' : As} {n : Nat} (s : Same G G') (h : ∀ i, i < n → as' i = as i) : ∀ {vs : List V} {ys : List Ar}, ArsR K G as vs ys → (∀ i ∈ ownIx ys, i < n) → ArsR K G' as' vs ys
  | _, _, .nil, _ => .nil
  | _, _, .cons (.dat q) r, k => .cons (.dat (q.mono s)) (ArsR.imp s h r k)
  | _, _, .cons (.own q) r, k => .cons (.own (by rw [h _ (k _ List.mem_cons_self)]; exact q)) (ArsR.imp s h r fun j hj => k j (List.mem_cons_of_mem _ hj))
theorem ArsR.ix {O : Addr → Prop} {as : As} {H : Hs} {ρ : En} {σ : L2.St} (E : EnR K J O as H ρ σ) {G : Hp} : ∀ {vs : List V} {ys : List Ar}, ArsR K G as vs ys → ∀ i ∈ ownIx ys, i < σ.length
  | _, _, .nil, _, h => by cases h
  | _, _, .cons (.dat q) r, i, h => ArsR.ix E r i h
  | _, _, .cons (.own q) r, i, h => by
    rcases List.mem_cons.mp (show i ∈ _ :: _ from h) with rfl | h
    · obtain ⟨_, _, e, _⟩ := E.is_own q
      exact E.lt e fun _ z => by cases z
    · exact ArsR.ix E r i h
/-- a held list in a slot of its own, ahead of the store -/
theorem EnR.push {O : Addr → Prop} {as : As} {H : Hs} {ρ : En} {σ : L2.St} {p : Addr} {xs : List V} {ds : List PyData} {l : Nat} (E : EnR K J (plus O p) as H ρ σ) (hl : σ.length = l) (hp : H p = some (.lst xs)) (d : DqAll K (hq (plus O p) as H) xs ds) (np : ¬ O p) :
    EnR K (J0 : Jv 0) O (upA (shA as l (l + 1)) l (some (.lf p))) H (ρ.take l ++ [.own ds] ++ ρ.drop l) (σ ++ [some (.ref p)]) := by
  have E2 := E.more (J' := (J0 : Jv 0)) (N := l + 1) hl (Nat.le_succ _) trivial trivial
  rw [show l + 1 - l = 1 from by omega] at E2
  have L := E.len
  have tk : (ρ.take l).length = l := by rw [List.length_take]; omega
  have hS : Same (hq (plus O p) as H) (hq (plus O p) (shA as l (l + 1)) H) := hp_less fun a h => h.imp id fun h => by
    rcases h with ⟨j, r, hc, q⟩ | hc
    · unfold shA at hc
      split at hc
      · exact .inl ⟨j, r, hc, q⟩
      · split at hc
        · exact .inl ⟨l, r, hc, q⟩
        · cases hc
    · exact .inr hc
  have E3 := E2.setOwn (i := l) (p := p) (xs := xs) (ds := ds) trivial (by rw [List.length_append, hl]; exact Nat.lt_succ_self _) trivial hp (d.mono hS) np
  have e1 : (ρ.take l ++ List.replicate 1 Sl.no ++ ρ.drop l).set l (.own ds) = ρ.take l ++ [.own ds] ++ ρ.drop l := by
    rw [List.append_assoc, List.set_append_right _ _ (by omega), tk, Nat.sub_self, List.append_assoc]
    rfl
  have e2 : (σ ++ List.replicate 1 none).set l (some (.ref p)) = σ ++ [some (.ref p)] := by
    rw [List.set_append_right _ _ (by omega), hl, Nat.sub_self]
    rfl
  rw [e1, e2] at E3
  exact E3
/-- that slot forgotten -/
theorem EnR.pop {O : Addr → Prop} {as as3 : As} {H H' : Hs} {ρ ρ' : En} {σ : L2.St} {o : Option V} {l : Nat} (E : EnR K J O as H ρ σ) (E' : EnR K (J0 : Jv 0) O as3 H' ρ' (σ ++ [o])) (hl : σ.length = l) (h1 : ∀ i, i < l → as3 i = as i) (h2 : as3 (l + 1) = some .sto ↔ as l = some .sto) (f : FrA (Own as H) H H') (nw : ∀ a, Own as3 H' a → Own as H a ∨ H a = none) (lv : ∀ a, H a ≠ none → H' a ≠ none) (ns : NoSto as → H'.st = H.st) :
    Fr as H H' ∧ EnR K J O as H' (ρ'.take l ++ ρ'.drop (l + 1)) σ ∧ Same (hq O as3 H') (hq O as H') := by
  have hb : ∀ i r, as i = some r → (i < l ∧ r ≠ .sto) ∨ (i = l ∧ r = .sto) := fun i r h => by
    rcases E.is_reg h with ⟨a, ds, xs, rfl, e1, e2, _⟩ | ⟨rfl, e, _⟩
    · have := E.lt e1 (fun _ z => by cases z)
      rw [hl] at this
      exact .inl ⟨this, fun z => by cases z⟩
    · rw [hl] at e
      exact .inr ⟨e, rfl⟩
  obtain ⟨B, s⟩ := E'.back (Nat.le_succ l) hb h1 h2
  have fr : Fr as H H' := ⟨f, fun a h => nw a (by
    rcases h with ⟨j, r, hc, q⟩ | hc
    · rcases hb j r hc with ⟨z, _⟩ | ⟨z, e⟩
      · exact .inl ⟨j, r, by rw [h1 j z]; exact hc, q⟩
      · subst e
        exact .inl ⟨l + 1, .sto, h2.mpr (by rw [← z]; exact hc), q⟩
    · exact .inr hc), lv, ns⟩
  have L := E'.len
  rw [List.length_append, hl] at L
  have L : l + 1 ≤ ρ'.length ∧ ρ'.length ≤ l + 1 + 1 := L
  have tk : (ρ'.take l).length = l := by rw [List.length_take]; omega
  have ix : ∀ i, i < l → (ρ'.take l ++ ρ'.drop (l + 1))[i]? = ρ'[i]? := fun i h => by rw [List.getElem?_append_left (by omega), List.getElem?_take, if_pos h]
  have ix2 : ∀ i, l ≤ i → (ρ'.take l ++ ρ'.drop (l + 1))[i]? = ρ'[i + 1]? := fun i h => by rw [List.getElem?_append_right (by omega), tk, List.getElem?_drop, show l + 1 + (i - l) = i + 1 from by omega]
  have st : as l = some .sto → ρ'[l + 1]? = some (.st H'.st) ∧ StoR K (hq O as3 H') H'.hp H'.st := fun h => (E'.sto (l + 1) (h2.mpr h)).2
  refine ⟨fr, ⟨by rw [List.length_append, tk, List.length_drop, hl]; omega, fun i sl e1 e2 => ?_, fun i sl o' e1 e2 => ?_, fun i h => ?_, B.inj, B.out, fun i r h => ?_, E'.occ, J.fr E.inv fr, E.inq, E'.tab⟩, s⟩
  · rw [hl] at e2
    rw [ix2 i e2] at e1
    have z := E'.tl (i + 1) sl e1 (by rw [List.length_append, hl]; show l + 1 ≤ i + 1; omega)
    have : i + 1 = l + 1 := by
      have := (E'.sto (i + 1) z).1
      rw [List.length_append, hl] at this
      exact this
    have : i = l := by omega
    subst this
    exact h2.mp z
  · have hi : i < l := by rw [← hl]; exact (List.getElem?_eq_some_iff.mp e2).1
    rw [ix i hi] at e1
    have := E'.at_ i sl o' e1 (by rw [List.getElem?_append_left (by omega)]; exact e2)
    rw [h1 i hi] at this
    exact this.mono s fun _ _ => rfl
  · rcases hb i _ h with z | z
    · exact absurd rfl z.2
    · rw [z.1] at h ⊢
      obtain ⟨s1, s2⟩ := st h
      exact ⟨hl.symm, by rw [ix2 l (Nat.le_refl _)]; exact s1, s2.move s fun _ _ => rfl⟩
  · rw [List.length_append, tk, List.length_drop]
    rcases hb i r h with z | z
    · omega
    · rw [z.1, z.2] at h
      have := (List.getElem?_eq_some_iff.mp (st h).1).1
      omega
def fCallT (m : Nat) (F : FN) (dv : List PyData) (a0 : FA) (a : FC) : FE := fun ρ P => a0 ρ fun ds ρ1 => a ρ1 fun xs ρ2 => xs.length + 1 + dv.length = m ∧ (ownIx xs).Nodup ∧ argF ρ2 xs fun r => F (.own ds :: (r ++ dv.map .fz)) fun d out => P d (wb ρ2 xs out.tail)
/-- what is owned behind a push -/
theorem own_push {as : As} {H H' : Hs} {p : Addr} {l : Nat} (hb : ∀ i r, as i = some r → (i < l ∧ r ≠ .sto) ∨ (i = l ∧ r = .sto)) {a : Addr} : Own (upA (shA as l (l + 1)) l (some (.lf p))) H a ↔ a = p ∨ Own as H a := by
  constructor
  · rintro h
    rcases h.up with ⟨r, e, q⟩ | h
    · cases e; exact .inl q.lf_of
    · refine .inr ?_
      rcases h with ⟨j, r, hc, q⟩ | hc
      · unfold shA at hc
        split at hc
        · exact .inl ⟨j, r, hc, q⟩
        · split at hc
          · exact .inl ⟨l, r, hc, q⟩
          · cases hc
      · exact .inr hc
  · rintro (h | ⟨j, r, hc, q⟩ | hc)
    · exact .inl ⟨l, .lf p, upA_at, h⟩
    · rcases hb j r hc with ⟨z, _⟩ | ⟨z, _⟩
      · exact .inl ⟨j, r, by rw [upA_ne (by omega)]; unfold shA; rw [if_pos z]; exact hc, q⟩
      · exact .inl ⟨l + 1, r, by rw [upA_ne (by omega)]; unfold shA; rw [if_neg (by omega), if_pos rfl, ← z]; exact hc, q⟩
    · exact .inr hc
theorem callT_core {O : Addr → Prop} {as : As} {H0 H : Hs} {ρ0 ρ : En} {σ : L2.St} {p : Addr} {zs : List V} {ds : List PyData} {ys : List Ar} {r : List Sl} {vs : List V} {m : Nat} {F : FN} {P : PyData → En → Prop} {Q : VK} {E0 : XK} {dv : List PyData} {dvs : List V} (E00 : EnR K J O as H0 ρ0 σ) (f0 : Fr as H0 H) (hp0 : NewO as H0 p) (E : EnR K J (plus O p) as H ρ σ) (hp : H p = some (.lst zs)) (d : DqAll K (hq (plus O p) as H) zs ds) (np : ¬ O p)
    (ar : ArsR K (hq (plus O p) as H) as vs ys) (hd : ∀ H, DqAll K H dvs dv) (fit : Fits ρ ys r) (hm : ys.length + 1 + dv.length = m) (nd : (ownIx ys).Nodup) (f : F (.own ds :: (r ++ dv.map .fz)) fun d out => P d (wb ρ ys out.tail))
    (k : ∀ d ρ' v H', P d ρ' → Fr as H0 H' → EnR K J O as H' ρ' σ → Dq K (hq O as H') v d → Q v H') : spF K m F (.ref p :: (vs ++ dvs)) H Q E0 := by
  generalize hl : σ.length = l
  have E3 := E.push hl hp d np
  have L := E.len
  have tk : (ρ.take l).length = l := by rw [List.length_take]; omega
  have ix := ar.ix E
  rw [hl] at ix
  have ixA : ∀ i ∈ ownIx (ys ++ dv.map .dat), i < l := fun i hi => ix i (by rw [ownIx_app] at hi; exact hi)
  have hb : ∀ i r, as i = some r → (i < l ∧ r ≠ .sto) ∨ (i = l ∧ r = .sto) := fun i r h => by
    rcases E.is_reg h with ⟨a, ds, xs, rfl, e1, e2, _⟩ | ⟨rfl, e, _⟩
    · have := E.lt e1 (fun _ z => by cases z)
      rw [hl] at this
      exact .inl ⟨this, fun z => by cases z⟩
    · rw [hl] at e
      exact .inr ⟨e, rfl⟩
  have own : ∀ {H' : Hs} a, Own (upA (shA as l (l + 1)) l (some (.lf p))) H' a ↔ a = p ∨ Own as H' a := fun {H'} a => own_push (H' := H') hb
  have asE : ∀ i, i < l → upA (shA as l (l + 1)) l (some (.lf p)) i = as i := fun i hi => by
    rw [upA_ne (by omega)]
    unfold shA
    rw [if_pos hi]
  have hS : Same (hq (plus O p) as H) (hq O (upA (shA as l (l + 1)) l (some (.lf p))) H) := hp_less fun a h => by
    rcases h with h | h
    · exact .inl (.inl h)
    · rcases (own a).mp h with h | h
      · exact .inl (.inr h)
      · exact .inr h
  have at3 : ∀ i, i < l → (ρ.take l ++ [Sl.own ds] ++ ρ.drop l)[i]? = ρ[i]? := fun i h => by
    rw [List.append_assoc, List.getElem?_append_left (by omega), List.getElem?_take, if_pos h]
  have hL : (ρ.take l ++ [Sl.own ds] ++ ρ.drop l)[l]? = some (.own ds) := by
    rw [List.append_assoc, List.getElem?_append_right (by omega), tk, Nat.sub_self]
    rfl
  have ρe : ρ = ρ.take l ++ ρ.drop l := (List.take_append_drop l ρ).symm
  have wbe : ∀ out : List Sl, wb (ρ.take l ++ [Sl.own ds] ++ ρ.drop l) (.own l :: (ys ++ dv.map .dat)) out = wb (ρ.take l) ys out.tail ++ ([out.headD .no] ++ ρ.drop l) := fun out => by
    rw [wb, wb_app, List.append_assoc, wb_app2 _ _ _ _ (fun i hi => by rw [tk]; exact ix i hi), List.set_append_right _ _ (by rw [wb_len, tk]; exact Nat.le_refl _), wb_len, tk, Nat.sub_self]
    rfl
  have wb2 : ∀ out : List Sl, wb ρ ys out.tail = wb (ρ.take l) ys out.tail ++ ρ.drop l := fun out => by
    have := wb_app2 (ρ.take l) (ρ.drop l) ys out.tail (fun i hi => by rw [tk]; exact ix i hi)
    rw [List.take_append_drop] at this
    exact this
  refine call_core (e := 0) (P := fun d ρ' => P d (ρ'.take l ++ ρ'.drop (l + 1))) (xs := .own l :: (ys ++ dv.map .dat)) (r := .own ds :: (r ++ dv.map .fz)) E3 (.own hL ((fit.app (fits_dat dv)).moved at3 ixA)) (.cons (.own upA_at) ((ar.imp hS asE ix).app (dat_ars (hd _))).toT) ?_ ?_ ?_ ?_ fun d ρ' v H' pr fr E' q' => ?_
  · rw [List.length_cons, List.length_append, ar.len, (hd H).length]; omega
  · rw [List.length_cons, List.length_append, List.length_map]; omega
  · show (l :: ownIx (ys ++ dv.map .dat)).Nodup
    exact List.nodup_cons.mpr ⟨fun z => Nat.lt_irrefl _ (ixA _ z), by rw [ownIx_app]; exact nd⟩
  · have e : (fun d out => P d ((wb (ρ.take l ++ [Sl.own ds] ++ ρ.drop l) (.own l :: (ys ++ dv.map .dat)) out).take l ++ (wb (ρ.take l ++ [Sl.own ds] ++ ρ.drop l) (.own l :: (ys ++ dv.map .dat)) out).drop (l + 1))) = fun d out => P d (wb ρ ys out.tail) := by
      funext d out
      rw [wbe, wb2, List.take_left' (by rw [wb_len, tk]), List.drop_append, List.drop_of_length_le (by rw [wb_len, tk]; omega), wb_len, tk, show l + 1 - l = 1 from by omega]
      rfl
    show F _ (fun d out => P d ((wb (ρ.take l ++ [Sl.own ds] ++ ρ.drop l) (.own l :: (ys ++ dv.map .dat)) out).take l ++ (wb (ρ.take l ++ [Sl.own ds] ++ ρ.drop l) (.own l :: (ys ++ dv.map .dat)) out).drop (l + 1)))
    rw [e]
    exact f
  · have nsE : NoSto as → NoSto (upA (shA as l (l + 1)) l (some (.lf p))) := fun h j z => by
      by_cases e : j = l
      · rw [e, upA_at] at z; cases z
      · rw [upA_ne e] at z
        unfold shA at z
        split at z
        · exact h _ z
        · split at z
          · exact h _ z
          · cases z
    have old : ∀ a, Own (upA (shA as l (l + 1)) l (some (.lf p))) H a → Own as H0 a ∨ H0 a = none := fun a h => by
      rcases (own a).mp h with h | h
      · rw [h]; exact hp0.symm
      · exact f0.new a h
    have keep : ∀ a o, ¬ Own as H0 a → H0 a = some o → H' a = some o := fun a o na e => fr.fr a o (fun z => by
      rcases old a z with w | w
      · exact na w
      · rw [w] at e; cases e) (f0.fr a o na e)
    obtain ⟨fr', E4, s4⟩ := E00.pop E' hl asE (by rw [upA_ne (by omega)]; unfold shA; rw [if_neg (by omega), if_pos rfl]) keep (fun a h => by
      rcases fr.new a h with z | z
      · exact old a z
      · by_cases w : Own as H0 a
        · exact .inl w
        · cases e : H0 a with
          | none => exact .inr rfl
          | some o => rw [f0.fr a o w e] at z; cases z) (fun a h => fr.liv a (f0.liv a h)) fun h => (fr.nst (nsE h)).trans (f0.nst h)
    exact k d _ v H' pr fr' E4 (q'.mono s4)
theorem re_callT {m : Nat} {F : FN} {dvs : List V} {dv : List PyData} {E0 : XK} {ta : TE} {t : TA} {fa : FA} {f : FC} (hd : ∀ H, DqAll K H dvs dv) (h0 : RN K J ta fa) (ha : RC K J t f) : RE K J (tCall (spF K m F) dvs E0 (tCons ta t)) (fCallT m F dv fa f) := by
  intro O as σ H Q ρ P E q k
  refine h0 O as σ H _ ρ _ E q fun ds ρ1 p xs H1 q1 f1 hp0 E1 hp1 d1 => ?_
  refine ha (plus O p) as σ H1 _ ρ1 _ E1 q1 fun ys ρ2 vs H2 q2 f2 E2 d2 => ?_
  obtain ⟨hm, nd, q2⟩ := q2
  obtain ⟨r, fit, q2⟩ := argF_of q2
  exact callT_core E (f1.trans f2) hp0 E2 (f2.fr _ _ (E1.newp hp1) hp1) (d1.fr f2) (E.notO E1 hp0 hp1) d2 hd fit hm nd q2 k
theorem callTS_core {O : Addr → Prop} {as : As} {H0 H : Hs} {ρ0 ρ : En} {σ : L2.St} {p : Addr} {zs : List V} {ds : List PyData} {ys : List Ar} {r : List Sl} {vs : List V} {m : Nat} {F : FN} {P : PyData → En → Prop} {Q : VK} {E0 : XK} {dv : List PyData} {dvs : List V} {sx : Nat} {S : Sto} (E00 : EnR K J O as H0 ρ0 σ) (f0 : Fr as H0 H) (hp0 : NewO as H0 p) (E : EnR K J (plus O p) as H ρ σ) (hp : H p = some (.lst zs)) (d : DqAll K (hq (plus O p) as H) zs ds) (np : ¬ O p)
    (ar : ArsR K (hq (plus O p) as H) as vs ys) (hd : ∀ H, DqAll K H dvs dv) (fit : Fits ρ ys r) (hm : ys.length + 1 + dv.length = m) (nd : (ownIx ys).Nodup) (hs : ρ[sx]? = some (.st S)) (f : F (.own ds :: (r ++ dv.map .fz) ++ [.st S]) fun d out => P d ((wb ρ ys out.tail).set sx ((out.drop m).headD .no)))
    (k : ∀ d ρ' v H', P d ρ' → Fr as H0 H' → EnR K J O as H' ρ' σ → Dq K (hq O as H') v d → Q v H') : spS K m F (.ref p :: (vs ++ dvs)) H Q E0 := by
  obtain ⟨hsx, _⟩ := E.sto sx (E.st_at hs).1
  generalize hl : σ.length = l
  rw [hl] at hsx
  subst hsx
  have E3 := E.push hl hp d np
  have L := E.len
  have tk : (ρ.take sx).length = sx := by rw [List.length_take]; omega
  have ix := ar.ix E
  rw [hl] at ix
  have ixA : ∀ i ∈ ownIx (ys ++ dv.map .dat), i < sx := fun i hi => ix i (by rw [ownIx_app] at hi; exact hi)
  have hb : ∀ i r, as i = some r → (i < sx ∧ r ≠ .sto) ∨ (i = sx ∧ r = .sto) := fun i r h => by
    rcases E.is_reg h with ⟨a, ds, xs, rfl, e1, e2, _⟩ | ⟨rfl, e, _⟩
    · have := E.lt e1 (fun _ z => by cases z)
      rw [hl] at this
      exact .inl ⟨this, fun z => by cases z⟩
    · rw [hl] at e
      exact .inr ⟨e, rfl⟩
  have own : ∀ {H' : Hs} a, Own (upA (shA as sx (sx + 1)) sx (some (.lf p))) H' a ↔ a = p ∨ Own as H' a := fun {H'} a => own_push (H' := H') hb
  have asE : ∀ i, i < sx → upA (shA as sx (sx + 1)) sx (some (.lf p)) i = as i := fun i hi => by
    rw [upA_ne (by omega)]
    unfold shA
    rw [if_pos hi]
  have hS : Same (hq (plus O p) as H) (hq O (upA (shA as sx (sx + 1)) sx (some (.lf p))) H) := hp_less fun a h => by
    rcases h with h | h
    · exact .inl (.inl h)
    · rcases (own a).mp h with h | h
      · exact .inl (.inr h)
      · exact .inr h
  have at3 : ∀ i, i < sx → (ρ.take sx ++ [Sl.own ds] ++ ρ.drop sx)[i]? = ρ[i]? := fun i h => by
    rw [List.append_assoc, List.getElem?_append_left (by omega), List.getElem?_take, if_pos h]
  have hL : (ρ.take sx ++ [Sl.own ds] ++ ρ.drop sx)[sx]? = some (.own ds) := by
    rw [List.append_assoc, List.getElem?_append_right (by omega), tk, Nat.sub_self]
    rfl
  have dl : ρ.drop sx = [.st S] := by
    have h1 : (ρ.drop sx).length = 1 := by
      have := (List.getElem?_eq_some_iff.mp hs).1
      rw [List.length_drop]; omega
    obtain ⟨z, hz⟩ := List.length_eq_one_iff.mp h1
    have h2 : (ρ.drop sx)[0]? = some (.st S) := by rw [List.getElem?_drop]; exact hs
    rw [hz] at h2
    cases h2
    exact hz
  have hL2 : (ρ.take sx ++ [Sl.own ds] ++ ρ.drop sx)[sx + 1]? = some (.st S) := by
    rw [List.getElem?_append_right (by rw [List.length_append, tk]; exact Nat.le_refl _), List.length_append, tk, dl]
    rw [show sx + 1 - (sx + [Sl.own ds].length) = 0 from Nat.sub_self _]
    rfl
  have a0 := (E.st_at hs).1
  have wbe : ∀ out : List Sl, wb (ρ.take sx ++ [Sl.own ds] ++ ρ.drop sx) (.own sx :: (ys ++ dv.map .dat) ++ [.own (sx + 1)]) out = wb (ρ.take sx) ys out.tail ++ ([out.headD .no] ++ [(out.drop m).headD .no]) := fun out => by
    have hlen : (Ar.own sx :: (ys ++ dv.map .dat)).length = m := by rw [List.length_cons, List.length_append, List.length_map]; omega
    rw [wb_snoc, hlen, List.set_append_right _ _ (by rw [List.length_append, tk]; exact Nat.le_refl _), List.length_append, tk, dl, show sx + 1 - (sx + [Sl.own ds].length) = 0 from Nat.sub_self _]
    show wb (ρ.take sx ++ [Sl.own ds] ++ [_]) _ _ = _
    rw [wb, wb_app, List.append_assoc, wb_app2 _ _ _ _ (fun i hi => by rw [tk]; exact ix i hi), List.set_append_right _ _ (by rw [wb_len, tk]; exact Nat.le_refl _), wb_len, tk, Nat.sub_self]
    rfl
  have wb2 : ∀ (out : List Sl) (z : Sl), (wb ρ ys out.tail).set sx z = wb (ρ.take sx) ys out.tail ++ [z] := fun out z => by
    have := wb_app2 (ρ.take sx) (ρ.drop sx) ys out.tail (fun i hi => by rw [tk]; exact ix i hi)
    rw [List.take_append_drop] at this
    rw [this, List.set_append_right _ _ (by rw [wb_len, tk]; exact Nat.le_refl _), wb_len, tk, Nat.sub_self, dl]
    rfl
  refine call_core (e := 1) (P := fun d ρ' => P d (ρ'.take sx ++ ρ'.drop (sx + 1))) (xs := .own sx :: (ys ++ dv.map .dat) ++ [.own (sx + 1)]) (r := .own ds :: (r ++ dv.map .fz) ++ [.st S]) E3 (.own hL (((fit.app (fits_dat dv)).moved at3 ixA).app (.st hL2 .nil))) (.cons (.own upA_at) (((ar.imp hS asE ix).app (dat_ars (hd _))).snoc (by rw [upA_ne (by omega)]; unfold shA; rw [if_neg (by omega), if_pos rfl]; exact a0))) ?_ ?_ ?_ ?_ fun d ρ' v H' pr fr E' q' => ?_
  · rw [List.length_cons, List.length_append, ar.len, (hd H).length]; omega
  · rw [List.length_append, List.length_cons, List.length_append, List.length_map, List.length_singleton]; omega
  · rw [ownIx_snoc]
    show (sx :: ownIx (ys ++ dv.map .dat) ++ [sx + 1]).Nodup
    rw [List.nodup_append]
    refine ⟨List.nodup_cons.mpr ⟨fun z => Nat.lt_irrefl _ (ixA _ z), by rw [ownIx_app]; exact nd⟩, List.nodup_cons.mpr ⟨List.not_mem_nil, .nil⟩, fun a ha b hb' e => ?_⟩
    rw [List.mem_singleton] at hb'
    rcases List.mem_cons.mp ha with z | z
    · omega
    · have := ixA _ z; omega
  · have e : (fun d out => P d ((wb (ρ.take sx ++ [Sl.own ds] ++ ρ.drop sx) (.own sx :: (ys ++ dv.map .dat) ++ [.own (sx + 1)]) out).take sx ++ (wb (ρ.take sx ++ [Sl.own ds] ++ ρ.drop sx) (.own sx :: (ys ++ dv.map .dat) ++ [.own (sx + 1)]) out).drop (sx + 1))) = fun d out => P d ((wb ρ ys out.tail).set sx ((out.drop m).headD .no)) := by
      funext d out
      rw [wbe, wb2, List.take_left' (by rw [wb_len, tk]), List.drop_append, List.drop_of_length_le (by rw [wb_len, tk]; omega), wb_len, tk, show sx + 1 - sx = 1 from by omega]
      rfl
    show F _ (fun d out => P d ((wb (ρ.take sx ++ [Sl.own ds] ++ ρ.drop sx) (.own sx :: (ys ++ dv.map .dat) ++ [.own (sx + 1)]) out).take sx ++ (wb (ρ.take sx ++ [Sl.own ds] ++ ρ.drop sx) (.own sx :: (ys ++ dv.map .dat) ++ [.own (sx + 1)]) out).drop (sx + 1)))
    rw [e]
    exact f
  · have nsE : NoSto as → NoSto (upA (shA as sx (sx + 1)) sx (some (.lf p))) := fun h j z => by
      by_cases e : j = sx
      · rw [e, upA_at] at z; cases z
      · rw [upA_ne e] at z
        unfold shA at z
        split at z
        · exact h _ z
        · split at z
          · exact h _ z
          · cases z
    have old : ∀ a, Own (upA (shA as sx (sx + 1)) sx (some (.lf p))) H a → Own as H0 a ∨ H0 a = none := fun a h => by
      rcases (own a).mp h with h | h
      · rw [h]; exact hp0.symm
      · exact f0.new a h
    have keep : ∀ a o, ¬ Own as H0 a → H0 a = some o → H' a = some o := fun a o na e => fr.fr a o (fun z => by
      rcases old a z with w | w
      · exact na w
      · rw [w] at e; cases e) (f0.fr a o na e)
    obtain ⟨fr', E4, s4⟩ := E00.pop E' hl asE (by rw [upA_ne (by omega)]; unfold shA; rw [if_neg (by omega), if_pos rfl]) keep (fun a h => by
      rcases fr.new a h with z | z
      · exact old a z
      · by_cases w : Own as H0 a
        · exact .inl w
        · cases e : H0 a with
          | none => exact .inr rfl
          | some o => rw [f0.fr a o w e] at z; cases z) (fun a h => fr.liv a (f0.liv a h)) fun h => (fr.nst (nsE h)).trans (f0.nst h)
    exact k d _ v H' pr fr' E4 (q'.mono s4)
def fCallTS (sx m : Nat) (F : FN) (dv : List PyData) (a0 : FA) (a : FC) : FE := fun ρ P => a0 ρ fun ds ρ1 => a ρ1 fun xs ρ2 => xs.length + 1 + dv.length = m ∧ (ownIx xs).Nodup ∧ argF ρ2 xs fun r => match ρ2[sx]? with
  | some (.st S) => F (.own ds :: (r ++ dv.map .fz) ++ [.st S]) fun d out => P d ((wb ρ2 xs out.tail).set sx ((out.drop m).headD .no))
  | _ => False
theorem re_callTS {sx m : Nat} {F : FN} {dvs : List V} {dv : List PyData} {E0 : XK} {ta : TE} {t : TA} {fa : FA} {f : FC} (hd : ∀ H, DqAll K H dvs dv) (h0 : RN K J ta fa) (ha : RC K J t f) : RE K J (tCall (spS K m F) dvs E0 (tCons ta t)) (fCallTS sx m F dv fa f) := by
  intro O as σ H Q ρ P E q k
  refine h0 O as σ H _ ρ _ E q fun ds ρ1 p xs H1 q1 f1 hp0 E1 hp1 d1 => ?_
  refine ha (plus O p) as σ H1 _ ρ1 _ E1 q1 fun ys ρ2 vs H2 q2 f2 E2 d2 => ?_
  obtain ⟨hm, nd, q2⟩ := q2
  obtain ⟨r, fit, q2⟩ := argF_of q2
  split at q2
  · next S hs => exact callTS_core E (f1.trans f2) hp0 E2 (f2.fr _ _ (E1.newp hp1) hp1) (d1.fr f2) (E.notO E1 hp0 hp1) d2 hd fit hm nd hs q2 k
  · exact q2.elim
/-! defs that raise or hand back a new list -/
abbrev FXM := List Sl → (List PyData → List Sl → Prop) → (PyData → List Sl → Prop) → Prop
def spXNG (K : PySem.W.Frag) (n e : Nat) (F : FXM) : Sp := fun vs H Q E => vs.length = n ∧ ∃ (O : Addr → Prop) (as : As) (S : Sto) (ρ : En) (P : List PyData → List Sl → Prop) (X : PyData → List Sl → Prop), EnR K (J0 : Jv 0) O as ⟨H, S⟩ ρ (vs.map some) ∧ ρ.length = n + e ∧ F ρ P X ∧
  (∀ ds out p xs H', P ds out → Fr as ⟨H, S⟩ H' → NewO as ⟨H, S⟩ p → Bk K (plus O p) as H' out → H' p = some (.lst xs) → DqAll K (hq (plus O p) as H') xs ds → Q (.ref p) H') ∧
  ∀ d out cls dd H', X d out → Fr as ⟨H, S⟩ H' → Bk K O as H' out → XcAt K (hq O as H') cls dd d → E cls dd H'
abbrev spXN (K : PySem.W.Frag) (n : Nat) (F : FXM) : Sp := spXNG K n 0 F
abbrev spXNS (K : PySem.W.Frag) (n : Nat) (F : FXM) : Sp := spXNG K n 1 F
def fnXM (n m : Nat) (b : (PyData → En → Prop) → FS) : FXM := fun sls P X => b (fun d ρ' => X d (ρ'.take n)) { nx := fun _ => False, rt := fun _ _ => False, ro := fun ds ρ' => P ds (ρ'.take n) } (sls ++ List.replicate (m - n) .no)
def fnXMS (n m : Nat) (b : (PyData → En → Prop) → FS) : FXM := fun sls P X => b (fun d ρ' => X d (ρ'.take n ++ ρ'.drop m)) { nx := fun _ => False, rt := fun _ _ => False, ro := fun ds ρ' => P ds (ρ'.take n ++ ρ'.drop m) } (sls.take n ++ List.replicate (m - n) .no ++ sls.drop n)
theorem fn_runXN {m e : Nat} {N : List Str} {b : (PyData → En → Prop) → FS} {t : WX → TS} (hN : m ≤ N.length) (rs : ∀ (J : Jv m) (X : PyData → En → Prop) (W : WX), Lk K J X W → RS K J (t W) (b X)) {vs : List V} {H : Hp} {Q : VK} {E : XK} {F : FXM}
    (hF : F = fun sls P X => b (fun d ρ' => X d (outS e m N.length ρ')) { nx := fun _ => False, rt := fun _ _ => False, ro := fun ds ρ' => P ds (outS e m N.length ρ') } (enS e m N.length sls)) (h : spXNG K m e F vs H Q E) :
    t (fun cls d _ H => E cls d H) { nx := fun _ H' => Q .non H', rt := Q } (L2.start N vs) H := by
  obtain ⟨hv, O, as, S, ρ, P, X, R, hl, hf, q, qx⟩ := h
  subst hF
  refine rs (Jst m O (shA as m N.length) ⟨H, S⟩) (fun d ρ' => X d (outS e m N.length ρ')) _ (fun O' as' σ' H' ρ' cls dd d R' xc hx => ?_) O _ _ ⟨H, S⟩ _ _ _ (fn_start R hv hl hN) hf ⟨fun _ _ _ _ p => p.elim, fun _ _ _ _ _ _ p => p.elim, fun _ _ _ _ p => p.elim, fun _ _ _ _ p => p.elim, fun ds ρ' p xs as' σ' H' pr x o R' e d => ?_⟩
  · have R2 : EnR K (Jst m O (shA as m N.length) ⟨H, S⟩) O as' H' ρ' σ' := R'.sub R'.inq fun _ h => h
    obtain ⟨h1, h2, h3⟩ := fn_back R hv hl hN R'.inv R2
    exact qx d _ cls dd H' hx h1 h2 ((xc.mono (hp_less fun a z => z.imp (R'.inq a) id)).mono h3)
  · obtain ⟨h1, h2, h3⟩ := fn_back R hv hl hN x R'
    exact q _ _ _ _ _ pr h1 (Ext.newS o) h2 e (d.mono h3)
theorem fn_coreXN {ps : List Str} {N : List Str} {b : (PyData → En → Prop) → FS} {t : WX → TS} (hN : ps.length ≤ N.length) (rs : ∀ (J : Jv ps.length) (X : PyData → En → Prop) (W : WX), Lk K J X W → RS K J (t W) (b X)) {vs : List V} {H : Hp} {Q : VK} {E : XK} (h : spXN K ps.length (fnXM ps.length N.length b) vs H Q E) :
    t (fun cls d _ H => E cls d H) { nx := fun _ H' => Q .non H', rt := Q } (L2.start N vs) H := fn_runXN hN rs rfl h
theorem fn_coreXNS {ps : List Str} {N : List Str} {b : (PyData → En → Prop) → FS} {t : WX → TS} (hN : ps.length ≤ N.length) (rs : ∀ (J : Jv ps.length) (X : PyData → En → Prop) (W : WX), Lk K J X W → RS K J (t W) (b X)) {vs : List V} {H : Hp} {Q : VK} {E : XK} (h : spXNS K ps.length (fnXMS ps.length N.length b) vs H Q E) :
    t (fun cls d _ H => E cls d H) { nx := fun _ H' => Q .non H', rt := Q } (L2.start N vs) H := fn_runXN hN rs rfl h
section
variable {P : Program} {w : World} {mg : Str → Option Value} {base : Heap} {k : Nat} {f : Addr} {fd : FuncData} {ps : List Str} {x qual : Str} {st : Stmt} {N : List Str}
theorem okXNc {b : (PyData → En → Prop) → FS} (F : Fun K x qual st f fd) (S : FnScope N ps (defScope st))
    (body : ∀ (cdv : Value), fd.code = cdv → ∀ (A : Around) (outer : List Env) (s : Shared) (H : Hp) (E : XK), Room k (A.deeper (envOfC qual (defScope st) s.heap.objs.size f cdv)) →
      ∃ t : WX → TS, (∀ W, Takes (cxOf (L2.CX P w) P w K mg base N qual (defScope st) f cdv A outer s H E) W → PSs (cxOf (L2.CX P w) P w K mg base N qual (defScope st) f cdv A outer s H E) (defBody st) (t W)) ∧ ∀ (J : Jv ps.length) (X : PyData → En → Prop) (W : WX), Lk K J X W → RS K J (t W) (b X)) :
    FnOk P w K mg base (L2.CX P w) (k + 1) f fd ps (spXN K ps.length (fnXM ps.length N.length b)) := by
  obtain ⟨oc, od, kV, doc, pm, an, cdv, ct, osl, rfl, lk, hcd⟩ := F.ex
  refine fn_of lk hcd S (fun vs H Q E h => h.1) fun A outer s H vs Q E hr h => ?_
  obtain ⟨t, pt, rs⟩ := body cdv rfl A outer s H E hr
  exact ⟨_, pt _ (takes_of (E := E) rfl rfl rfl rfl), fn_coreXN (scope_le S) rs h⟩
theorem okXN0 {b : (PyData → En → Prop) → FS} (F : Fun K x qual st f fd) (S : FnScope N ps (defScope st))
    (body : ∀ (cdv : Value) (A : Around) (outer : List Env) (s : Shared) (H : Hp) (E : XK), Room k (A.deeper (envOfC qual (defScope st) s.heap.objs.size f cdv)) →
      ∃ t : WX → TS, (∀ W, Takes (cxOf (L2.CX P w) P w K mg base N qual (defScope st) f cdv A outer s H E) W → PSs (cxOf (L2.CX P w) P w K mg base N qual (defScope st) f cdv A outer s H E) (defBody st) (t W)) ∧ ∀ (J : Jv ps.length) (X : PyData → En → Prop) (W : WX), Lk K J X W → RS K J (t W) (b X)) :
    FnOk P w K mg base (L2.CX P w) (k + 1) f fd ps (spXN K ps.length (fnXM ps.length N.length b)) := okXNc F S fun cdv _ => body cdv
theorem okXNSc {b : (PyData → En → Prop) → FS} (F : Fun K x qual st f fd) (S : FnScope N ps (defScope st))
    (body : ∀ (cdv : Value), fd.code = cdv → ∀ (A : Around) (outer : List Env) (s : Shared) (H : Hp) (E : XK), Room k (A.deeper (envOfC qual (defScope st) s.heap.objs.size f cdv)) →
      ∃ t : WX → TS, (∀ W, Takes (cxOf (L2.CX P w) P w K mg base N qual (defScope st) f cdv A outer s H E) W → PSs (cxOf (L2.CX P w) P w K mg base N qual (defScope st) f cdv A outer s H E) (defBody st) (t W)) ∧ ∀ (J : Jv ps.length) (X : PyData → En → Prop) (W : WX), Lk K J X W → RS K J (t W) (b X)) :
    FnOk P w K mg base (L2.CX P w) (k + 1) f fd ps (spXNS K ps.length (fnXMS ps.length N.length b)) := by
  obtain ⟨oc, od, kV, doc, pm, an, cdv, ct, osl, rfl, lk, hcd⟩ := F.ex
  refine fn_of lk hcd S (fun vs H Q E h => h.1) fun A outer s H vs Q E hr h => ?_
  obtain ⟨t, pt, rs⟩ := body cdv rfl A outer s H E hr
  exact ⟨_, pt _ (takes_of (E := E) rfl rfl rfl rfl), fn_coreXNS (scope_le S) rs h⟩
theorem okXNS0 {b : (PyData → En → Prop) → FS} (F : Fun K x qual st f fd) (S : FnScope N ps (defScope st))
    (body : ∀ (cdv : Value) (A : Around) (outer : List Env) (s : Shared) (H : Hp) (E : XK), Room k (A.deeper (envOfC qual (defScope st) s.heap.objs.size f cdv)) →
      ∃ t : WX → TS, (∀ W, Takes (cxOf (L2.CX P w) P w K mg base N qual (defScope st) f cdv A outer s H E) W → PSs (cxOf (L2.CX P w) P w K mg base N qual (defScope st) f cdv A outer s H E) (defBody st) (t W)) ∧ ∀ (J : Jv ps.length) (X : PyData → En → Prop) (W : WX), Lk K J X W → RS K J (t W) (b X)) :
    FnOk P w K mg base (L2.CX P w) (k + 1) f fd ps (spXNS K ps.length (fnXMS ps.length N.length b)) := okXNSc F S fun cdv _ => body cdv
end
/-- the same with the list as data -/
def toX (F : FXM) : FX := fun ss P X => F ss (fun ds out => P (.list ds) out) X
theorem toX_of {m e : Nat} {F : FXM} {vs : List V} {H : Hp} {Q : VK} {E : XK} (h : spXG K m e (toX F) vs H Q E) : spXNG K m e F vs H Q E := by
  obtain ⟨hv, O, as, S, ρ, P, X, R, hl, hF, q, qx⟩ := h
  refine ⟨hv, O, as, S, ρ, _, X, R, hl, hF, fun ds out p xs H' pr fr hp0 bk hp1 d => ?_, qx⟩
  have np : ¬ Hid O as H' p := fun z => by
    rcases z with z | ⟨i, r, h, z⟩ | z
    · rcases hp0 with h | ⟨i, r, h, w⟩ | h
      · exact R.occ p z h
      · exact R.out i r p h w z
      · exact bk.tab.no hp1 h
    · exact bk.out i r p h z (.inr rfl)
    · exact bk.tab.no hp1 z
  have s : Same (hq (plus O p) as H') (hq O as H') := hp_less fun a h => hid_plus h
  refine q _ out _ H' pr fr ⟨bk.tab, fun i a h => ?_, bk.inj, fun i r b h w z => bk.out i r b h w (.inl z)⟩ (.lst (SqL.of (hp_mk np hp1)) (d.mono s))
  obtain ⟨sl, e1, e2⟩ := bk.at_ i a h
  exact ⟨sl, e1, e2.mono s⟩
theorem call_coreXN {O : Addr → Prop} {as : As} {H : Hs} {ρ : En} {σ : L2.St} {xs : List Ar} {r : List Sl} {vs : List V} {m e : Nat} {F : FXM} {P : List PyData → En → Prop} {X : PyData → En → Prop} {Q : VK} {W : WX} (E : EnR K J O as H ρ σ) (fit : Fits ρ xs r) (ar : ArsT K (hq O as H) as vs xs) (hv : vs.length = m) (hm : xs.length = m + e) (nd : (ownIx xs).Nodup)
    (f : F r (fun d out => P d (wb ρ xs out)) fun d out => X d (wb ρ xs out)) (l : Lk K J X W) (k : ∀ ds ρ' p ys H', P ds ρ' → Fr as H H' → NewO as H p → EnR K J (plus O p) as H' ρ' σ → H' p = some (.lst ys) → DqAll K (hq (plus O p) as H') ys ds → Q (.ref p) H') : spXNG K m e F vs H Q (WE W σ) := by
  refine ⟨hv, _, adrs as xs, H.st, r, _, _, call_in E fit ar nd, by rw [fit.len, hm], f, fun d out p ys H' pr fr hp1 bk hp2 dv => ?_, fun d out cls dd H' p fr bk xc => ?_⟩
  · obtain ⟨fr', E', hid⟩ := call_backX E ar nd fr hp1 (by rw [hp2]; exact Option.some_ne_none _) bk
    exact k d _ p ys H' pr fr' (hp1.imp id adrs_sub) E' hp2 (dv.mono (hp_less hid))
  · obtain ⟨fr', E', hid, _⟩ := call_back E ar nd fr bk
    exact l O as σ H' _ cls dd d E' (xc.mono (hp_less hid)) p
def fCallXW (m : Nat) (F : FXM) (dv : List PyData) (X : PyData → En → Prop) (a : FC) : FA := fun ρ P => a ρ fun xs ρ1 => xs.length + dv.length = m ∧ (ownIx xs).Nodup ∧ argF ρ1 xs fun r => F (r ++ dv.map .fz) (fun d out => P d (wb ρ1 xs out)) fun d out => X d (wb ρ1 xs out)
theorem rn_callX {m : Nat} {F : FXM} {dvs : List V} {dv : List PyData} {X : PyData → En → Prop} {W : WX} {t : TA} {f : FC} (l : Lk K J X W) (hd : ∀ H, DqAll K H dvs dv) (ha : RC K J t f) : RN K J (tCallSD (spXN K m F) dvs (WE W) t) (fCallXW m F dv X f) := by
  intro O as σ H Q ρ P E q k
  refine ha O as σ H _ ρ _ E q fun xs ρ1 vs H1 q1 f1 E1 d1 => ?_
  obtain ⟨hm, nd, q1⟩ := q1
  obtain ⟨r, fit, q1⟩ := argF_of q1
  refine call_coreXN (xs := xs ++ dv.map .dat) E1 (fit.app (fits_dat dv)) (d1.app (dat_ars (hd _))).toT (by rw [List.length_append, d1.len, (hd H1).length]; exact hm) (by rw [List.length_append, List.length_map]; exact hm) (by rw [ownIx_app]; exact nd) ?_ l fun ds ρ' p ys H' pr fr hp1 E' hp2 q' => k ds ρ' p ys H' pr (f1.trans fr) (none_back f1 hp1) E' hp2 q'
  simp only [wb_app]
  exact q1
end
end DL
/-! zip of a list and a tuple in any mix -/
namespace ZM
open PySem PySem.Spec PyProof.Rows L2
def SqK (K : PySem.W.Frag) (H : Hp) (k : Bool) (a : Addr) (xs : List V) : Prop := match k with
  | true => SqL K H a xs
  | false => SqT K H a xs
def itK (h : Heap) (k : Bool) (it a : Addr) (i : Nat) : Prop := match k with
  | true => h.IsListIter it a i
  | false => h.IsTupleIter it a i
def isK (h : Heap) (k : Bool) (a : Addr) (items : Array Value) : Prop := match k with
  | true => h.IsList a items
  | false => h.IsTuple a items
def objK (k : Bool) (a : Addr) : Obj := match k with
  | true => { cls := .type "list_iterator", data := .fields #[.ref a, .int 0 0] }
  | false => { cls := .type "tuple_iterator", data := .fields #[.ref a, .int 0 0] }
theorem drawsK {prog : Program} {w : World} {A : Around} (hh : A.handled = none) (k : Bool) (it a : Addr) (ne : a ≠ it) (items : Array Value) :
    Draws prog w A it [it, a] items.size (fun i v => items[i]? = some v) (fun i h => itK h k it a i ∧ isK h k a items) := by
  cases k
  · exact Draws.tuple hh it a ne items
  · exact Draws.list hh it a ne items
theorem beginsK (k : Bool) (a : Addr) (items : Array Value) : Begins (.ref a) (objK k a) fun h => isK h k a items := by
  cases k
  · exact begins_tuple a items
  · exact begins_list a items
theorem itK.at {h h' : Heap} {k : Bool} {it a : Addr} {i : Nat} (q : itK h k it a i) (e : ∀ o, h.get? it = some o → h'.get? it = some o) : itK h' k it a i := by
  cases k
  · exact Heap.IsTupleIter.at q e
  · exact Heap.IsListIter.at q e
theorem itK.obj {h : Heap} {k : Bool} {it a : Addr} {i : Nat} (q : itK h k it a i) : ∃ o, h.get? it = some o ∧ ∀ v, o.data ≠ .cell v := by
  cases k
  · obtain ⟨o, e, _, d⟩ := q
    exact ⟨o, e, fun v z => by rw [d] at z; cases z⟩
  · obtain ⟨o, e, _, d⟩ := q
    exact ⟨o, e, fun v z => by rw [d] at z; cases z⟩
section
variable {X : Cx} {pins : List (Addr × Obj)} {σ : L2.St} {H : Hp} {s : Shared}
theorem sqK (I : Inv X pins σ H s) {k : Bool} {a : Addr} {xs : List V} (h : SqK X.K H k a xs) : ∃ its : List Value, Vals xs its ∧ isK s.heap k a its.toArray ∧ a < s.heap.objs.size := by
  cases k
  · obtain ⟨its, rv, p, _⟩ := I.tuple h
    obtain ⟨o, e, _⟩ := id p
    exact ⟨its, rv, p, Heap.lt_size e⟩
  · obtain ⟨its, rv, p, _⟩ := I.list h
    exact ⟨its, rv, p.isList, p.lt⟩
theorem sqK_inj (I : Inv X pins σ H s) {k : Bool} {a : Addr} {xs ys : List V} (h : SqK X.K H k a xs) (h' : SqK X.K H k a ys) : xs = ys := by
  cases k
  · exact I.tuple_inj h h'
  · exact I.list_inj h h'
end
def ItzM (K : PySem.W.Frag) (k1 k2 : Bool) (a b : Addr) : It :=
  ⟨fun i H => ∃ (xs ys : List V) (x y : V), SqK K H k1 a xs ∧ SqK K H k2 b ys ∧ xs[i]? = some x ∧ ys[i]? = some y,
    fun i H v H' => ∃ T x y, v = .ref T ∧ H T = none ∧ H' = upd H T (.tup [x, y]) ∧ (∀ xs, SqK K H k1 a xs → xs[i]? = some x) ∧ ∀ ys, SqK K H k2 b ys → ys[i]? = some y,
    fun i H => ∃ xs ys : List V, SqK K H k1 a xs ∧ SqK K H k2 b ys ∧ i ≤ xs.length ∧ i ≤ ys.length ∧ (xs.length = i ∨ ys.length = i)⟩
theorem nn {a b : Nat} (h : a ≠ b) : @Ne Addr a b := h
theorem n2 {z a b : Nat} (h : z ≠ a) (h' : z ≠ b) : ¬ @Membership.mem Addr (List Addr) _ [a, b] z := fun q => by
  rcases List.mem_cons.mp q with q | q
  · exact h q
  · rcases List.mem_cons.mp q with q | q
    · exact h' q
    · cases q
theorem nc5 {n c : Nat} (h : ¬ (n ≤ c ∧ c ≤ n + 4)) : c ≠ n + 4 ∧ c ≠ n + 3 ∧ c ≠ n ∧ c ≠ n + 1 := by omega
theorem mem5 {n c : Nat} : c ∈ ([n + 4, n + 2, n + 3, n, n + 1] : List Nat) ↔ n ≤ c ∧ c ≤ n + 4 := by
  simp only [List.mem_cons, List.not_mem_nil, or_false]
  omega
theorem turn_zipM {P : Program} {w : World} {K : PySem.W.Frag} {elts : List Expr} {kk : Nat} {tpos : Pos} {k1 k2 : Bool} {a b n : Nat} (ha : a < n) (hb : b < n) :
    Turn P w K (.Tuple elts kk tpos) (ItzM K k1 k2 a b) [n + 4, n + 2, n + 3, n, n + 1] (n + 4) (fun i h => IsZip h (n + 4) (n + 2) (n + 3) .none ∧ IsTupOf2 h (n + 2) (.ref n) (.ref (n + 1)) ∧ (∃ x y, IsTupOf2 h (n + 3) x y) ∧ itK h k1 n a i ∧ itK h k2 (n + 1) b i) := by
  have S : ZipSep2 (n + 4) (n + 2) (n + 3) n (n + 1) [n, a] [n + 1, b] := by
    exact ⟨nn (by omega), nn (by omega), nn (by omega), nn (by omega), List.mem_cons_self, n2 (by omega) (by omega), n2 (by omega) (by omega), nn (by omega), List.mem_cons_self, n2 (by omega) (by omega), n2 (by omega) (by omega), n2 (by omega) (by omega), n2 (by omega) (by omega)⟩
  refine ⟨by simp, ?_, ?_, ?_, ?_, ?_⟩
  · rintro i h ⟨hz, hI, ⟨x, y, hO⟩, q1, q2⟩ c hc
    simp only [List.mem_cons, List.not_mem_nil, or_false] at hc
    rcases hc with rfl | rfl | rfl | rfl | rfl
    · exact ⟨_, hz, fun v q => nomatch q⟩
    · exact ⟨_, hI, fun v q => nomatch q⟩
    · exact ⟨_, hO, fun v q => nomatch q⟩
    · exact q1.obj
    · exact q2.obj
  · rintro i h h' ⟨hz, hI, ⟨x, y, hO⟩, q1, q2⟩ kp
    exact ⟨kp _ (by simp) _ hz, kp _ (by simp) _ hI, ⟨x, y, kp _ (by simp) _ hO⟩, q1.at fun o => kp _ (by simp) o, q2.at fun o => kp _ (by simp) o⟩
  · intro X hP hw hK hc i pins s σ H E I hf st hg
    subst hP hw hK
    obtain ⟨hz, hI, ⟨x0, y0, hO⟩, q1, q2⟩ := st
    obtain ⟨xs, ys, x, y, hqx, hqy, hx, hy⟩ := hg
    obtain ⟨its, rv, p1, _⟩ := sqK I hqx
    obtain ⟨jts, rv2, p2, _⟩ := sqK I hqy
    obtain ⟨u, hu, ru⟩ := rv.get hx
    obtain ⟨v, hv, rv'⟩ := rv2.get hy
    have lz : (n + 4 : Nat) < s.heap.objs.size := Heap.lt_size hz
    have l1 : i < its.toArray.size := by simpa using (List.getElem?_eq_some_iff.mp hu).1
    have l2 : i < jts.toArray.size := by simpa using (List.getElem?_eq_some_iff.mp hv).1
    have hh : X.A.in1.handled = none := I.ok.hd hc
    refine wpAny_pyNext_zipD2_item S (drawsK hh k1 n a (nn (by omega)) its.toArray) (drawsK hh k2 (n + 1) b (nn (by omega)) jts.toArray) hz hI hO ⟨q1, p1⟩ ⟨q2, p2⟩ l1 l2 fun u1 u2 h' tk e1 e2 z' _ s1 s2 hT _ kp => ?_
    have eu : u1 = u := by
      have : its.toArray[i]? = some u := by simpa using hu
      rw [this] at e1
      exact (Option.some.inj e1).symm
    have ev : u2 = v := by
      have : jts.toArray[i]? = some v := by simpa using hv
      rw [this] at e2
      exact (Option.some.inj e2).symm
    subst eu ev
    refine ⟨_, rfl, wpAny_letOwnedTupleGo_zip (s := { s with heap := h', toks := tk }) z' fun h2 z2 sb => ?_⟩
    have sb' : ∀ c, c ≠ n + 4 → h2.get? c = h'.get? c := fun c hc => sb.2 c hc
    have hT2 : h2.get? s.heap.objs.size = some { cls := .type "tuple", data := .seq #[u1, u2] } := (sb' _ (nn (by omega))).trans hT
    have new : ObjOk X.prog X.w (upd H s.heap.objs.size (.tup [x, y])) h2 s.heap.objs.size (.tup [x, y]) :=
      ⟨Nat.le_of_ble_eq_true rfl, [u1, u2], .cons ru (.cons rv' .nil), ⟨_, hT2, rfl, _, rfl⟩⟩
    have I1 : Inv X pins σ (upd H s.heap.objs.size (.tup [x, y])) { s with heap := h2, toks := tk } := by
      refine I.turnedNew (t' := tk) (ch := [n + 4, n + 2, n + 3, n, n + 1]) (fun c o hb q => ?_) hf (Nat.le_refl _) new
      obtain ⟨c1, c2, c3, c4⟩ := nc5 fun z => hb (mem5.mpr z)
      exact (sb' c c1).trans (kp c o c1 c2 c3 c4 q)
    refine ⟨.ref s.heap.objs.size, _, I1, rfl, ⟨_, x, y, rfl, I.hok.fresh (Nat.le_refl _), rfl, fun l hl => by rw [sqK_inj I hl hqx]; exact hx, fun l hl => by rw [sqK_inj I hl hqy]; exact hy⟩, ⟨z2, ?_, ?_, ?_, ?_⟩, fun c hcm => ?_⟩
    · exact (sb' _ (nn (by omega))).trans (kp _ _ (nn (by omega)) (nn (by omega)) (nn (by omega)) (nn (by omega)) hI)
    · refine ⟨u1, u2, ?_⟩
      show h2.get? (n + 3) = _
      rw [sb' _ (nn (by omega))]
      assumption
    · exact s1.1.at fun o q => (sb' _ (nn (by omega))).trans q
    · exact s2.1.at fun o q => (sb' _ (nn (by omega))).trans q
    · have := mem5.mp hcm
      rw [upd_ne (nn (a := c) (b := s.heap.objs.size) (by omega))]
      exact (hf c hcm).1
  · intro X hP hw hK hc i pins s σ H E I hf st hg
    subst hP hw hK
    obtain ⟨hz, hI, ⟨x0, y0, hO⟩, q1, q2⟩ := st
    obtain ⟨xs, ys, hqx, hqy, g1, g2, ge⟩ := hg
    obtain ⟨its, rv, p1, _⟩ := sqK I hqx
    obtain ⟨jts, rv2, p2, _⟩ := sqK I hqy
    have l1 := rv.length
    have l2 := rv2.length
    have z1 : its.toArray.size = its.length := by simp
    have z2 : jts.toArray.size = jts.length := by simp
    have hh : X.A.in1.handled = none := I.ok.hd hc
    refine wpAny_pyNext_zipD2_end S (drawsK hh k1 n a (nn (by omega)) its.toArray) (drawsK hh k2 (n + 1) b (nn (by omega)) jts.toArray) hz hI hO ⟨q1, p1⟩ ⟨q2, p2⟩ (by omega) (by omega) (by omega) fun h' tk kp => ⟨rfl, I.turnedL (t' := tk) (ch := [n + 4, n + 2, n + 3, n, n + 1]) (fun c o hb q => ?_) hf⟩
    obtain ⟨c1, c2, c3, c4⟩ := nc5 fun z => hb (mem5.mpr z)
    exact kp c o c1 c2 c3 c4 q
  · exact fun A i s Q E st h => wpAny_pyIter_zip st.1 h
def iZipM (K : PySem.W.Frag) (ta : TA) : TI := fun σ H R => ta σ H fun vs H1 => ∃ k1 k2 a b xs ys, vs = [.ref a, .ref b] ∧ SqK K H1 k1 a xs ∧ SqK K H1 k2 b ys ∧ R (ItzM K k1 k2 a b) H1
theorem pi_zipM {X : Cx} {e e2 : Expr} {ta : TA} {p pos tpos : Pos} {elts : List Expr} {kk : Nat} (hg : Gl X "zip") (hm : X.mg "zip" = none) (ha : PA X [e, e2] ta)
    (hs : starEach [e, e2] X.env = (false, eval e X.env) :: starEach [e2] X.env := by rfl) (hpl : (backTo pos (starEach [e2] X.env)).any (·.1) = false := by rfl) : PI X (.Tuple elts kk tpos) (.Call (.Name "zip" p) [e, e2] [] pos) (iZipM X.K ta) := by
  refine ⟨fun pins s σ H R I h => ?_⟩
  refine Call_ (ld_blt I hg hm PyProof.Rows.boot_zip (PyProof.Rows.callWith_type1 (thn (ha.run pos pins s σ H _ I h) fun us s1 q => ?_) hs hpl))
  obtain ⟨vs, H1, I1, r1, k1, k2, a, b, xs, ys, rfl, hqx, hqy, q⟩ := q
  obtain ⟨u1, u2, rfl, r1, r2⟩ := vals2 r1
  obtain rfl : u1 = Value.ref a := r1
  obtain rfl : u2 = Value.ref b := r2
  obtain ⟨its, rv, p1, la⟩ := sqK I1 hqx
  obtain ⟨jts, rv2, p2, lb⟩ := sqK I1 hqy
  refine zip_begins2 (beginsK k1 a its.toArray) (beginsK k2 b jts.toArray) p1 p2 fun h' hz hI hO g1 g2 _ kp => wpAny_pyIter_zip hz ?_
  have I2 : Inv X pins σ H1 { s1 with heap := h' } := I1.kept (t' := s1.toks) kp
  refine ⟨s1.heap.objs.size + 4, [s1.heap.objs.size + 4, s1.heap.objs.size + 2, s1.heap.objs.size + 3, s1.heap.objs.size, s1.heap.objs.size + 1], _, ItzM X.K k1 k2 a b, H1, rfl, I2, turn_zipM la lb, ⟨hz, hI, ⟨_, _, hO⟩, ?_, ?_⟩, fun c hc => ?_, q⟩
  · cases k1 <;> exact ⟨_, g1, rfl, rfl⟩
  · cases k2 <;> exact ⟨_, g2, rfl, rfl⟩
  · have : s1.heap.objs.size ≤ c := (mem5.mp hc).1
    exact I1.fpOk this (I1.hok.fresh this)
theorem walk_zipM {K : PySem.W.Frag} {k1 k2 : Bool} {a b : Addr} {xs ys : List V} {n : Nat} (hn : n = min xs.length ys.length) :
    Walk (ItzM K k1 k2 a b) n (fun H => SqK K H k1 a xs ∧ SqK K H k2 b ys) (YPair (fun i => xs[i]?) (fun i => ys[i]?)) := by
  refine ⟨fun i H hi q => ?_, fun H q => ⟨xs, ys, q.1, q.2, by omega, by omega, by omega⟩, fun i H v H' hi q y => ?_⟩
  · exact ⟨xs, ys, xs[i]'(by omega), ys[i]'(by omega), q.1, q.2, List.getElem?_eq_getElem (by omega), List.getElem?_eq_getElem (by omega)⟩
  · obtain ⟨t, x, z, e1, e2, e3, e4, e5⟩ := y
    exact ⟨t, x, z, e1, e2, e3, e4 xs q.1, e5 ys q.2⟩
theorem SqK.mono {K : PySem.W.Frag} {H H' : Hp} {k : Bool} {a : Addr} {xs : List V} (s : Same H H') (h : SqK K H k a xs) : SqK K H' k a xs := by
  cases k
  · exact Z.SqT.mono s h
  · exact Z.SqL.mono s h
end ZM
namespace DL
open PySem L2 Z PySem.Spec PyProof.Rows
variable [Tbs]
section
variable {K : PySem.W.Frag} {n : Nat} {J : Jv n}
theorem seqK_of {G : Hp} {v : V} {d : PyData} {P : List PyData → Prop} (q : Dq K G v d) (h : seqF d P) : ∃ k a xs ds, v = .ref a ∧ ZM.SqK K G k a xs ∧ DqAll K G xs ds ∧ P ds := by
  unfold seqF at h
  split at h
  · next ds =>
    obtain ⟨a, xs, rfl, s, r⟩ := q.list_of
    exact ⟨true, a, xs, ds, rfl, s, r, h⟩
  · next ds =>
    obtain ⟨a, xs, rfl, s, r⟩ := q.tuple_of
    exact ⟨false, a, xs, ds, rfl, s, r, h⟩
  · exact h.elim
def iZM (f : FA) : FA := fun ρ P => f ρ fun ds ρ1 => match ds with
  | [x, y] => seqF x fun es => seqF y fun gs => P (zipD es gs) ρ1
  | _ => False
theorem ri_zipM {ta : TA} {f : FA} (h : RA K J ta f) : RI K J (ZM.iZipM K ta) (iZM f) := by
  intro O as σ H R ρ P E q k
  refine h O as σ H _ ρ _ E q fun ds ρ1 vs H1 q1 f1 E1 d1 => ?_
  split at q1
  · next x y =>
    cases d1 with
    | cons d1 b => cases b with
      | cons d2 b =>
        cases b
        obtain ⟨k1, a, xs, es, rfl, s, r, q1⟩ := seqK_of d1 q1
        obtain ⟨k2, a', xs', gs, rfl, s', r', q1⟩ := seqK_of d2 q1
        refine ⟨k1, k2, a, a', xs, xs', rfl, ZM.SqK.mono hp_same s, ZM.SqK.mono hp_same s', k _ _ _ _ q1 f1 E1 ?_⟩
        refine ⟨_, _, ZM.walk_zipM (xs := xs) (ys := xs') (n := (zipD es gs).length) (by rw [zipD_len, ← r.length, ← r'.length]), fun A' H2 s2 => ⟨ZM.SqK.mono hp_same (ZM.SqK.mono s2 s), ZM.SqK.mono hp_same (ZM.SqK.mono s2 s')⟩, fun i d A' H2 x H3 hd s2 oc y => ?_⟩
        obtain ⟨T, x1, y1, rfl, hT, e, e1, e2⟩ := y
        obtain ⟨c1, g1, q1'⟩ := r.get e1
        obtain ⟨c2, g2, q2'⟩ := r'.get e2
        rw [zipD_get hd g1 g2]
        exact yPair (A := fun _ => False) (H := H) hT e oc (q1'.mono s2) (q2'.mono s2)
  · exact q1.elim
end
/-! is not True -/
theorem op_notB {X : Cx} : OpR X (compareOp .IsNot) (fun x y H Q => ∃ b, y = .bl b ∧ (∀ n, x ≠ .ty n) ∧ Q (.bl (!decide (x = .bl b))) H) := by
  intro pins s σ H x y v u Q I rx ry h
  obtain ⟨b, rfl, nt, q⟩ := h
  cases ry
  have key : ∀ c : Bool, (!decide (x = V.bl b)) = c → wpAny (model X.prog X.w) X.A (pure (.bool c)) (EP X pins σ Q) X.xe s := fun c e => wpAny_pure ⟨.bl c, H, I, rfl, by rw [← e]; exact q⟩
  cases x with
  | non => cases rx; exact key true rfl
  | bl c => cases rx; cases c <;> cases b <;> first | exact key true rfl | exact key false rfl
  | int i => obtain ⟨t, rfl⟩ := rx; exact key true rfl
  | str i => obtain ⟨t, rfl⟩ := rx; exact key true rfl
  | byt i => obtain ⟨t, rfl⟩ := rx; exact key true rfl
  | flt i => obtain ⟨t, rfl⟩ := rx; exact key true rfl
  | ref a => cases rx; exact key true rfl
  | ty n => exact absurd rfl (nt n)
def oIsntT : G2 := fun a d P => match d with
  | .bool b => P (.bool (!isBool b a))
  | _ => False
theorem rr_notB {K : PySem.W.Frag} : RR K (fun x y H Q => ∃ b, y = .bl b ∧ (∀ n, x ≠ .ty n) ∧ Q (.bl (!decide (x = .bl b))) H) oIsntT := by
  intro A H Q x y a c P oc da db g k
  unfold oIsntT at g
  split at g
  · next b =>
    cases db
    refine ⟨b, rfl, fun n => ?_, ?_⟩
    · cases da <;> exact fun z => nomatch z
    · have e : decide (x = V.bl b) = isBool b a := by
        cases da <;> first | rfl | (next z => cases z <;> cases b <;> rfl)
      rw [e]
      exact k _ _ _ g (Same.refl _) (.bl _)
  · exact g.elim
end DL
/-! own lists and things of the store read as data while they stay -/
namespace DL
open PySem L2 Z PySem.Spec PyProof.Rows
variable [Tbs]
mutual
/-- a thing with what stands in the store now laid open -/
inductive Res (S : Sto) : PyData → PyData → Prop
  | refl (d : PyData) : Res S d d
  | lst {a : Addr} {ds ds' : List PyData} : S a = some (.lst ds) → ResAll S ds ds' → Res S (hdl a) (.list ds')
  | obj {a : Addr} {c : Str} {fs fs' : List (PyData × PyData)} : S a = some (.obj c fs) → ResFs S fs fs' → Res S (hdl a) (.dict ((.str c, .none) :: fs'))
  | tup {ds ds' : List PyData} : ResAll S ds ds' → Res S (.tuple ds) (.tuple ds')
  | list {ds ds' : List PyData} : ResAll S ds ds' → Res S (.list ds) (.list ds')
  | objF {c : Str} {fs fs' : List (PyData × PyData)} : ResFs S fs fs' → Res S (.dict ((.str c, .none) :: fs)) (.dict ((.str c, .none) :: fs'))
inductive ResAll (S : Sto) : List PyData → List PyData → Prop
  | nil : ResAll S [] []
  | cons {d d' : PyData} {ds ds' : List PyData} : Res S d d' → ResAll S ds ds' → ResAll S (d :: ds) (d' :: ds')
inductive ResFs (S : Sto) : List (PyData × PyData) → List (PyData × PyData) → Prop
  | nil : ResFs S [] []
  | cons {f : Str} {d d' : PyData} {ds ds' : List (PyData × PyData)} : Res S d d' → ResFs S ds ds' → ResFs S ((.str f, d) :: ds) ((.str f, d') :: ds')
end
theorem ResAll.refl {S : Sto} : ∀ ds : List PyData, ResAll S ds ds
  | [] => .nil
  | d :: r => .cons (.refl d) (ResAll.refl r)
inductive ResSl (S : Sto) : Sl → Sl → Prop
  | fz {d d' : PyData} : Res S d d' → ResSl S (.fz d) (.fz d')
  | own {ds ds' : List PyData} : ResAll S ds ds' → ResSl S (.own ds) (.fz (.list ds'))
  | no : ResSl S .no .no
  | fgt {d : PyData} : ResSl S (.fz d) .no
  | fgo {ds : List PyData} : ResSl S (.own ds) .no
/-- what is seen of the slots while nothing changes -/
inductive ResEn (S : Sto) : En → En → Prop
  | nil : ResEn S [.st S] []
  | cons {s s' : Sl} {ρ ρ' : En} : ResSl S s s' → ResEn S ρ ρ' → ResEn S (s :: ρ) (s' :: ρ')
section
variable {K : PySem.W.Frag} {n : Nat} {J : Jv n}
section
variable {S : Sto} {G G' : Hp} {H : Hp}
theorem Dq.hdl_of {v : V} {a : Addr} (h : Dq K G v (DL.hdl a)) : v = .ref a := by
  unfold DL.hdl at h
  generalize e : PyData.dict [(PyData.none, PyData.int ↑a)] = d at h
  cases h <;> first | (cases e; done) | skip
  rename_i b
  unfold DL.hdl at e
  injection e with e
  injection e with e _
  injection e with _ e
  injection e with e
  rw [Int.ofNat.inj e]
mutual
theorem Res.dq (st : StoR K G H S) (s : Same G G') (k : ∀ a, S a ≠ none → G' a = H a) : ∀ {d d' : PyData} {v : V}, Res S d d' → Dq K G v d → Dq K G' v d'
  | _, _, _, .refl _, q => q.mono s
  | _, _, _, .lst e r, q => by
    rw [q.hdl_of]
    obtain ⟨u, e1, q1⟩ := st _ _ e
    cases q1 with
    | lst q1 => exact .lst (SqL.of (by rw [k _ (by rw [e]; exact Option.some_ne_none _)]; exact e1)) (ResAll.dq st s k r q1)
  | _, _, _, .obj e r, q => by
    rw [q.hdl_of]
    obtain ⟨u, e1, q1⟩ := st _ _ e
    cases q1 with
    | obj h q1 => exact .obj h (by rw [k _ (by rw [e]; exact Option.some_ne_none _)]; exact e1) (ResFs.dq st s k r q1)
  | _, _, _, .tup r, .tup h q => .tup (SqT.mono s h) (ResAll.dq st s k r q)
  | _, _, _, .list r, .lst h q => .lst (SqL.mono s h) (ResAll.dq st s k r q)
  | _, _, _, .objF r, q => by
    cases q with
    | obj h e q => exact .obj h (s _ _ e) (ResFs.dq st s k r q)
theorem ResAll.dq (st : StoR K G H S) (s : Same G G') (k : ∀ a, S a ≠ none → G' a = H a) : ∀ {d d' : List PyData} {v : List V}, ResAll S d d' → DqAll K G v d → DqAll K G' v d'
  | _, _, _, .nil, .nil => .nil
  | _, _, _, .cons a r, .cons b q => .cons (Res.dq st s k a b) (ResAll.dq st s k r q)
theorem ResFs.dq (st : StoR K G H S) (s : Same G G') (k : ∀ a, S a ≠ none → G' a = H a) : ∀ {d d' : List (PyData × PyData)} {v : List (Str × V)}, ResFs S d d' → DqFs K G v d → DqFs K G' v d'
  | _, _, _, .nil, .nil => .nil
  | _, _, _, .cons a r, .cons b q => .cons (Res.dq st s k a b) (ResFs.dq st s k r q)
end
end
def frz : Sl → Sl
  | .own ds => .fz (.list ds)
  | s => s
def noA : As := fun _ => none
theorem own_no {a : Addr} {as : As} {H : Hs} (h : Own noA H a) : Own as H a := by
  rcases h with ⟨_, _, h, _⟩ | h
  · cases h
  · exact .inr h
theorem EnR.vis {O : Addr → Prop} {as : As} {H : Hs} {ρ : En} {σ : L2.St} (E : EnR K J O as H ρ σ) : ∀ i r b, as i = some r → Rgn H r b → ¬ Hid O noA H b := fun i r b h q w => by
  rcases w with w | ⟨_, _, w, _⟩ | w
  · exact E.out i r b h q w
  · cases w
  · exact E.tab.nod (E.nod h q) w
theorem EnR.visS {O : Addr → Prop} {as : As} {H : Hs} {ρ : En} {σ : L2.St} (_E : EnR K J O as H ρ σ) : Same (hq O as H) (hq O noA H) := hp_less fun a h => by
  rcases h with h | h
  · exact .inl h
  · exact .inr (own_no h)
/-- own lists seen as data, no store -/
theorem EnR.view {O : Addr → Prop} {as : As} {H : Hs} {ρ : En} {σ : L2.St} (E : EnR K J O as H ρ σ) (ns : ∀ S, Sl.st S ∉ ρ) : EnR K (J0 : Jv n) O noA H (ρ.map frz) σ := by
  have hl : ρ.length = σ.length := by
    have L := E.len
    rcases Nat.lt_or_ge σ.length ρ.length with z | z
    · have e := E.sto σ.length (E.tl σ.length _ (List.getElem?_eq_getElem z) (Nat.le_refl _))
      exact absurd (List.mem_of_getElem? e.2.1) (ns _)
    · omega
  refine ⟨by rw [List.length_map]; exact E.len, fun i sl h1 h2 => ?_, fun i sl o h1 h2 => ?_, fun i h => (by cases h), fun i j _ _ _ h1 => (by cases h1), fun i _ _ h => (by cases h), fun i a h => (by cases h), E.occ, trivial, trivial, E.tab⟩
  · have := (List.getElem?_eq_some_iff.mp h1).1
    rw [List.length_map] at this
    omega
  · rw [List.getElem?_map] at h1
    cases e : ρ[i]? with
    | none => rw [e] at h1; cases h1
    | some s =>
      rw [e] at h1
      cases h1
      have r := E.at_ i s o e h2
      show SlR K _ _ none _ _
      have no := E.vis i
      generalize as i = z at r no
      cases r with
      | no => exact .no
      | fz q => exact .fz (q.mono E.visS)
      | own q z => exact .fz (.lst (SqL.of (hp_mk (no _ _ rfl .here) q)) (z.mono E.visS))
/-- .. and the store -/
theorem ResEn.at_ {S : Sto} {i : Nat} {s' : Sl} : ∀ {ρ ρ' : En}, ResEn S ρ ρ' → ρ'[i]? = some s' → ∃ s, ρ[i]? = some s ∧ ResSl S s s' := fun {ρ ρ'} h => by
  induction h generalizing i with
  | nil => intro z; cases z
  | cons a r ih =>
    intro z
    cases i with
    | zero => cases z; exact ⟨_, rfl, a⟩
    | succ i => exact ih z
theorem ResEn.last {S : Sto} {ρ ρ' : En} (h : ResEn S ρ ρ') : ρ[ρ'.length]? = some (.st S) ∧ ρ.length = ρ'.length + 1 := by
  induction h with
  | nil => exact ⟨rfl, rfl⟩
  | cons a r ih => exact ⟨ih.1, by rw [List.length_cons, List.length_cons, ih.2]⟩
theorem EnR.viewS {O : Addr → Prop} {as : As} {H : Hs} {ρ ρ' : En} {σ : L2.St} {S : Sto} (E : EnR K J O as H ρ σ) (r : ResEn S ρ ρ') : EnR K (J0 : Jv n) O noA H ρ' σ := by
  obtain ⟨h1, h2⟩ := r.last
  obtain ⟨a1, e, st⟩ := E.st_at h1
  have hl : ρ'.length = σ.length := (E.sto _ a1).1
  have k : ∀ a, S a ≠ none → hq O noA H a = H.hp a := fun a h => hp_of (E.vis _ .sto a a1 (by show H.st a ≠ none; rw [← e]; exact h))
  refine ⟨by omega, fun i sl h1 h2 => ?_, fun i sl o h1 h2 => ?_, fun i h => (by cases h), fun i j _ _ _ h1 => (by cases h1), fun i _ _ h => (by cases h), fun i a h => (by cases h), E.occ, trivial, trivial, E.tab⟩
  · have := (List.getElem?_eq_some_iff.mp h1).1
    omega
  · obtain ⟨s, e1, rs⟩ := r.at_ h1
    have q := E.at_ i s o e1 h2
    show SlR K _ _ none _ _
    have no := E.vis i
    generalize as i = z at q no
    cases rs with
    | fz r =>
      cases q with
      | fz q => exact .fz (r.dq st E.visS k q)
    | own r =>
      cases q with
      | own q z => exact .fz (.lst (SqL.of (hp_mk (no _ _ rfl .here) q)) (r.dq st E.visS k z))
    | no => exact .no
    | fgt => exact .no
    | fgo => exact .no
/-- but for tables nothing is changed -/
theorem EnR.still {O : Addr → Prop} {as : As} {H H' : Hs} {ρ : En} {σ : L2.St} (E : EnR K J O as H ρ σ) (f : Fr noA H H') (t : TabsOk H'.hp) : EnR K J O as H' ρ σ ∧ Fr as H H' := by
  have st : Stay as H H' := ⟨fun i r b h q => by
    have nd := E.nod h q
    obtain ⟨o, e, _⟩ := id nd
    rw [e]
    refine f.fr _ _ (fun z => ?_) e
    rcases z with ⟨_, _, z, _⟩ | z
    · cases z
    · exact E.tab.nod nd z, f.nst fun _ z => by cases z⟩
  have f' : Fr as H H' := ⟨f.fr.up fun a h => own_no h, fun a h => .inl (st.own.mp h), f.liv, fun _ => st.st⟩
  exact ⟨E.keepS st f' t, f'⟩
def noSt (ρ : En) : Bool := ρ.all fun s => match s with
  | .st _ => false
  | _ => true
theorem noSt_of {ρ : En} (h : noSt ρ = true) : ∀ S, Sl.st S ∉ ρ := fun S z => by
  have := List.all_eq_true.mp h _ z
  cases this
def fBorT (f : FT) : FT := fun ρ P => noSt ρ = true ∧ f (ρ.map frz) fun b _ => P b ρ
theorem rt_bor {t : TT} {f : FT} (h : RT K (J0 : Jv n) t f) : RT K J t (fBorT f) := by
  intro O as σ H Q ρ P E q k
  refine h O noA σ H _ _ _ (E.view (noSt_of q.1)) q.2 fun b ρ' H' p fr E' => ?_
  exact k b ρ H' p (E.still fr E'.tab).2 (E.still fr E'.tab).1
mutual
/-- data that never changes, whatever does -/
def immD : PyData → Bool
  | .none => true
  | .bool _ => true
  | .int _ => true
  | .str _ => true
  | .tuple ds => immAll ds
  | _ => false
def immAll : List PyData → Bool
  | [] => true
  | d :: r => immD d && immAll r
end
mutual
theorem Dq.imm {G G' : Hp} (k : ∀ a xs, SqT K G a xs → SqT K G' a xs) : ∀ {v : V} {d : PyData}, immD d = true → Dq K G v d → Dq K G' v d
  | _, _, _, .non => .non
  | _, _, _, .bl b => .bl b
  | _, _, _, .int i => .int i
  | _, _, _, .str x => .str x
  | _, _, h, .tup s q => .tup (k _ _ s) (DqAll.imm k (by rw [immD] at h; exact h) q)
  | _, _, h, .lst _ _ => by cases h
  | _, _, h, .obj _ _ _ => by cases h
  | _, _, h, .exc _ _ _ _ => by cases h
  | _, _, h, .fnc _ => by cases h
  | _, _, h, .hdl => by cases h
  | _, _, h, .tn _ _ _ => by cases h
theorem DqAll.imm {G G' : Hp} (k : ∀ a xs, SqT K G a xs → SqT K G' a xs) : ∀ {v : List V} {d : List PyData}, immAll d = true → DqAll K G v d → DqAll K G' v d
  | _, _, _, .nil => .nil
  | _, _, h, .cons a r => by
    rw [immAll, Bool.and_eq_true] at h
    exact .cons (Dq.imm k h.1 a) (DqAll.imm k h.2 r)
end
theorem EnR.noTup {O : Addr → Prop} {as : As} {H : Hs} {ρ : En} {σ : L2.St} (E : EnR K J O as H ρ σ) {a : Addr} {xs : List V} {u : HO} (h : H a = some u) (hu : u = .tup xs ∨ ∃ o, u = .frz o (.tup xs)) : ¬ Own as H a := fun q => by
  rcases q with ⟨i, r, e, q⟩ | q
  · rcases E.is_reg e with ⟨b, ds, ys, rfl, _, _, h3, _⟩ | ⟨rfl, _, _, st⟩
    · rw [q.lf_of, h3] at h
      cases h
      rcases hu with z | ⟨_, z⟩ <;> cases z
    · obtain ⟨o, e⟩ := Option.ne_none_iff_exists'.mp (show H.st a ≠ none from q)
      obtain ⟨u, e1, q1⟩ := st a o e
      rw [e1] at h
      cases h
      rcases hu with z | ⟨_, z⟩ <;> (subst z; cases q1)
  · obtain ⟨p, hp, z⟩ := q
    obtain ⟨ps, h1, _⟩ := E.tab p hp
    rw [z, h] at h1
    cases h1
    rcases hu with z | ⟨_, z⟩ <;> cases z
theorem EnR.tupS {O : Addr → Prop} {as : As} {H : Hs} {ρ : En} {σ : L2.St} (E : EnR K J O as H ρ σ) : ∀ a xs, SqT K (hq O noA H) a xs → SqT K (hq O as H) a xs := fun a xs h => by
  rcases h with (h | ⟨o, h⟩) | h
  · obtain ⟨n, e⟩ := hp_some h
    refine .inl (.inl (hp_mk (fun z => ?_) e))
    rcases z with z | z
    · exact n (.inl z)
    · exact E.noTup e (.inl rfl) z
  · obtain ⟨n, e⟩ := hp_some h
    refine .inl (.inr ⟨o, hp_mk (fun z => ?_) e⟩)
    rcases z with z | z
    · exact n (.inl z)
    · exact E.noTup e (.inr ⟨o, rfl⟩) z
  · exact .inr h
theorem EnR.tupO {O : Addr → Prop} {p : Addr} {as : As} {H : Hs} {ρ : En} {σ : L2.St} (E : EnR K J O as H ρ σ) : ∀ a xs, SqT K (hq (plus O p) noA H) a xs → SqT K (hq (plus O p) as H) a xs := fun a xs h => by
  rcases h with (h | ⟨o, h⟩) | h
  · obtain ⟨n, e⟩ := hp_some h
    refine .inl (.inl (hp_mk (fun z => ?_) e))
    rcases z with z | z
    · exact n (.inl z)
    · exact E.noTup e (.inl rfl) z
  · obtain ⟨n, e⟩ := hp_some h
    refine .inl (.inr ⟨o, hp_mk (fun z => ?_) e⟩)
    rcases z with z | z
    · exact n (.inl z)
    · exact E.noTup e (.inr ⟨o, rfl⟩) z
  · exact .inr h
def plainD (d : PyData) : Bool := immD d
def fBorE (f : FE) : FE := fun ρ P => noSt ρ = true ∧ f (ρ.map frz) fun d _ => immD d = true ∧ P d ρ
theorem re_bor {t : TE} {f : FE} (h : RE K (J0 : Jv n) t f) : RE K J t (fBorE f) := by
  intro O as σ H Q ρ P E q k
  refine h O noA σ H _ _ _ (E.view (noSt_of q.1)) q.2 fun d ρ' v H' p fr E' dv => ?_
  obtain ⟨E2, f2⟩ := E.still fr E'.tab
  exact k d ρ v H' p.2 f2 E2 (dv.imm E2.tupS p.1)
/-- seen with the store laid open -/
def fOpnT (f : FT) : FT := fun ρ P => ∃ S ρ', ResEn S ρ ρ' ∧ f ρ' fun b _ => P b ρ
theorem rt_opn {t : TT} {f : FT} (h : RT K (J0 : Jv n) t f) : RT K J t (fOpnT f) := by
  intro O as σ H Q ρ P E q k
  obtain ⟨S, ρ', r, q⟩ := q
  refine h O noA σ H _ _ _ (E.viewS r) q fun b ρ' H' p fr E' => ?_
  exact k b ρ H' p (E.still fr E'.tab).2 (E.still fr E'.tab).1
def fOpnE (f : FE) : FE := fun ρ P => ∃ S ρ', ResEn S ρ ρ' ∧ f ρ' fun d _ => immD d = true ∧ P d ρ
theorem re_opn {t : TE} {f : FE} (h : RE K (J0 : Jv n) t f) : RE K J t (fOpnE f) := by
  intro O as σ H Q ρ P E q k
  obtain ⟨S, ρ', r, q⟩ := q
  refine h O noA σ H _ _ _ (E.viewS r) q fun d ρ' v H' p fr E' dv => ?_
  obtain ⟨E2, f2⟩ := E.still fr E'.tab
  exact k d ρ v H' p.2 f2 E2 (dv.imm E2.tupS p.1)
/-- the same of an expression that makes a new list -/
def fOpnN (f : FA) : FA := fun ρ P => ∃ S ρ', ResEn S ρ ρ' ∧ f ρ' fun ds _ => immAll ds = true ∧ P ds ρ
theorem still_held {O : Addr → Prop} {as : As} {H H' : Hs} {ρ ρ' : En} {σ : L2.St} {p : Addr} {xs : List V} (E : EnR K J O as H ρ σ) (fr : Fr noA H H') (hn : NewO noA H p) (E' : EnR K (J0 : Jv n) (plus O p) noA H' ρ' σ) (hp : H' p = some (.lst xs)) : EnR K J (plus O p) as H' ρ σ ∧ Fr as H H' ∧ NewO as H p := by
  obtain ⟨E2, f2⟩ := E.still fr E'.tab
  have h0 : H p = none := hn.resolve_right fun z => by
    rcases z with ⟨_, _, z, _⟩ | z
    · cases z
    · exact E'.tab.no hp z
  have np : ∀ i r b, as i = some r → Rgn H' r b → b ≠ p := fun i r b h q z => by
    have st : H'.st = H.st := fr.nst fun _ z => by cases z
    obtain ⟨o, e, _⟩ := E.nod h ((Rgn.st st).mp q)
    rw [z, h0] at e
    cases e
  have hS : Same (hq O as H) (hq (plus O p) as H') := same_plus f2 (.inl h0)
  refine ⟨⟨E2.len, E2.tl, fun i sl o h1 h2 => (E.at_ i sl o h1 h2).mono hS fun b hb => ?_, fun i h => ?_, E2.inj, fun i r b h q z => ?_, E2.bnd, fun a q => ?_, E2.inv, J.up _ _ (fun _ z => .inl z) E.inq, E2.tab⟩, f2, .inl h0⟩
  · obtain ⟨o, e, nt⟩ := E.nod hb (Rgn.here)
    rw [e]
    refine fr.fr _ _ (fun z => ?_) e
    rcases z with ⟨_, _, z, _⟩ | z
    · cases z
    · exact E.tab.nod ⟨o, e, nt⟩ z
  · obtain ⟨e1, e2, e3⟩ := E.sto i h
    have st : H'.st = H.st := fr.nst fun _ z => by cases z
    rw [st]
    refine ⟨e1, e2, e3.move hS fun a z => ?_⟩
    obtain ⟨o, e, nt⟩ := E.nod h z
    rw [e]
    refine fr.fr _ _ (fun z => ?_) e
    rcases z with ⟨_, _, z, _⟩ | z
    · cases z
    · exact E.tab.nod ⟨o, e, nt⟩ z
  · rcases z with z | z
    · exact E2.out i r b h q z
    · exact np i r b h q z
  · rcases q with q | q
    · exact E2.occ a q
    · rw [q, hp]; exact Option.some_ne_none _
theorem rn_opn {t : TE} {f : FA} (h : RN K (J0 : Jv n) t f) : RN K J t (fOpnN f) := by
  intro O as σ H Q ρ P E q k
  obtain ⟨S, ρ', r, q⟩ := q
  refine h O noA σ H _ _ _ (E.viewS r) q fun ds ρ' p xs H' pr fr hn E' hp dv => ?_
  obtain ⟨E2, f2, n2⟩ := still_held E fr hn E' hp
  exact k ds ρ p xs H' pr.2 f2 n2 E2 hp (dv.imm (fun a xs => (E2.lessO E.inq).tupO a xs) pr.1)
end
end DL
/-! a part of an own list replaced -/
namespace DL
open PySem L2 Z PySem.Spec PyProof.Rows
variable [Tbs]
def gSlc (to tl th : TE) : TG := fun v σ H Q => to σ H fun o H1 => tl σ H1 fun x H2 => th σ H2 fun y H3 => ∃ a b xs ys lo hi, o = .ref a ∧ v = .ref b ∧ x = .int lo ∧ y = .int hi ∧ H3 a = some (.lst xs) ∧ H3 b = some (.lst ys) ∧ a ≠ b ∧ 0 ≤ lo ∧ lo ≤ hi ∧ hi ≤ xs.length ∧ xs.length + ys.length ≤ sizeLine ∧ Q σ (upd H3 a (.lst (xs.take lo.toNat ++ ys ++ xs.drop hi.toNat)))
theorem pg_slc {X : Cx} {o l u : Expr} {p pos : Pos} {to tl th : TE} (ho : PE X o to) (hl : PE X l tl) (hu : PE X u th) : PG X (.Subscript o (.Slice (some l) (some u) none p) pos) (gSlc to tl th) := by
  refine ⟨fun pins s σ H v w Q I r h => ?_⟩
  rw [arm_assign_Subscript]
  refine wpAny_bind (wpAny_holding (thn (ho.run pins s σ H _ I h) fun ov s1 ⟨x, H1, I1, r1, q1⟩ => ?_))
  refine wpAny_bind (wpAny_holding (wpAny_Slice ?_))
  rw [evalPart_some, evalPart_some, evalPart_none]
  refine thn (hl.run pins s1 σ H1 _ I1 q1) fun vl s2 ⟨xl, H2, I2, r2, q2⟩ => ?_
  refine thn (hu.run pins s2 σ H2 _ I2 q2) fun vu s3 ⟨xu, H3, I3, r3, q3⟩ => wpAny_pure ?_
  obtain ⟨a, b, xs, ys, lo, hi, rfl, rfl, rfl, rfl, ea, eb, ne, h0, h1, h2, hz, q⟩ := q3
  cases r1
  cases r
  have I4 : Inv X pins σ H3 { s3 with heap := s3.heap.push { cls := .type "slice", data := .fields #[vl, vu, .none] } } := I3.kept (t' := s3.toks) fun _ _ z => Heap.get?_push_of_some _ z
  refine wpAny_bind (wpAny_standAt (wpAny_bind (wpAny_holding ?_)))
  exact set_slice I4 ea eb ne (Heap.IsSliceOf.new ..) r2 r3 h0 h1 h2 hz fun s' I5 => wpAny_release ⟨σ, _, I5, q⟩
section
variable {K : PySem.W.Frag} {n : Nat} {J : Jv n}
def fSetSl (i : Nat) (lo hi : FE) (f : FA) : FS := fun E ρ => f ρ fun es ρ1 => ownF ρ1 i fun _ => lo ρ1 fun x ρ2 => intF x fun a => hi ρ2 fun y ρ3 => intF y fun c => ownF ρ3 i fun ds => 0 ≤ a ∧ a ≤ c ∧ c ≤ ds.length ∧ ds.length + es.length ≤ sizeLine ∧ E.nx (ρ3.set i (.own (ds.take a.toNat ++ es ++ ds.drop c.toNat)))
theorem intF_of {v : V} {G : Hp} {d : PyData} {k : Int → Prop} (q : Dq K G v d) (h : intF d k) : ∃ i, v = .int i ∧ k i := by
  unfold intF at h
  split at h
  · cases q; exact ⟨_, rfl, h⟩
  · exact h.elim
theorem rs_setSl {i : Nat} {te tl th : TE} {f : FA} {lo hi : FE} (h : RN K J te f) (hl : RE K J tl lo) (hh : RE K J th hi) : RS K J (tAsg te (gSlc (tVar i) tl th)) (fSetSl i lo hi f) := by
  intro O as σ H D ρ E R q C
  refine h O as σ H _ ρ _ R q fun es ρ1 p ys H1 q1 f1 hp0 E1 hp1 d1 => ?_
  obtain ⟨ds0, h0, q1⟩ := ownF_of q1
  obtain ⟨a, xs0, e1, e2, _, _⟩ := E1.own_at h0
  refine ⟨_, e1, ?_⟩
  refine hl (plus O p) as σ H1 _ ρ1 _ E1 q1 fun x ρ2 v H2 q2 f2 E2 d2 => ?_
  obtain ⟨lo', rfl, q2⟩ := intF_of d2 q2
  refine hh (plus O p) as σ H2 _ ρ2 _ E2 q2 fun y ρ3 w H3 q3 f3 E3 d3 => ?_
  obtain ⟨hi', rfl, q3⟩ := intF_of d3 q3
  obtain ⟨ds, hds, c0, c1, c2, c3, q3⟩ := ownF_of q3
  obtain ⟨a', xs, e1', e2', e3, e4⟩ := E3.own_at hds
  rw [e2] at e2'
  cases e2'
  have f23 := f2.trans f3
  have hp3 := f23.fr _ _ (E1.newp hp1) hp1
  have d1' := d1.fr f23
  refine ⟨a, p, xs, ys, lo', hi', rfl, rfl, rfl, rfl, e3, hp3, fun z => E3.out i _ a e2 .here (.inr z), c0, c1, by rw [e4.length]; exact c2, by rw [e4.length, d1.length]; exact c3, ?_⟩
  obtain ⟨E4, f4⟩ := E3.put e2 e3 ((((e4.take lo'.toNat).append d1').append (e4.drop hi'.toNat)))
  exact C.nx _ _ _ _ q3 (.of ((f1.trans f23).trans f4)) (E4.lessO R.inq)
end
abbrev rListOf (K : PySem.W.Frag) : List V → Hp → VK → Prop := fun xs H Q => ∃ p ys, xs = [.ref p] ∧ (SqL K H p ys ∨ SqT K H p ys) ∧ ∀ l, H l = none → Q (.ref l) (upd H l (.lst ys))
theorem call_listK {X : Cx} {K : PySem.W.Frag} (h : X.K = K) : CallR X (.type "list") (rListOf K) := by
  subst h
  exact call_list_of
end DL
/-! the end of a law whose def runs while no repr is under way, with one table of code objects -/
namespace Z
open PySem L2 PySem.Spec PyProof.Rows
theorem law_callTG {P : Program} {w : World} {K : PySem.W.Frag} {mg mb : Str → Option Value} {k : Nat} {fa a cd tb : Addr} {fd : FuncData} {x : Str} {sp : Sp} {s₁ : Shared} {vs : List Value} {ns : List Int}
    (kin : K.In s₁.heap) (ng : s₁.heap.Ns mainGlobals mg) (nb : s₁.heap.Ns builtinsNs mb) (boot : ∀ x : Str, x ≠ "__name__" → mb x = bootBuiltins x) (nolim : s₁.heap.NoLimit) (nogen : s₁.gens = #[])
    (at_t : s₁.heap.get? tb = some { cls := .none, data := .fields #[] }) (noT : K.lookup tb = none) (code : PySem.W.CodeHd s₁.heap cd tb)
    (bmod : ∃ (bm : Addr) (ob : Obj), mg "__builtins__" = some (.ref bm) ∧ bm ≠ builtinsNs ∧ s₁.heap.get? bm = some ob ∧ ob.cls = .type "module" ∧ ob.dict = some builtinsNs ∧ ob.data = .plain)
    (at_a : s₁.heap.get? a = some { cls := .type "list", data := .seq vs.toArray }) (ints_ : IntsAre vs ns) (few : ns.length ≤ sizeLine) (room : Room k callerA)
    (F : ∀ base : Heap, K.In base → base.Ns mainGlobals mg → LamX.TabB base mg cd tb → FnG P w K mg base k fa fd [x] sp) (bind : ∀ (s : Shared) (u : Value), BindsTo s fd ⟨[u], []⟩ [(x, u)])
    (want : ∀ H : Hp, H tb = some (.tbl #[]) → SqL K H a (ns.map V.int) → sp [.ref a] H (fun v _ => v = .bl true) fun _ _ _ => False) :
    codeAny (model P w) callerA (.call (.ref fa) ⟨[.ref a], []⟩) (fun r s' => r = .ok (.ret (.bool true)) ∧ OldK s₁.heap s'.heap ∧ s'.os = s₁.os ∧ AllBare s'.gens) s₁ := by
  have rel := vals_ints ints_
  have ne : a ≠ tb := fun z => by
    rw [z, at_t] at at_a
    have q : Data.fields #[] = Data.seq vs.toArray _ := congrArg Obj.data (Option.some.inj at_a)
    cases q
  have one : ∀ H : Hp, H tb = some (.tbl #[]) → (∀ b, b ≠ tb → H b = none ∨ ∃ o xs, H b = some (.frz o (.lst xs))) → SqL K H a (ns.map V.int) → HOk P w H s₁.heap → (∀ b, H b ≠ none → b = a ∨ b = tb) → (H a ≠ none → K.lookup a = none) →
      codeAny (model P w) callerA (.call (.ref fa) ⟨[.ref a], []⟩) (fun r s' => r = .ok (.ret (.bool true)) ∧ OldK s₁.heap s'.heap ∧ s'.os = s₁.os ∧ AllBare s'.gens) s₁ := by
    intro H hT only sq hok alone noK
    have out : ∀ {b : Addr} {o : Obj}, s₁.heap.get? b = some o → (∀ us m, o.data ≠ .seq us m) → o.data ≠ .fields #[] → H b = none := by
      intro b o e n1 n2
      refine Option.eq_none_iff_forall_ne_some.mpr fun u q => ?_
      rcases alone b (q ▸ Option.some_ne_none u) with hb | hb
      · rw [hb, at_a] at e
        injection e with e
        exact n1 _ _ (by rw [← e])
      · rw [hb, at_t] at e
        injection e with e
        exact n2 (by rw [← e])
    have nsIn : ∀ {b : Addr} {m : Str → Option Value}, s₁.heap.Ns b m → (hidT s₁.heap H).Ns b m := by
      rintro b m ⟨o, es, ep, e, d, r⟩
      exact ⟨o, es, ep, hidT_get e (out e (fun us m z => by rw [d] at z; cases z) fun z => by rw [d] at z; cases z), d, r⟩
    have kb : K.In (hidT s₁.heap H) := fun b o e => hidT_get (kin b o e) (Option.eq_none_iff_forall_ne_some.mpr fun u q => by
      rcases alone b (q ▸ Option.some_ne_none u) with hb | hb
      · rw [hb] at q e
        rw [noK (q ▸ Option.some_ne_none u)] at e
        cases e
      · rw [hb, noT] at e
        cases e)
    have lim' : (hidT s₁.heap H).NoLimit := by
      obtain ⟨mc, h1, h2⟩ := nolim
      exact ⟨mc, nsIn h1, h2⟩
    have gT : mainGlobals ≠ tb := fun z => by
      obtain ⟨o, es, ep, e, hd, _⟩ := ng
      rw [z, at_t] at e
      injection e with e
      rw [← e] at hd
      cases hd
    have tab : LamX.TabB (hidT s₁.heap H) mg cd tb := by
      refine ⟨?_, ?_, gT⟩
      · obtain ⟨o, us, fl, tf, flg, tg, inF, tx, tt, e1, r1, r2, r3, rest⟩ := code
        refine ⟨o, us, fl, tf, flg, tg, inF, tx, tt, hidT_get e1 (out e1 (fun us m z => by rw [r2] at z; cases z) fun z => ?_), r1, r2, r3, rest⟩
        rw [r2] at z
        injection z with z
        rw [z] at r3
        simp at r3
      · obtain ⟨bm, ob, b1, b2, b3, b4, b5, b6⟩ := bmod
        refine ⟨bm, ob, b1, b2, fun q => ?_, fun q => ?_, hidT_get b3 (out b3 (fun us m z => by rw [b6] at z; cases z) fun z => by rw [b6] at z; cases z), b4, b5, b6⟩
        · obtain ⟨o, es, ep, e, hd, _⟩ := ng
          rw [q, e] at b3
          injection b3 with b3
          rw [b3, b6] at hd
          cases hd
        · rw [q, at_t] at b3
          injection b3 with b3
          rw [← b3] at b6
          cases b6
    have start0 : Env0 P w K mg (hidT s₁.heap H) callerA [] s₁ H :=
      ⟨rfl, ⟨kb, nsIn ng, ⟨mb, nsIn nb, boot⟩, lim'⟩, fun b o e => of_hidT e, Nat.le_of_eq (hidT_size _ _), trivial, (fun b hb => (List.not_mem_nil hb).elim), hok, .of_eq nogen⟩
    refine codeAny_mono ((F _ kb (nsIn ng) tab).goes callerA [] s₁ H ⟨[.ref a], []⟩ [.ref a] [.ref a] _ _ room rfl start0 (bind s₁ (.ref a)) (.cons rfl .nil) (want H hT sq)) ?_
    intro res s' post
    match res, post with
    | .ok .next, post => exact (post : False).elim
    | .ok .brk, post => exact (post : False).elim
    | .ok .cont, post => exact (post : False).elim
    | .error _, post => exact (post : False).elim
    | .ok (.ret u), post =>
      obtain ⟨v, H', os, bare, un, hok', rv, q⟩ := post
      cases (show v = .bl true from q)
      cases (show u = Value.bool true from rv)
      have stay : ∀ b o, b ≠ tb → s₁.heap.get? b = some o → s'.heap.get? b = some o := fun b o nb e => by
        rcases only b nb with z | ⟨ob, xs, z⟩
        · exact un.keep b o e z (fun q => by cases q) (fun q => by cases q)
        · have e1 := (hok b _ z).1
          have e2 := (hok' b _ (un.frzs b ob _ z)).1
          rw [e] at e1
          injection e1 with e1
          rw [e1]
          exact e2
      obtain ⟨more, gz⟩ := un.tbls tb #[] hT
      have grown : s'.heap.get? tb = some { cls := .none, data := .fields (#[] ++ more) } := hok' tb _ gz
      refine ⟨rfl, ⟨fun b o e => ?_, fun b o e => ?_⟩, os, bare⟩
      · by_cases hb : b = tb
        · rw [hb] at e ⊢
          rw [at_t] at e
          cases e
          exact .inr (.inl ⟨(code.tab at_t).isCodeTable, rfl, #[], more, rfl, grown⟩)
        · exact .inl (stay b o hb e)
      · by_cases hb : b = tb
        · rw [hb]
          exact ⟨_, grown⟩
        · exact ⟨o, stay b o hb e⟩
  by_cases hk : K.lookup a = none
  · refine one (fun b => if b = a then some (.frz { cls := .type "list", data := .seq vs.toArray } (.lst (ns.map V.int))) else if b = tb then some (.tbl #[]) else none) ?_ (fun b nb => ?_)
      (.inl (.inr ⟨_, if_pos rfl⟩)) (fun b u z => ?_) (fun b z => ?_) fun _ => hk
    · exact (if_neg (fun z => ne z.symm)).trans (if_pos rfl)
    · exact if h : b = a then .inr ⟨_, _, if_pos h⟩ else .inl ((if_neg h).trans (if_neg nb))
    · by_cases h : b = a
      · dsimp only at z
        rw [if_pos h] at z
        cases z
        rw [h]
        exact ⟨at_a, by rw [List.length_map]; exact few, vs, _, rel, at_a⟩
      · dsimp only at z
        rw [if_neg h] at z
        by_cases h2 : b = tb
        · rw [if_pos h2] at z
          cases z
          rw [h2]
          exact at_t
        · rw [if_neg h2] at z
          cases z
    · by_cases h : b = a
      · exact .inl h
      · by_cases h2 : b = tb
        · exact .inr h2
        · exact (z ((if_neg h).trans (if_neg h2))).elim
  · obtain ⟨o, ho⟩ := Option.ne_none_iff_exists'.mp hk
    have e := kin a o ho
    rw [at_a] at e
    injection e with e
    refine one (fun b => if b = tb then some (.tbl #[]) else none) (if_pos rfl) (fun b nb => .inl (if_neg nb)) (.inr ⟨_, vs.toArray, _, ho, by rw [← e], by rw [← e], by rw [← e], ?_, ?_⟩) (fun b u z => ?_) (fun b z => ?_) fun z => (z (if_neg ne)).elim
    · rw [List.size_toArray, ints_.length]
      exact few
    · simpa using rel
    · by_cases h2 : b = tb
      · dsimp only at z
        rw [if_pos h2] at z
        cases z
        rw [h2]
        exact at_t
      · dsimp only at z
        rw [if_neg h2] at z
        cases z
    · by_cases h2 : b = tb
      · exact .inr h2
      · exact (z (if_neg h2)).elim
/-- what is known at the head's heap -/
def LawAtG (l : PySem.W.OpenLaw) (w : World) (K : PySem.W.Frag) (k n : Nat) (x : Str) (mg : Str → Option Value) (fa : Addr) (h : Heap) : Prop :=
  ∃ (fd : FuncData) (cd tb : Addr) (sp : Sp), h.get? tb = some { cls := .none, data := .fields #[] } ∧ K.lookup tb = none ∧ PySem.W.CodeHd h cd tb ∧ (∀ (s : Shared) (u : Value), BindsTo s fd ⟨[u], []⟩ [(x, u)]) ∧
    (∀ (H : Hp) (a : Addr) (ns : List Int), ns.length ≤ n → H tb = some (.tbl #[]) → SqL K H a (ns.map V.int) → sp [.ref a] H (fun v _ => v = .bl true) fun _ _ _ => False) ∧
    ∀ base : Heap, K.In base → base.Ns mainGlobals mg → LamX.TabB base mg cd tb → FnG l.prog w K mg base k fa fd [x] sp
theorem walk_ofTG {l : PySem.W.OpenLaw} {n k : Nat} {q : Program} {loose : List Str} {XP : (Str → Option Value) → Heap → Prop} {YP : World → Heap → Prop} {d : DefRec} {K : Params → PySem.W.Frag} {x : Str}
    (most : l.most = some n) (line : n ≤ sizeLine) (nodef : d.params.defaults = []) (room : Room k callerA) (kin : ∀ (w : World) (h : Heap), YP w h → (K w.params).In h)
    (F : ∀ (w : World) (mg : Str → Option Value) (fa : Addr) (h : Heap), YP w h → (K w.params).In h → h.Ns mainGlobals mg → mg d.name = some (.ref fa) → LawAtG l w (K w.params) k n x mg fa h) :
    PySem.W.WalkO q loose XP YP l.row.toRowW d [] (fun f vs => PySem.call f vs) := by
  refine Att.attach_callB most nodef fun w s₀ s₁ mg mb fa o pm cd doc a vs ns G Y ho hd hcd hmg hobj hints hlen hbits hg => ?_
  obtain ⟨fd, c, tb, sp, g1, g2, g3, hb, hsp, hF⟩ := F w mg fa _ Y (kin w _ Y) G.T.g hmg
  exact law_callTG (kin w _ Y) G.T.g G.T.b G.T.builtins G.T.nolimit hg g1 g2 g3 G.T.bmain hobj hints (Nat.le_trans hlen line) room hF hb fun H hH hS => hsp H a ns hlen hH hS
end Z
namespace DL
open PySem
theorem numD_int (i : Int) : numD (.int i) = some i := rfl
theorem numD_bool (b : Bool) : numD (.bool b) = some (if b then 1 else 0) := rfl
end DL
/-! set(xs) of a list, sorted(set(xs)) -/
namespace DL
open PySem L2 Z PySem.Spec PyProof.Rows
abbrev set0 (w : World) : Obj := { cls := .type "set", dict := none, data := .set #[] 0 (.fresh 0 0 (!w.params.followText "set-order")) }
section
variable {P : Program} {w : World} {A : Around} {E : Value → Shared → Prop} {s : Shared}
set_option maxRecDepth 100000 in
set_option maxHeartbeats 3200000 in
/-- set(xs): what is asked of the loop that lays the items -/
theorem set_of_list {l : Addr} {its : Array Value} {Q : Value → Shared → Prop} (Z : Heap → Prop) (hh : A.handled = none) (hl : s.heap.IsList l its)
    (go : ∀ (I : Addr) (s1 : Shared) (St : Nat → Shared → Prop) (R : Result → Shared → Prop), WalksS P w A.in1.in1.in1 I [I, l] [I] (fun a b => b = a) its.size (fun i v => its[i]? = some v) St → s.heap.objs.size ∉ [I, l] → St 0 s1 → s1.heap.get? s.heap.objs.size = some (set0 w) →
      (∀ s2, Moved (s.heap.objs.size :: [I]) (fun a b => b = a) s1 s2 → Z s2.heap → R (.ok (.ret .none)) s2) → codeAny (model P w) A.in1.in1 (.builtin "set.update.loop" ⟨[.ref s.heap.objs.size, .ref I], []⟩) R s1)
    (k : ∀ (h2 : Heap) (tk : Nat), Z h2 → (∀ b o, s.heap.get? b = some o → h2.get? b = some o) → Q (.ref s.heap.objs.size) { s with heap := h2, toks := tk }) :
    wpAny (model P w) A (call (.type "set") [.ref l]) Q E s := by
  obtain ⟨c0, tl0, mro⟩ := F.called_set.mro
  have mad := F.called_set.made
  have sb := F.called_set.sub
  refine wpAny_call (codeAny_of_tree ?_)
  show wpAny _ _ (callAny (.type "set") _) _ _ _
  refine wpAny_pure ⟨Code.quiet_builtin _ (by decide +kernel), codeAny_builtin F.entry_type_call ?_⟩
  rw [Around.under_plain (weight_type_call_type "set" [.ref l] []) rfl]
  have nt := F.called_set.notType
  have cc := F.called_set.canCreate
  have tc := F.typeCall_set_1 (.ref l)
  repeat (any_goals (first | assumption | wp_step))
  refine codeAny_mono (code_set_led1 (.ref l) (E := E) (Q₁ := fun ob t1 => ob = .ref s.heap.objs.size ∧ t1 = { s with heap := s.heap.push (set0 w) }) ⟨rfl, rfl⟩) fun r t1 hr => ?_
  cases r with
  | error e => exact hr
  | ok fl =>
    cases fl with
    | ret ob =>
      obtain ⟨rfl, rfl⟩ := hr
      have gS : (s.heap.push (set0 w)).get? s.heap.objs.size = some (set0 w) := Heap.get?_push_size _ rfl
      have tS : Shared.TypeIs { s with heap := s.heap.push (set0 w) } (.ref s.heap.objs.size) "set" := ⟨_, gS, rfl⟩
      have li := F.called_set.init.lookup
      have bi := F.called_set.init.bind (.ref s.heap.objs.size)
      repeat (any_goals (first | assumption | wp_step))
      refine codeAny_mono (codeAny_call_builtin (R := wants (fun r t2 => r = .none ∧ ∃ h2 tk, t2 = { s with heap := h2, toks := tk } ∧ Z h2 ∧ ∀ b o, s.heap.get? b = some o → h2.get? b = some o) E)
        F.called_set.init.plain F.entry_set_init (check_set_init_1 tS ?_)) fun r2 t2 hr2 => ?_
      · obtain ⟨ol, eo, ec, nl, ed⟩ := hl
        obtain ⟨oc, od, ot, os⟩ := ol
        simp only at ec ed
        subst ec; subst ed
        have eo' : (s.heap.push (set0 w)).get? l = some { cls := .type "list", dict := od, data := .seq its nl, slots := os } := Heap.get?_push_of_some _ eo
        have sls := F.sub_list_set
        have slf := F.sub_list_frozenset
        have nd : (Value.type "list" == Value.type "dict") = false := by decide
        have il : (s.heap.push (set0 w)).IsList l its := ⟨_, eo', rfl, nl, rfl⟩
        unfold Builtin.«set.__init__» noKeywords Builtin.Frozenset.updateFrom
        generalize eP : pyIter = PI
        wp_walk
        subst eP
        refine wpAny_pyIter_list il ?_
        refine wpAny_bind (wpAny_runValue ?_)
        have lS : l < s.heap.objs.size := Heap.lt_size eo
        have h3 : A.in1.in1.in1.handled = none := by simp [hh]
        have nI : l ≠ (s.heap.push (set0 w)).objs.size := by rw [Heap.size_push]; exact Nat.ne_of_lt (Nat.lt_succ_of_lt lS)
        have nS : s.heap.objs.size ∉ [(s.heap.push (set0 w)).objs.size, l] := by
          rw [Heap.size_push]
          simp only [List.mem_cons, List.not_mem_nil, or_false, not_or]
          exact ⟨Nat.ne_of_lt (Nat.lt_succ_self _), Nat.ne_of_gt lS⟩
        refine go _ _ _ _ ((Walks.list h3 _ l nI its).toS) nS ⟨⟨_, Heap.get?_push_size _ rfl, rfl, rfl⟩, il.push _⟩ (Heap.get?_push_of_some _ gS) fun s2 mv z => ?_
        obtain ⟨h2, g2, d2, t2, o2⟩ := s2
        have eg : g2 = s.gens := mv.gens
        have ed : d2 = s.drawn := mv.drawn
        have eo2 : o2 = s.os := mv.os
        subst eg; subst ed; subst eo2
        show wpAny _ _ _ _ _ _
        refine wpAny_pure ?_
        show wpAny _ _ (ret Value.none) _ _ _
        refine wpAny_pure ⟨rfl, h2, t2, rfl, z, fun b o e => ?_⟩
        have b0 := Heap.lt_size e
        refine mv.heap b o ?_ (Heap.get?_push_of_some _ (Heap.get?_push_of_some _ e))
        rw [Heap.size_push]
        simp only [List.mem_cons, List.not_mem_nil, or_false, not_or]
        exact ⟨Nat.ne_of_lt b0, Nat.ne_of_lt (Nat.lt_succ_of_lt b0)⟩
      · cases r2 with
        | error e => exact hr2
        | ok f2 =>
          cases f2 with
          | ret r =>
            obtain ⟨rfl, h2, tk, rfl, z, kp⟩ := hr2
            repeat (any_goals (first | assumption | wp_step))
            exact k _ _ z kp
          | _ => exact hr2.elim
    | _ => exact hr.elim
end
section
variable {X : Cx}
/-- set(xs), xs a list of numbers -/
def rSetI (K : PySem.W.Frag) (w : World) : List V → Hp → VK → Prop := fun vs H Q => ∃ (l : Addr) (ns : List Int), vs = [.ref l] ∧ SqL K H l (ns.map V.int) ∧ ns.length < 1000 ∧
  ∀ (p : Addr) (c : Nat), H p = none → c ≤ ns.length → Q (.ref p) (upd H p (SetO w p (fun j => decide (j ∈ ns)) c))
theorem cr_setI (hc : X.calm = true) : CallR X (.type "set") (rSetI X.K X.w) := by
  intro pins s σ H vs us Q I r h
  obtain ⟨l, ns, rfl, hs, hn, q⟩ := h
  obtain ⟨its, rv, pl, hz⟩ := I.list hs
  rw [Vals.ref1 r]
  have hi : IntsAre its ns := by simpa using rv.ints
  have hlen : its.toArray.size = ns.length := by rw [List.size_toArray, ← rv.length, List.length_map]
  refine set_of_list (fun h => ∃ c, c ≤ ns.length ∧ SetR X.w h s.heap.objs.size (fun j => decide (j ∈ ns)) c) (I.ok.hd hc) pl.isList (fun J s1 St R W nS st gS kR => ?_) fun h2 tk z kp => ?_
  · have val : ∀ (i : Nat) (v : Value), its.toArray[i]? = some v → ∃ k t, ns[i]? = some k ∧ v = .int k t := fun i v hv => by
      have hi' : i < ns.length := by rw [← hlen]; exact (Array.getElem?_eq_some_iff.mp hv).1
      obtain ⟨t, e⟩ := hi.int_at i v (by simpa using hv)
      refine ⟨ns[i], t, List.getElem?_eq_getElem hi', ?_⟩
      rw [e, List.getD_eq_getElem?_getD, List.getElem?_eq_getElem hi'] <;> rfl
    refine set_update_ints W s.heap.objs.size nS ns hlen (by unfold scanBound; omega) val (its.toArray.size - 0) 0 s1 (by omega) (Nat.zero_le _) st ⟨0, Nat.le_refl 0, setR_new_at gS⟩ fun s2 c mv hc' hS => ?_
    exact kR s2 mv ⟨c, by omega, hS⟩
  · obtain ⟨c, hc', hS⟩ := z
    have ex : { s with heap := h2, toks := tk } = { s with heap := h2, toks := tk } := rfl
    refine ⟨.ref s.heap.objs.size, _, I.call (ch := []) (Un.laid kp (Nat.le_refl _) (I.hok.fresh (Nat.le_refl _))) (I.hok.laid kp (Nat.le_refl _) (setO_new hS)) I.bare (fun _ z => nomatch z), rfl, q _ c (I.hok.fresh (Nat.le_refl _)) hc'⟩
end
end DL
/-! things of the store: made, read, changed -/
namespace DL
open PySem L2 Z PySem.Spec PyProof.Rows
variable [Tbs]
def sset (S : Sto) (p : Addr) (o : SO) : Sto := fun a => if a = p then some o else S a
theorem sset_same {S : Sto} {p : Addr} {o : SO} : sset S p o p = some o := if_pos rfl
theorem sset_ne {S : Sto} {p a : Addr} {o : SO} (h : a ≠ p) : sset S p o a = S a := if_neg h
theorem sset_some {S : Sto} {p a : Addr} {o : SO} (h : sset S p o a ≠ none) : a = p ∨ S a ≠ none := by
  by_cases e : a = p
  · exact .inl e
  · rw [sset_ne e] at h; exact .inr h
/-- the store in its slot -/
def stF (ρ : En) (sx : Nat) (k : Sto → Prop) : Prop := match ρ[sx]? with
  | some (.st S) => k S
  | _ => False
theorem stF_of {ρ : En} {sx : Nat} {k : Sto → Prop} (h : stF ρ sx k) : ∃ S, ρ[sx]? = some (.st S) ∧ k S := by
  unfold stF at h
  split at h
  · next S e => exact ⟨S, e, h⟩
  · exact h.elim
section
variable {K : PySem.W.Frag} {n : Nat} {J : Jv n} {O : Addr → Prop} {as : As} {H : Hs} {ρ : En} {σ : L2.St} {S : Sto} {sx : Nat} {p : Addr}
theorem SoR.tab {H : Hp} {G : Hp} {u : HO} {o : SO} (t : TabsOk H) (h : H p = some u) (q : SoR K G u o) (v : HO) : TabsOk (upd H p v) := fun z hz => by
  obtain ⟨ps, t1, t2, t3⟩ := t z hz
  have ne : ∀ b w, H b = some w → w ≠ u → b ≠ p := fun b w e n' z' => n' (Option.some.inj (e.symm.trans (by rw [z']; exact h)))
  refine ⟨ps, by rw [upd_ne (ne _ _ t1 (fun z => q.ntb ps z.symm))]; exact t1, t2, fun po cv hcv => ?_⟩
  obtain ⟨cc, u1, u2⟩ := t3 po cv hcv
  exact ⟨cc, u1, by rw [upd_ne (ne _ _ u2 (fun z => by unfold LamX.CodeO at z; subst z; cases q))]; exact u2⟩
/-- what stands at a place of the store -/
theorem EnR.getS (E : EnR K J O as H ρ σ) (hs : ρ[sx]? = some (.st S)) {o : SO} (e : S p = some o) : ∃ u, H p = some u ∧ SoR K (hq O as H) u o := (E.st_at hs).2.2 p o e
/-- a thing of the store changed -/
theorem EnR.setS (E : EnR K J O as H ρ σ) (hs : ρ[sx]? = some (.st S)) {o : SO} (e : S p = some o) {u' : HO} {o' : SO} (q : SoR K (hq O as H) u' o') :
    EnR K J O as ⟨upd H p u', sset S p o'⟩ (ρ.set sx (.st (sset S p o'))) σ ∧ Fr as H ⟨upd H p u', sset S p o'⟩ := by
  obtain ⟨u, e1, q1⟩ := E.getS hs e
  obtain ⟨a1, e2, st⟩ := E.st_at hs
  have sp : S p ≠ none := by rw [e]; exact Option.some_ne_none _
  refine E.putS hs (fun a o ha ho => by rw [upd_ne (fun z => sp (by rw [← z]; exact ha))]; exact ho) (fun a ha => ?_) (q1.tab E.tab e1 u') (liv_upd _) fun F => ?_
  · rcases sset_some ha with z | z
    · rw [z]; exact .inl sp
    · exact .inl z
  · intro a w hw
    by_cases z : a = p
    · subst z
      rw [sset_same] at hw
      cases hw
      exact ⟨_, upd_same, q.mono F.same⟩
    · rw [sset_ne z] at hw
      obtain ⟨v, h1, h2⟩ := st a w hw
      exact ⟨v, by rw [upd_ne z]; exact h1, h2.mono F.same⟩
/-- a new thing in the store -/
theorem EnR.addS (E : EnR K J O as H ρ σ) (hs : ρ[sx]? = some (.st S)) (hp : H p = none) {u' : HO} {o' : SO} (q : SoR K (hq O as H) u' o') :
    S p = none ∧ EnR K J O as ⟨upd H p u', sset S p o'⟩ (ρ.set sx (.st (sset S p o'))) σ ∧ Fr as H ⟨upd H p u', sset S p o'⟩ := by
  obtain ⟨a1, e2, st⟩ := E.st_at hs
  have sp : S p = none := by
    cases e : S p with
    | none => rfl
    | some o =>
      obtain ⟨u, e1, _⟩ := st p o e
      rw [hp] at e1; cases e1
  refine ⟨sp, E.putS hs (fun a o ha ho => by rw [upd_ne (ne_of_none ho hp)]; exact ho) (fun a ha => ?_) (E.tab.ext (Same.new hp)) (liv_upd _) fun F => ?_⟩
  · rcases sset_some ha with z | z
    · rw [z]; exact .inr hp
    · exact .inl z
  · intro a w hw
    by_cases z : a = p
    · subst z
      rw [sset_same] at hw
      cases hw
      exact ⟨_, upd_same, q.mono F.same⟩
    · rw [sset_ne z] at hw
      obtain ⟨v, h1, h2⟩ := st a w hw
      exact ⟨v, by rw [upd_ne z]; exact h1, h2.mono F.same⟩
/-- a held list is laid into the store -/
theorem EnR.shelve {H0 : Hs} {xs : List V} {ds : List PyData} (E : EnR K J (plus O p) as H ρ σ) (hQ : J.Q O) (hJ : J.P as H0) (hs : ρ[sx]? = some (.st S)) (f : Fr as H0 H) (hn : NewO as H0 p) (np : ¬ O p) (hp : H p = some (.lst xs)) (d : DqAll K (hq (plus O p) as H) xs ds) :
    S p = none ∧ EnR K J O as ⟨H.hp, sset S p (.lst ds)⟩ (ρ.set sx (.st (sset S p (.lst ds)))) σ ∧ Fr as H0 ⟨H.hp, sset S p (.lst ds)⟩ := by
  obtain ⟨a1, e2, st⟩ := E.st_at hs
  have sp : S p = none := by
    cases e : S p with
    | none => rfl
    | some o => exact absurd (.inr rfl) (E.out sx .sto p a1 (by show H.st p ≠ none; rw [← e2, e]; exact Option.some_ne_none _))
  have rg : ∀ r b, Rgn ⟨H.hp, sset S p (.lst ds)⟩ r b → Rgn H r b ∨ (r = .sto ∧ b = p) := fun r b q => by
    cases r with
    | lf a => exact .inl q
    | sto =>
      rcases sset_some q with z | z
      · exact .inr ⟨rfl, z⟩
      · exact .inl (by show H.st b ≠ none; rw [← e2]; exact z)
  have ow : ∀ b, Own as ⟨H.hp, sset S p (.lst ds)⟩ b → Own as H b ∨ b = p := fun b q => by
    rcases q with ⟨i, r, h, q⟩ | q
    · rcases rg r b q with z | z
      · exact .inl (.inl ⟨i, r, h, z⟩)
      · exact .inr z.2
    · exact .inl (.inr q)
  have hS : Same (hq (plus O p) as H) (hq O as ⟨H.hp, sset S p (.lst ds)⟩) := hp_less fun a h => by
    rcases h with h | h
    · exact .inl (.inl h)
    · rcases ow a h with z | z
      · exact .inr z
      · exact .inl (.inr z)
  have F : Fr as H0 ⟨H.hp, sset S p (.lst ds)⟩ := ⟨f.fr, fun a h => by
    rcases ow a h with z | z
    · exact f.new a z
    · rw [z]; exact hn.symm, f.liv, fun h => absurd a1 (h sx)⟩
  have hi : sx < ρ.length := (List.getElem?_eq_some_iff.mp hs).1
  have hl := (E.sto sx a1).1
  refine ⟨sp, ⟨by rw [List.length_set]; exact E.len, fun j sl h1 h2 => ?_, fun j sl o h1 h2 => ?_, fun j h => ?_, fun i j r r' b h1 h2 q1 q2 => ?_, fun j r b h q => ?_, fun j r h => by rw [List.length_set]; exact E.bnd j r h, fun a h => E.occ a (.inl h), J.fr hJ F, hQ, E.tab⟩, F⟩
  · have hj : j < ρ.length := by rw [← List.length_set (as := ρ) (i := sx) (a := Sl.st (sset S p (.lst ds)))]; exact (List.getElem?_eq_some_iff.mp h1).1
    exact E.tl j _ (List.getElem?_eq_getElem hj) h2
  · have : j < σ.length := (List.getElem?_eq_some_iff.mp h2).1
    rw [List.getElem?_set_ne (by omega)] at h1
    exact (E.at_ j sl o h1 h2).mono hS fun _ _ => rfl
  · have ej := (E.sto j h).1
    have : j = sx := by omega
    subst this
    refine ⟨ej, by rw [List.getElem?_set_self hi], fun a o e => ?_⟩
    by_cases z : a = p
    · subst z
      have e : sset S a (.lst ds) a = some o := e
      rw [sset_same] at e
      cases e
      exact ⟨_, hp, .lst (d.mono hS)⟩
    · have e : sset S p (.lst ds) a = some o := e
      rw [sset_ne z] at e
      obtain ⟨u, h1, h2⟩ := st a o e
      exact ⟨u, h1, h2.mono hS⟩
  · rcases rg r b q1 with z1 | ⟨z1, w1⟩
    · rcases rg r' b q2 with z2 | ⟨z2, w2⟩
      · exact E.inj i j r r' b h1 h2 z1 z2
      · exact absurd (.inr w2) (E.out i r b h1 z1)
    · rcases rg r' b q2 with z2 | ⟨z2, w2⟩
      · exact absurd (.inr w1) (E.out j r' b h2 z2)
      · subst z1; subst z2
        have := (E.sto i h1).1
        have := (E.sto j h2).1
        omega
  · rcases rg r b q with z | ⟨_, z⟩
    · exact fun w => E.out j r b h z (.inl w)
    · rw [z]; exact np
end
section
variable {K : PySem.W.Frag} {n : Nat} {J : Jv n} {sx : Nat}
/-- a new list, laid into the store -/
def fNewL (sx : Nat) (f : FA) : FE := fun ρ P => f ρ fun ds ρ1 => stF ρ1 sx fun S => ∀ p, S p = none → P (hdl p) (ρ1.set sx (.st (sset S p (.lst ds))))
theorem re_newL {t : TE} {f : FA} (h : RN K J t f) : RE K J t (fNewL sx f) := by
  intro O as σ H Q ρ P E q k
  refine h O as σ H _ ρ _ E q fun ds ρ1 p xs H1 q1 f1 hn E1 hp d1 => ?_
  obtain ⟨S, hs, q1⟩ := stF_of q1
  obtain ⟨sp, E2, f2⟩ := E1.shelve E.inq E.inv hs f1 hn (E.notO E1 hn hp) hp d1
  exact k _ _ _ ⟨H1.hp, sset S p (.lst ds)⟩ (q1 p sp) f2 E2 .hdl
/-- an own list, laid into the store -/
def fShelve (sx i : Nat) : FE := fun ρ P => ownF ρ i fun ds => stF ρ sx fun S => ∀ p, S p = none → P (hdl p) ((ρ.set i .no).set sx (.st (sset S p (.lst ds))))
/-! objects -/
/-- the object at a place of the store -/
def ObjAt (S : Sto) (d : PyData) (c : Str) (fs : List (PyData × PyData)) : Prop := ∃ p, d = hdl p ∧ S p = some (.obj c fs)
/-- an object, of the store or one that stays -/
def ObjU (S : Sto) (d : PyData) (c : Str) (fs : List (PyData × PyData)) : Prop := ObjAt S d c fs ∨ d = .dict ((.str c, .none) :: fs)
theorem objU_of {O : Addr → Prop} {as : As} {H : Hs} {ρ : En} {σ : L2.St} {S : Sto} {d : PyData} {c : Str} {C : Addr} {fs : List (PyData × PyData)} {v : V} (E : EnR K J O as H ρ σ) (hs : ρ[sx]? = some (.st S)) (hc : PySem.W.nsIn K mainGlobals c = some (some (.ref C))) (h : ObjU S d c fs) (q : Dq K (hq O as H) v d) : ∃ a dx fv, v = .ref a ∧ H a = some (.ins C dx fv) ∧ DqFs K (hq O as H) fv fs := by
  rcases h with ⟨p, rfl, e⟩ | rfl
  · rw [q.hdl_of]
    obtain ⟨u, e1, q1⟩ := E.getS hs e
    cases q1 with
    | obj h1 q1 =>
      rw [hc] at h1
      cases h1
      exact ⟨_, _, _, rfl, e1, q1⟩
  · cases q with
    | obj h1 e q =>
      rw [hc] at h1
      cases h1
      exact ⟨_, _, _, rfl, (hp_some e).2, q⟩
def fFldU (sx : Nat) (c f : Str) (a : FE) : FE := fun ρ P => a ρ fun d ρ1 => stF ρ1 sx fun S => ∃ fs v, ObjU S d c fs ∧ fldD f fs = some v ∧ P v ρ1
theorem re_fldU {C : Addr} {c f : Str} {ta : TE} {a : FE} (hc : PySem.W.nsIn K mainGlobals c = some (some (.ref C))) (cl : Cls K C) (na : NoAttr K C f) (ha : RE K J ta a) : RE K J (tFld K ta f) (fFldU sx c f a) := by
  intro O as σ H Q ρ P E q k
  refine ha O as σ H _ ρ _ E q fun d ρ1 v H1 q1 f1 E1 d1 => ?_
  obtain ⟨S, hs, fs, w, ob, hf, q1⟩ := stF_of q1
  obtain ⟨a, dx, fv, rfl, e, r⟩ := objU_of E1 hs hc ob d1
  obtain ⟨x, ex, dx'⟩ := r.get hf
  exact ⟨a, C, dx, fv, x, rfl, e, cl, na, ex, k _ _ _ _ q1 f1 E1 dx'⟩
/-- a field's value put -/
def putD (f : Str) (v : PyData) : List (PyData × PyData) → List (PyData × PyData)
  | [] => [(.str f, v)]
  | (.str g, d) :: r => if g = f then (.str g, v) :: r else (.str g, d) :: putD f v r
  | z :: r => z :: putD f v r
theorem DqFs.put {G : Hp} {f : Str} {v : V} {d : PyData} (q : Dq K G v d) : ∀ {fv : List (Str × V)} {fs : List (PyData × PyData)}, DqFs K G fv fs → DqFs K G (putF f v fv) (putD f d fs)
  | _, _, .nil => .cons q .nil
  | _, _, .cons (f := g) a r => by
    unfold putF putD
    by_cases e : g = f
    · rw [if_pos e, if_pos e]; exact .cons q r
    · rw [if_neg e, if_neg e]; exact .cons a (DqFs.put q r)
theorem DqFs.len {G : Hp} : ∀ {fv : List (Str × V)} {fs : List (PyData × PyData)}, DqFs K G fv fs → fv.length = fs.length
  | _, _, .nil => rfl
  | _, _, .cons _ r => by rw [List.length_cons, List.length_cons, DqFs.len r]
/-- o.f = e -/
def fSetF (sx : Nat) (c f : Str) (a b : FE) : FS := fun E ρ => b ρ fun v ρ1 => a ρ1 fun d ρ2 => stF ρ2 sx fun S => ∃ p fs, d = hdl p ∧ S p = some (.obj c fs) ∧ fs.length < 1000 ∧ E.nx (ρ2.set sx (.st (sset S p (.obj c (putD f v fs)))))
theorem rs_setF {C : Addr} {c f : Str} {ta tb : TE} {a b : FE} (hc : PySem.W.nsIn K mainGlobals c = some (some (.ref C))) (cl : Cls K C) (na : NoAttr K C f) (ha : RE K J ta a) (hb : RE K J tb b) : RS K J (sFld K ta tb f) (fSetF sx c f a b) := by
  intro O as σ H D ρ E R q Cr
  refine hb O as σ H _ ρ _ R q fun v ρ1 y H1 q1 f1 E1 d1 => ?_
  refine ha O as σ H1 _ ρ1 _ E1 q1 fun d ρ2 x H2 q2 f2 E2 d2 => ?_
  obtain ⟨S, hs, p, fs, rfl, e, l, q2⟩ := stF_of q2
  rw [d2.hdl_of]
  obtain ⟨u, e1, r1⟩ := E2.getS hs e
  cases r1 with
  | @obj C' dx _ fv _ h1 r1 =>
    rw [hc] at h1
    cases h1
    refine ⟨p, C, dx, fv, rfl, e1, cl, na, by rw [r1.len]; exact l, ?_⟩
    obtain ⟨E3, f3⟩ := E2.setS hs e (u' := .ins C dx (putF f y fv)) (o' := .obj c (putD f v fs)) (.obj hc (DqFs.put (d1.fr f2) r1))
    exact Cr.nx _ _ _ _ q2 (.of ((f1.trans f2).trans f3)) E3
/-- o.f += e (numbers) -/
def fAugF (sx : Nat) (c f : Str) (a b : FE) (h : Int → Int → Int) : FS := fun E ρ => a ρ fun d ρ1 => stF ρ1 sx fun S1 => ∃ p fs i, d = hdl p ∧ S1 p = some (.obj c fs) ∧ fldD f fs = some (.int i) ∧ b ρ1 fun y ρ2 => intF y fun j => stF ρ2 sx fun S => ∃ fs', S p = some (.obj c fs') ∧ fs'.length < 1000 ∧ E.nx (ρ2.set sx (.st (sset S p (.obj c (putD f (.int (h i j)) fs')))))
theorem rs_augF {C : Addr} {c f : Str} {ta tb : TE} {a b : FE} {h : Int → Int → Int} (hc : PySem.W.nsIn K mainGlobals c = some (some (.ref C))) (cl : Cls K C) (na : NoAttr K C f) (ha : RE K J ta a) (hb : RE K J tb b) : RS K J (sFldAug K ta tb (ipI h) f) (fAugF sx c f a b h) := by
  intro O as σ H D ρ E R q Cr
  refine ha O as σ H _ ρ _ R q fun d ρ1 x H1 q1 f1 E1 d1 => ?_
  obtain ⟨S1, hs1, p, fs, i, rfl, e, hi, q1⟩ := stF_of q1
  rw [d1.hdl_of]
  obtain ⟨u, e1, r1⟩ := E1.getS hs1 e
  cases r1 with
  | @obj C' dx _ fv _ h1 r1 =>
    rw [hc] at h1
    cases h1
    obtain ⟨w, ew, dw⟩ := r1.get hi
    cases dw
    refine ⟨p, C, dx, fv, _, rfl, e1, cl, na, ew, ?_⟩
    refine hb O as σ H1 _ ρ1 _ E1 q1 fun y ρ2 z H2 q2 f2 E2 d2 => ?_
    unfold intF at q2
    split at q2
    · next j =>
      cases d2
      obtain ⟨S, hs, fs', e', l, q2⟩ := stF_of q2
      obtain ⟨u', e1', r1'⟩ := E2.getS hs e'
      cases r1' with
      | @obj C' dx' _ fv' _ h1' r1' =>
        rw [hc] at h1'
        cases h1'
        refine ⟨_, _, rfl, rfl, dx', fv', e1', by rw [r1'.len]; exact l, ?_⟩
        obtain ⟨E3, f3⟩ := E2.setS hs e' (u' := .ins C dx' (putF f (.int (h i j)) fv')) (o' := .obj c (putD f (.int (h i j)) fs')) (.obj hc (DqFs.put (.int _) r1'))
        exact Cr.nx _ _ _ _ q2 (.of ((f1.trans f2).trans f3)) E3
    · exact q2.elim
end
end DL
/-! constructors and methods of things of the store -/
namespace DL
open PySem L2 Z PySem.Spec PyProof.Rows
variable [Tbs]
section
variable {K : PySem.W.Frag} {n : Nat} {J : Jv n} {sx : Nat}
theorem fits_nil {ρ : En} {S : Sto} (hs : ρ[sx]? = some (.st S)) : ∀ ds : List PyData, Fits ρ (ds.map .dat ++ [.own sx]) (ds.map .fz ++ [.st S])
  | [] => .st hs .nil
  | _ :: r => .dat (fits_nil hs r)
/-- a new instance in the store -/
theorem EnR.newS {O : Addr → Prop} {as : As} {H : Hs} {ρ : En} {σ : L2.St} {S : Sto} {C x dx : Addr} {c : Str} (E : EnR K J O as H ρ σ) (hs : ρ[sx]? = some (.st S)) (hc : PySem.W.nsIn K mainGlobals c = some (some (.ref C))) (hx : H x = none) (hd : H dx = none) (ne : dx ≠ x) :
    S x = none ∧ EnR K J O as ⟨upd (upd H dx (.own x)) x (.ins C dx []), sset S x (.obj c [])⟩ (ρ.set sx (.st (sset S x (.obj c [])))) σ ∧ Fr as H ⟨upd (upd H dx (.own x)) x (.ins C dx []), sset S x (.obj c [])⟩ := by
  have E1 := E.grow (Same.new (o := .own x) hd)
  have f1 := E.frS (Same.new (o := .own x) hd)
  obtain ⟨sp, E2, f2⟩ := E1.addS (p := x) hs (by show upd H dx _ x = none; rw [upd_ne (Ne.symm ne)]; exact hx) (u' := .ins C dx []) (o' := .obj c []) (.obj hc .nil)
  exact ⟨sp, E2, f1.trans f2⟩
theorem mkS_core {O : Addr → Prop} {as : As} {H : Hs} {ρ : En} {σ : L2.St} {C x dx : Addr} {c : Str} {m : Nat} {F : FN} {vs : List V} {ds : List PyData} {Q : VK} {E0 : XK} {S : Sto} {P : PyData → En → Prop}
    (hc : PySem.W.nsIn K mainGlobals c = some (some (.ref C))) (E : EnR K J O as H ρ σ) (hs : ρ[sx]? = some (.st S)) (dv : DqAll K (hq O as H) vs ds) (hm : ds.length + 1 = m) (hx : H x = none) (hd : H dx = none) (ne : dx ≠ x)
    (g : ∀ x, S x = none → F (.fz (hdl x) :: (ds.map .fz ++ [.st (sset S x (.obj c []))])) fun d out => d = .none ∧ P (hdl x) (ρ.set sx ((out.drop m).headD .no)))
    (k : ∀ d ρ' v H', P d ρ' → Fr as H H' → EnR K J O as H' ρ' σ → Dq K (hq O as H') v d → Q v H') :
    spS K m F (.ref x :: vs) (upd (upd H dx (.own x)) x (.ins C dx [])) (fun v H2 => v = .non ∧ Q (.ref x) H2) E0 := by
  obtain ⟨sp, E2, f2⟩ := E.newS hs hc hx hd ne
  have hs2 : (ρ.set sx (.st (sset S x (.obj c []))))[sx]? = some (.st (sset S x (.obj c []))) := List.getElem?_set_self (List.getElem?_eq_some_iff.mp hs).1
  refine call_core (P := fun d ρ' => d = .none ∧ P (hdl x) ρ') (xs := .dat (hdl x) :: (ds.map .dat ++ [.own sx])) (r := .fz (hdl x) :: (ds.map .fz ++ [.st (sset S x (.obj c []))])) E2 (.dat (fits_nil hs2 ds)) (.cons (.dat .hdl) ((dat_ars (dv.fr f2)).snoc (E2.st_at hs2).1)) (by rw [List.length_cons, dv.length]; exact hm) (by rw [List.length_cons, List.length_append, List.length_map, List.length_singleton]; omega) (by show (ownIx (ds.map .dat ++ [.own sx])).Nodup; rw [ownIx_snoc, ownIx_dat]; exact List.nodup_cons.mpr ⟨List.not_mem_nil, .nil⟩) ?_ fun d ρ' v H' p fr E' q' => ?_
  · have e : ∀ out : List Sl, wb (ρ.set sx (.st (sset S x (.obj c [])))) (.dat (hdl x) :: (ds.map .dat ++ [.own sx])) out = ρ.set sx ((out.drop m).headD .no) := fun out => by
      rw [wb, wb_snoc, wb_dat, List.length_map, List.set_set, List.drop_tail, hm]
    simp only [e]
    exact g x sp
  · obtain ⟨rfl, p⟩ := p
    cases q'
    exact ⟨rfl, k _ _ _ _ p (f2.trans fr) E' .hdl⟩
/-- C(..), its instance in the store -/
def fMkS (sx : Nat) (c : Str) (m : Nat) (F : FN) (dv : List PyData) (f : FA) : FE := fun ρ P => f ρ fun ds ρ1 => (ds ++ dv).length + 1 = m ∧ stF ρ1 sx fun S => ∀ x, S x = none → F (.fz (hdl x) :: ((ds ++ dv).map .fz ++ [.st (sset S x (.obj c []))])) fun d out => d = .none ∧ P (hdl x) (ρ1.set sx ((out.drop m).headD .no))
theorem re_mkS {C : Addr} {c : Str} {m : Nat} {F : FN} {dvs : List V} {dv : List PyData} {E0 : XK} {t : TA} {f : FA} (hc : PySem.W.nsIn K mainGlobals c = some (some (.ref C))) (hd : ∀ H, DqAll K H dvs dv) (ha : RA K J t f) : RE K J (tMake C (spS K m F) dvs E0 t) (fMkS sx c m F dv f) := by
  intro O as σ H Q ρ P E q k
  refine ha O as σ H _ ρ _ E q fun ds ρ1 vs H1 q1 f1 E1 d1 => ?_
  obtain ⟨hm, q1⟩ := q1
  obtain ⟨S, hs, q1⟩ := stF_of q1
  intro x dx hx hdx ne
  exact mkS_core hc E1 hs (d1.append (hd _)) hm hx hdx ne q1 fun d ρ' v H' p fr E' q' => k d ρ' v H' p (f1.trans fr) E' q'
def fMkNS (sx : Nat) (c : Str) (l : Nat) (F : FN) (n m : Nat) (gD : List PyData → List PyData → List PyData) (f fk : FA) : FE := fun ρ P => f ρ fun ds ρ1 => fk ρ1 fun es ρ2 => ds.length = n ∧ es.length = m ∧ (gD ds es).length + 1 = l ∧ stF ρ2 sx fun S => ∀ x, S x = none → F (.fz (hdl x) :: ((gD ds es).map .fz ++ [.st (sset S x (.obj c []))])) fun d out => d = .none ∧ P (hdl x) (ρ2.set sx ((out.drop l).headD .no))
theorem re_mkNS {C : Addr} {c : Str} {l : Nat} {F : FN} {n m : Nat} {gV : List V → List V → List V} {gD : List PyData → List PyData → List PyData} {E0 : XK} {t tk : TA} {f fk : FA} (hc : PySem.W.nsIn K mainGlobals c = some (some (.ref C)))
    (hg : ∀ (x : Addr) (vs zs : List V) (ds es : List PyData) (H : Hp), DqAll K H vs ds → DqAll K H zs es → ∃ ws, gV (.ref x :: vs) zs = .ref x :: ws ∧ DqAll K H ws (gD ds es)) (ha : RA K J t f) (hk : RA K J tk fk) : RE K J (tMakeN C n m (spS K l F) gV E0 t tk) (fMkNS sx c l F n m gD f fk) := by
  intro O as σ H Q ρ P E q k
  refine ha O as σ H _ ρ _ E q fun ds ρ1 vs H1 q1 f1 E1 d1 => ?_
  refine hk O as σ H1 _ ρ1 _ E1 q1 fun es ρ2 zs H2 q2 f2 E2 d2 => ?_
  obtain ⟨l1, l2, l3, q2⟩ := q2
  obtain ⟨S, hs, q2⟩ := stF_of q2
  refine ⟨by rw [d1.length]; exact l1, by rw [d2.length]; exact l2, fun x dx hx hdx ne => ?_⟩
  obtain ⟨ws, e, r⟩ := hg x vs zs ds es _ (d1.fr f2) d2
  rw [e]
  exact mkS_core hc E2 hs r l3 hx hdx ne q2 fun d ρ' v H' p fr E' q' => k d ρ' v H' p ((f1.trans f2).trans fr) E' q'
/-- the store of a constructor alone -/
def sto1 (x : Addr) (c : Str) : Sto := sset noS x (.obj c [])
def asX (m : Nat) : As := fun i => if i = m then some .sto else none
theorem asX_of {m i : Nat} {r : Rg} (h : asX m i = some r) : i = m ∧ r = .sto := by
  unfold asX at h
  split at h
  · next z => cases h; exact ⟨z, rfl⟩
  · cases h
theorem mkZ_core {O : Addr → Prop} {as : As} {H : Hs} {ρ : En} {σ : L2.St} {C x dx : Addr} {c : Str} {m : Nat} {F : FN} {vs : List V} {ds : List PyData} {Q : VK} {E0 : XK} {P : PyData → En → Prop}
    (hc : PySem.W.nsIn K mainGlobals c = some (some (.ref C))) (E : EnR K J O as H ρ σ) (dv : DqAll K (hq O as H) vs ds) (hm : ds.length + 1 = m) (hx : H x = none) (hd : H dx = none) (ne : dx ≠ x)
    (g : F (.fz (hdl x) :: (ds.map .fz ++ [.st (sto1 x c)])) fun d out => d = .none ∧ ∃ S' o, out[m]? = some (.st S') ∧ Res S' (hdl x) o ∧ P o ρ)
    (k : ∀ d ρ' v H', P d ρ' → Fr as H H' → EnR K J O as H' ρ' σ → Dq K (hq O as H') v d → Q v H') :
    spS K m F (.ref x :: vs) (upd (upd H dx (.own x)) x (.ins C dx [])) (fun v H2 => v = .non ∧ Q (.ref x) H2) E0 := by
  have s1 : Same H.hp (upd (upd H dx (.own x)) x (.ins C dx [])) := fun a o e => by
    rw [upd_ne (ne_of_none e hx), upd_ne (ne_of_none e hd)]
    exact e
  generalize hH0 : upd (upd H.hp dx (.own x)) x (.ins C dx []) = H0 at s1
  have hx0 : H0 x = some (.ins C dx []) := by rw [← hH0]; exact upd_same
  have nhx : ¬ Hid O as H x := E.fresh hx
  have own0 : ∀ {G : Hs} {b : Addr}, Own (asX m) G b → G.st b ≠ none ∨ ∃ p ∈ Tbs.T, p.1 = b := fun h => by
    rcases h with ⟨i, r, h, q⟩ | h
    · rw [(asX_of h).2] at q
      exact .inl q
    · exact .inr h
  have st0 : ∀ b, sto1 x c b ≠ none → b = x := fun b h => by
    rcases sset_some h with z | z
    · exact z
    · exact absurd rfl z
  have same0 : Same (hq O as H) (hq (fun a => Hid O as H a) (asX m) ⟨H0, sto1 x c⟩) := fun a o e => by
    obtain ⟨h, e⟩ := hp_some e
    refine hp_mk (fun z => ?_) (s1 a o e)
    rcases z with z | z
    · exact h z
    · rcases own0 z with z | z
      · rw [st0 a z, hx] at e; cases e
      · exact h (.inr (.inr z))
  have ll : (Sl.fz (hdl x) :: (ds.map Sl.fz ++ [Sl.st (sto1 x c)])).length = m + 1 := by rw [List.length_cons, List.length_append, List.length_map, List.length_singleton]; omega
  have lv : ((V.ref x :: vs).map some).length = m := by rw [List.length_map, List.length_cons, dv.length]; exact hm
  have last : (Sl.fz (hdl x) :: (ds.map Sl.fz ++ [Sl.st (sto1 x c)]))[m]? = some (.st (sto1 x c)) := by
    rw [← hm, List.getElem?_cons_succ, List.getElem?_append_right (by rw [List.length_map]; exact Nat.le_refl _), List.length_map, Nat.sub_self]
    rfl
  have am : asX m m = some .sto := if_pos rfl
  refine ⟨by rw [List.length_cons, dv.length]; exact hm, fun a => Hid O as H a, asX m, sto1 x c, _, _, ⟨by rw [lv, ll]; omega, fun i sl h1 h2 => ?_, fun i sl o h1 h2 => ?_, fun i h => ?_, fun i j r r' b h1 h2 q1 q2 => by rw [(asX_of h1).1, (asX_of h2).1], fun i r b h q z => ?_, fun i r h => by rw [(asX_of h).1, ll]; omega, fun a h => ?_, trivial, trivial, E.tab.ext s1⟩, ll, g, fun d out v H' p fr bk dq => ?_⟩
  · have := (List.getElem?_eq_some_iff.mp h1).1
    rw [ll] at this
    rw [lv] at h2
    have : i = m := by omega
    rw [this]; exact am
  · have hi : i < m := by rw [← lv]; exact (List.getElem?_eq_some_iff.mp h2).1
    rw [show asX m i = none from if_neg (by omega)]
    cases i with
    | zero => cases h1; cases h2; exact .fz .hdl
    | succ i =>
      rw [List.getElem?_cons_succ, List.getElem?_append_left (by rw [List.length_map]; omega), List.getElem?_map] at h1
      rw [List.map_cons, List.getElem?_cons_succ, List.getElem?_map] at h2
      cases e1 : ds[i]? with
      | none => rw [e1] at h1; cases h1
      | some d =>
        rw [e1] at h1
        cases h1
        obtain ⟨v, ev, dq⟩ := dv.got e1
        rw [ev] at h2
        cases h2
        exact .fz (dq.mono same0)
  · rw [(asX_of h).1]
    refine ⟨lv.symm, last, fun a o e => ?_⟩
    have e : sto1 x c a = some o := e
    have := st0 a (by rw [e]; exact Option.some_ne_none _)
    subst this
    rw [show sto1 a c a = some (.obj c []) from sset_same] at e
    cases e
    exact ⟨_, hx0, .obj hc .nil⟩
  · rw [(asX_of h).2] at q
    rw [st0 b q] at z
    exact nhx z
  · obtain ⟨o, e⟩ := Option.ne_none_iff_exists'.mp (E.full h)
    show H0 a ≠ none
    rw [s1 _ _ e]
    exact Option.some_ne_none _
  · obtain ⟨rfl, S', o, hS, hR, p⟩ := p
    cases dq
    refine ⟨rfl, ?_⟩
    obtain ⟨sl, e1, e2, e3⟩ := bk.at_ m _ am
    rw [hS] at e1
    cases e1
    cases e2
    have fn : Fr noA H (H.w H'.hp) := by
      refine ⟨fun a o h e => fr.fr a o (fun z => ?_) (s1 a o e), fun a h => ?_, fun a h => fr.liv a ?_, fun _ => rfl⟩
      · rcases own0 z with z | z
        · rw [st0 a z, hx] at e; cases e
        · exact h (.inr z)
      · rcases h with ⟨_, _, h, _⟩ | h
        · cases h
        · exact .inl (.inr h)
      · obtain ⟨o, e⟩ := Option.ne_none_iff_exists'.mp h
        show H0 a ≠ none
        rw [s1 _ _ e]
        exact Option.some_ne_none _
    obtain ⟨E', f'⟩ := E.still fn bk.tab
    have sm : Same (hq (fun a => Hid O as H a) (asX m) H') (hq O as (H.w H'.hp)) := hp_less fun a h => by
      rcases h with h | h
      · exact .inl (.inl h)
      · exact .inl (.inr ((Own.st rfl).mp h))
    have vis : ∀ a, H'.st a ≠ none → hq O as (H.w H'.hp) a = H'.hp a := fun a h => hp_of fun z => by
      refine bk.out m .sto a am h ?_
      rcases z with z | z
      · exact .inl z
      · exact .inr ((Own.st rfl).mp z)
    exact k _ _ _ ⟨H'.hp, H.st⟩ p f' E' (Res.dq e3 sm vis hR .hdl)
/-- C(..), an instance that stays -/
def fMkZ (c : Str) (m : Nat) (F : FN) (dv : List PyData) (f : FA) : FE := fun ρ P => f ρ fun ds ρ1 => (ds ++ dv).length + 1 = m ∧ ∀ x, F (.fz (hdl x) :: ((ds ++ dv).map .fz ++ [.st (sto1 x c)])) fun d out => d = .none ∧ ∃ S' o, out[m]? = some (.st S') ∧ Res S' (hdl x) o ∧ P o ρ1
theorem re_mkZ {C : Addr} {c : Str} {m : Nat} {F : FN} {dvs : List V} {dv : List PyData} {E0 : XK} {t : TA} {f : FA} (hc : PySem.W.nsIn K mainGlobals c = some (some (.ref C))) (hd : ∀ H, DqAll K H dvs dv) (ha : RA K J t f) : RE K J (tMake C (spS K m F) dvs E0 t) (fMkZ c m F dv f) := by
  intro O as σ H Q ρ P E q k
  refine ha O as σ H _ ρ _ E q fun ds ρ1 vs H1 q1 f1 E1 d1 => ?_
  intro x dx hx hdx ne
  exact mkZ_core hc E1 (d1.append (hd _)) q1.1 hx hdx ne (q1.2 x) fun d ρ' v H' p fr E' q' => k d ρ' v H' p (f1.trans fr) E' q'
def fMkNZ (c : Str) (l : Nat) (F : FN) (n m : Nat) (gD : List PyData → List PyData → List PyData) (f fk : FA) : FE := fun ρ P => f ρ fun ds ρ1 => fk ρ1 fun es ρ2 => ds.length = n ∧ es.length = m ∧ (gD ds es).length + 1 = l ∧ ∀ x, F (.fz (hdl x) :: ((gD ds es).map .fz ++ [.st (sto1 x c)])) fun d out => d = .none ∧ ∃ S' o, out[l]? = some (.st S') ∧ Res S' (hdl x) o ∧ P o ρ2
theorem re_mkNZ {C : Addr} {c : Str} {l : Nat} {F : FN} {n m : Nat} {gV : List V → List V → List V} {gD : List PyData → List PyData → List PyData} {E0 : XK} {t tk : TA} {f fk : FA} (hc : PySem.W.nsIn K mainGlobals c = some (some (.ref C)))
    (hg : ∀ (x : Addr) (vs zs : List V) (ds es : List PyData) (H : Hp), DqAll K H vs ds → DqAll K H zs es → ∃ ws, gV (.ref x :: vs) zs = .ref x :: ws ∧ DqAll K H ws (gD ds es)) (ha : RA K J t f) (hk : RA K J tk fk) : RE K J (tMakeN C n m (spS K l F) gV E0 t tk) (fMkNZ c l F n m gD f fk) := by
  intro O as σ H Q ρ P E q k
  refine ha O as σ H _ ρ _ E q fun ds ρ1 vs H1 q1 f1 E1 d1 => ?_
  refine hk O as σ H1 _ ρ1 _ E1 q1 fun es ρ2 zs H2 q2 f2 E2 d2 => ?_
  obtain ⟨l1, l2, l3, q2⟩ := q2
  refine ⟨by rw [d1.length]; exact l1, by rw [d2.length]; exact l2, fun x dx hx hdx ne => ?_⟩
  obtain ⟨ws, e, r⟩ := hg x vs zs ds es _ (d1.fr f2) d2
  rw [e]
  exact mkZ_core hc E2 r l3 hx hdx ne (q2 x) fun d ρ' v H' p fr E' q' => k d ρ' v H' p ((f1.trans f2).trans fr) E' q'
/-! methods -/
theorem look_none {G : Hp} {f : Str} : ∀ {fv : List (Str × V)} {fs : List (PyData × PyData)}, DqFs K G fv fs → fldD f fs = none → fv.lookup f = none
  | _, _, .nil, _ => rfl
  | _, _, .cons (f := g) (v := v) (d := c) a b, h => by
    unfold fldD at h
    rw [List.lookup_cons]
    by_cases e : f = g
    · rw [if_pos e] at h; cases h
    · rw [if_neg e] at h
      have : (f == g) = false := by simpa using e
      rw [this]
      exact look_none b h
/-- o.m(..) of an object that stays -/
def fMeth (c x : Str) (m : Nat) (F : FN) (dv : List PyData) (a : FE) (b : FC) : FE := fun ρ P => a ρ fun d ρ1 => objF c d fun fs => fldD x fs = none ∧ b ρ1 fun xs ρ2 => xs.length + dv.length + 1 = m ∧ (ownIx xs).Nodup ∧ argF ρ2 xs fun r => F (.fz d :: (r ++ dv.map .fz)) fun e out => P e (wb ρ2 xs out.tail)
theorem re_meth {C : Addr} {c x : Str} {m : Nat} {F : FN} {dvs : List V} {dv : List PyData} {E0 : XK} {ta : TE} {t : TA} {a : FE} {b : FC} (hc : PySem.W.nsIn K mainGlobals c = some (some (.ref C))) (hd : ∀ H, DqAll K H dvs dv) (ha : RE K J ta a) (hb : RC K J t b) : RE K J (tMeth C x (spF K m F) dvs E0 ta t) (fMeth c x m F dv a b) := by
  intro O as σ H Q ρ P E q k
  refine ha O as σ H _ ρ _ E q fun d ρ1 v H1 q1 f1 E1 d1 => ?_
  obtain ⟨y, dx, fv, fs, rfl, e, r, hn, q1⟩ := objF_of hc d1 q1
  refine ⟨y, dx, fv, rfl, (hp_some e).2, look_none r hn, ?_⟩
  refine hb O as σ H1 _ ρ1 _ E1 q1 fun xs ρ2 vs H2 q2 f2 E2 d2 => ?_
  obtain ⟨hm, nd, q2⟩ := q2
  obtain ⟨r2, fit, q2⟩ := argF_of q2
  have hl : (V.ref y :: (vs ++ dvs)).length = m := by rw [List.length_cons, List.length_append, d2.len, (hd H2).length]; exact hm
  refine call_core (xs := .dat d :: (xs ++ dv.map .dat)) E2 (.dat (fit.app (fits_dat dv))) (.cons (.dat (d1.fr f2)) (d2.app (dat_ars (hd _))).toT) hl (by rw [List.length_cons, List.length_append, List.length_map]; exact hm) (by show (ownIx (xs ++ dv.map .dat)).Nodup; rw [ownIx_app]; exact nd) ?_ fun d ρ' v H' p fr E' q' => k d ρ' v H' p ((f1.trans f2).trans fr) E' q'
  simp only [wb, wb_app]
  exact q2
def fMethW (c x : Str) (m : Nat) (F : FM) (dv : List PyData) (a : FE) (b : FC) : FA := fun ρ P => a ρ fun d ρ1 => objF c d fun fs => fldD x fs = none ∧ b ρ1 fun xs ρ2 => xs.length + dv.length + 1 = m ∧ (ownIx xs).Nodup ∧ argF ρ2 xs fun r => F (.fz d :: (r ++ dv.map .fz)) fun e out => P e (wb ρ2 xs out.tail)
theorem rn_meth {C : Addr} {c x : Str} {m : Nat} {F : FM} {dvs : List V} {dv : List PyData} {E0 : XK} {ta : TE} {t : TA} {a : FE} {b : FC} (hc : PySem.W.nsIn K mainGlobals c = some (some (.ref C))) (hd : ∀ H, DqAll K H dvs dv) (ha : RE K J ta a) (hb : RC K J t b) : RN K J (tMeth C x (spN K m F) dvs E0 ta t) (fMethW c x m F dv a b) := by
  intro O as σ H Q ρ P E q k
  refine ha O as σ H _ ρ _ E q fun d ρ1 v H1 q1 f1 E1 d1 => ?_
  obtain ⟨y, dx, fv, fs, rfl, e, r, hn, q1⟩ := objF_of hc d1 q1
  refine ⟨y, dx, fv, rfl, (hp_some e).2, look_none r hn, ?_⟩
  refine hb O as σ H1 _ ρ1 _ E1 q1 fun xs ρ2 vs H2 q2 f2 E2 d2 => ?_
  obtain ⟨hm, nd, q2⟩ := q2
  obtain ⟨r2, fit, q2⟩ := argF_of q2
  have hl : (V.ref y :: (vs ++ dvs)).length = m := by rw [List.length_cons, List.length_append, d2.len, (hd H2).length]; exact hm
  refine call_coreN (xs := .dat d :: (xs ++ dv.map .dat)) E2 (.dat (fit.app (fits_dat dv))) (.cons (.dat (d1.fr f2)) (d2.app (dat_ars (hd _))).toT) hl (by rw [List.length_cons, List.length_append, List.length_map]; exact hm) (by show (ownIx (xs ++ dv.map .dat)).Nodup; rw [ownIx_app]; exact nd) ?_ fun ds ρ' p ys H' pr fr nw E' e' q' => k ds ρ' p ys H' pr ((f1.trans f2).trans fr) (none_back (f1.trans f2) nw) E' e' q'
  simp only [wb, wb_app]
  exact q2
/-- o.m(..) that is handed the store -/
def fMethS (sx : Nat) (c x : Str) (m : Nat) (F : FN) (dv : List PyData) (a : FE) (b : FC) : FE := fun ρ P => a ρ fun d ρ1 => stF ρ1 sx fun S1 => ∃ fs, ObjU S1 d c fs ∧ fldD x fs = none ∧ b ρ1 fun xs ρ2 => xs.length + dv.length + 1 = m ∧ (ownIx xs ++ [sx]).Nodup ∧ argF ρ2 xs fun r => stF ρ2 sx fun S => F (.fz d :: (r ++ dv.map .fz ++ [.st S])) fun e out => P e ((wb ρ2 xs out.tail).set sx ((out.drop m).headD .no))
theorem re_methS {C : Addr} {c x : Str} {m : Nat} {F : FN} {dvs : List V} {dv : List PyData} {E0 : XK} {ta : TE} {t : TA} {a : FE} {b : FC} (hc : PySem.W.nsIn K mainGlobals c = some (some (.ref C))) (hd : ∀ H, DqAll K H dvs dv) (ha : RE K J ta a) (hb : RC K J t b) : RE K J (tMeth C x (spS K m F) dvs E0 ta t) (fMethS sx c x m F dv a b) := by
  intro O as σ H Q ρ P E q k
  refine ha O as σ H _ ρ _ E q fun d ρ1 v H1 q1 f1 E1 d1 => ?_
  obtain ⟨S1, hs1, fs, ob, hn, q1⟩ := stF_of q1
  obtain ⟨y, dx, fv, rfl, e, r⟩ := objU_of E1 hs1 hc ob d1
  refine ⟨y, dx, fv, rfl, e, look_none r hn, ?_⟩
  refine hb O as σ H1 _ ρ1 _ E1 q1 fun xs ρ2 vs H2 q2 f2 E2 d2 => ?_
  obtain ⟨hm, nd, q2⟩ := q2
  obtain ⟨r2, fit, q2⟩ := argF_of q2
  obtain ⟨S, hs, q2⟩ := stF_of q2
  have hl : (V.ref y :: (vs ++ dvs)).length = m := by rw [List.length_cons, List.length_append, d2.len, (hd H2).length]; exact hm
  have ni : sx ∉ ownIx xs := fun z => (List.nodup_append.mp nd).2.2 _ z _ (List.mem_singleton.mpr rfl) rfl
  refine call_core (xs := .dat d :: (xs ++ dv.map .dat ++ [.own sx])) E2 (.dat ((fit.app (fits_dat dv)).app (.st hs .nil))) (.cons (.dat (d1.fr f2)) ((d2.app (dat_ars (hd _))).snoc (E2.st_at hs).1)) hl (by rw [List.length_cons, List.length_append, List.length_append, List.length_map, List.length_singleton]; omega) (by show (ownIx (xs ++ dv.map .dat ++ [.own sx])).Nodup; rw [ownIx_snoc, ownIx_app]; exact nd) ?_ fun d ρ' v H' p fr E' q' => k d ρ' v H' p ((f1.trans f2).trans fr) E' q'
  have e : ∀ out : List Sl, wb ρ2 (.dat d :: (xs ++ dv.map .dat ++ [.own sx])) out = (wb ρ2 xs out.tail).set sx ((out.drop m).headD .no) := fun out => by
    rw [wb, wb_snoc, wb_app, wb_set _ _ _ _ _ ni, List.length_append, List.length_map, List.drop_tail, hm]
  simp only [e]
  exact q2
def fMethWS (sx : Nat) (c x : Str) (m : Nat) (F : FM) (dv : List PyData) (a : FE) (b : FC) : FA := fun ρ P => a ρ fun d ρ1 => stF ρ1 sx fun S1 => ∃ fs, ObjU S1 d c fs ∧ fldD x fs = none ∧ b ρ1 fun xs ρ2 => xs.length + dv.length + 1 = m ∧ (ownIx xs ++ [sx]).Nodup ∧ argF ρ2 xs fun r => stF ρ2 sx fun S => F (.fz d :: (r ++ dv.map .fz ++ [.st S])) fun e out => P e ((wb ρ2 xs out.tail).set sx ((out.drop m).headD .no))
theorem rn_methS {C : Addr} {c x : Str} {m : Nat} {F : FM} {dvs : List V} {dv : List PyData} {E0 : XK} {ta : TE} {t : TA} {a : FE} {b : FC} (hc : PySem.W.nsIn K mainGlobals c = some (some (.ref C))) (hd : ∀ H, DqAll K H dvs dv) (ha : RE K J ta a) (hb : RC K J t b) : RN K J (tMeth C x (spNS K m F) dvs E0 ta t) (fMethWS sx c x m F dv a b) := by
  intro O as σ H Q ρ P E q k
  refine ha O as σ H _ ρ _ E q fun d ρ1 v H1 q1 f1 E1 d1 => ?_
  obtain ⟨S1, hs1, fs, ob, hn, q1⟩ := stF_of q1
  obtain ⟨y, dx, fv, rfl, e, r⟩ := objU_of E1 hs1 hc ob d1
  refine ⟨y, dx, fv, rfl, e, look_none r hn, ?_⟩
  refine hb O as σ H1 _ ρ1 _ E1 q1 fun xs ρ2 vs H2 q2 f2 E2 d2 => ?_
  obtain ⟨hm, nd, q2⟩ := q2
  obtain ⟨r2, fit, q2⟩ := argF_of q2
  obtain ⟨S, hs, q2⟩ := stF_of q2
  have hl : (V.ref y :: (vs ++ dvs)).length = m := by rw [List.length_cons, List.length_append, d2.len, (hd H2).length]; exact hm
  have ni : sx ∉ ownIx xs := fun z => (List.nodup_append.mp nd).2.2 _ z _ (List.mem_singleton.mpr rfl) rfl
  refine call_coreN (xs := .dat d :: (xs ++ dv.map .dat ++ [.own sx])) E2 (.dat ((fit.app (fits_dat dv)).app (.st hs .nil))) (.cons (.dat (d1.fr f2)) ((d2.app (dat_ars (hd _))).snoc (E2.st_at hs).1)) hl (by rw [List.length_cons, List.length_append, List.length_append, List.length_map, List.length_singleton]; omega) (by show (ownIx (xs ++ dv.map .dat ++ [.own sx])).Nodup; rw [ownIx_snoc, ownIx_app]; exact nd) ?_ fun ds ρ' p ys H' pr fr nw E' e' q' => k ds ρ' p ys H' pr ((f1.trans f2).trans fr) (none_back (f1.trans f2) nw) E' e' q'
  have e : ∀ out : List Sl, wb ρ2 (.dat d :: (xs ++ dv.map .dat ++ [.own sx])) out = (wb ρ2 xs out.tail).set sx ((out.drop m).headD .no) := fun out => by
    rw [wb, wb_snoc, wb_app, wb_set _ _ _ _ _ ni, List.length_append, List.length_map, List.drop_tail, hm]
  simp only [e]
  exact q2
end
end DL
/-! augmented operators; sorted(set(numbers)); defs that hand back data or a new list -/
namespace DL
open PySem L2 Z PySem.Spec PyProof.Rows
variable [Tbs]
section
variable {K : PySem.W.Frag} {n : Nat} {J : Jv n}
/-! augmented operators -/
def fAugR (i : Nat) (g : G2) (a : FE) : FS := fun E ρ => match ρ[i]? with
  | some (.fz x) => a ρ fun y ρ1 => g x y fun d => gN i d ρ1 E.nx
  | _ => False
theorem rs_augR {i : Nat} {te : TE} {a : FE} {r : R2} {g : G2} (hr : RR K r g) (ha : RE K J te a) : RS K J (tAug i te r) (fAugR i g a) := by
  intro O as σ H D ρ E R f C
  unfold fAugR at f
  split at f
  · next x hx =>
    obtain ⟨v, e, _, q⟩ := R.fz_at hx
    refine ⟨_, e, ?_⟩
    refine ha O as σ H _ ρ _ R f fun d ρ1 u H1 q1 f1 E1 d1 => ?_
    refine hr (Hid O as H1) H1 _ v u x d _ (fun c h => E1.full h) (q.fr f1) d1 q1 fun d' v' H3 p s3 d3 => ?_
    exact C.nx _ _ _ _ p.2 (.of (f1.trans (E1.frS s3))) ((E1.grow s3).setFz p.1 (d3.mono (E1.toS s3)))
  · exact f.elim
def oShlW : G2 := o2c CShl fun i j => .int (i * 2 ^ j.toNat)
theorem rr_shlW : RR K (rI CShl fun i j => .int (i * 2 ^ j.toNat)) oShlW := rr_ic fun _ _ _ => .int _
/-! sorted(set(numbers)) -/
def nSortSet (ds : List PyData) (P : List PyData → Prop) : Prop := one ds fun d => listF d fun es => intsF es fun ns => ns.length < 64 ∧ ∀ ms : List Int, ms.Pairwise (· < ·) → (∀ k, k ∈ ms ↔ k ∈ ns) → P (ms.map .int)
theorem rn_sortSet {w : World} {t : TA} {f : FA} (ha : RA K J t f) : RN K J (tCB (rSortedSet w) (tCons (tCB (rSetI K w) t) tNil)) (fCBN nSortSet f) := by
  intro O as σ H Q ρ P E q k
  refine ha O as σ H _ ρ _ E q fun ds ρ1 vs H1 q1 f1 E1 d1 => ?_
  obtain ⟨v, d, rfl, dq, g⟩ := one_of d1 q1
  unfold listF at g
  split at g
  · obtain ⟨ns, e, l64, g'⟩ := intsF_of g
    subst e
    obtain ⟨a, ys, rfl, s, r⟩ := dq.list_of
    cases r.ints_of
    refine ⟨a, ns, rfl, SqL.mono hp_same s, by omega, fun p c hp1 hc => ?_⟩
    refine ⟨p, _, c, rfl, upd_same, by omega, fun ms p2 pw hm hl hp2 => ?_⟩
    have s2 := Same.new (o := SetO w p (fun j => decide (j ∈ ns)) c) hp1
    exact new_step (f1.trans (E1.frS s2)) (E1.grow s2) (g' ms pw fun k => by rw [hm k]; simp) hp2 (DqAll.ints _) k
  · exact g.elim
/-! defs that hand back data, or a new list -/
abbrev FU := List Sl → (PyData → List Sl → Prop) → (List PyData → List Sl → Prop) → Prop
abbrev FV' := En → (PyData → En → Prop) → (List PyData → En → Prop) → Prop
def RV (K : PySem.W.Frag) {n : Nat} (J : Jv n) (t : TE) (f : FV') : Prop := ∀ (O : Addr → Prop) (as : As) (σ : L2.St) (H : Hs) (Q : VK) (ρ : En) (P : PyData → En → Prop) (P2 : List PyData → En → Prop), EnR K J O as H ρ σ → f ρ P P2 →
  (∀ d ρ' v H', P d ρ' → Fr as H H' → EnR K J O as H' ρ' σ → Dq K (hq O as H') v d → Q v H') →
  (∀ ds ρ' p xs H', P2 ds ρ' → Fr as H H' → NewO as H p → EnR K J (plus O p) as H' ρ' σ → H' p = some (.lst xs) → DqAll K (hq (plus O p) as H') xs ds → Q (.ref p) H') → t σ H Q
def spUG (K : PySem.W.Frag) (n e : Nat) (F : FU) : Sp := fun vs H Q _ => vs.length = n ∧ ∃ (O : Addr → Prop) (as : As) (S : Sto) (ρ : En) (P : PyData → List Sl → Prop) (P2 : List PyData → List Sl → Prop), EnR K (J0 : Jv 0) O as ⟨H, S⟩ ρ (vs.map some) ∧ ρ.length = n + e ∧ F ρ P P2 ∧
  (∀ d out v H', P d out → Fr as ⟨H, S⟩ H' → Bk K O as H' out → Dq K (hq O as H') v d → Q v H') ∧
  ∀ ds out p xs H', P2 ds out → Fr as ⟨H, S⟩ H' → NewO as ⟨H, S⟩ p → Bk K (plus O p) as H' out → H' p = some (.lst xs) → DqAll K (hq (plus O p) as H') xs ds → Q (.ref p) H'
abbrev spU (K : PySem.W.Frag) (n : Nat) (F : FU) : Sp := spUG K n 0 F
abbrev spUS (K : PySem.W.Frag) (n : Nat) (F : FU) : Sp := spUG K n 1 F
def fnU (n m : Nat) (b : FS) : FU := fun sls P P2 => b { nx := fun ρ' => P .none (ρ'.take n), rt := fun d ρ' => P d (ρ'.take n), ro := fun ds ρ' => P2 ds (ρ'.take n) } (sls ++ List.replicate (m - n) .no)
def fnUS (n m : Nat) (b : FS) : FU := fun sls P P2 => b { nx := fun ρ' => P .none (ρ'.take n ++ ρ'.drop m), rt := fun d ρ' => P d (ρ'.take n ++ ρ'.drop m), ro := fun ds ρ' => P2 ds (ρ'.take n ++ ρ'.drop m) } (sls.take n ++ List.replicate (m - n) .no ++ sls.drop n)
theorem fn_runU {m e : Nat} {N : List Str} {b : FS} {t : TS} (hN : m ≤ N.length) (rs : ∀ J : Jv m, RS K J t b) {vs : List V} {H : Hp} {Q : VK} {E : XK} {F : FU}
    (hF : F = fun sls P P2 => b { nx := fun ρ' => P .none (outS e m N.length ρ'), rt := fun d ρ' => P d (outS e m N.length ρ'), ro := fun ds ρ' => P2 ds (outS e m N.length ρ') } (enS e m N.length sls)) (h : spUG K m e F vs H Q E) : t { nx := fun _ H' => Q .non H', rt := Q } (L2.start N vs) H := by
  obtain ⟨hv, O, as, S, ρ, P, P2, R, hl, hf, q, q2⟩ := h
  subst hF
  refine rs (Jst m O (shA as m N.length) ⟨H, S⟩) O _ _ ⟨H, S⟩ _ _ _ (fn_start R hv hl hN) hf ⟨fun ρ' as' σ' H' p x R' => ?_, fun d ρ' v as' σ' H' p x R' dv => ?_, fun _ _ _ _ p => p.elim, fun _ _ _ _ p => p.elim, fun ds ρ' p xs as' σ' H' pr x o R' e d => ?_⟩
  · obtain ⟨h1, h2, _⟩ := fn_back R hv hl hN x R'
    exact q _ _ _ _ p h1 h2 .non
  · obtain ⟨h1, h2, h3⟩ := fn_back R hv hl hN x R'
    exact q _ _ _ _ p h1 h2 (dv.mono h3)
  · obtain ⟨h1, h2, h3⟩ := fn_back R hv hl hN x R'
    exact q2 _ _ _ _ _ pr h1 (Ext.newS o) h2 e (d.mono h3)
theorem fn_coreU {ps : List Str} {N : List Str} {b : FS} {t : TS} (hN : ps.length ≤ N.length) (rs : ∀ J : Jv ps.length, RS K J t b) {vs : List V} {H : Hp} {Q : VK} {E : XK} (h : spU K ps.length (fnU ps.length N.length b) vs H Q E) : t { nx := fun _ H' => Q .non H', rt := Q } (L2.start N vs) H := fn_runU hN rs rfl h
theorem fn_coreUS {ps : List Str} {N : List Str} {b : FS} {t : TS} (hN : ps.length ≤ N.length) (rs : ∀ J : Jv ps.length, RS K J t b) {vs : List V} {H : Hp} {Q : VK} {E : XK} (h : spUS K ps.length (fnUS ps.length N.length b) vs H Q E) : t { nx := fun _ H' => Q .non H', rt := Q } (L2.start N vs) H := fn_runU hN rs rfl h
section
variable {P : Program} {w : World} {mg : Str → Option Value} {base : Heap} {k : Nat} {f : Addr} {fd : FuncData} {ps : List Str} {x qual : Str} {st : Stmt} {N : List Str} {b : FS}
theorem okU0 (F : Fun K x qual st f fd) (S : FnScope N ps (defScope st))
    (body : ∀ (cdv : Value) (A : Around) (outer : List Env) (s : Shared) (H : Hp) (E : XK), Room k (A.deeper (envOfC qual (defScope st) s.heap.objs.size f cdv)) →
      ∃ t, PSs (cxOf CX0 P w K mg base N qual (defScope st) f cdv A outer s H E).nox (defBody st) t ∧ ∀ J : Jv ps.length, RS K J t b) :
    FnOk P w K mg base CX0 (k + 1) f fd ps (spU K ps.length (fnU ps.length N.length b)) := by
  refine F.ok S (fun vs H Q E h => h.1) (fun cdv A outer s H vs Q E hr h => ?_)
  obtain ⟨t, pt, rs⟩ := body cdv A outer s H E hr
  exact ⟨t, pt, fn_coreU (scope_le S) rs h⟩
theorem okUS0 (F : Fun K x qual st f fd) (S : FnScope N ps (defScope st))
    (body : ∀ (cdv : Value) (A : Around) (outer : List Env) (s : Shared) (H : Hp) (E : XK), Room k (A.deeper (envOfC qual (defScope st) s.heap.objs.size f cdv)) →
      ∃ t, PSs (cxOf CX0 P w K mg base N qual (defScope st) f cdv A outer s H E).nox (defBody st) t ∧ ∀ J : Jv ps.length, RS K J t b) :
    FnOk P w K mg base CX0 (k + 1) f fd ps (spUS K ps.length (fnUS ps.length N.length b)) := by
  refine F.ok S (fun vs H Q E h => h.1) (fun cdv A outer s H vs Q E hr h => ?_)
  obtain ⟨t, pt, rs⟩ := body cdv A outer s H E hr
  exact ⟨t, pt, fn_coreUS (scope_le S) rs h⟩
end
theorem call_coreU {O : Addr → Prop} {as : As} {H : Hs} {ρ : En} {σ : L2.St} {xs : List Ar} {r : List Sl} {vs : List V} {m e : Nat} {F : FU} {P : PyData → En → Prop} {P2 : List PyData → En → Prop} {Q : VK} {E0 : XK} (E : EnR K J O as H ρ σ) (fit : Fits ρ xs r) (ar : ArsT K (hq O as H) as vs xs) (hv : vs.length = m) (hm : xs.length = m + e) (nd : (ownIx xs).Nodup)
    (f : F r (fun d out => P d (wb ρ xs out)) fun d out => P2 d (wb ρ xs out)) (k : ∀ d ρ' v H', P d ρ' → Fr as H H' → EnR K J O as H' ρ' σ → Dq K (hq O as H') v d → Q v H')
    (k2 : ∀ ds ρ' p ys H', P2 ds ρ' → Fr as H H' → NewO as H p → EnR K J (plus O p) as H' ρ' σ → H' p = some (.lst ys) → DqAll K (hq (plus O p) as H') ys ds → Q (.ref p) H') : spUG K m e F vs H Q E0 := by
  refine ⟨hv, _, adrs as xs, H.st, r, _, _, call_in E fit ar nd, by rw [fit.len, hm], f, fun d out v H' p fr bk dv => ?_, fun d out p ys H' pr fr hp1 bk hp2 dv => ?_⟩
  · obtain ⟨fr', E', hid, _⟩ := call_back E ar nd fr bk
    exact k d _ v H' p fr' E' (dv.mono (hp_less hid))
  · obtain ⟨fr', E', hid⟩ := call_backX E ar nd fr hp1 (by rw [hp2]; exact Option.some_ne_none _) bk
    exact k2 d _ p ys H' pr fr' (hp1.imp id adrs_sub) E' hp2 (dv.mono (hp_less hid))
def fCallU (m : Nat) (F : FU) (dv : List PyData) (a : FC) : FV' := fun ρ P P2 => a ρ fun xs ρ1 => xs.length + dv.length = m ∧ (ownIx xs).Nodup ∧ argF ρ1 xs fun r => F (r ++ dv.map .fz) (fun d out => P d (wb ρ1 xs out)) fun d out => P2 d (wb ρ1 xs out)
theorem rv_call {m : Nat} {F : FU} {dvs : List V} {dv : List PyData} {E0 : XK} {t : TA} {f : FC} (hd : ∀ H, DqAll K H dvs dv) (ha : RC K J t f) : RV K J (tCall (spU K m F) dvs E0 t) (fCallU m F dv f) := by
  intro O as σ H Q ρ P P2 E q k k2
  refine ha O as σ H _ ρ _ E q fun xs ρ1 vs H1 q1 f1 E1 d1 => ?_
  obtain ⟨hm, nd, q1⟩ := q1
  obtain ⟨r, fit, q1⟩ := argF_of q1
  refine call_coreU (xs := xs ++ dv.map .dat) E1 (fit.app (fits_dat dv)) (d1.app (dat_ars (hd _))).toT (by rw [List.length_append, d1.len, (hd H1).length]; exact hm) (by rw [List.length_append, List.length_map]; exact hm) (by rw [ownIx_app]; exact nd) ?_ (fun d ρ' v H' p fr E' q' => k d ρ' v H' p (f1.trans fr) E' q') fun ds ρ' p ys H' pr fr nw E' e' q' => k2 ds ρ' p ys H' pr (f1.trans fr) (none_back f1 nw) E' e' q'
  simp only [wb_app]
  exact q1
/-- what is handed back is stored: data, or a list of its own -/
def fOwnV (i : Nat) (a : FV') : FS := fun E ρ => a ρ (fun d ρ1 => slotF ρ1 i = true ∧ E.nx (ρ1.set i (.fz d))) fun ds ρ1 => slotL ρ1 i = true ∧ E.nx (ρ1.set i (.own ds))
theorem rs_ownV {i : Nat} {te : TE} {a : FV'} (hi : n ≤ i) (ha : RV K J te a) : RS K J (tAsg te (gName i)) (fOwnV i a) := by
  intro O as σ H D ρ E R f C
  refine ha O as σ H _ ρ _ _ R f (fun d ρ1 v H1 q1 f1 E1 d1 => ?_) fun ds ρ1 p xs H2 q1 f1 hp1 E1 hp2 d1 => ?_
  · exact C.nx _ _ _ _ q1.2 (.of f1) (E1.setFz q1.1 d1)
  · have x : Ext n as (upA as i (some (.lf p))) H H2 := ⟨f1.fr, fun a q => by
      rcases q.up with ⟨r, e, q⟩ | q
      · cases e
        rw [q.lf_of]
        exact hp1.symm
      · exact f1.new a q, fun j hj => upA_ne (by omega), f1.liv, upA_ks (E1.nst_at (E1.ltB q1.1)) (fun z => by cases z), f1.nst⟩
    have E2 := E1.setOwn R.inq (E1.ltB q1.1) (J.cl _ _ _ _ R.inv x) hp2 d1 fun z => R.notO E1 hp1 hp2 z
    exact C.nx _ _ _ _ q1.2 x E2
end
end DL
namespace DL
open PySem L2 Z PySem.Spec PyProof.Rows
variable [Tbs]
section
variable {K : PySem.W.Frag} {n : Nat} {J : Jv n}
def fIfN (c : FT) (a b : FA) : FA := fun ρ P => c ρ fun k ρ1 => if k = true then a ρ1 P else b ρ1 P
theorem rn_if {t : TT} {ta tb : TE} {c : FT} {a b : FA} (hc : RT K J t c) (ha : RN K J ta a) (hb : RN K J tb b) : RN K J (tIf t ta tb) (fIfN c a b) := by
  intro O as σ H Q ρ P E q k
  refine hc O as σ H _ ρ _ E q fun c ρ1 H1 q1 f1 E1 => ?_
  cases c
  · exact hb O as σ H1 _ ρ1 _ E1 q1 fun ds ρ2 p xs H2 q2 f2 hn E2 hp d2 => k _ _ _ _ _ q2 (f1.trans f2) (none_back f1 hn) E2 hp d2
  · exact ha O as σ H1 _ ρ1 _ E1 q1 fun ds ρ2 p xs H2 q2 f2 hn E2 hp d2 => k _ _ _ _ _ q2 (f1.trans f2) (none_back f1 hn) E2 hp d2
end
end DL
/-! i, j, l = e, [..], e' by way of the tuple -/
namespace DL
open PySem L2 Z PySem.Spec PyProof.Rows
variable [Tbs]
section
variable {K : PySem.W.Frag} {n : Nat} {J : Jv n}
def fPar3O2 (i j l : Nat) (a : FE) (b : FA) (c : FE) : FS := fun E ρ => a ρ fun d ρ1 => b ρ1 fun ds ρ2 => c ρ2 fun d' ρ3 => gN i d ρ3 fun ρ4 => slotL ρ4 j = true ∧ gN l d' (ρ4.set j (.own ds)) E.nx
theorem rs_asg3O2 {i j l : Nat} {ta tn tc : TE} {a c : FE} {b : FA} (hj : n ≤ j) (ha : RE K J ta a) (hb : RN K J tn b) (hc : RE K J tc c) : RS K J (tAsg (tTup (tCons ta (tCons tn (tCons tc tNil)))) (gTup K 3 (gCons (gName i) (gCons (gName j) (gCons (gName l) gNil))))) (fPar3O2 i j l a b c) := by
  intro O as σ H D ρ E R f C
  refine ha O as σ H _ ρ _ R f fun d ρ1 v H1 q1 f1 E1 d1 => ?_
  refine hb O as σ H1 _ ρ1 _ E1 q1 fun ds ρ2 p xs H2 q2 f2 hp1 E2 hp2 d2 => ?_
  refine hc (plus O p) as σ H2 _ ρ2 _ E2 q2 fun d' ρ3 v' H3 q3 f3 E3 d3 => ?_
  refine ⟨by show 3 ≤ sizeLine; decide, fun T hT => ?_⟩
  have s3 := Same.new (o := .tup [v, .ref p, v']) hT
  refine ⟨T, _, rfl, SqT.of upd_same, rfl, _, _, rfl, _, _, rfl, _, _, rfl, rfl, ?_⟩
  have np := E1.notO E2 hp1 hp2
  have hp3 : H3 p = some (.lst xs) := f3.fr _ _ (E2.newp hp2) hp2
  have E4 := E3.grow s3
  have E5 := E4.setFz q3.1 ((((d1.mono (same_plus f2 hp1)).fr f3)).mono (E3.hgrow s3))
  have x := ext_own (((f1.trans f2).trans f3).trans (E3.frS s3)) hj (E5.nst_at (E5.ltB q3.2.1)) (none_back f1 hp1)
  have E6 := E5.ownNew (i := j) q3.2.1 (J.cl _ _ _ _ R.inv x) R.inq np (s3 _ _ hp3) ((d2.fr f3).mono (E3.hgrow s3))
  have E7 := E6.setFz (v := v') q3.2.2.1 ((d3.mono (E3.hgrow s3)).mono less_own)
  exact C.nx _ _ _ _ q3.2.2.2 x E7
/-- a name that holds data, or a list of its own, is handed back -/
def fRetV (i : Nat) : FS := fun E ρ => match ρ[i]? with
  | some (.own _) => fRetO i E ρ
  | _ => fRet (fV i) E ρ
theorem rs_retV {i : Nat} (hi : n ≤ i) : RS K J (tRet (tVar i)) (fRetV i) := by
  intro O as σ H D ρ E R f C
  unfold fRetV at f
  split at f
  · exact rs_retO hi O as σ H D ρ E R f C
  · exact rs_ret re_v O as σ H D ρ E R f C
end
end DL
/-! lists of the store: changed by way of a handle -/
namespace DL
open PySem L2 Z PySem.Spec PyProof.Rows
variable [Tbs]
section
variable {K : PySem.W.Frag} {n : Nat} {J : Jv n} {sx : Nat}
theorem EnR.lstS {O : Addr → Prop} {as : As} {H : Hs} {ρ : En} {σ : L2.St} {S : Sto} {p : Addr} {ds : List PyData} (E : EnR K J O as H ρ σ) (hs : ρ[sx]? = some (.st S)) (e : S p = some (.lst ds)) : ∃ xs, H p = some (.lst xs) ∧ DqAll K (hq O as H) xs ds := by
  obtain ⟨u, e1, r⟩ := E.getS hs e
  cases r with
  | lst q => exact ⟨_, e1, q⟩
/-- h[k] = e -/
def gSubH (sx : Nat) (a b : FE) : FG := fun d ρ P => a ρ fun x ρ1 => b ρ1 fun k ρ2 => intF k fun k => stF ρ2 sx fun S => ∃ p ds j, x = hdl p ∧ S p = some (.lst ds) ∧ ixN ds.length k = some j ∧ P (ρ2.set sx (.st (sset S p (.lst (ds.set j d)))))
theorem rg_subH {ta ti : TE} {a b : FE} (ha : RE K J ta a) (hb : RE K J ti b) : RG K J [] (gSub ta ti rSetL) (gSubH sx a b) := by
  intro O as σ H R ρ P v d E q f k
  refine ha O as σ H _ ρ _ E f fun x ρ1 w H1 q1 f1 E1 d1 => ?_
  refine hb O as σ H1 _ ρ1 _ E1 q1 fun y ρ2 w2 H2 q2 f2 E2 d2 => ?_
  unfold intF at q2
  split at q2
  · next z =>
    cases d2
    obtain ⟨S, hs, p, ds, j, rfl, e, hj, q2⟩ := stF_of q2
    obtain ⟨xs, e1, qx⟩ := E2.lstS hs e
    rw [d1.hdl_of]
    refine ⟨p, xs, z, j, rfl, rfl, e1, by rw [qx.length]; exact hj, ?_⟩
    obtain ⟨E3, f3⟩ := E2.setS hs e (u' := .lst (xs.set j v)) (o' := .lst (ds.set j d)) (.lst (qx.set ((q.fr f1).fr f2) j))
    exact k _ _ _ q2 ((f1.trans f2).trans f3) E3 ⟨rfl, fun _ _ => rfl⟩
  · exact q2.elim
/-- h[k] += e -/
def fAugH (sx : Nat) (a b e : FE) (h : Int → Int → Int) : FS := fun E ρ => a ρ fun x ρ1 => b ρ1 fun k ρ2 => intF k fun k => stF ρ2 sx fun S => ∃ p ds c, x = hdl p ∧ S p = some (.lst ds) ∧ atI ds k = some (.int c) ∧ e ρ2 fun y ρ3 => intF y fun y => stF ρ3 sx fun S' => ∃ es j, S' p = some (.lst es) ∧ ixN es.length k = some j ∧ E.nx (ρ3.set sx (.st (sset S' p (.lst (es.set j (.int (h c y)))))))
theorem rs_augH {ta ti te : TE} {a b e : FE} {h : Int → Int → Int} (ha : RE K J ta a) (hb : RE K J ti b) (he : RE K J te e) : RS K J (tAugS ta ti te (rIxL K) (ipI h) rSetL) (fAugH sx a b e h) := by
  intro O as σ H D ρ E R f C
  refine ha O as σ H _ ρ _ R f fun x ρ1 w H1 q1 f1 E1 d1 => ?_
  refine hb O as σ H1 _ ρ1 _ E1 q1 fun y ρ2 w2 H2 q2 f2 E2 d2 => ?_
  unfold intF at q2
  split at q2
  · next z =>
    cases d2
    obtain ⟨S, hs, p, ds, c, rfl, e0, hc, q2⟩ := stF_of q2
    obtain ⟨xs, e1, qx⟩ := E2.lstS hs e0
    rw [d1.hdl_of]
    obtain ⟨u, hu, du⟩ := qx.atI hc
    cases du
    refine ⟨p, xs, z, _, rfl, rfl, SqL.of e1, hu, ?_⟩
    refine he O as σ H2 _ ρ2 _ E2 q2 fun y ρ3 w3 H3 q3 f3 E3 d3 => ?_
    unfold intF at q3
    split at q3
    · cases d3
      obtain ⟨S', hs', es, j, e', hj, q3⟩ := stF_of q3
      obtain ⟨ys, e1', qy⟩ := E3.lstS hs' e'
      refine ⟨_, _, rfl, rfl, p, ys, z, j, rfl, rfl, e1', by rw [qy.length]; exact hj, ?_⟩
      obtain ⟨E4, f4⟩ := E3.setS hs' e' (u' := .lst (ys.set j (.int (h c _)))) (o' := .lst (es.set j (.int (h c _)))) (.lst (qy.set (.int _) j))
      exact C.nx _ _ _ _ q3 (.of (((f1.trans f2).trans f3).trans f4)) E4
    · exact q3.elim
  · exact q2.elim
/-- h.append(e) -/
def fAppH (sx : Nat) (a e : FE) : FS := fun E ρ => a ρ fun x ρ1 => stF ρ1 sx fun S => ∃ p ds, x = hdl p ∧ S p = some (.lst ds) ∧ e ρ1 fun d ρ2 => stF ρ2 sx fun S' => ∃ es, S' p = some (.lst es) ∧ es.length < sizeLine ∧ E.nx (ρ2.set sx (.st (sset S' p (.lst (es ++ [d])))))
theorem rs_appH {ta te : TE} {a e : FE} (ha : RE K J ta a) (he : RE K J te e) : RS K J (tDrop (tBM K "list" rAppend ta (tCons te tNil))) (fAppH sx a e) := by
  intro O as σ H D ρ E R f C
  refine ha O as σ H _ ρ _ R f fun x ρ1 w H1 q1 f1 E1 d1 => ?_
  obtain ⟨S, hs, p, ds, rfl, e0, q1⟩ := stF_of q1
  obtain ⟨xs, e1, qx⟩ := E1.lstS hs e0
  rw [d1.hdl_of]
  refine ⟨.inl ⟨rfl, _, SqL.of e1⟩, ?_⟩
  refine he O as σ H1 _ ρ1 _ E1 q1 fun d ρ2 v H2 q2 f2 E2 d2 => ?_
  obtain ⟨S', hs', es, e', l, q2⟩ := stF_of q2
  obtain ⟨ys, e1', qy⟩ := E2.lstS hs' e'
  refine ⟨p, ys, v, rfl, rfl, e1', by rw [qy.length]; exact l, ?_⟩
  obtain ⟨E3, f3⟩ := E2.setS hs' e' (u' := .lst (ys ++ [v])) (o' := .lst (es ++ [d])) (.lst (qy.append (.cons d2 .nil)))
  exact C.nx _ _ _ _ q2 (.of ((f1.trans f2).trans f3)) E3
/-- a handle's list read as a value: h[k] -/
def fIxH (sx : Nat) (a b : FE) : FE := fun ρ P => a ρ fun x ρ1 => b ρ1 fun k ρ2 => intF k fun k => stF ρ2 sx fun S => ∃ p ds d, x = hdl p ∧ S p = some (.lst ds) ∧ atI ds k = some d ∧ P d ρ2
theorem re_ixH {ta ti : TE} {a b : FE} (ha : RE K J ta a) (hb : RE K J ti b) : RE K J (tOp (rIxL K) ta ti) (fIxH sx a b) := by
  intro O as σ H Q ρ P E f k
  refine ha O as σ H _ ρ _ E f fun x ρ1 w H1 q1 f1 E1 d1 => ?_
  refine hb O as σ H1 _ ρ1 _ E1 q1 fun y ρ2 w2 H2 q2 f2 E2 d2 => ?_
  unfold intF at q2
  split at q2
  · next z =>
    cases d2
    obtain ⟨S, hs, p, ds, c, rfl, e0, hc, q2⟩ := stF_of q2
    obtain ⟨xs, e1, qx⟩ := E2.lstS hs e0
    rw [d1.hdl_of]
    obtain ⟨u, hu, du⟩ := qx.atI hc
    exact ⟨p, xs, z, _, rfl, rfl, SqL.of e1, hu, k _ _ _ _ q2 (f1.trans f2) E2 du⟩
  · exact q2.elim
/-- len(h) -/
def fLenH (sx : Nat) (a : FE) : FE := fun ρ P => a ρ fun x ρ1 => stF ρ1 sx fun S => ∃ p ds, x = hdl p ∧ S p = some (.lst ds) ∧ P (.int ds.length) ρ1
/-- a statement that is never reached -/
def fNo : FS := fun _ _ => False
theorem rs_no {t : TS} : RS K J t fNo := fun _ _ _ _ _ _ _ _ f _ => f.elim
end
end DL
/-! sets of texts: set(xs), sorted(set(xs)) -/
namespace DL
open PySem L2 Z PySem.Spec PyProof.Rows
/-- the text of a member -/
def txtOf : Int × Value → Str
  | (_, .str z _) => z
  | _ => Str.ofString ""
def TxtE (w : World) (m : Int × Value) : Prop := ∃ z u, m = (hashStr w z, Value.str z u)
structure SetTOk (w : World) (ms : Array (Int × Value)) (tb : SetTable) (S : Str → Bool) (n : Nat) : Prop where
  good : ∀ m ∈ ms.toList, TxtE w m
  nd : (ms.toList.map txtOf).Nodup
  mem : ∀ z, S z = true ↔ z ∈ ms.toList.map txtOf
  small : ms.size < scanBound
  fits : tb.fits ms.size = true
  len : ms.size = n
  ris : Ris tb.place.toList
  led : w.params.followText "set-order" = true ∨ tb.led = true
def SetT (w : World) (h : Heap) (a : Addr) (S : Str → Bool) (n : Nat) : Prop := ∃ o ms ep tb, h.get? a = some o ∧ o.ExactSet ∧ o.data = .set ms ep tb ∧ SetTOk w ms tb S n
section
variable {P : Program} {w : World} {h h' : Heap} {a : Addr} {S : Str → Bool} {n : Nat}
theorem SetT.keep (R : SetT w h a S n) (k : ∀ o, h.get? a = some o → h'.get? a = some o) : SetT w h' a S n := R.imp fun o r => r.imp fun _ r => r.imp fun _ r => r.imp fun _ r => ⟨k o r.1, r.2⟩
theorem SetT.eqv {S' : Str → Bool} (R : SetT w h a S n) (e : ∀ z, S' z = S z) : SetT w h a S' n := by rw [show S' = S from funext e]; exact R
theorem txt_elems {l : List (Int × Value)} (g : ∀ m ∈ l, TxtE w m) : ElemsOf (strKind P w) l := fun m hm => by
  obtain ⟨z, u, rfl⟩ := g m hm
  exact ⟨⟨z, strKind_is P w z u, rfl⟩, rfl⟩
theorem txt_is {m : Int × Value} (g : TxtE w m) (z : Str) : (strKind P w).is z m.2 = true ↔ txtOf m = z := by
  obtain ⟨z0, u, rfl⟩ := g
  show Value.isStrOf z (.str z0 u) = true ↔ z0 = z
  constructor
  · intro q
    obtain ⟨t, e⟩ := Value.isStrOf_shape q
    injection e
  · rintro rfl
    exact strKind_is P w z0 u
theorem txt_mem {l : List (Int × Value)} (g : ∀ m ∈ l, TxtE w m) (z : Str) : z ∈ l.map txtOf ↔ ∃ m ∈ l, (strKind P w).is z m.2 = true := by
  rw [List.mem_map]
  exact ⟨fun ⟨m, hm, q⟩ => ⟨m, hm, (txt_is (g m hm) z).2 q⟩, fun ⟨m, hm, q⟩ => ⟨m, hm, (txt_is (g m hm) z).1 q⟩⟩
end
section
variable {P : Program} {w : World} {A : Around} {E : Value → Shared → Prop} {s : Shared} {a : Addr} {S : Str → Bool} {n : Nat}
/-- one more member is laid; the table may grow -/
theorem setT_lay {g : Bool → Sem Unit} (hg : ∀ (b : Bool) (s' : Shared) (Q' : Unit → Shared → Prop), Q' () s' → wpAny (model P w) A (g b) Q' E s') {o : Obj} {ms : Array (Int × Value)} {ep : Nat} {tb : SetTable}
    (eo : s.heap.get? a = some o) (ex : o.ExactSet) (ed : o.data = .set ms ep tb) {ms1 : Array (Int × Value)} {tb2 : SetTable} {S' : Str → Bool} (k : SetTOk w ms1 tb2 S' ms1.size) {wd : Bool} {R : Option Bool → Shared → Prop}
    (hR : ∀ h', Heap.SameBut a s.heap h' → SetT w h' a S' ms1.size → R (some true) { s with heap := h' }) :
    wpAny (model P w) A (do
      storeSet a ms1 tb2
      if (!wd && tb2.tooFull) = true then do
        g (relayAll tb2 ms1 (SetTable.grown ms1.size)).2.2
        storeSet a (relayAll tb2 ms1 (SetTable.grown ms1.size)).1 (relayAll tb2 ms1 (SetTable.grown ms1.size)).2.1
        pure (some true)
      else pure (some true)) R E s := by
  refine wpAny_bind (wpAny_storeSet_of eo ed ?_ (fits_of_scanBound k.small))
  have eo1 := store_at (es' := ms1) (t' := tb2) eo ed
  have same1 := Heap.SameBut.update s.heap a (Obj.putSet ms1 tb2)
  split
  · have pm := relayAll_perm tb2 ms1 (SetTable.grown ms1.size)
    have hf := relayAll_fits tb2 ms1 (SetTable.grown ms1.size)
    have hr := relayAll_ris tb2 ms1 (SetTable.grown ms1.size)
    have hl := relayAll_led tb2 ms1 (SetTable.grown ms1.size)
    generalize relayAll tb2 ms1 (SetTable.grown ms1.size) = Z at pm hf hr hl ⊢
    obtain ⟨ms2, tb3, gave⟩ := Z
    dsimp only at pm hf hr hl ⊢
    have sz : ms2.size = ms1.size := by rw [← Array.length_toList, pm.length_eq, Array.length_toList]
    refine wpAny_bind (hg _ _ _ (wpAny_bind (wpAny_storeSet_of eo1 rfl ?_ (fits_of_scanBound (by rw [sz]; exact k.small)))))
    have eo2 := store_at (es' := ms2) (t' := tb3) eo1 rfl
    exact wpAny_pure (hR _ (same1.trans (Heap.SameBut.update _ a _)) ⟨_, ms2, _, tb3, eo2, ex, rfl, fun m hm => k.good m (pm.mem_iff.mp hm), (pm.map txtOf).nodup_iff.mpr k.nd, fun z => (k.mem z).trans (pm.map txtOf).mem_iff.symm, by rw [sz]; exact k.small, hf, sz, hr, k.led.imp id fun z => by rw [hl]; exact z⟩)
  · exact wpAny_pure (hR _ same1 ⟨_, ms1, _, tb2, eo1, ex, rfl, k⟩)
theorem setT_add {z : Str} {u : Tok} {Q : Bool → Shared → Prop} (R : SetT w s.heap a S n) (room : n + 1 < scanBound)
    (hQ : ∀ h', Heap.SameBut a s.heap h' → SetT w h' a (fun j => S j || decide (j = z)) (if S z = true then n else n + 1) → Q (!S z) { s with heap := h' }) :
    wpAny (model P w) A (setAddHashed a (.str z u) ((strKind P w).hash z)) Q E s := by
  obtain ⟨o, ms, ep, tb, eo, ex, ed, k⟩ := R
  have iz : (strKind P w).is z (.str z u) = true := strKind_is P w z u
  have sc : (Value.str z u).scannable = true := rfl
  have el : ElemsOf (strKind P w) ms.toList := txt_elems k.good
  unfold setAddHashed
  unfold setAddHashedIn
  refine wpAny_holding (wpAny_bind (wpAny_setState_of eo ed k.fits ?_))
  dsimp only
  rw [byScan_of sc k.small el]
  simp only [↓reduceIte]
  unfold setAddByScan
  refine wpAny_bind (wpAny_bind (wpAny_rule (wpAny_bind (wpAny_setScan_of iz eo ed k.fits el ?_))))
  cases fi : List.findIdx? (fun m => (strKind P w).is z m.2) ms.toList with
  | some j =>
    dsimp only
    obtain ⟨hj, pj, _⟩ := List.findIdx?_eq_some_iff_getElem.mp fi
    have Sz : S z = true := (k.mem z).2 ((txt_mem (P := P) (w := w) k.good z).2 ⟨ms.toList[j], List.getElem_mem hj, pj⟩)
    have q := hQ s.heap (Heap.SameBut.refl a s.heap) ⟨o, ms, ep, tb, eo, ex, ed, k.good, k.nd, fun i => by
      rw [Bool.or_eq_true, decide_eq_true_eq, ← k.mem i]
      exact ⟨fun c => c.elim id (fun e => e ▸ Sz), .inl⟩, k.small, k.fits, by rw [if_pos Sz]; exact k.len, k.ris, k.led⟩
    rw [Sz] at q
    exact wpAny_pure (wpAny_pure q)
  | none =>
    dsimp only
    have nz : z ∉ ms.toList.map txtOf := fun c => by
      obtain ⟨m, hm, q⟩ := (txt_mem (P := P) (w := w) k.good z).1 c
      have := List.findIdx?_eq_none_iff.mp fi m hm
      rw [q] at this
      cases this
    have Sz : S z = false := by
      cases q : S z with
      | false => rfl
      | true => exact absurd ((k.mem z).1 q) nz
    have pm := layNew_perm tb ms ((strKind P w).hash z) (.str z u)
    have hf := layNew_fits tb ms ((strKind P w).hash z) (.str z u)
    have hr := layNew_ris tb ms ((strKind P w).hash z) (.str z u) k.ris
    have hl := layNew_led tb ms ((strKind P w).hash z) (.str z u)
    generalize layNew tb ms ((strKind P w).hash z) (.str z u) = Z at pm hf hr hl ⊢
    obtain ⟨ms1, tb1, wd, gave⟩ := Z
    dsimp only at pm hf hr hl ⊢
    rw [Array.toList_push] at pm
    have pc : ms1.toList.Perm (((strKind P w).hash z, Value.str z u) :: ms.toList) := pm.trans (List.perm_append_singleton _ _)
    have pk : (ms1.toList.map txtOf).Perm (z :: ms.toList.map txtOf) := pc.map txtOf
    have sz : ms1.size = n + 1 := by rw [← Array.length_toList, pc.length_eq, List.length_cons, Array.length_toList, k.len]
    have mk : ∀ tb', tb'.fits ms1.size = true → Ris tb'.place.toList → (w.params.followText "set-order" = true ∨ tb'.led = true) → SetTOk w ms1 tb' (fun j => S j || decide (j = z)) ms1.size := fun tb' c1 c2 c3 => ⟨fun m hm => by
      rcases List.mem_cons.mp (pc.mem_iff.mp hm) with c | c
      · exact ⟨z, u, c⟩
      · exact k.good m c, pk.nodup_iff.mpr (List.nodup_cons.mpr ⟨nz, k.nd⟩), fun i => by
      rw [Bool.or_eq_true, decide_eq_true_eq, k.mem i, pk.mem_iff, List.mem_cons]
      exact Or.comm, by rw [sz]; exact room, c1, rfl, c2, c3⟩
    have led1 : w.params.followText "set-order" = true ∨ tb1.led = true := k.led.imp id fun c => by rw [hl]; exact c
    have fin : ∀ h', Heap.SameBut a s.heap h' → SetT w h' a (fun j => S j || decide (j = z)) ms1.size → Q true { s with heap := h' } := fun h' sb r => by
      have q := hQ h' sb
      rw [Sz] at q
      rw [sz] at r
      exact q r
    have rul : ∀ (b : Bool) (s' : Shared) (Q' : Unit → Shared → Prop), Q' () s' → wpAny (model P w) A (match b with | true => rule "set.scan.the-table-gave-way" | false => pure ()) Q' E s' :=
      fun b s' Q' q => by cases b <;> first | exact wpAny_pure q | exact wpAny_rule q
    refine wpAny_bind (rul _ _ _ ?_)
    split
    · refine wpAny_bind ?_
      rw [hashByValue_scannable 8 sc]
      refine wpAny_pure (setT_lay (fun b s' Q' q => by cases b <;> first | exact wpAny_pure q | exact wpAny_rule q) eo ex ed (mk _ ?_ ?_ ?_) fun h' sb r => ?_)
      · first | (split <;> first | exact hf | exact SetTable.fits_plain_off hf) | exact hf
      · first | (split <;> exact hr) | exact hr
      · first | (split <;> exact led1) | exact led1
      · dsimp only; exact wpAny_pure (fin h' sb r)
    · refine wpAny_bind (wpAny_pure ?_)
      simp only [↓reduceIte]
      refine setT_lay (fun b s' Q' q => by cases b <;> first | exact wpAny_pure q | exact wpAny_rule q) eo ex ed (mk _ hf hr led1) fun h' sb r => ?_
      dsimp only; exact wpAny_pure (fin h' sb r)
end
end DL
/-! set(xs) of texts, sorted(set(xs)) -/
namespace DL
open PySem L2 Z PySem.Spec PyProof.Rows
variable [Tbs]
theorem setT_start {w : World} {h : Heap} {a : Addr} (e : h.get? a = some (set0 w)) : SetT w h a (fun _ => false) 0 :=
  ⟨_, #[], 0, _, e, ⟨rfl, rfl, rfl⟩, rfl, fun m hm => by simp at hm, by simp, fun z => by simp, by decide, rfl, rfl, List.Pairwise.nil, by
    cases q : w.params.followText "set-order"
    · exact .inr (by simp [SetTable.fresh, q])
    · exact .inl rfl⟩
section
variable {P : Program} {w : World} {A : Around} {E : Value → Shared → Prop} {s : Shared}
theorem setT_loop {I : Addr} {fp wr : List Addr} {G : Array GenState → Array GenState → Prop} {n : Nat} {Pv : Nat → Value → Prop} {St : Nat → Shared → Prop} {R : Result → Shared → Prop} (W : WalksS P w A.in1 I fp wr G n Pv St) (p : Addr) (np : p ∉ fp)
    (zs : List Str) (hn : n = zs.length) (hb : zs.length + 1 < scanBound) (val : ∀ i v, Pv i v → ∃ z u, zs[i]? = some z ∧ v = .str z u) :
    ∀ (m i : Nat) (s : Shared), n - i = m → i ≤ n → St i s → (∃ c, c ≤ i ∧ SetT w s.heap p (fun j => decide (j ∈ zs.take i)) c) → (∀ s' c, Moved (p :: wr) G s s' → c ≤ n → SetT w s'.heap p (fun j => decide (j ∈ zs)) c → R (.ok (.ret .none)) s') →
      codeAny (model P w) A (.builtin "set.update.loop" ⟨[.ref p, .ref I], []⟩) R s := by
  have nw : p ∉ wr := fun z => np (W.sub _ z)
  have sub : ∀ b ∈ wr, b ∈ p :: wr := fun _ z => List.mem_cons_of_mem _ z
  intro m
  induction m with
  | zero =>
    rintro i s hm hi st ⟨c, hc, hS⟩ hR
    obtain rfl : i = n := by omega
    refine codeAny_builtin F.entry_set_update_loop ?_
    rw [Around.under_plainId F.plain_set_update_loop _]
    show wpAny _ A.in1 (pyNext (.ref I) >>= _) _ _ s
    refine wpAny_bind (W.done s _ _ st fun s' mv => ?_)
    rw [List.take_of_length_le (by omega)] at hS
    exact wpAny_pure (hR s' c (mv.mono sub) hc (hS.keep fun o e => mv.heap p o nw e))
  | succ m ih =>
    rintro i s hm hi st ⟨c, hc, hS⟩ hR
    have lt : i < n := by omega
    refine codeAny_builtin F.entry_set_update_loop ?_
    rw [Around.under_plainId F.plain_set_update_loop _]
    show wpAny _ A.in1 (pyNext (.ref I) >>= _) _ _ s
    refine wpAny_bind (W.item i s _ _ lt st fun v s' hP st' mv => ?_)
    obtain ⟨z, u, hz, rfl⟩ := val i v hP
    have hS' := hS.keep fun o e => mv.heap p o nw e
    show wpAny _ A.in1 (holding [Value.str z u] (setAdd p (.str z u)) >>= _) _ _ s'
    refine wpAny_bind (wpAny_holding ?_)
    unfold setAdd
    refine wpAny_holding (wpAny_bind ((strKind P w).pyHash (strKind_is P w z u) ?_))
    refine setT_add (s := { s' with toks := s'.toks + 1 }) hS' (by omega) fun h' sb r => ?_
    have r' : SetT w h' p (fun j => decide (j ∈ zs.take (i + 1))) (if decide (z ∈ zs.take i) = true then c else c + 1) := r.eqv fun j => by
      rw [List.take_add_one, hz]
      simp [List.mem_append]
    have hc' : (if decide (z ∈ zs.take i) = true then c else c + 1) ≤ i + 1 := by split <;> omega
    refine wpAny_pure ⟨plainId_quiet F.plain_set_update_loop _, ih (i + 1) _ (by omega) lt (W.frame _ s' _ _ st' (Nat.le_succ _) fun b hb o e => ?_) ⟨_, hc', r'⟩ fun s'' c2 mv2 h2 r2 => ?_⟩
    · rw [sb.2 b fun q : b = p => np (q ▸ hb)]
      exact e
    · refine hR s'' c2 (Moved.trans W.gtrans ((mv.mono sub).then_heap (Nat.le_succ _) fun b o hb e => ?_) mv2) h2 r2
      rw [sb.2 b fun q : b = p => hb (q ▸ List.mem_cons_self)]
      exact e
theorem strs_of : ∀ l : List Value, (∀ v ∈ l, ∃ z u, v = Value.str z u) → ∃ zs : List Str, StrsAre l zs ∧ ∀ (f : Value → Str), (∀ z u, f (.str z u) = z) → zs = l.map f
  | [], _ => ⟨[], .nil, fun _ _ => rfl⟩
  | v :: l, h => by
    obtain ⟨z, u, rfl⟩ := h v List.mem_cons_self
    obtain ⟨zs, h1, h2⟩ := strs_of l fun x hx => h x (List.mem_cons_of_mem _ hx)
    exact ⟨z :: zs, .cons z u h1, fun f hf => by rw [List.map_cons, hf, h2 f hf]⟩
theorem strs_at : ∀ {vs : List Value} {ys : List Str}, StrsAre vs ys → ∀ (i : Nat) (v : Value), vs[i]? = some v → ∃ z u, ys[i]? = some z ∧ v = Value.str z u
  | _, _, .nil, i, v, e => by cases e
  | _, _, .cons y t _, 0, v, e => by cases e; exact ⟨y, t, rfl, rfl⟩
  | _, _, .cons _ _ r, i + 1, v, e => strs_at r i v e
def valStr : Value → Str
  | .str z _ => z
  | _ => Str.ofString ""
theorem sorted_setT {a : Addr} {S : Str → Bool} {n : Nat} {Q : Value → Shared → Prop} (R : SetT w s.heap a S n) (hh : A.handled = none) (h64 : n < 64)
    (hQ : ∀ s' p (out : Array Value) (c : Nat) (zs : List Str), (∀ b o, s.heap.get? b = some o → s'.heap.get? b = some o) → s'.gens = s.gens → s'.os = s.os → s.heap.objs.size ≤ p →
      s'.heap.get? p = some (seqObj "list" out c) → StrsAre out.toList zs → sortedS zs = true → zs.Nodup → (∀ z, z ∈ zs ↔ S z = true) → zs.length = n → Q (.ref p) s') :
    wpAny (model P w) A (call (.builtin "sorted") [.ref a]) Q E s := by
  obtain ⟨o, ms, ep, tb, eo, ex, ed, k⟩ := R
  refine Calls.call_function_entry kind_sorted plain_sorted entry_sorted (args_sorted1 _) ?_
  unfold Builtin.«sorted»
  refine wpAny_bind (m := checkCount "sorted" 1 1 _) (wpAny_pure ?_)
  refine wpAny_bind (collect_set (A := A.in1) hh ⟨o, eo, ex.1, ed⟩ k.fits k.small k.ris k.led fun s1 vs k1 hz g1 o1 pm => ?_)
  have vl : vs.length = n := by rw [pm.length_eq, List.length_map, Array.length_toList]; exact k.len
  obtain ⟨zs, hzs, ezs⟩ := strs_of vs fun v hv => by
    obtain ⟨m, hm, rfl⟩ := List.mem_map.mp (pm.mem_iff.mp hv)
    obtain ⟨z, u, rfl⟩ := k.good m hm
    exact ⟨z, u, rfl⟩
  have pk : zs.Perm (ms.toList.map txtOf) := by
    have q := pm.map valStr
    rw [← ezs valStr fun _ _ => rfl, List.map_map] at q
    refine q.trans (List.Perm.of_eq (List.map_congr_left fun m hm => ?_))
    obtain ⟨z, u, rfl⟩ := k.good m hm
    rfl
  refine wpAny_bind (wpAny_newList ?_ (by rw [vl, sizeLine_eq]; omega))
  have eL : (s1.heap.push (seqObj "list" vs.toArray 0)).get? s1.heap.objs.size = some (seqObj "list" vs.toArray 0) := Heap.get?_push_size _ rfl
  refine wpAny_bind (wpAny_holding (wpAny_call_entry slot_list_sort ⟨_, eL, rfl⟩ entry_list_sort (list_sort_treeK strKind_oneLt eL hzs.keysOf (fun v1 v2 rest e => keyKind_strs (by rw [← e]; exact hzs)) (by rw [vl]; exact h64) fun st' hp hs => ?_) (args_list_sort _)))
  obtain ⟨zs', a1, a2, a3⟩ := sorted_out_str hzs hp hs
  obtain ⟨c, hc⟩ := sortedHeap_at (vs := vs) (out := (arrOf st').map (·.2)) eL
  have pn := a2.trans pk
  refine ⟨_, rfl, wpAny_pure ⟨_, rfl, hQ _ s1.heap.objs.size _ c zs' (fun b u e => ?_) g1 o1 hz hc a1 a3 (pn.nodup_iff.mpr k.nd) (fun z => by rw [pn.mem_iff, ← k.mem z]) ?_⟩⟩
  · have q := k1 b u e
    have lt := Heap.lt_size q
    show (sortedHeap (s1.heap.push (seqObj "list" vs.toArray 0)) s1.heap.objs.size vs _).get? b = some u
    rw [sortedHeap_old (Nat.ne_of_lt lt) (by rw [size_push']; exact Nat.lt_succ_of_lt lt)]
    exact Heap.get?_push_of_some _ q
  · rw [pn.length_eq, List.length_map, Array.length_toList]; exact k.len
end
def SetOT (w : World) (a : Addr) (S : Str → Bool) (n : Nat) : HO := .ext fun h => SetT w h a S n
section
variable {X : Cx}
theorem setOT_new {w : World} {P : Program} {H : Hp} {h : Heap} {a : Addr} {S : Str → Bool} {n : Nat} (R : SetT w h a S n) : ObjOk P w H h a (SetOT w a S n) := by
  have ⟨o, _, _, _, e, _⟩ := R
  exact ⟨R, ⟨o, e⟩, fun _ _ p k => SetT.keep p k⟩
theorem setOT_get {pins : List (Addr × Obj)} {σ : L2.St} {H : Hp} {s : Shared} {a : Addr} {S : Str → Bool} {n : Nat} (I : Inv X pins σ H s) (e : H a = some (SetOT X.w a S n)) : SetT X.w s.heap a S n := (I.hok a _ e).1
/-- set(xs), xs a list of texts -/
def rSetT (K : PySem.W.Frag) (w : World) : List V → Hp → VK → Prop := fun vs H Q => ∃ (l : Addr) (zs : List Str), vs = [.ref l] ∧ SqL K H l (zs.map V.str) ∧ zs.length < 1000 ∧
  ∀ (p : Addr) (c : Nat), H p = none → c ≤ zs.length → Q (.ref p) (upd H p (SetOT w p (fun j => decide (j ∈ zs)) c))
theorem cr_setT (hc : X.calm = true) : CallR X (.type "set") (rSetT X.K X.w) := by
  intro pins s σ H vs us Q I r h
  obtain ⟨l, zs, rfl, hs, hn, q⟩ := h
  obtain ⟨its, rv, pl, hz⟩ := I.list hs
  rw [Vals.ref1 r]
  have hi : StrsAre its zs := by simpa using rv.strs
  have hlen : its.toArray.size = zs.length := by rw [List.size_toArray, ← rv.length, List.length_map]
  refine set_of_list (fun h => ∃ c, c ≤ zs.length ∧ SetT X.w h s.heap.objs.size (fun j => decide (j ∈ zs)) c) (I.ok.hd hc) pl.isList (fun J s1 St R W nS st gS kR => ?_) fun h2 tk z kp => ?_
  · have val : ∀ (i : Nat) (v : Value), its.toArray[i]? = some v → ∃ z u, zs[i]? = some z ∧ v = .str z u := fun i v hv => by
      exact strs_at hi i v (by simpa using hv)
    refine setT_loop W s.heap.objs.size nS zs hlen (by unfold scanBound; omega) val (its.toArray.size - 0) 0 s1 (by omega) (Nat.zero_le _) st ⟨0, Nat.le_refl 0, (setT_start gS).eqv fun j => by simp⟩ fun s2 c mv hc' hS => ?_
    exact kR s2 mv ⟨c, by omega, hS⟩
  · obtain ⟨c, hc', hS⟩ := z
    refine ⟨.ref s.heap.objs.size, _, I.call (ch := []) (Un.laid kp (Nat.le_refl _) (I.hok.fresh (Nat.le_refl _))) (I.hok.laid kp (Nat.le_refl _) (setOT_new hS)) I.bare (fun _ z => nomatch z), rfl, q _ c (I.hok.fresh (Nat.le_refl _)) hc'⟩
/-- sorted of a set of texts, fewer than 64 -/
def rSortedSetT (w : World) : List V → Hp → VK → Prop := fun vs H Q => ∃ (a : Addr) (S : Str → Bool) (n : Nat), vs = [V.ref a] ∧ H a = some (SetOT w a S n) ∧ n < 64 ∧
  ∀ (zs : List Str) (p : Addr), sortedS zs = true → zs.Nodup → (∀ z, z ∈ zs ↔ S z = true) → zs.length = n → H p = none → Q (.ref p) (upd H p (.lst (zs.map V.str)))
theorem cr_sortedSetT (hc : X.calm = true) : CallR X (.builtin "sorted") (rSortedSetT X.w) := by
  intro pins s σ H vs us Q I r h
  obtain ⟨a, S, n, rfl, ha, h64, q⟩ := h
  rw [Vals.ref1 r]
  refine sorted_setT (setOT_get I ha) (I.ok.hd hc) h64 fun s' p out c zs k g o hp hg hi hs nd hm hl => ?_
  have hlen : (zs.map V.str).length ≤ sizeLine := by rw [List.length_map, hl, sizeLine_eq]; omega
  have hn : H p = none := I.hok.fresh hp
  have J : Inv X pins σ (upd H p (.lst (zs.map V.str))) { s with heap := s'.heap, gens := s'.gens, drawn := s'.drawn, toks := s'.toks } := I.call (ch := []) (Un.laid k hp hn) (I.hok.laid k hp ⟨hlen, out.toList, c, vals_of_strs hi, hg⟩) (by rw [g]; exact I.bare) (fun _ z => nomatch z)
  have e : s' = { s with heap := s'.heap, gens := s'.gens, drawn := s'.drawn, toks := s'.toks } := by
    cases s'; cases s; cases o
    rfl
  rw [e]
  exact ⟨.ref p, _, J, rfl, q zs p hs nd hm hl hn⟩
end
/-! over data -/
section
variable {K : PySem.W.Frag} {n : Nat} {J : Jv n}
def nSortSetT (ds : List PyData) (P : List PyData → Prop) : Prop := one ds fun d => listF d fun es => strsF es fun zs => zs.length < 64 ∧ ∀ ms : List Str, sortedS ms = true → ms.Nodup → (∀ z, z ∈ ms ↔ z ∈ zs) → P (ms.map .str)
theorem rn_sortSetT {w : World} {t : TA} {f : FA} (ha : RA K J t f) : RN K J (tCB (rSortedSetT w) (tCons (tCB (rSetT K w) t) tNil)) (fCBN nSortSetT f) := by
  intro O as σ H Q ρ P E q k
  refine ha O as σ H _ ρ _ E q fun ds ρ1 vs H1 q1 f1 E1 d1 => ?_
  obtain ⟨v, d, rfl, dq, g⟩ := one_of d1 q1
  unfold listF at g
  split at g
  · obtain ⟨ns, e, l64, g'⟩ := strsF_of g
    subst e
    obtain ⟨a, ys, rfl, s, r⟩ := dq.list_of
    cases r.strs_of
    refine ⟨a, ns, rfl, SqL.mono hp_same s, by omega, fun p c hp1 hc => ?_⟩
    refine ⟨p, _, c, rfl, upd_same, by omega, fun ms p2 so nd hm hl hp2 => ?_⟩
    have s2 := Same.new (o := SetOT w p (fun j => decide (j ∈ ns)) c) hp1
    exact new_step (f1.trans (E1.frS s2)) (E1.grow s2) (g' ms so nd fun z => by rw [hm z]; simp) hp2 (DqAll.strs _) k
  · exact g.elim
end
end DL
/-! marked tuples (no dict of their own): tuple(xs), t.count(x), t.index(x) -/
namespace DL
open PySem L2 Z PySem.Spec PyProof.Rows
variable [Tbs]
section
variable {X : Cx}
/-- tuple(xs): the new object is told -/
def rTupN (K : PySem.W.Frag) : List V → Hp → VK → Prop := fun vs H Q => ∃ p ys, vs = [.ref p] ∧ ((SqL K H p ys ∧ ∀ l o, H l = none → o.dict = none → o.cls = .type "tuple" → Q (.ref l) (upd H l (.frz o (.tup ys)))) ∨ (SqT K H p ys ∧ Q (.ref p) H))
theorem cr_tupN : CallR X (.type "tuple") (rTupN X.K) := by
  intro pins s σ H vs us Q I r h
  obtain ⟨p, ys, rfl, h⟩ := h
  obtain ⟨u, rfl, rx⟩ := vals1 r
  cases rx
  rcases h with ⟨hs, q⟩ | ⟨hs, q⟩
  · obtain ⟨its, rv, pl, hz⟩ := I.list hs
    have hl := rv.length
    refine call_tuple_list pl.isList (fun h' kp => ?_) (by simp only [List.size_toArray] <;> omega)
    have I1 : Inv X pins σ H { s with heap := h' } := I.kept (t' := s.toks) kp
    have I2 : Inv X pins σ (upd H h'.objs.size (.frz { cls := .type "tuple", data := .seq its.toArray } (.tup ys))) { s with heap := h'.push { cls := .type "tuple", data := .seq its.toArray } } :=
      I1.laid (t' := s.toks) (fun b o e => Heap.get?_push_of_some _ e) (Nat.le_refl _) (show ObjOk X.prog X.w _ _ _ (.frz _ (.tup ys)) from ⟨Heap.get?_push_size _ rfl, hz, its, rv, IsTup.new _ _⟩)
    exact ⟨.ref h'.objs.size, _, I2, rfl, q _ _ (I1.hok.fresh (Nat.le_refl _)) rfl rfl⟩
  · obtain ⟨its, rv, pl, hz⟩ := I.tuple hs
    exact call_tuple_same pl ⟨.ref p, H, I, rfl, q⟩
/-- a method of a marked tuple -/
def tTM (r : V → List V → Hp → VK → Prop) (to : TE) (t : TA) : TE := fun σ H Q => to σ H fun x H1 => (∃ a o xs, x = .ref a ∧ H1 a = some (.frz o (.tup xs)) ∧ o.dict = none) ∧ t σ H1 fun xs H2 => r x xs H2 Q
variable {o e : Expr} {es : List Expr} {to : TE} {t : TA} {name : Str} {apos cpos : Pos} {id : String} {r : V → List V → Hp → VK → Prop}
theorem pe_tm (slot : Slot "tuple" name id) (hty : typeOf (.builtin id) = pure (.type "method_descriptor")) (hm : MtR X id r) (ho : PE X o to) (ha : PA X (e :: es) t)
    (hb : attributeBase o name X.env (eval o X.env) = eval o X.env := by rfl)
    (hf : ((backTo cpos (starEach (e :: es) X.env)).all (fun x => !x.1) && (backToKw cpos (keywordEach [] X.env)).all (fun x => x.1.isSome)
      && decide ((e :: es).length + ([] : List Keyword).length + (if ([] : List Keyword).isEmpty then 0 else 1) < 30)) = true := by rfl)
    (hl : (apos.endLine == cpos.line) = true := by rfl) (hs : starEach (e :: es) X.env = (false, eval e X.env) :: starEach es X.env := by rfl) (hp : (backTo cpos (starEach es X.env)).any (·.1) = false := by rfl) :
    PE X (.Call (.Attribute o name apos) (e :: es) [] cpos) (tTM r to t) := by
  refine ⟨fun pins s σ H Q I h => ?_⟩
  refine wpAny_Call_method_late hb hf hl rfl (thn (ho.run pins s σ H _ I h) fun v s1 ⟨x, H1, I1, r1, ⟨a, ob, xs, ex, ea, nd⟩, q1⟩ => ?_)
  subst ex
  cases r1
  obtain ⟨g1, _, its, _, ⟨ob', g2, c2, _⟩⟩ := I1.hok a _ ea
  rw [g1] at g2
  cases g2
  refine ⟨"tuple", id, PySem.F.plainAttrs_tuple, slot, hty, ⟨ob, g1, c2⟩, fun b z => (by cases z; exact ⟨ob, g1, nd⟩), ?_⟩
  have hA := ha.run cpos pins s1 σ H1 _ I1 q1
  rw [hs] at hA ⊢
  refine Calls.callWith_builtin (by show (false || (backTo cpos (starEach es X.env)).any (·.1)) = false; rw [hp] <;> rfl) (Calls.evalArgs_plain ?_)
  exact thn hA fun us s2 ⟨vs, H2, I2, r2, q2⟩ => hm pins s2 σ H2 (.ref a) vs (.ref a) us Q I2 rfl r2 q2
/-- t.count(x) over data -/
def rCntTD (K : PySem.W.Frag) : V → List V → Hp → VK → Prop := fun x xs H Q => ∃ (a : Addr) (y : V) (d : PyData) (ds : List PyData), x = V.ref a ∧ xs = [y] ∧ Dp K H (V.ref a) (.tuple ds) ∧ Dp K H y d ∧ SeqAt.shaped (.tuple ds) = true ∧ SeqAt.shaped d = true ∧ d.depth < 63 ∧ Q (.int (ds.countP fun z => PyData.eqv z d : Nat)) H
theorem mt_cntTD (hu : X.A.units + 64 < cLine) : MtR X "tuple.count" (rCntTD X.K) := by
  intro pins s σ H x xs v us Q I rx rxs h
  obtain ⟨a, y, d, ds, rfl, rfl, ht, hy, st, sd, dd63, q⟩ := h
  cases rx
  obtain ⟨uy, rfl, ry⟩ := vals1 rxs
  obtain ⟨bs, r1⟩ := Dp.reads I d y uy hy ry
  have hxs : PyData.canLayAll0 ds = true := SeqAt.canLay_of_shaped st
  have hroom : X.A.units + 1 + min (PyData.depthAll ds) d.depth < cLine := by omega
  cases ht with
  | tup hs ha =>
    obtain ⟨its, rv, ⟨⟨cls, dd, data, sls⟩, ho, hc, n, hd⟩, hz⟩ := I.tuple hs
    simp only at hc hd
    subst hc hd
    obtain ⟨as, h4⟩ := Dp.readsAll I ds _ its ha rv
    have hmap : its.map (SeqAt.readOf s.heap) = ds := SeqAt.readsAll_map ds its as hxs h4
    refine call_meets PySem.F.slot_tuple_count ⟨_, ho, rfl⟩ PySem.F.entry_tuple_count (PySem.F.args_tuple_count_2 _ _) (SeqAt.tuple_countAt a its.toArray n dd sls uy (fun u => PyData.eqv (SeqAt.readOf s.heap u) d))
      ⟨ho, SeqAt.items_eqAt (vs := its.toArray) (show ReadsAll s.heap its.toArray.toList ds as from h4) r1 hxs (SeqAt.canLay_of_shaped sd) hroom, ?_⟩
    have e : its.toArray.toList.countP (fun u => PyData.eqv (SeqAt.readOf s.heap u) d) = ds.countP fun z => PyData.eqv z d := by
      rw [← hmap, List.countP_map]
      rfl
    rw [e]
    exact ⟨.int _, H, I.tok _, ⟨_, rfl⟩, q⟩
end
end DL
/-! marked tuples over data -/
namespace DL
open PySem L2 Z PySem.Spec PyProof.Rows
variable [Tbs]
section
variable {X : Cx}
/-- t.index(x) over data: the first place -/
def rIdxTD (K : PySem.W.Frag) : V → List V → Hp → VK → Prop := fun x xs H Q => ∃ (a : Addr) (y : V) (d : PyData) (ds : List PyData) (j : Nat) (z : PyData), x = V.ref a ∧ xs = [y] ∧ Dp K H (V.ref a) (.tuple ds) ∧ Dp K H y d ∧ SeqAt.shaped (.tuple ds) = true ∧ SeqAt.shaped d = true ∧ d.depth < 63 ∧
  ds[j]? = some z ∧ PyData.eqv z d = true ∧ (∀ (m : Nat) (z' : PyData), m < j → ds[m]? = some z' → PyData.eqv z' d = false) ∧ Q (.int (j : Nat)) H
theorem mt_idxTD (hu : X.A.units + 64 < cLine) : MtR X "tuple.index" (rIdxTD X.K) := by
  intro pins s σ H x xs v us Q I rx rxs h
  obtain ⟨a, y, d, ds, j, z, rfl, rfl, ht, hy, st, sd, dd63, hz, hzj, hno, q⟩ := h
  cases rx
  obtain ⟨uy, rfl, ry⟩ := vals1 rxs
  obtain ⟨bs, r1⟩ := Dp.reads I d y uy hy ry
  have hxs : PyData.canLayAll0 ds = true := SeqAt.canLay_of_shaped st
  have hroom : X.A.units + 1 + min (PyData.depthAll ds) d.depth < cLine := by omega
  cases ht with
  | tup hs ha =>
    obtain ⟨its, rv, ⟨⟨cls, dd, data, sls⟩, ho, hc, n, hd⟩, hl⟩ := I.tuple hs
    simp only at hc hd
    subst hc hd
    obtain ⟨as, h4⟩ := Dp.readsAll I ds _ its ha rv
    have hn : its.length = ds.length := SeqAt.ReadsAll.length ds its as h4
    have hmap : its.map (SeqAt.readOf s.heap) = ds := SeqAt.readsAll_map ds its as hxs h4
    have jd := (List.getElem?_eq_some_iff.mp hz).1
    have hj : j < its.toArray.size := by rw [List.size_toArray]; omega
    have at_ : ∀ (m : Nat) (hm : m < its.toArray.size) (z' : PyData), ds[m]? = some z' → SeqAt.readOf s.heap its.toArray[m] = z' := fun m hm z' e => by
      have ml : m < its.length := by simpa using hm
      rw [← hmap, List.getElem?_map, List.getElem?_eq_getElem ml] at e
      have e' : SeqAt.readOf s.heap its[m] = z' := Option.some.inj e
      simpa using e'
    refine call_meets PySem.F.slot_tuple_index ⟨_, ho, rfl⟩ PySem.F.entry_tuple_index (PySem.F.args_tuple_index_2 _ _) (TI.tuple_indexAt a its.toArray n dd sls uy (fun u => PyData.eqv (SeqAt.readOf s.heap u) d) j hj ?_ ?_)
      ⟨ho, SeqAt.items_eqAt (vs := its.toArray) (show ReadsAll s.heap its.toArray.toList ds as from h4) r1 hxs (SeqAt.canLay_of_shaped sd) hroom, ?_⟩
    · show PyData.eqv (SeqAt.readOf s.heap its.toArray[j]) d = true
      rw [at_ j hj z hz]
      exact hzj
    · intro m hm mj
      show PyData.eqv (SeqAt.readOf s.heap its.toArray[m]) d = false
      rw [at_ m hm _ (List.getElem?_eq_getElem (by omega))]
      exact hno m _ mj (List.getElem?_eq_getElem (by omega))
    · exact ⟨.int (j : Nat), H, I.tok _, ⟨_, rfl⟩, q⟩
end
section
variable {K : PySem.W.Frag} {n : Nat} {J : Jv n}
/-- the mark taken off -/
def unT : PyData → PyData
  | .dict [(.bool false, .tuple ds)] => .tuple ds
  | d => d
def tnF (d : PyData) (k : List PyData → Prop) : Prop := match d with
  | .dict [(.bool false, .tuple ds)] => k ds
  | _ => False
theorem tnF_of {d : PyData} {k : List PyData → Prop} (h : tnF d k) : ∃ ds, d = tnD ds ∧ k ds := by
  unfold tnF at h
  split at h
  · next ds => exact ⟨ds, rfl, h⟩
  · exact h.elim
theorem Dq.tn_of {G : Hp} {v : V} {ds : List PyData} (q : Dq K G v (tnD ds)) : ∃ a o xs, v = .ref a ∧ G a = some (.frz o (.tup xs)) ∧ o.dict = none ∧ DqAll K G xs ds := by
  unfold tnD at q
  generalize e : PyData.dict [(PyData.bool false, PyData.tuple ds)] = d at q
  cases q <;> first | (cases e; done) | skip
  next a o xs ds' h n r =>
    unfold tnD at e
    cases e
    exact ⟨a, o, xs, rfl, h, n, r⟩
theorem SqT.frz {G : Hp} {a : Addr} {o : PySem.Obj} {xs : List V} (h : G a = some (.frz o (.tup xs))) : SqT K G a xs := .inl (.inr ⟨o, h⟩)
theorem Dq.un {G : Hp} {v : V} {d : PyData} (q : Dq K G v d) : Dq K G v (unT d) := by
  unfold unT
  split
  · next ds =>
    obtain ⟨a, o, xs, rfl, h, _, r⟩ := Dq.tn_of (ds := ds) q
    exact .tup (SqT.frz h) r
  · exact q
def fUnT (a : FE) : FE := fun ρ P => a ρ fun d ρ1 => P (unT d) ρ1
theorem re_unT {t : TE} {a : FE} (ha : RE K J t a) : RE K J t (fUnT a) := by
  intro O as σ H Q ρ P E q k
  exact ha O as σ H _ ρ _ E q fun d ρ1 v H1 q1 f1 E1 d1 => k _ _ _ _ q1 f1 E1 d1.un
/-- tuple(xs), marked -/
def fTupN (a : FE) : FE := fun ρ P => a ρ fun d ρ1 => match d with
  | .list es => P (tnD es) ρ1
  | .dict [(.bool false, .tuple es)] => P (tnD es) ρ1
  | _ => False
theorem re_tupN {t : TE} {a : FE} (ha : RE K J t a) : RE K J (tCB (rTupN K) (tCons t tNil)) (fTupN a) := by
  intro O as σ H Q ρ P E q k
  refine ha O as σ H _ ρ _ E q fun d ρ1 v H1 q1 f1 E1 d1 => ?_
  split at q1
  · next es =>
    obtain ⟨p, xs, rfl, s, r⟩ := d1.list_of
    refine ⟨p, xs, rfl, .inl ⟨SqL.mono hp_same s, fun l o hl nd hc => ?_⟩⟩
    have sm := Same.new (o := .frz o (.tup xs)) hl
    exact k _ _ _ _ q1 (f1.trans (E1.frS sm)) (E1.grow sm) (.tn (hp_mk (E1.fresh1 hl) upd_same) nd (r.mono (E1.hgrow sm)))
  · next es =>
    obtain ⟨p, o, xs, rfl, h, nd, r⟩ := Dq.tn_of (ds := es) d1
    exact ⟨p, xs, rfl, .inr ⟨SqT.mono hp_same (SqT.frz h), k _ _ _ _ q1 f1 E1 (.tn h nd r)⟩⟩
  · exact q1.elim
/-- t.count(x) -/
def fCntT (a b : FE) : FE := fun ρ P => a ρ fun x ρ1 => tnF x fun ds => b ρ1 fun d ρ2 => SeqAt.shaped (.tuple ds) = true ∧ SeqAt.shaped d = true ∧ d.depth < 63 ∧ P (.int (ds.countP fun z => PyData.eqv z d : Nat)) ρ2
theorem re_cntT {ta tb : TE} {a b : FE} (ha : RE K J ta a) (hb : RE K J tb b) : RE K J (tTM (rCntTD K) ta (tCons tb tNil)) (fCntT a b) := by
  intro O as σ H Q ρ P E q k
  refine ha O as σ H _ ρ _ E q fun x ρ1 v H1 q1 f1 E1 d1 => ?_
  obtain ⟨ds, rfl, q1⟩ := tnF_of q1
  obtain ⟨p, o, xs, rfl, h, nd, r⟩ := Dq.tn_of d1
  refine ⟨⟨p, o, xs, rfl, (hp_some h).2, nd⟩, ?_⟩
  refine hb O as σ H1 _ ρ1 _ E1 q1 fun d ρ2 w H2 q2 f2 E2 d2 => ?_
  have d1' : Dq K _ (.ref p) (.tuple ds) := (d1.fr f2).un
  exact ⟨p, w, d, ds, rfl, rfl, Dp.mono hp_same (d1'.dp (plain_of q2.1)), Dp.mono hp_same (d2.dp (plain_of q2.2.1)), q2.1, q2.2.1, q2.2.2.1, k _ _ _ _ q2.2.2.2 (f1.trans f2) E2 (.int _)⟩
/-- t.index(x) -/
def fIdxT (a b : FE) : FE := fun ρ P => a ρ fun x ρ1 => tnF x fun ds => b ρ1 fun d ρ2 => SeqAt.shaped (.tuple ds) = true ∧ SeqAt.shaped d = true ∧ d.depth < 63 ∧ ∃ (j : Nat) (z : PyData), ds[j]? = some z ∧ PyData.eqv z d = true ∧ (∀ (m : Nat) (z' : PyData), m < j → ds[m]? = some z' → PyData.eqv z' d = false) ∧ P (.int (j : Nat)) ρ2
theorem re_idxT {ta tb : TE} {a b : FE} (ha : RE K J ta a) (hb : RE K J tb b) : RE K J (tTM (rIdxTD K) ta (tCons tb tNil)) (fIdxT a b) := by
  intro O as σ H Q ρ P E q k
  refine ha O as σ H _ ρ _ E q fun x ρ1 v H1 q1 f1 E1 d1 => ?_
  obtain ⟨ds, rfl, q1⟩ := tnF_of q1
  obtain ⟨p, o, xs, rfl, h, nd, r⟩ := Dq.tn_of d1
  refine ⟨⟨p, o, xs, rfl, (hp_some h).2, nd⟩, ?_⟩
  refine hb O as σ H1 _ ρ1 _ E1 q1 fun d ρ2 w H2 q2 f2 E2 d2 => ?_
  have d1' : Dq K _ (.ref p) (.tuple ds) := (d1.fr f2).un
  obtain ⟨s1, s2, s3, j, z, h1, h2, h3, q2⟩ := q2
  exact ⟨p, w, d, ds, j, z, rfl, rfl, Dp.mono hp_same (d1'.dp (plain_of s1)), Dp.mono hp_same (d2.dp (plain_of s2)), s1, s2, s3, h1, h2, h3, k _ _ _ _ q2 (f1.trans f2) E2 (.int _)⟩
end
end DL
/-! marks taken off, however deep -/
namespace DL
open PySem L2 Z PySem.Spec PyProof.Rows
variable [Tbs]
mutual
def unD : PyData → PyData
  | .list ds => .list (unAll ds)
  | .tuple ds => .tuple (unAll ds)
  | .dict [(.bool false, .tuple ds)] => .tuple (unAll ds)
  | d => d
def unAll : List PyData → List PyData
  | [] => []
  | d :: r => unD d :: unAll r
end
section
variable {K : PySem.W.Frag} {n : Nat} {J : Jv n} {G : Hp}
theorem unAll_map : ∀ ds : List PyData, unAll ds = ds.map unD
  | [] => by rw [unAll]; rfl
  | d :: r => by rw [unAll, unAll_map r]; rfl
mutual
theorem Dq.deep : ∀ {v : V} {d : PyData}, Dq K G v d → Dq K G v (unD d)
  | _, _, .non => by rw [unD] <;> first | exact .non | (intros; contradiction)
  | _, _, .bl b => by rw [unD] <;> first | exact .bl b | (intros; contradiction)
  | _, _, .int i => by rw [unD] <;> first | exact .int i | (intros; contradiction)
  | _, _, .str x => by rw [unD] <;> first | exact .str x | (intros; contradiction)
  | _, _, .lst h r => by rw [unD]; exact .lst h (DqAll.deep r)
  | _, _, .tup h r => by rw [unD]; exact .tup h (DqAll.deep r)
  | _, _, .obj c h r => by rw [unD] <;> first | exact .obj c h r | (intros; simp_all)
  | _, _, .exc c h g r => by rw [unD] <;> first | exact .exc c h g r | (intros; simp_all)
  | _, _, .fnc h => by rw [unD] <;> first | exact .fnc h | (intros; simp_all)
  | _, _, .hdl => by unfold hdl; rw [unD] <;> first | exact .hdl | (intros; simp_all)
  | _, _, .tn h _ r => by unfold tnD; rw [unD]; exact .tup (SqT.frz h) (DqAll.deep r)
theorem DqAll.deep : ∀ {v : List V} {d : List PyData}, DqAll K G v d → DqAll K G v (unAll d)
  | _, _, .nil => by rw [unAll]; exact .nil
  | _, _, .cons a r => by rw [unAll]; exact .cons (Dq.deep a) (DqAll.deep r)
end
def fUnD (a : FE) : FE := fun ρ P => a ρ fun d ρ1 => P (unD d) ρ1
theorem re_unD {t : TE} {a : FE} (ha : RE K J t a) : RE K J t (fUnD a) := by
  intro O as σ H Q ρ P E q k
  exact ha O as σ H _ ρ _ E q fun d ρ1 v H1 q1 f1 E1 d1 => k _ _ _ _ q1 f1 E1 d1.deep
end
end DL
/-! own == e, own != e, marks taken off -/
namespace DL
open PySem L2 Z PySem.Spec PyProof.Rows
variable [Tbs]
section
variable {K : PySem.W.Frag} {n : Nat} {J : Jv n}
def fEqOU (h : Bool → Bool) (i : Nat) (b : FE) : FE := fun ρ P => ownF ρ i fun _ => b ρ fun y ρ1 => ownF ρ1 i fun ds => SeqAt.shaped (.list (unAll ds)) = true ∧ SeqAt.shaped y = true ∧ P (.bool (h (PyData.eqv (.list (unAll ds)) y))) ρ1
theorem own_dpU {O : Addr → Prop} {as : As} {H : Hs} {ρ : En} {σ : L2.St} {i : Nat} {ds : List PyData} (E : EnR K J O as H ρ σ) (h : ρ[i]? = some (.own ds)) (sh : SeqAt.shaped (.list (unAll ds)) = true) : ∃ a, as i = some (.lf a) ∧ σ[i]? = some (some (.ref a)) ∧ Dp K H (.ref a) (.list (unAll ds)) := by
  obtain ⟨a, xs, e1, e2, e3, e4⟩ := E.own_at h
  exact ⟨a, e2, e1, .lst (SqL.of e3) (DpAll.mono hp_same ((DqAll.deep e4).dp (plain_of sh)))⟩
theorem re_eqOU {i : Nat} {tb : TE} {b : FE} (hb : RE K J tb b) : RE K J (tOp (rEqD K) (tVar i) tb) (fEqOU id i b) := by
  intro O as σ H Q ρ P E q k
  obtain ⟨ds0, h0, q⟩ := ownF_of q
  obtain ⟨a, xs0, e1, e2, _, _⟩ := E.own_at h0
  refine ⟨_, e1, ?_⟩
  refine hb O as σ H _ ρ _ E q fun x ρ1 v H1 q1 f1 E1 d1 => ?_
  obtain ⟨ds, hds, s1, s2, p⟩ := ownF_of q1
  obtain ⟨a', e2', _, dp⟩ := own_dpU E1 hds s1
  rw [e2] at e2'
  cases e2'
  exact ⟨_, _, dp, Dp.mono hp_same (d1.dp (plain_of s2)), s1, s2, k _ _ _ _ p f1 E1 (.bl _)⟩
theorem re_neOU {i : Nat} {tb : TE} {b : FE} (hb : RE K J tb b) : RE K J (tOp (rNeD K) (tVar i) tb) (fEqOU not i b) := by
  intro O as σ H Q ρ P E q k
  obtain ⟨ds0, h0, q⟩ := ownF_of q
  obtain ⟨a, xs0, e1, e2, _, _⟩ := E.own_at h0
  refine ⟨_, e1, ?_⟩
  refine hb O as σ H _ ρ _ E q fun x ρ1 v H1 q1 f1 E1 d1 => ?_
  obtain ⟨ds, hds, s1, s2, p⟩ := ownF_of q1
  obtain ⟨a', e2', _, dp⟩ := own_dpU E1 hds s1
  rw [e2] at e2'
  cases e2'
  exact ⟨_, _, dp, Dp.mono hp_same (d1.dp (plain_of s2)), s1, s2, k _ _ _ _ p f1 E1 (.bl _)⟩
end
end DL
/-! enumerate of a list or a tuple -/
namespace EM
open PySem PySem.Spec PyProof.Rows L2 ZM
set_option maxHeartbeats 1000000 in
theorem meets_enum1 {v : Value} {o : Obj} {Z : Heap → Prop} (B : Begins v o Z) :
    Meets (Builtin.«enumerate.__new__» ⟨[.type "enumerate", v], []⟩) (fun _ R s => Z s.heap ∧
      R (.ok (.ret (.ref (s.heap.push o).objs.size))) { s with heap := (s.heap.push o).push { cls := .type "enumerate", data := .fields #[.none, .bool false, .ref s.heap.objs.size, rawInt 0, .none, .none] } }) :=
  .of_wp fun prog w A R s h => by
    obtain ⟨hp, g, d, tk, os⟩ := s; obtain ⟨h1, h⟩ := h
    have hsub := sub_enumerate
    have q1 : ∀ {A' : Around} {E : Value → Shared → Prop} {Q : Value → Shared → Prop}, Q (.ref hp.objs.size) ⟨hp.push o, g, d, tk, os⟩ → wpAny (model prog w) A' (pyIter v) Q E ⟨hp, g, d, tk, os⟩ :=
      fun q => B.iter prog w _ _ ⟨hp, g, d, tk, os⟩ _ h1 q
    wp_walk using q1
    refine wpAny_stack_any fun st => wpAny_pure ?_
    split
    · rename_i c _ _ _ _ _
      cases (c == Value.type "enumerate")
      · wp_walk using q1
        exact ⟨_, rfl, h⟩
      · wp_walk using q1
        exact ⟨_, rfl, h⟩
    · wp_walk using q1
      exact ⟨_, rfl, h⟩
end EM
/-! enumerate of a list or a tuple: the call -/
namespace EM
open PySem PySem.Spec PyProof.Rows L2 ZM
section
variable {prog : Program} {w : World} {A : Around} {E : Value → Shared → Prop} {s : Shared}
theorem enum_begins1 {v : Value} {o : Obj} {Z : Heap → Prop} {Q : Value → Shared → Prop} (B : Begins v o Z) (h1 : Z s.heap)
    (h : ∀ h', IsEnum h' (s.heap.objs.size + 1) s.heap.objs.size 0 .none → h'.get? s.heap.objs.size = some o → (∀ b u, s.heap.get? b = some u → h'.get? b = some u) → Q (.ref (s.heap.objs.size + 1)) { s with heap := h' }) :
    wpAny (model prog w) A (call (.type "enumerate") [v]) Q E s := by
  refine callType_new F.called_enumerate (by decide) (F.typeCall_enumerate_1 _) (F.newCall_enumerate_1 _) (fun obj => F.args_object_init_2 obj _) F.entry_enumerate_new (meets_enum1 B) ⟨h1, ?_⟩
  have z : (s.heap.push o).objs.size = s.heap.objs.size + 1 := Heap.size_push ..
  show _ ∧ _
  rw [z]
  have e : IsEnum ((s.heap.push o).push { cls := .type "enumerate", data := .fields #[.none, .bool false, .ref s.heap.objs.size, rawInt 0, .none, .none] }) (s.heap.objs.size + 1) s.heap.objs.size 0 .none := by
    have q := Heap.get?_push_size (s.heap.push o) (o := { cls := .type "enumerate", data := .fields #[.none, .bool false, .ref s.heap.objs.size, rawInt 0, .none, .none] }) rfl
    rw [z] at q
    exact q
  exact ⟨⟨_, e, rfl⟩, h _ e (Heap.get?_push_of_some _ (Heap.get?_push_size _ B.free)) fun b u x => Heap.get?_push_of_some _ (Heap.get?_push_of_some _ x)⟩
end
end EM
/-! enumerate of a list or a tuple: its turns -/
namespace EM
open PySem PySem.Spec PyProof.Rows L2 ZM
def IteM (K : PySem.W.Frag) (k : Bool) (a : Addr) : It :=
  ⟨fun i H => ∃ (xs : List V) (x : V), SqK K H k a xs ∧ xs[i]? = some x, fun i H v H' => ∃ T x, v = .ref T ∧ H T = none ∧ H' = upd H T (.tup [.int (i : Nat), x]) ∧ ∀ xs, SqK K H k a xs → xs[i]? = some x, fun i H => ∃ xs : List V, SqK K H k a xs ∧ xs.length = i⟩
theorem mem2 {n c : Nat} : c ∈ ([n + 1, n] : List Nat) ↔ n ≤ c ∧ c ≤ n + 1 := by
  simp only [List.mem_cons, List.not_mem_nil, or_false]
  omega
theorem nc2 {n c : Nat} (h : ¬ (n ≤ c ∧ c ≤ n + 1)) : c ≠ n + 1 ∧ c ≠ n := by omega
theorem turn_enumM {P : Program} {w : World} {K : PySem.W.Frag} {elts : List Expr} {kk : Nat} {tpos : Pos} {k : Bool} {a n : Nat} (ha : a < n) :
    Turn P w K (.Tuple elts kk tpos) (IteM K k a) [n + 1, n] (n + 1) (fun i h => (∃ old, IsEnum h (n + 1) n ((i : Nat) : Int) old) ∧ itK h k n a i) := by
  refine ⟨by simp, ?_, ?_, ?_, ?_, ?_⟩
  · rintro i h ⟨⟨old, he⟩, q⟩ c hc
    simp only [List.mem_cons, List.not_mem_nil, or_false] at hc
    rcases hc with rfl | rfl
    · exact ⟨_, he, fun v z => nomatch z⟩
    · exact q.obj
  · rintro i h h' ⟨⟨old, he⟩, q⟩ kp
    exact ⟨⟨old, kp _ (by simp) _ he⟩, q.at fun o => kp _ (by simp) o⟩
  · intro X hP hw hK hc i pins s σ H E I hf st hg
    subst hP hw hK
    obtain ⟨⟨old, he⟩, q⟩ := st
    obtain ⟨xs, x, hq, hx⟩ := hg
    obtain ⟨its, rv, p, _⟩ := sqK I hq
    obtain ⟨u, hu, ru⟩ := rv.get hx
    have hh : X.A.in1.handled = none := I.ok.hd hc
    have el : (n + 1 : Nat) < s.heap.objs.size := Heap.lt_size he
    have l1 : i < its.toArray.size := by simpa using (List.getElem?_eq_some_iff.mp hu).1
    refine wpAny_pyNext_enum_itemC (drawsK hh k n a (nn (by omega)) its.toArray) he ⟨q, p⟩ l1 (nn (by omega)) (n2 (by omega) (by omega)) fun u1 h' tk e1 ho st' hT hsz kp => ?_
    have eu : u1 = u := by
      have : its.toArray[i]? = some u := by simpa using hu
      rw [this] at e1
      exact (Option.some.inj e1).symm
    subst eu
    refine ⟨_, rfl, wpAny_letOwnedTupleGo_enum (s := { s with heap := h', toks := tk + 1 }) ho fun h2 he2 sb => ?_⟩
    have sb' : ∀ c, c ≠ n + 1 → h2.get? c = h'.get? c := fun c hc => sb.2 c hc
    have hT2 : h2.get? s.heap.objs.size = some { cls := .type "tuple", data := .seq #[.int (i : Nat) tk, u1] } := (sb' _ (nn (by omega))).trans hT
    have new : ObjOk X.prog X.w (upd H s.heap.objs.size (.tup [.int (i : Nat), x])) h2 s.heap.objs.size (.tup [.int (i : Nat), x]) :=
      ⟨Nat.le_of_ble_eq_true rfl, [.int (i : Nat) tk, u1], .cons ⟨_, rfl⟩ (.cons ru .nil), ⟨_, hT2, rfl, _, rfl⟩⟩
    have I1 : Inv X pins σ (upd H s.heap.objs.size (.tup [.int (i : Nat), x])) { s with heap := h2, toks := tk + 1 } := by
      refine I.turnedNew (t' := tk + 1) (ch := [n + 1, n]) (fun c o hb q => ?_) hf (Nat.le_refl _) new
      obtain ⟨c1, c2⟩ := nc2 fun z => hb (mem2.mpr z)
      exact (sb' c c1).trans (kp c o c1 c2 q)
    refine ⟨.ref s.heap.objs.size, _, I1, rfl, ⟨_, x, rfl, I.hok.fresh (Nat.le_refl _), rfl, fun l hl => by rw [sqK_inj I hl hq]; exact hx⟩, ⟨⟨u1, ?_⟩, ?_⟩, fun c hcm => ?_⟩
    · have e1 : ((i + 1 : Nat) : Int) = (i : Int) + 1 := by omega
      rw [e1]; exact he2
    · exact st'.1.at fun o q => (sb' _ (nn (by omega))).trans q
    · have := mem2.mp hcm
      rw [upd_ne (nn (a := c) (b := s.heap.objs.size) (by omega))]
      exact (hf c hcm).1
  · intro X hP hw hK hc i pins s σ H E I hf st hg
    subst hP hw hK
    obtain ⟨⟨old, he⟩, q⟩ := st
    obtain ⟨xs, hq, hx⟩ := hg
    obtain ⟨its, rv, p, _⟩ := sqK I hq
    have l1 := rv.length
    have z1 : its.toArray.size = its.length := by simp
    have hh : X.A.in1.handled = none := I.ok.hd hc
    have hi : i = its.toArray.size := by omega
    subst hi
    refine wpAny_pyNext_enum_endD (drawsK hh k n a (nn (by omega)) its.toArray) he ⟨q, p⟩ fun h' kp => ⟨rfl, I.turnedL (t' := s.toks) (ch := [n + 1, n]) (fun c o hb q => ?_) hf⟩
    obtain ⟨c1, c2⟩ := nc2 fun z => hb (mem2.mpr z)
    exact kp c o c2 q
  · exact fun A i s Q E st h => let ⟨⟨_, he⟩, _⟩ := st; wpAny_pyIter_enum he h
def iEnumM (K : PySem.W.Frag) (ta : TA) : TI := fun σ H R => ta σ H fun vs H1 => ∃ k a xs, vs = [.ref a] ∧ SqK K H1 k a xs ∧ R (IteM K k a) H1
theorem pi_enumM {X : Cx} {e : Expr} {ta : TA} {p pos tpos : Pos} {elts : List Expr} {kk : Nat} (hg : Gl X "enumerate") (hm : X.mg "enumerate" = none) (ha : PA X [e] ta)
    (hs : starEach [e] X.env = [(false, eval e X.env)] := by rfl) : PI X (.Tuple elts kk tpos) (.Call (.Name "enumerate" p) [e] [] pos) (iEnumM X.K ta) := by
  refine ⟨fun pins s σ H R I h => ?_⟩
  refine Call_ (ld_blt I hg hm boot_enumerate (PyProof.Rows.callWith_type1 (thn (ha.run pos pins s σ H _ I h) fun us s1 q => ?_) hs rfl))
  obtain ⟨vs, H1, I1, r1, k, a, xs, rfl, hq, q⟩ := q
  cases r1 with
  | cons r rr =>
    cases rr
    cases r
    obtain ⟨its, rv, p1, la⟩ := sqK I1 hq
    refine enum_begins1 (beginsK k a its.toArray) p1 fun h' he g1 kp => wpAny_pyIter_enum he ?_
    have I2 : Inv X pins σ H1 { s1 with heap := h' } := I1.kept (t' := s1.toks) kp
    refine ⟨s1.heap.objs.size + 1, [s1.heap.objs.size + 1, s1.heap.objs.size], _, IteM X.K k a, H1, rfl, I2, turn_enumM la, ⟨⟨_, he⟩, ?_⟩, fun c hc => ?_, q⟩
    · cases k <;> exact ⟨_, g1, rfl, rfl⟩
    · have : s1.heap.objs.size ≤ c := (mem2.mp hc).1
      exact I1.fpOk this (I1.hok.fresh this)
theorem walk_enumM {K : PySem.W.Frag} {k : Bool} {a : Addr} {xs : List V} :
    Walk (IteM K k a) xs.length (fun H => SqK K H k a xs) (YPair (fun i => some (.int (i : Nat))) (fun i => xs[i]?)) := by
  refine ⟨fun i H hi q => ⟨xs, xs[i], q, by simp [hi]⟩, fun H q => ⟨xs, q, rfl⟩, fun i H v H' hi q y => ?_⟩
  obtain ⟨T, x, h1, h2, h3, h4⟩ := y
  exact ⟨T, .int (i : Nat), x, h1, h2, h3, rfl, h4 xs q⟩
end EM
namespace DL
open PySem L2 Z PySem.Spec PyProof.Rows
variable [Tbs]
section
variable {K : PySem.W.Frag} {n : Nat} {J : Jv n}
def iEM (f : FA) : FA := fun ρ P => f ρ fun ds ρ1 => match ds with
  | [x] => seqF x fun es => P (enumD es) ρ1
  | _ => False
theorem ri_enumM {ta : TA} {f : FA} (h : RA K J ta f) : RI K J (EM.iEnumM K ta) (iEM f) := by
  intro O as σ H R ρ P E q k
  refine h O as σ H _ ρ _ E q fun ds ρ1 vs H1 q1 f1 E1 d1 => ?_
  split at q1
  · next x =>
    cases d1 with
    | cons d1 b =>
      cases b
      obtain ⟨k1, a, xs, es, rfl, s, r, q1⟩ := seqK_of d1 q1
      refine ⟨k1, a, xs, rfl, ZM.SqK.mono hp_same s, k _ _ _ _ q1 f1 E1 ?_⟩
      refine ⟨_, _, by rw [enumD, List.length_map, List.length_zipIdx, ← r.length]; exact EM.walk_enumM (xs := xs), fun A' H2 s2 => ZM.SqK.mono hp_same (ZM.SqK.mono s2 s), fun i d A' H2 x H3 hd s2 oc y => ?_⟩
      obtain ⟨T, x1, y1, rfl, hT, e, e1, e2⟩ := y
      cases e1
      obtain ⟨d', e', q'⟩ := r.get e2
      rw [enumD, List.getElem?_map, List.getElem?_zipIdx, e'] at hd
      simp only [Option.map_some, Nat.zero_add] at hd
      cases hd
      exact yPair (A := fun _ => False) (H := H) hT e oc (.int _) (q'.mono s2)
  · exact q1.elim
end
end DL
/-! dicts of the store, by handles -/
namespace DL
open PySem L2 Z PySem.Spec PyProof.Rows
variable [Tbs]
/-- a key, by data -/
def keyF (d : PyData) (k : L2.Key → Prop) : Prop := match d with
  | .int i => k (.inl i)
  | .str x => k (.inr x)
  | _ => False
def keyD : L2.Key → PyData
  | .inl i => .int i
  | .inr x => .str x
abbrev Kvs := List (L2.Key × PyData)
def valD (kd : Kvs) (k : L2.Key) : Option PyData := (kd.find? fun kv => decide (kv.1 = k)).map (·.2)
/-- in its place, or at the end -/
def putE (kd : Kvs) (k : L2.Key) (d : PyData) : Kvs := if (valD kd k).isSome = true then kd.map (fun kv => if kv.1 = k then (kv.1, d) else kv) else kd ++ [(k, d)]
def dropE (kd : Kvs) (k : L2.Key) : Kvs := kd.filter fun kv => decide (kv.1 ≠ k)
theorem valD_pos {p : L2.Key × PyData} {r : Kvs} {k : L2.Key} (e : p.1 = k) : valD (p :: r) k = some p.2 := by simp [valD, List.find?_cons, e]
theorem valD_neg {p : L2.Key × PyData} {r : Kvs} {k : L2.Key} (e : ¬ p.1 = k) : valD (p :: r) k = valD r k := by simp [valD, List.find?_cons, e]
section
variable {K : PySem.W.Frag} {n : Nat} {J : Jv n} {sx : Nat} {G : Hp}
theorem keyF_of {v : V} {d : PyData} {k : L2.Key → Prop} (q : Dq K G v d) (h : keyF d k) : ∃ y, v = L2.kV y ∧ k y := by
  unfold keyF at h
  split at h
  · cases q; exact ⟨.inl _, rfl, h⟩
  · cases q; exact ⟨.inr _, rfl, h⟩
  · exact h.elim
theorem DqKs.val : ∀ {kv : List (L2.Key × V)} {kd : Kvs}, DqKs K G kv kd → ∀ k, (∃ v d, L2.valV kv k = some v ∧ valD kd k = some d ∧ Dq K G v d) ∨ (L2.valV kv k = none ∧ valD kd k = none)
  | _, _, .nil, k => .inr ⟨rfl, rfl⟩
  | _, _, .cons (k := j) a r, k => by
    by_cases e : j = k
    · exact .inl ⟨_, _, valV_pos e, valD_pos e, a⟩
    · rw [valV_neg e, valD_neg e]
      exact DqKs.val r k
theorem DqKs.len : ∀ {kv : List (L2.Key × V)} {kd : Kvs}, DqKs K G kv kd → kv.length = kd.length
  | _, _, .nil => rfl
  | _, _, .cons _ r => by rw [List.length_cons, List.length_cons, DqKs.len r]
theorem DqKs.app : ∀ {kv : List (L2.Key × V)} {kd : Kvs} {kw : List (L2.Key × V)} {ke : Kvs}, DqKs K G kv kd → DqKs K G kw ke → DqKs K G (kv ++ kw) (kd ++ ke)
  | _, _, _, _, .nil, h => h
  | _, _, _, _, .cons a r, h => .cons a (DqKs.app r h)
theorem DqKs.mapPut {k : L2.Key} {v : V} {d : PyData} (q : Dq K G v d) : ∀ {kv : List (L2.Key × V)} {kd : Kvs}, DqKs K G kv kd → DqKs K G (kv.map fun z => if z.1 = k then (z.1, v) else z) (kd.map fun z => if z.1 = k then (z.1, d) else z)
  | _, _, .nil => .nil
  | _, _, .cons (k := j) a r => by
    rw [List.map_cons, List.map_cons]
    by_cases e : j = k
    · rw [if_pos e, if_pos e]; exact .cons q (DqKs.mapPut q r)
    · rw [if_neg e, if_neg e]; exact .cons a (DqKs.mapPut q r)
theorem DqKs.put {k : L2.Key} {v : V} {d : PyData} {kv : List (L2.Key × V)} {kd : Kvs} (h : DqKs K G kv kd) (q : Dq K G v d) : DqKs K G (L2.putK kv k v) (putE kd k d) := by
  unfold L2.putK putE
  rw [L2.valV_any]
  rcases h.val k with ⟨w, c, e1, e2, _⟩ | ⟨e1, e2⟩
  · rw [e1, e2]
    exact h.mapPut q
  · rw [e1, e2]
    exact h.app (.cons q .nil)
theorem DqKs.drop {k : L2.Key} : ∀ {kv : List (L2.Key × V)} {kd : Kvs}, DqKs K G kv kd → DqKs K G (L2.dropK kv k) (dropE kd k)
  | _, _, .nil => .nil
  | _, _, .cons (k := j) (v := v) (d := d) (kv := kv) (kd := kd) a r => by
    show DqKs K G (((j, v) :: kv).filter _) (((j, d) :: kd).filter _)
    rw [List.filter_cons, List.filter_cons]
    split
    · exact .cons a (DqKs.drop r)
    · exact DqKs.drop r
theorem EnR.dctS {O : Addr → Prop} {as : As} {H : Hs} {ρ : En} {σ : L2.St} {S : Sto} {p : Addr} {kd : Kvs} (E : EnR K J O as H ρ σ) (hs : ρ[sx]? = some (.st S)) (e : S p = some (.dct kd)) : ∃ kv, H p = some (.dK kv) ∧ DqKs K (hq O as H) kv kd := by
  obtain ⟨u, e1, r⟩ := E.getS hs e
  cases r with
  | dct q => exact ⟨_, e1, q⟩
/-- {} -/
def fDNew (sx : Nat) : FE := fun ρ P => stF ρ sx fun S => ∀ p, S p = none → P (hdl p) (ρ.set sx (.st (sset S p (.dct []))))
theorem re_dnew : RE K J tDNewK (fDNew sx) := by
  intro O as σ H Q ρ P E q k p hp
  obtain ⟨S, hs, q⟩ := stF_of q
  obtain ⟨sp, E2, f2⟩ := E.addS hs hp (u' := .dK []) (o' := .dct []) (.dct .nil)
  exact k _ _ _ ⟨upd H p (.dK []), _⟩ (q p sp) f2 E2 .hdl
/-- d[k] -/
def fDGet (sx : Nat) (a b : FE) : FE := fun ρ P => a ρ fun x ρ1 => b ρ1 fun y ρ2 => keyF y fun k => stF ρ2 sx fun S => ∃ p kd d, x = hdl p ∧ S p = some (.dct kd) ∧ valD kd k = some d ∧ P d ρ2
theorem re_dget {ta tb : TE} {a b : FE} (ha : RE K J ta a) (hb : RE K J tb b) : RE K J (tDGet ta tb) (fDGet sx a b) := by
  intro O as σ H Q ρ P E q k
  refine ha O as σ H _ ρ _ E q fun x ρ1 v H1 q1 f1 E1 d1 => ?_
  refine hb O as σ H1 _ ρ1 _ E1 q1 fun y ρ2 w H2 q2 f2 E2 d2 => ?_
  obtain ⟨z, rfl, q2⟩ := keyF_of d2 q2
  obtain ⟨S, hs, p, kd, d, rfl, e, hv, q2⟩ := stF_of q2
  rw [d1.hdl_of]
  obtain ⟨kv, e1, r⟩ := E2.dctS hs e
  rcases r.val z with ⟨u, c, h1, h2, dq⟩ | ⟨_, h2⟩
  · rw [hv] at h2
    cases h2
    exact ⟨p, u, rfl, by rw [← h1]; exact DGet.k e1, k _ _ _ _ q2 (f1.trans f2) E2 dq⟩
  · rw [hv] at h2; cases h2
/-- k in d, k not in d -/
def fDIn (neg : Bool) (sx : Nat) (b a : FE) : FE := fun ρ P => b ρ fun y ρ1 => a ρ1 fun x ρ2 => keyF y fun k => stF ρ2 sx fun S => ∃ p kd, x = hdl p ∧ S p = some (.dct kd) ∧ P (.bool (if neg then !(valD kd k).isSome else (valD kd k).isSome)) ρ2
theorem re_din {ta tb : TE} {a b : FE} (hb : RE K J tb b) (ha : RE K J ta a) : RE K J (tDIn tb ta) (fDIn false sx b a) := by
  intro O as σ H Q ρ P E q k
  refine hb O as σ H _ ρ _ E q fun y ρ1 v H1 q1 f1 E1 d1 => ?_
  refine ha O as σ H1 _ ρ1 _ E1 q1 fun x ρ2 w H2 q2 f2 E2 d2 => ?_
  obtain ⟨z, rfl, q2⟩ := keyF_of (d1.fr f2) q2
  obtain ⟨S, hs, p, kd, rfl, e, q2⟩ := stF_of q2
  rw [d2.hdl_of]
  obtain ⟨kv, e1, r⟩ := E2.dctS hs e
  refine ⟨p, _, rfl, DGet.k e1, ?_⟩
  refine k _ _ _ _ q2 (f1.trans f2) E2 ?_
  rcases r.val z with ⟨u, c, h1, h2, dq⟩ | ⟨h1, h2⟩ <;> rw [h1, h2] <;> exact .bl _
theorem re_dnotin {ta tb : TE} {a b : FE} (hb : RE K J tb b) (ha : RE K J ta a) : RE K J (tDNotIn tb ta) (fDIn true sx b a) := by
  intro O as σ H Q ρ P E q k
  refine hb O as σ H _ ρ _ E q fun y ρ1 v H1 q1 f1 E1 d1 => ?_
  refine ha O as σ H1 _ ρ1 _ E1 q1 fun x ρ2 w H2 q2 f2 E2 d2 => ?_
  obtain ⟨z, rfl, q2⟩ := keyF_of (d1.fr f2) q2
  obtain ⟨S, hs, p, kd, rfl, e, q2⟩ := stF_of q2
  rw [d2.hdl_of]
  obtain ⟨kv, e1, r⟩ := E2.dctS hs e
  refine ⟨p, _, rfl, DGet.k e1, ?_⟩
  refine k _ _ _ _ q2 (f1.trans f2) E2 ?_
  rcases r.val z with ⟨u, c, h1, h2, dq⟩ | ⟨h1, h2⟩ <;> rw [h1, h2] <;> exact .bl _
/-- d[k] = e -/
def fDPut (sx : Nat) (a b c : FE) : FS := fun E ρ => c ρ fun d ρ1 => a ρ1 fun x ρ2 => b ρ2 fun y ρ3 => keyF y fun k => stF ρ3 sx fun S => ∃ p kd, x = hdl p ∧ S p = some (.dct kd) ∧ kd.length < sizeLine ∧ E.nx (ρ3.set sx (.st (sset S p (.dct (putE kd k d)))))
theorem rs_dput {ta tb tc : TE} {a b c : FE} (ha : RE K J ta a) (hb : RE K J tb b) (hc : RE K J tc c) : RS K J (sDPut ta tb tc) (fDPut sx a b c) := by
  intro O as σ H D ρ E R q C
  refine hc O as σ H _ ρ _ R q fun d ρ1 v H1 q1 f1 E1 d1 => ?_
  refine ha O as σ H1 _ ρ1 _ E1 q1 fun x ρ2 w H2 q2 f2 E2 d2 => ?_
  refine hb O as σ H2 _ ρ2 _ E2 q2 fun y ρ3 u H3 q3 f3 E3 d3 => ?_
  obtain ⟨z, rfl, q3⟩ := keyF_of d3 q3
  obtain ⟨S, hs, p, kd, rfl, e, l, q3⟩ := stF_of q3
  rw [d2.hdl_of]
  obtain ⟨kv, e1, r⟩ := E3.dctS hs e
  obtain ⟨E4, f4⟩ := E3.setS hs e (u' := .dK (L2.putK kv z v)) (o' := .dct (putE kd z d)) (.dct (r.put ((d1.fr f2).fr f3)))
  exact ⟨p, _, rfl, DPut.k e1 (by rw [r.len]; exact l), C.nx _ _ _ ⟨_, _⟩ q3 (.of (((f1.trans f2).trans f3).trans f4)) E4⟩
/-- d[k] += e (numbers) -/
def fDAug (sx : Nat) (a b c : FE) (h : Int → Int → Int) : FS := fun E ρ => a ρ fun x ρ1 => b ρ1 fun y ρ2 => keyF y fun k => stF ρ2 sx fun S => ∃ p kd i, x = hdl p ∧ S p = some (.dct kd) ∧ valD kd k = some (.int i) ∧ c ρ2 fun d ρ3 => intF d fun j => stF ρ3 sx fun S' => ∃ kd', S' p = some (.dct kd') ∧ kd'.length < sizeLine ∧ E.nx (ρ3.set sx (.st (sset S' p (.dct (putE kd' k (.int (h i j)))))))
theorem rs_daug {ta tb tc : TE} {a b c : FE} {h : Int → Int → Int} (ha : RE K J ta a) (hb : RE K J tb b) (hc : RE K J tc c) : RS K J (sDAug ta tb tc (ipI h)) (fDAug sx a b c h) := by
  intro O as σ H D ρ E R q C
  refine ha O as σ H _ ρ _ R q fun x ρ1 w H1 q1 f1 E1 d1 => ?_
  refine hb O as σ H1 _ ρ1 _ E1 q1 fun y ρ2 u H2 q2 f2 E2 d2 => ?_
  obtain ⟨z, rfl, q2⟩ := keyF_of d2 q2
  obtain ⟨S, hs, p, kd, i, rfl, e, hv, q2⟩ := stF_of q2
  rw [d1.hdl_of]
  obtain ⟨kv, e1, r⟩ := E2.dctS hs e
  rcases r.val z with ⟨v, c', h1, h2, dq⟩ | ⟨_, h2⟩
  · rw [hv] at h2
    cases h2
    cases dq
    refine ⟨p, _, rfl, by rw [← h1]; exact DGet.k e1, ?_⟩
    refine hc O as σ H2 _ ρ2 _ E2 q2 fun d ρ3 v3 H3 q3 f3 E3 d3 => ?_
    unfold intF at q3
    split at q3
    · next j =>
      cases d3
      obtain ⟨S', hs', kd', e', l, q3⟩ := stF_of q3
      obtain ⟨kv', e1', r'⟩ := E3.dctS hs' e'
      obtain ⟨E4, f4⟩ := E3.setS hs' e' (u' := .dK (L2.putK kv' z (.int (h i j)))) (o' := .dct (putE kd' z (.int (h i j)))) (.dct (r'.put (.int _)))
      exact ⟨_, _, rfl, rfl, _, DPut.k e1' (by rw [r'.len]; exact l), C.nx _ _ _ ⟨_, _⟩ q3 (.of (((f1.trans f2).trans f3).trans f4)) E4⟩
    · exact q3.elim
  · rw [hv] at h2; cases h2
/-- d.get(k), d.get(k, x) -/
def fDGet1 (sx : Nat) (a b : FE) : FE := fun ρ P => a ρ fun x ρ1 => stF ρ1 sx fun S1 => ∃ p kd1, x = hdl p ∧ S1 p = some (.dct kd1) ∧ b ρ1 fun y ρ2 => keyF y fun k => stF ρ2 sx fun S => ∃ kd, S p = some (.dct kd) ∧ P ((valD kd k).getD .none) ρ2
theorem re_dget1 {ta tb : TE} {a b : FE} (ha : RE K J ta a) (hb : RE K J tb b) : RE K J (tDGet1 ta tb) (fDGet1 sx a b) := by
  intro O as σ H Q ρ P E q k
  refine ha O as σ H _ ρ _ E q fun x ρ1 v H1 q1 f1 E1 d1 => ?_
  obtain ⟨S1, hs1, p, kd1, rfl, e1, q1⟩ := stF_of q1
  obtain ⟨kv1, g1, _⟩ := E1.dctS hs1 e1
  rw [d1.hdl_of]
  refine ⟨p, rfl, .inl ⟨kv1, .inl g1⟩, ?_⟩
  refine hb O as σ H1 _ ρ1 _ E1 q1 fun y ρ2 w H2 q2 f2 E2 d2 => ?_
  obtain ⟨z, rfl, q2⟩ := keyF_of d2 q2
  obtain ⟨S, hs, kd, e, q2⟩ := stF_of q2
  obtain ⟨kv, e1, r⟩ := E2.dctS hs e
  refine ⟨_, DGet.k e1, k _ _ _ _ q2 (f1.trans f2) E2 ?_⟩
  rcases r.val z with ⟨u, c, h1, h2, dq⟩ | ⟨h1, h2⟩ <;> rw [h1, h2]
  · exact dq
  · exact .non
def fDGet2 (sx : Nat) (a b c : FE) : FE := fun ρ P => a ρ fun x ρ1 => stF ρ1 sx fun S1 => ∃ p kd1, x = hdl p ∧ S1 p = some (.dct kd1) ∧ b ρ1 fun y ρ2 => keyF y fun k => c ρ2 fun d ρ3 => stF ρ3 sx fun S => ∃ kd, S p = some (.dct kd) ∧ P ((valD kd k).getD d) ρ3
theorem re_dget2 {ta tb tc : TE} {a b c : FE} (ha : RE K J ta a) (hb : RE K J tb b) (hc : RE K J tc c) : RE K J (tDGet2 ta tb tc) (fDGet2 sx a b c) := by
  intro O as σ H Q ρ P E q k
  refine ha O as σ H _ ρ _ E q fun x ρ1 v H1 q1 f1 E1 d1 => ?_
  obtain ⟨S1, hs1, p, kd1, rfl, e1, q1⟩ := stF_of q1
  obtain ⟨kv1, g1, _⟩ := E1.dctS hs1 e1
  rw [d1.hdl_of]
  refine ⟨p, rfl, .inl ⟨kv1, .inl g1⟩, ?_⟩
  refine hb O as σ H1 _ ρ1 _ E1 q1 fun y ρ2 w H2 q2 f2 E2 d2 => ?_
  obtain ⟨z, rfl, q2⟩ := keyF_of d2 q2
  refine hc O as σ H2 _ ρ2 _ E2 q2 fun d ρ3 u3 H3 q3 f3 E3 d3 => ?_
  obtain ⟨S, hs, kd, e, q3⟩ := stF_of q3
  obtain ⟨kv, e1, r⟩ := E3.dctS hs e
  refine ⟨_, DGet.k e1, k _ _ _ _ q3 ((f1.trans f2).trans f3) E3 ?_⟩
  rcases r.val z with ⟨u, c, h1, h2, dq⟩ | ⟨h1, h2⟩ <;> rw [h1, h2]
  · exact dq
  · exact d3
/-- len(d) -/
def fDLen (sx : Nat) (a : FE) : FE := fun ρ P => a ρ fun x ρ1 => stF ρ1 sx fun S => ∃ p kd, x = hdl p ∧ S p = some (.dct kd) ∧ P (.int (kd.length : Nat)) ρ1
theorem re_dlen {ta : TE} {a : FE} (ha : RE K J ta a) : RE K J (tCB (fun xs H Q => ∃ a kvs, xs = [V.ref a] ∧ H a = some (.dK kvs) ∧ Q (.int kvs.length) H) (tCons ta tNil)) (fDLen sx a) := by
  intro O as σ H Q ρ P E q k
  refine ha O as σ H _ ρ _ E q fun x ρ1 v H1 q1 f1 E1 d1 => ?_
  obtain ⟨S, hs, p, kd, rfl, e, q1⟩ := stF_of q1
  rw [d1.hdl_of]
  obtain ⟨kv, e1, r⟩ := E1.dctS hs e
  exact ⟨p, kv, rfl, e1, by rw [r.len]; exact k _ _ _ _ q1 f1 E1 (.int _)⟩
end
end DL
/-! methods by keywords; len(o) by an own __len__; len(range(e)) -/
namespace DL
open PySem L2 Z PySem.Spec PyProof.Rows
variable [Tbs]
section
variable {X : Cx} {CX : CXT} {k n : Nat} {f C : Addr} {fd : FuncData} {ps ks : List Str} {sp : Sp} {E : XK} {m : Str} {pos apos : Pos} {o e : Expr} {es : List Expr} {kws : List Keyword} {ta : TE} {t tk : TA} {g : List Value → List Value → List Value} {gV : List V → List V → List V}
/-- o.m(e, .., k = v, ..): n values and nk keywords -/
def tMethN (C : Addr) (m : Str) (n nk : Nat) (sp : Sp) (gV : List V → List V → List V) (E : XK) (ta : TE) (t tk : TA) : TE := fun σ H Q => ta σ H fun x H1 => ∃ a dx fs, x = .ref a ∧ H1 a = some (.ins C dx fs) ∧ fs.lookup m = none ∧ t σ H1 fun vs H2 => tk σ H2 fun zs H3 => vs.length = n ∧ zs.length = nk ∧ sp (gV (.ref a :: vs) zs) H3 Q E
theorem pe_methN {pl : Sem Bool} (he : PE X o ta) (c : Cls X.K C) (hm : Meth X.K C m f) (F : FnOk X.prog X.w X.K X.mg X.base CX k f fd ps sp) (hr : Room k X.A) (hb : KBn X.K fd ps (n + 1) ks g gV) (hx : Passes CX X E)
    (ha : PA X (e :: es) t) (hkw : PK X kws tk) (hall : (backToKw pos (keywordEach kws X.env)).all (·.1.isSome) = true := by rfl) (hks : (backToKw pos (keywordEach kws X.env)).filterMap (·.1) = ks := by rfl)
    (hst : starEach (e :: es) X.env = (false, eval e X.env) :: starEach es X.env := by rfl)
    (hpl : ((backTo pos (starEach (e :: es) X.env)).any (·.1) || (backToKw pos (keywordEach kws X.env)).any (·.1.isNone)) = false := by rfl)
    (ht : eval (.Call (.Attribute o m apos) (e :: es) kws pos) X.env = (do
      let ov ← eval o X.env
      standAt apos.atName
      let (f, first) ← holding [ov] (getMethod ov m pl)
      callWith pos f first (backTo pos (starEach (e :: es) X.env)) (backToKw pos (keywordEach kws X.env))) := by rfl) :
    PE X (.Call (.Attribute o m apos) (e :: es) kws pos) (tMethN C m n ks.length sp gV E ta t tk) := by
  refine ⟨fun pins s σ H Q I h => ?_⟩
  refine PySem.W.methodCall_KW (pl := pl) (thn (he.run pins s σ H _ I h) fun u s1 ⟨x, H1, I1, rx, a, dx, fs, ex, ea, l, q⟩ => ?_) ht
  subst ex
  obtain rfl : u = Value.ref a := rx
  refine getmeth_ok I1 ea c hm l ?_
  refine PySem.W.callWith_KW (first := [.ref a]) (h₀ := X.base) I.ok.mod.kin hm.kp hall (thn (ha.run pos pins s1 σ H1 _ I1 q) fun us s2 ⟨vs, H2, I2, r, q2⟩ => ?_) hpl hst
  refine thn (hkw.run pos pins s2 σ H2 _ I2 q2) fun ws s3 ⟨zs, H3, I3, rz, l1, l2, q3⟩ => ⟨I3.kIn, ?_⟩
  rw [hks]
  exact run_fnN (us := .ref a :: us) (vs := .ref a :: vs) F hr hb hx I3 (.cons rfl r) rz (by rw [List.length_cons, l1]) l2 q3
/-! len(o) -/
def rLenOwn (C : Addr) (sp : Sp) (E : XK) : List V → Hp → VK → Prop := fun xs H Q => ∃ a dx fs, xs = [V.ref a] ∧ H a = some (.ins C dx fs) ∧ sp [V.ref a] H (fun v H' => ∃ i : Int, v = .int i ∧ 0 ≤ i ∧ i < 9223372036854775808 ∧ Q (.int i) H') E
theorem cr_lenOwn (hm : Meth X.K C "__len__" f) (F : FnOk X.prog X.w X.K X.mg X.base CX k f fd ps sp) (hr : Room (k + 1) X.A) (hb : Binds X.K fd ps []) (hx : Passes CX X E) : CallR X (.builtin "len") (rLenOwn C sp E) := by
  intro pins s σ H xs us Q I r h
  obtain ⟨a, dx, fs, rfl, ea, q⟩ := h
  obtain ⟨u, rfl, ru⟩ := vals1 r
  obtain rfl : u = Value.ref a := ru
  obtain ⟨mA, O, _⟩ := ins_get I.hok ea
  obtain ⟨od, J, _⟩ := O.look
  refine Calls.call_function_entry PySem.kind_len PySem.plain_len PySem.entry_len (PySem.args_len1 _) ?_
  unfold Builtin.«len»
  refine wpAny_bind (m := oneArg "len" _) (wpAny_pure ?_)
  refine wpAny_bind (m := callSpecial? (.ref a) (Str.ofString "__len__")) (PySem.W.special_fn I.kIn J hm.at_ (beq_iff_eq.mp hm.fn) ?_)
  have r2 : Vals [V.ref a] [Value.ref a] := .cons rfl .nil
  have hl : ([Value.ref a] ++ []).length = ps.length := F.len _ _ _ _ q
  refine wpAny_call (codeAny_mono (F.run X.A.in1 X.stack s H ⟨[.ref a], []⟩ [.ref a] [.ref a] _ E hr.in1 I.env0.in1 (hb s [.ref a] I.kIn hl) r2 q) fun r s' hq => ?_)
  cases r with
  | error e => exact hx pins σ H s e s' I hq
  | ok fl =>
    cases fl with
    | ret u =>
      obtain ⟨v, H', I3, rv, i, ev, h0, h1, q3⟩ := I.after hq
      subst ev
      obtain ⟨t, rfl⟩ := rv
      refine wpAny_bind (wpAny_holding (wpAny_pure ?_))
      refine wpAny_bind (wpAny_letGo ?_)
      show wpAny _ _ (if i < 0 then _ else _) _ _ _
      rw [if_neg (by omega)]
      show wpAny _ _ (if i ≥ 2 ^ 63 then _ else _) _ _ _
      rw [if_neg (by omega)]
      exact wpAny_bind (wpAny_mkInt (wpAny_pure ⟨_, rfl, ⟨.int i, H', I3.tok _, ⟨_, rfl⟩, q3⟩⟩))
    | next => exact False.elim hq
    | brk => exact False.elim hq
    | cont => exact False.elim hq
end
/-! len(range(e)) -/
section
variable {X : Cx}
def rRng1 : List V → Hp → VK → Prop := fun vs H Q => ∃ j, vs = [V.int j] ∧ ∀ p, H p = none → Q (.ref p) (upd H p (.rng 0 j))
theorem cr_rng1 : CallR X (.type "range") rRng1 := by
  intro pins s σ H vs us Q I r h
  obtain ⟨j, rfl, q⟩ := h
  obtain ⟨u, rfl, rj⟩ := vals1 r
  obtain ⟨t, rfl⟩ := rj
  refine call_range_1 ⟨.ref s.heap.objs.size, upd H s.heap.objs.size (.rng 0 j), I.laid (t' := s.toks + 1 + 1) (fun b o e => Heap.get?_push_of_some _ e) (Nat.le_refl _) ?_, rfl, q _ (I.hok.fresh (Nat.le_refl _))⟩
  exact ⟨s.toks, t, s.toks + 1, Heap.get?_push_size _ rfl⟩
def rLenRng : List V → Hp → VK → Prop := fun vs H Q => ∃ a j, vs = [V.ref a] ∧ H a = some (.rng 0 j) ∧ 0 ≤ j ∧ j < 9223372036854775808 ∧ Q (.int j) H
theorem cr_lenRng : CallR X (.builtin "len") rLenRng := by
  intro pins s σ H vs us Q I r h
  obtain ⟨a, j, rfl, ea, h0, h1, q⟩ := h
  obtain ⟨u, rfl, ru⟩ := vals1 r
  obtain rfl : u = Value.ref a := ru
  obtain ⟨t1, t2, t3, ho⟩ := I.hok a _ ea
  obtain ⟨m, rfl⟩ := Int.eq_ofNat_of_zero_le h0
  have e : Builtin.Range.rangeSize 0 (m : Int) 1 = m := by
    unfold Builtin.Range.rangeSize
    simp
    omega
  exact call_len_range (n := m) ho (by rw [e]) (by omega) ⟨.int m, H, I.tok _, ⟨_, rfl⟩, q⟩
end
section
variable {K : PySem.W.Frag} {n : Nat} {J : Jv n} {sx : Nat}
def fLenRng (a : FE) : FE := fun ρ P => a ρ fun d ρ1 => intF d fun j => 0 ≤ j ∧ j < 9223372036854775808 ∧ P (.int j) ρ1
theorem re_lenRng {ta : TE} {a : FE} (ha : RE K J ta a) : RE K J (tCB rLenRng (tCons (tCB rRng1 (tCons ta tNil)) tNil)) (fLenRng a) := by
  intro O as σ H Q ρ P E q k
  refine ha O as σ H _ ρ _ E q fun d ρ1 v H1 q1 f1 E1 d1 => ?_
  unfold intF at q1
  split at q1
  · next j =>
    cases d1
    obtain ⟨h0, h1, q1⟩ := q1
    refine ⟨j, rfl, fun p hp => ?_⟩
    have sm := Same.new (o := .rng 0 j) hp
    exact ⟨p, j, rfl, upd_same, h0, h1, k _ _ _ _ q1 (f1.trans (E1.frS sm)) (E1.grow sm) (.int _)⟩
  · exact q1.elim
/-- len(o), o that stays -/
def fLenX (c : Str) (F : FN) (a : FE) : FE := fun ρ P => a ρ fun d ρ1 => objF c d fun _ => F [.fz d] fun e _ => intF e fun i => 0 ≤ i ∧ i < 9223372036854775808 ∧ P (.int i) ρ1
theorem re_lenX {C : Addr} {c : Str} {F : FN} {E0 : XK} {ta : TE} {a : FE} (hc : PySem.W.nsIn K mainGlobals c = some (some (.ref C))) (ha : RE K J ta a) : RE K J (tCB (rLenOwn C (spF K 1 F) E0) (tCons ta tNil)) (fLenX c F a) := by
  intro O as σ H Q ρ P E q k
  refine ha O as σ H _ ρ _ E q fun d ρ1 v H1 q1 f1 E1 d1 => ?_
  obtain ⟨y, dx, fv, fs, rfl, e, r, q1⟩ := objF_of hc d1 q1
  refine ⟨y, dx, fv, rfl, (hp_some e).2, ?_⟩
  refine call_core (xs := [.dat d]) (P := fun e ρ' => intF e fun i => 0 ≤ i ∧ i < 9223372036854775808 ∧ P (.int i) ρ') E1 (.dat .nil) (.cons (.dat d1) .nil) rfl rfl (by exact List.nodup_nil) ?_ fun e ρ' v H' p fr E' q' => ?_
  · exact q1
  · unfold intF at p
    split at p
    · next i =>
      cases q'
      exact ⟨i, rfl, p.1, p.2.1, k _ _ _ _ p.2.2 (f1.trans fr) E' (.int _)⟩
    · exact p.elim
/-- o.m(.., k = v, ..), o that stays -/
def fMethN (c x : Str) (l : Nat) (F : FN) (nn mm : Nat) (gD : List PyData → List PyData → List PyData) (a : FE) (f fk : FA) : FE := fun ρ P => a ρ fun d ρ1 => objF c d fun fs => fldD x fs = none ∧ f ρ1 fun ds ρ2 => fk ρ2 fun es ρ3 => ds.length = nn ∧ es.length = mm ∧ (gD ds es).length + 1 = l ∧ F (.fz d :: (gD ds es).map .fz) fun e _ => P e ρ3
theorem re_methN {C : Addr} {c x : Str} {l : Nat} {F : FN} {nn mm : Nat} {gV : List V → List V → List V} {gD : List PyData → List PyData → List PyData} {E0 : XK} {ta : TE} {t tk : TA} {a : FE} {f fk : FA} (hc : PySem.W.nsIn K mainGlobals c = some (some (.ref C)))
    (hg : ∀ (x : Addr) (vs zs : List V) (ds es : List PyData) (H : Hp), DqAll K H vs ds → DqAll K H zs es → ∃ ws, gV (.ref x :: vs) zs = .ref x :: ws ∧ DqAll K H ws (gD ds es)) (ha : RE K J ta a) (hb : RA K J t f) (hk : RA K J tk fk) : RE K J (tMethN C x nn mm (spF K l F) gV E0 ta t tk) (fMethN c x l F nn mm gD a f fk) := by
  intro O as σ H Q ρ P E q k
  refine ha O as σ H _ ρ _ E q fun d ρ1 v H1 q1 f1 E1 d1 => ?_
  obtain ⟨y, dx, fv, fs, rfl, e, r, hn, q1⟩ := objF_of hc d1 q1
  refine ⟨y, dx, fv, rfl, (hp_some e).2, look_none r hn, ?_⟩
  refine hb O as σ H1 _ ρ1 _ E1 q1 fun ds ρ2 vs H2 q2 f2 E2 d2 => ?_
  refine hk O as σ H2 _ ρ2 _ E2 q2 fun es ρ3 zs H3 q3 f3 E3 d3 => ?_
  obtain ⟨l1, l2, l3, q3⟩ := q3
  obtain ⟨ws, ew, rw'⟩ := hg y vs zs ds es _ (d2.fr f3) d3
  refine ⟨by rw [d2.length]; exact l1, by rw [d3.length]; exact l2, ?_⟩
  rw [ew]
  refine call_core (xs := .dat d :: (gD ds es).map .dat) E3 (.dat (fits_dat _)) (.cons (.dat ((d1.fr f2).fr f3)) (dat_ars rw').toT) (by rw [List.length_cons, rw'.length]; exact l3) (by rw [List.length_cons, List.length_map]; exact l3) (by show (ownIx ((gD ds es).map .dat)).Nodup; rw [ownIx_dat]; exact List.nodup_nil) ?_ fun e ρ' v H' p fr E' q' => k _ _ _ _ p (((f1.trans f2).trans f3).trans fr) E' q'
  simp only [wb, wb_dat]
  exact q3
/-- o.m(.., k = v, ..) that is handed the store -/
def fMethNS (sx : Nat) (c x : Str) (l : Nat) (F : FN) (nn mm : Nat) (gD : List PyData → List PyData → List PyData) (a : FE) (f fk : FA) : FE := fun ρ P => a ρ fun d ρ1 => stF ρ1 sx fun S1 => ∃ fs, ObjU S1 d c fs ∧ fldD x fs = none ∧ f ρ1 fun ds ρ2 => fk ρ2 fun es ρ3 => ds.length = nn ∧ es.length = mm ∧ (gD ds es).length + 1 = l ∧ stF ρ3 sx fun S => F (.fz d :: ((gD ds es).map .fz ++ [.st S])) fun e out => P e (ρ3.set sx ((out.drop l).headD .no))
theorem re_methNS {C : Addr} {c x : Str} {l : Nat} {F : FN} {nn mm : Nat} {gV : List V → List V → List V} {gD : List PyData → List PyData → List PyData} {E0 : XK} {ta : TE} {t tk : TA} {a : FE} {f fk : FA} (hc : PySem.W.nsIn K mainGlobals c = some (some (.ref C)))
    (hg : ∀ (x : Addr) (vs zs : List V) (ds es : List PyData) (H : Hp), DqAll K H vs ds → DqAll K H zs es → ∃ ws, gV (.ref x :: vs) zs = .ref x :: ws ∧ DqAll K H ws (gD ds es)) (ha : RE K J ta a) (hb : RA K J t f) (hk : RA K J tk fk) : RE K J (tMethN C x nn mm (spS K l F) gV E0 ta t tk) (fMethNS sx c x l F nn mm gD a f fk) := by
  intro O as σ H Q ρ P E q k
  refine ha O as σ H _ ρ _ E q fun d ρ1 v H1 q1 f1 E1 d1 => ?_
  obtain ⟨S1, hs1, fs, ob, hn, q1⟩ := stF_of q1
  obtain ⟨y, dx, fv, rfl, e, r⟩ := objU_of E1 hs1 hc ob d1
  refine ⟨y, dx, fv, rfl, e, look_none r hn, ?_⟩
  refine hb O as σ H1 _ ρ1 _ E1 q1 fun ds ρ2 vs H2 q2 f2 E2 d2 => ?_
  refine hk O as σ H2 _ ρ2 _ E2 q2 fun es ρ3 zs H3 q3 f3 E3 d3 => ?_
  obtain ⟨l1, l2, l3, q3⟩ := q3
  obtain ⟨S, hs, q3⟩ := stF_of q3
  obtain ⟨ws, ew, rw'⟩ := hg y vs zs ds es _ (d2.fr f3) d3
  refine ⟨by rw [d2.length]; exact l1, by rw [d3.length]; exact l2, ?_⟩
  rw [ew]
  refine call_core (xs := .dat d :: ((gD ds es).map .dat ++ [.own sx])) (r := .fz d :: ((gD ds es).map .fz ++ [.st S])) E3 (.dat (fits_nil hs _)) (.cons (.dat ((d1.fr f2).fr f3)) ((dat_ars rw').snoc (E3.st_at hs).1)) (by rw [List.length_cons, rw'.length]; exact l3) (by rw [List.length_cons, List.length_append, List.length_map, List.length_singleton]; omega) (by show (ownIx ((gD ds es).map .dat ++ [.own sx])).Nodup; rw [ownIx_snoc, ownIx_dat]; exact List.nodup_cons.mpr ⟨List.not_mem_nil, .nil⟩) ?_ fun e ρ' v H' p fr E' q' => k _ _ _ _ p (((f1.trans f2).trans f3).trans fr) E' q'
  have e : ∀ out : List Sl, wb ρ3 (.dat d :: ((gD ds es).map .dat ++ [.own sx])) out = ρ3.set sx ((out.drop l).headD .no) := fun out => by
    rw [wb, wb_snoc, wb_dat, List.length_map, List.drop_tail, l3]
  simp only [e]
  exact q3
end
end DL
/-! how long data's text may be -/
namespace Z
open PySem L2 TL
mutual
def szD : PyData → Nat
  | .none => 4
  | .bool _ => 5
  | .int i => (Str.ofString (toString i)).length
  | .str x => 10 * x.length + 2
  | .list xs => szAll xs + 2
  | .tuple xs => szAll xs + 3
  | .dict _ => 0
def szAll : List PyData → Nat
  | [] => 0
  | x :: r => szD x + 2 + szAll r
end
theorem slen_append (x y : Str) : (x ++ y).length = x.length + y.length := by rw [len_tl, len_tl x, len_tl y, tl_append, List.length_append]
theorem textFrom_le : ∀ (ts : List Str) (k : Nat) (acc : Str), (textFrom k acc ts).length ≤ acc.length + piled ts
  | [], _, acc => Nat.le_add_right _ _
  | t :: ts, k, acc => by
    have ih := textFrom_le ts (k + 1) (acc ++ Str.ofString (if k > 0 then ", " else "" : String) ++ t)
    rw [slen_append, slen_append] at ih
    have e : (Str.ofString (if k > 0 then ", " else "" : String)).length ≤ 2 := by
      split
      · exact (by decide +kernel : (Str.ofString ", ").length ≤ 2)
      · exact (by decide +kernel : (Str.ofString "").length ≤ 2)
    have p : piled (t :: ts) = t.length + 2 + piled ts := by simp [piled]
    show (textFrom (k + 1) (acc ++ Str.ofString (if k > 0 then ", " else "" : String) ++ t) ts).length ≤ _
    rw [p]
    omega
theorem listText_le (ts : List Str) : (listText ts).length ≤ piled ts + 2 := by
  have h := textFrom_le ts 0 (Str.ofString "[")
  have e1 : (Str.ofString "[").length = 1 := by decide +kernel
  have e2 : (Str.ofString "]").length = 1 := by decide +kernel
  show (textFrom 0 (Str.ofString "[") ts ++ Str.ofString "]").length ≤ _
  rw [slen_append]
  omega
theorem join_le : ∀ ts : List Str, (Str.join (Str.ofString ", ") ts).length ≤ piled ts
  | [] => Nat.zero_le _
  | t :: ts => by
    have h := join_length_add (t :: ts) (by simp)
    have h' : (Str.join (Str.ofString ", ") (t :: ts)).length + 2 = piled (t :: ts) := h
    omega
theorem tupleText_le (ts : List Str) : (tupleText ts).length ≤ piled ts + 3 := by
  have h := join_le ts
  have e1 : (Str.ofString "(").length = 1 := by decide +kernel
  have e2 : (Str.ofString (if (ts.length == 1) = true then ",)" else ")" : String)).length ≤ 2 := by
    split
    · exact (by decide +kernel : (Str.ofString ",)").length ≤ 2)
    · exact (by decide +kernel : (Str.ofString ")").length ≤ 2)
  show (Str.ofString "(" ++ Str.join (Str.ofString ", ") ts ++ Str.ofString (if (ts.length == 1) = true then ",)" else ")" : String)).length ≤ _
  rw [slen_append, slen_append]
  omega
mutual
theorem shown_le : ∀ d : PyData, d.canLay0 = true → d.shown.length ≤ szD d
  | .none, _ => (by decide +kernel : (Str.ofString "None").length ≤ 4)
  | .bool true, _ => (by decide +kernel : (Str.ofString "True").length ≤ 5)
  | .bool false, _ => (by decide +kernel : (Str.ofString "False").length ≤ 5)
  | .int i, _ => Nat.le_refl _
  | .str x, h => by
    refine StrLaws.reprText_len x fun c hc => ?_
    have h' : (x.cps.all (· < 0x110000)) = true := h
    have := (Array.all_eq_true_iff_forall_mem.mp h') c (Array.mem_toList_iff.mp hc)
    have := of_decide_eq_true this
    omega
  | .list xs, h => by
    have ih := shownAll_le xs h
    have := listText_le (PyData.shownAll xs)
    show (listText (PyData.shownAll xs)).length ≤ szAll xs + 2
    omega
  | .tuple xs, h => by
    have ih := shownAll_le xs h
    have := tupleText_le (PyData.shownAll xs)
    show (tupleText (PyData.shownAll xs)).length ≤ szAll xs + 3
    omega
  | .dict _, h => by cases h
theorem shownAll_le : ∀ ds : List PyData, PyData.canLayAll0 ds = true → piled (PyData.shownAll ds) ≤ szAll ds
  | [], _ => Nat.zero_le _
  | x :: r, h => by
    have h' : (x.canLay0 && PyData.canLayAll0 r) = true := h
    rw [Bool.and_eq_true] at h'
    have h1 := shown_le x h'.1
    have h2 := shownAll_le r h'.2
    have e : piled (PyData.shownAll (x :: r)) = x.shown.length + 2 + piled (PyData.shownAll r) := by
      show piled (x.shown :: PyData.shownAll r) = _
      simp [piled]
    rw [e]
    show _ ≤ szD x + 2 + szAll r
    omega
end
theorem szInt {i : Int} (h0 : 0 ≤ i) (h : i < 10 ^ 10) : szD (.int i) ≤ 10 := PyProof.Rows.toString_length_le h0 (by decide) h
end Z
namespace K
open PySem L2 Z TL DL
local macro_rules | `(tactic| walk_at "z1") => `(tactic| first | with_reducible refine iteT ?_ | with_reducible refine iteF ?_ | with_reducible refine iteDS rfl ?_ | with_reducible refine iteNS rfl ?_ | ((with_reducible refine iteDN ?hN ?_); (case hN => (intro h; cases h; done))) | ((with_reducible refine iteNDN ?hN ?_); (case hN => (intro h; cases h; done))) | ((fail_if_success (with_reducible refine iteD (fun _ => ?_) (fun _ => ?_))); (fail_if_success (with_reducible refine iteND (fun _ => ?_) (fun _ => ?_))); first
  | refine ⟨_, rfl, ?_⟩
  | refine ⟨_, _, rfl, rfl, ?_⟩
  | refine ⟨rfl, ?_⟩
  | refine ⟨(by show (0 : Int) < _; first | decide | omega), ?_⟩
  | refine ⟨⟨by decide, by decide⟩, ?_⟩
  | refine ⟨⟨(by show (0 : Int) < _; omega), (by show _ < (1073741824 : Int); omega)⟩, ?_⟩
  | refine ⟨⟨by decide, by decide, by decide⟩, ?_⟩
  | refine ⟨.inl ⟨by omega, by omega⟩, ?_⟩
  | refine ⟨.inr ⟨by omega, by omega⟩, ?_⟩
  | refine .inl ⟨_, rfl, ?_⟩
  | refine .inr ⟨_, rfl, ?_⟩
  | refine ⟨_, _, _, _, rfl, rfl, SqL.of (by assumption), rfl, ?_⟩
  | refine ⟨_, _, _, _, rfl, rfl, SqL.of upd_same, rfl, ?_⟩
  | refine ⟨_, _, _, _, rfl, rfl, (by assumption), rfl, ?_⟩
  | refine ⟨_, _, _, _, rfl, rfl, upd_same, rfl, ?_⟩
  | refine ⟨_, _, rfl, SqT.of upd_same, rfl, ?_⟩
  | refine ⟨_, _, rfl, ?_⟩
  | refine ⟨Nat.le_of_ble_eq_true rfl, ?_⟩
  | refine ⟨_, _, _, _, true, rfl, .ty _, .base (.str _), kit_ty (by decide +kernel), ?_⟩
  | refine ⟨_, _, _, _, false, rfl, .ty _, .base (.str _), kit_ty (by decide +kernel), ?_⟩
  | refine ⟨_, _, _, _, true, rfl, .ty _, .base (.int _), kit_ty (by decide +kernel), ?_⟩
  | refine ⟨_, _, _, _, false, rfl, .ty _, .base (.int _), kit_ty (by decide +kernel), ?_⟩))
local macro_rules | `(tactic| walk_at "z") => `(tactic| repeat walk_at "z1")
instance tbs : Tbs := ⟨[]⟩
/-! ### purses of marked kinds -/
abbrev natD (n : Nat) : PyData := .int (n : Int)
abbrev natsD (cs : List Nat) : List PyData := cs.map natD
def kD (ks : List Nat) : PyData := DL.tnD (ks.map natD)
def pFs (ks : List Nat) (c : PyData) : List (PyData × PyData) := [(.str (Str.ofString "coin_kinds"), kD ks), (.str (Str.ofString "coin_counts"), c)]
/-- a purse as data -/
def pD (ks cs : List Nat) : PyData := .dict ((.str (Str.ofString "Purse"), .none) :: pFs ks (.list (cs.map natD)))
theorem fld_kn (ks : List Nat) (c : PyData) : fldD (Str.ofString "coin_kinds") (pFs ks c) = some (kD ks) := by
  unfold pFs fldD
  rw [if_pos rfl]
theorem fld_cn (ks : List Nat) (c : PyData) : fldD (Str.ofString "coin_counts") (pFs ks c) = some c := by
  unfold pFs
  rw [fldD, if_neg (by decide +kernel), fldD, if_pos rfl]
theorem fld_no {x : Str} (h1 : ¬ x = Str.ofString "coin_kinds") (h2 : ¬ x = Str.ofString "coin_counts") (ks : List Nat) (c : PyData) : fldD x (pFs ks c) = none := by
  unfold pFs
  rw [fldD, if_neg h1, fldD, if_neg h2, fldD]
theorem fld_m1 (ks : List Nat) (c : PyData) : fldD (Str.ofString "spot_of") (pFs ks c) = none := fld_no (by decide +kernel) (by decide +kernel) ks c
theorem fld_m2 (ks : List Nat) (c : PyData) : fldD (Str.ofString "many") (pFs ks c) = none := fld_no (by decide +kernel) (by decide +kernel) ks c
theorem fld_m3 (ks : List Nat) (c : PyData) : fldD (Str.ofString "kinds_told") (pFs ks c) = none := fld_no (by decide +kernel) (by decide +kernel) ks c
theorem fld_m4 (ks : List Nat) (c : PyData) : fldD (Str.ofString "counts_told") (pFs ks c) = none := fld_no (by decide +kernel) (by decide +kernel) ks c
theorem fld_m5 (ks : List Nat) (c : PyData) : fldD (Str.ofString "worth") (pFs ks c) = none := fld_no (by decide +kernel) (by decide +kernel) ks c
theorem fld_m6 (ks : List Nat) (c : PyData) : fldD (Str.ofString "put") (pFs ks c) = none := fld_no (by decide +kernel) (by decide +kernel) ks c
theorem fld_m7 (ks : List Nat) (c : PyData) : fldD (Str.ofString "take") (pFs ks c) = none := fld_no (by decide +kernel) (by decide +kernel) ks c
theorem fld_m8 (ks : List Nat) (c : PyData) : fldD (Str.ofString "pour") (pFs ks c) = none := fld_no (by decide +kernel) (by decide +kernel) ks c
theorem fld_m9 (ks : List Nat) (c : PyData) : fldD (Str.ofString "holds") (pFs ks c) = none := fld_no (by decide +kernel) (by decide +kernel) ks c
theorem fld_m10 (ks : List Nat) (c : PyData) : fldD (Str.ofString "like") (pFs ks c) = none := fld_no (by decide +kernel) (by decide +kernel) ks c
theorem obj_pD {ks cs : List Nat} {k : List (PyData × PyData) → Prop} : objF (Str.ofString "Purse") (pD ks cs) k = k (pFs ks (.list (cs.map natD))) := by
  unfold objF pD
  exact propext ⟨fun h => h.2, fun h => ⟨rfl, h⟩⟩
/-- the purse at a place of the store, its counts at another -/
structure PurseAt (S : Sto) (p c : Nat) (ks cs : List Nat) : Prop where
  ob : S p = some (.obj (Str.ofString "Purse") (pFs ks (hdl c)))
  ct : S c = some (.lst (cs.map natD))
theorem PurseAt.ne {S : Sto} {p c : Nat} {ks cs : List Nat} (h : PurseAt S p c ks cs) : p ≠ c := fun e => by
  have h1 := h.ob
  rw [e, h.ct] at h1
  cases h1
theorem PurseAt.res {S : Sto} {p c : Nat} {ks cs : List Nat} (h : PurseAt S p c ks cs) : Res S (hdl p) (pD ks cs) := .obj h.ob (.cons (.refl _) (.cons (.lst h.ct (ResAll.refl _)) .nil))
theorem PurseAt.keep {S S' : Sto} {p c : Nat} {ks cs : List Nat} (h : PurseAt S p c ks cs) (hp : S' p = S p) (hc : S' c = S c) : PurseAt S' p c ks cs := ⟨hp.trans h.ob, hc.trans h.ct⟩
/-! functions over data -/
def F__law_box_1 : FS := (fRetW (fLst (fCons (fOp oMul (fCB bAbs (fCons (fV 2) fNil)) (fCB bInt (fCons (fOp oGe (fCB bAbs (fCons (fV 2) fNil)) (fOp oPow (fC (.int 10)) (fC (.int 18)))) fNil))) (fCons (fOp oMod (fOp oMul (fOp oAdd (fOp oAdd (fOp oMod (fV 2) (fC (.int 2147483629))) (fOp oMul (fC (.int 15485863)) (fV 1))) (fC (.int 43))) (fC (.int 48271))) (fC (.int 2147483647))) (fCons (fC (.int 0)) fNil)))))
def F__law_box : FM := fnM 2 3 (fSeq (fAsg (fIf (fB (fOp oLt (fV 1) (fCB bLen (fCons (fV 0) fNil)))) (fOp oIxL (fV 0) (fV 1)) (fC (.int 0))) (gN 2))
    F__law_box_1)
def F__law_kinds_1 : FS := (fFreeze 5 (fRet (fTupN (fNew (fCBN nSortSet (fCons (fV 5) fNil))))))
def F__law_kinds_2 : FS := (fAppend 5 (fPopAt 4 (fCall 2 F__law_take [] (cOwn 0 (cDat (fLenO 4) cNil)))))
def F__law_kinds_3 : FS := (fSeq (fFor [6] (iR1 (fCons (fV 1) fNil)) (gN 6) F__law_kinds_2)
    F__law_kinds_1)
def F__law_kinds_4 : FE := (fOp oAdd (fC (.int 1)) (fCall 2 F__law_take [] (cOwn 0 (cDat (fC (.int 2000)) cNil))))
def F__law_kinds : FN := fnF 1 7 (fSeq (fPar 1 2 (fCons (fOp oAdd (fC (.int 1)) (fCall 2 F__law_take [] (cOwn 0 (cDat (fC (.int 8)) cNil)))) (fCons (fCall 2 F__law_take [] (cOwn 0 (cDat (fC (.int 4)) cNil))) fNil)))
    (fSeq (fAsg (fNew (fLst (fCons (fTup (fCons (fC (.int 1)) (fCons (fC (.int 2)) (fCons (fC (.int 5)) (fCons (fC (.int 10)) (fCons (fC (.int 20)) (fCons (fC (.int 50)) (fCons (fC (.int 100)) (fCons (fC (.int 200)) fNil))))))))) (fCons (fTup (fCons (fC (.int 1)) (fCons (fC (.int 3)) (fCons (fC (.int 6)) (fCons (fC (.int 12)) (fCons (fC (.int 24)) (fCons (fC (.int 30)) (fCons (fC (.int 60)) (fCons (fC (.int 240)) fNil))))))))) (fCons (fTup (fCons (fC (.int 2)) (fCons (fC (.int 3)) (fCons (fC (.int 7)) (fCons (fC (.int 11)) (fCons (fC (.int 13)) (fCons (fC (.int 40)) (fCons (fC (.int 99)) (fCons (fC (.int 2000)) fNil))))))))) fNil))))) (gN 3))
    (fSeq (fParOO 4 5 (fIfN (fB (fOp oLt (fV 2) (fC (.int 3)))) (fCBN nList (fCons (fOp oIxL (fV 3) (fV 2)) fNil)) (fLc (iR1 (fCons (fC (.int 8)) fNil)) (gN 6) fYes F__law_kinds_4 [6])) (fLst fNil))
    F__law_kinds_3)))
def F__law_counts_1 : FE := (fOp oIxL (fNew (fLst (fCons (fC (.int 0)) (fCons (fC (.int 1)) (fCons (fCall 2 F__law_take [] (cOwn 0 (cDat (fC (.int 6)) cNil))) (fCons (fCall 2 F__law_take [] (cOwn 0 (cDat (fC (.int 100)) cNil))) (fCons (fC (.int 99)) fNil))))))) (fCall 2 F__law_take [] (cOwn 0 (cDat (fC (.int 5)) cNil))))
def F__law_counts : FM := fnM 2 3 (fRetW (fLc (iT (fUnT (fV 1))) (gN 2) fYes F__law_counts_1 [2]))
def F_Purse_init : FN := fnS 3 3 (fSeq (fSetF 3 "Purse" "coin_kinds" (fV 0) (fTupN (fV 1)))
    (fSetF 3 "Purse" "coin_counts" (fV 0) (fIf (fB (fOp oIs (fV 2) (fC .none))) (fNewL 3 (fRep (fLst (fCons (fC (.int 0)) fNil)) (fCB bLen (fCons (fUnT (fFldU 3 "Purse" "coin_kinds" (fV 0))) fNil)))) (fNewL 3 (fOpnN (fCBN nList (fCons (fV 2) fNil)))))))
def F__law_made_1 : FS := (fSeq (fAppH 6 (fV 4) (fC (.int 3)))
    (fSeq (fAsg (fC (.int 50)) (gSubH 6 (fV 4) (fC (.int 0))))
    (fRet (fTup (fCons (fV 5) (fCons (fV 2) fNil))))))
def F__law_made_2 : FS := (fSeq (fAsg (fIf (fB (fOp oLt (fV 3) (fC (.int 6)))) (fMkS 6 "Purse" 3 F_Purse_init [] (fCons (fV 1) (fCons (fV 4) fNil))) (fMkNS 6 "Purse" 3 F_Purse_init 1 1 (fun ds es => ds ++ (es.drop 0).take 1) (fCons (fV 1) fNil) (fCons (fV 4) fNil))) (gN 5))
    F__law_made_1)
def F__law_made_3 : FS := (fSeq (fAsg (fNewL 6 (fOpnN (fCBN nList (fCons (fV 2) fNil)))) (gN 4))
    (fSeq (fIfS (fB (fOp oLt (fV 3) (fC (.int 4)))) (fRet (fTup (fCons (fIf (fB (fOp oEq (fV 3) (fC (.int 2)))) (fMkS 6 "Purse" 3 F_Purse_init [] (fCons (fV 1) (fCons (fUnT (fOpnE (fUnT (fTupN (fV 4))))) fNil))) (fMkNS 6 "Purse" 3 F_Purse_init 1 1 (fun ds es => ds ++ (es.drop 0).take 1) (fCons (fV 1) fNil) (fCons (fUnT (fOpnE (fUnT (fTupN (fV 4))))) fNil))) (fCons (fV 2) fNil)))) fNext)
    F__law_made_2))
def F__law_made : FN := fnS 2 6 (fSeq (fPar 2 3 (fCons (fNewL 6 (fCallW 2 F__law_counts [] (cOwn 0 (cDat (fV 1) cNil)))) (fCons (fCall 2 F__law_take [] (cOwn 0 (cDat (fC (.int 8)) cNil))) fNil)))
    (fSeq (fIfS (fB (fOp oLt (fV 3) (fC (.int 2)))) (fRet (fTup (fCons (fIf (fB (fOp oEq (fV 3) (fC (.int 0)))) (fMkS 6 "Purse" 3 F_Purse_init [.none] (fCons (fV 1) fNil)) (fMkNS 6 "Purse" 3 F_Purse_init 1 1 (fun ds es => ds ++ (es.drop 0).take 1) (fCons (fV 1) fNil) (fCons (fC .none) fNil))) (fCons (fNewL 6 (fRep (fLst (fCons (fC (.int 0)) fNil)) (fCB bLen (fCons (fUnT (fV 1)) fNil)))) fNil)))) fNext)
    F__law_made_3))
def F_Purse_spot_of_1 : FS := (fRet (fIdxT (fFld "Purse" "coin_kinds" (fV 0)) (fV 1)))
def F_Purse_spot_of : FN := fnF 2 2 (fSeq (fIfS (fB (fOp (oIn true) (fV 1) (fUnT (fFld "Purse" "coin_kinds" (fV 0))))) fNever fNext)
    F_Purse_spot_of_1)
def F_Purse_take_1 : FS := (fAugH 4 (fFldU 4 "Purse" "coin_counts" (fV 0)) (fV 3) (fV 2) (fun i j => i - j))
def F_Purse_take : FN := fnS 3 4 (fSeq (fAsg (fOpnE (fMeth "Purse" "spot_of" 2 F_Purse_spot_of [] (fV 0) (cDat (fV 1) cNil))) (gN 3))
    (fSeq (fIfS (fB (fOp oLt (fIxH 4 (fFldU 4 "Purse" "coin_counts" (fV 0)) (fV 3)) (fV 2))) fNever fNext)
    F_Purse_take_1))
def F_Purse_put : FN := fnS 3 3 (fAugH 3 (fFldU 3 "Purse" "coin_counts" (fV 0)) (fOpnE (fMeth "Purse" "spot_of" 2 F_Purse_spot_of [] (fV 0) (cDat (fV 1) cNil))) (fV 2) (fun i j => i + j))
def F__law_deed_right_1 : FS := (fRet (fOp oIs (fIf (fB (fOp oEq (fV 5) (fC (.int 4)))) (fMethS 8 "Purse" "take" 3 F_Purse_take [] (fV 1) (cDat (fV 6) (cDat (fV 7) cNil))) (fMethNS 8 "Purse" "take" 3 F_Purse_take 1 1 (fun ds es => ds ++ (es.drop 0).take 1) (fV 1) (fCons (fV 6) fNil) (fCons (fV 7) fNil))) (fC .none)))
def F__law_deed_right_2 : FS := (fSeq (fAsg (fOp oSub (fIxH 8 (fV 3) (fV 4)) (fV 7)) (gSubH 8 (fV 3) (fV 4)))
    (fSeq (fIfS (fB (fOp oEq (fV 5) (fC (.int 3)))) (fRet (fOp oIs (fMethS 8 "Purse" "take" 3 F_Purse_take [(.int 1)] (fV 1) (cDat (fV 6) cNil)) (fC .none))) fNext)
    F__law_deed_right_1))
def F__law_deed_right_3 : FS := (fSeq (fAsg (fIf (fB (fOp oEq (fV 5) (fC (.int 3)))) (fC (.int 1)) (fCB bMin (fCons (fV 7) (fCons (fIxH 8 (fV 3) (fV 4)) fNil)))) (gN 7))
    F__law_deed_right_2)
def F__law_deed_right_4 : FS := (fSeq (fIfS (fB (fOp oEq (fIxH 8 (fV 3) (fV 4)) (fC (.int 0)))) (fRet (fC (.bool true))) fNext)
    F__law_deed_right_3)
def F__law_deed_right_5 : FS := (fRet (fOp oIs (fIf (fB (fOp oEq (fV 5) (fC (.int 1)))) (fMethS 8 "Purse" "put" 3 F_Purse_put [] (fV 1) (cDat (fV 6) (cDat (fV 7) cNil))) (fMethNS 8 "Purse" "put" 3 F_Purse_put 1 1 (fun ds es => ds ++ (es.drop 0).take 1) (fV 1) (fCons (fV 6) fNil) (fCons (fV 7) fNil))) (fC .none)))
def F__law_deed_right_6 : FS := (fSeq (fIfS (fB (fOp oEq (fV 5) (fC (.int 0)))) (fRet (fOp oIs (fMethS 8 "Purse" "put" 3 F_Purse_put [(.int 1)] (fV 1) (cDat (fV 6) cNil)) (fC .none))) fNext)
    F__law_deed_right_5)
def F__law_deed_right_7 : FS := (fSeq (fAsg (fOp oAdd (fIxH 8 (fV 3) (fV 4)) (fIf (fB (fOp oEq (fV 5) (fC (.int 0)))) (fC (.int 1)) (fV 7))) (gSubH 8 (fV 3) (fV 4)))
    F__law_deed_right_6)
def F__law_deed_right : FN := fnS 4 8 (fSeq (fPar 4 5 (fCons (fCall 2 F__law_take [] (cOwn 0 (cDat (fCB bLen (fCons (fUnT (fV 2)) fNil)) cNil))) (fCons (fCall 2 F__law_take [] (cOwn 0 (cDat (fC (.int 6)) cNil))) fNil)))
    (fSeq (fPar 6 7 (fCons (fOp oIxT (fUnT (fV 2)) (fV 4)) (fCons (fOp oAdd (fC (.int 1)) (fCall 2 F__law_take [] (cOwn 0 (cDat (fOp oIxL (fNew (fLst (fCons (fC (.int 3)) (fCons (fC (.int 99)) fNil)))) (fCall 2 F__law_take [] (cOwn 0 (cDat (fC (.int 2)) cNil)))) cNil)))) fNil)))
    (fSeq (fIfS (fB (fOp oLt (fV 5) (fC (.int 3)))) (fSeq (fIfS (fB (fOp oGt (fOp oAdd (fIxH 8 (fV 3) (fV 4)) (fV 7)) (fC (.int 999)))) (fRet (fC (.bool true))) fNext)
    F__law_deed_right_7) fNext)
    F__law_deed_right_4)))
def F_Purse_counts_told : FM := fnM 1 1 (fRetW (fCBN nList (fCons (fFld "Purse" "coin_counts" (fV 0)) fNil)))
def F_Purse_many : FN := fnF 2 2 (fRet (fOp oIxL (fFld "Purse" "coin_counts" (fV 0)) (fMeth "Purse" "spot_of" 2 F_Purse_spot_of [] (fV 0) (cDat (fV 1) cNil))))
def F_Purse_kinds_told : FN := fnF 1 1 (fRet (fFld "Purse" "coin_kinds" (fV 0)))
def F_Purse_worth_1 : FE := (fOp oMul (fV 1) (fV 2))
def F_Purse_worth : FN := fnF 1 3 (fRet (fCB bSum (fCons (fNew (fLc (iZM (fCons (fUnT (fFld "Purse" "coin_kinds" (fV 0))) (fCons (fFld "Purse" "coin_counts" (fV 0)) fNil))) (gT 2 (gsCons (gN 1) (gsCons (gN 2) gsNil))) fYes F_Purse_worth_1 [1, 2])) fNil)))
def F_Purse_len__ : FN := fnF 1 1 (fRet (fLenRng (fCB bSum (fCons (fFld "Purse" "coin_counts" (fV 0)) fNil))))
def F__law_stands_1 : FS := (fSeq (fAppend 6 (fC (.int 7)))
    (fSeq (fReverse 6)
    (fRet (fCall 2 F__law_same [] (cDat (fNew (fMethW "Purse" "counts_told" 1 F_Purse_counts_told [] (fV 0) cNil)) (cDat (fV 2) cNil))))))
def F__law_stands_2 : FS := (fSeq (fOwn 6 (fMethW "Purse" "counts_told" 1 F_Purse_counts_told [] (fV 0) cNil))
    (fSeq (fIfS (fBorT (fNot (fB (fCall 2 F__law_same [] (cDat (fNew (fLst (fCons (fUnT (fMeth "Purse" "kinds_told" 1 F_Purse_kinds_told [] (fV 0) cNil)) (fCons (fV 6) (fCons (fMeth "Purse" "worth" 1 F_Purse_worth [] (fV 0) cNil) (fCons (fLenX "Purse" F_Purse_len__ (fV 0)) fNil)))))) (cDat (fNew (fLst (fCons (fUnT (fV 1)) (fCons (fV 2) (fCons (fV 3) (fCons (fCB bSum (fCons (fV 2) fNil)) fNil)))))) cNil)))))) (fRet (fC (.bool false))) fNext)
    F__law_stands_1))
def F__law_stands_3 : FS := (fSeq (fAsg (fOp oAdd (fV 3) (fOp oMul (fV 4) (fV 5))) (gN 3))
    (fIfS (fNot (fB (fCall 2 F__law_same [] (cDat (fMeth "Purse" "many" 2 F_Purse_many [] (fV 0) (cDat (fV 4) cNil)) (cDat (fV 5) cNil))))) (fRet (fC (.bool false))) fNext))
def F__law_stands : FN := fnF 3 7 (fSeq (fAsg (fC (.int 0)) (gN 3))
    (fSeq (fFor [4, 5] (iZM (fCons (fUnT (fV 1)) (fCons (fV 2) fNil))) (gT 2 (gsCons (gN 4) (gsCons (gN 5) gsNil))) F__law_stands_3)
    F__law_stands_2))
def F_law_1 : FS := (fRet (fC (.bool true)))
def F_law_2 : FE := (fCall 3 F__law_stands [] (cDat (fOp oIxT (fV 8) (fC (.int 0))) (cDat (fV 9) (cDat (fOp oIxT (fV 8) (fC (.int 1))) cNil))))
def F_law_3 : FS := (fIfS (fNot (fOpnT (fB (fCB bAll (fCons (fNew (fLc (iZ (fCons (fV 5) (fCons (fV 4) fNil))) (gT 2 (gsCons (gN 8) (gsCons (gN 9) gsNil))) fYes F_law_2 [8, 9])) fNil))))) (fRet (fC (.bool false))) fNext)
def F_law_4 : FS := (fSeq (fAsg (fCall 2 F__law_take [] (cOwn 2 (cDat (fC (.int 2)) cNil))) (gN 7))
    (fSeq (fIfS (fNot (fB (fCallS 10 4 F__law_deed_right [] (cOwn 2 (cDat (fOp oIxT (fOp oIxL (fV 5) (fV 7)) (fC (.int 0))) (cDat (fOp oIxL (fV 4) (fV 7)) (cDat (fOp oIxT (fOp oIxL (fV 5) (fV 7)) (fC (.int 1))) cNil))))))) (fRet (fC (.bool false))) fNext)
    F_law_3))
def F_law_5 : FS := (fSeq (fOwn 2 (fCallW 2 F__law_box [] (cDat (fV 0) (cDat (fV 1) cNil))))
    (fSeq (fAsg (fCall 1 F__law_kinds [] (cOwn 2 cNil)) (gN 3))
    (fSeq (fAsg (fNew (fLst (fCons (fV 3) (fCons (fOp oIxL (fNew (fLst (fCons (fV 3) (fCons (fCall 1 F__law_kinds [] (cOwn 2 cNil)) fNil)))) (fCall 2 F__law_take [] (cOwn 2 (cDat (fC (.int 2)) cNil)))) fNil)))) (gN 4))
    (fSeq (fAsg (fNew (fLst (fCons (fCallS 10 2 F__law_made [] (cOwn 2 (cDat (fOp oIxL (fV 4) (fC (.int 0))) cNil))) (fCons (fCallS 10 2 F__law_made [] (cOwn 2 (cDat (fOp oIxL (fV 4) (fC (.int 1))) cNil))) fNil)))) (gN 5))
    (fFor [6, 7, 8, 9] (iR1 (fCons (fC (.int 30)) fNil)) (gN 6) F_law_4)))))
def F_law : FN := fnS 1 10 (fSeq (fFor [1, 2, 3, 4, 5, 6, 7, 8, 9] (iR1 (fCons (fOp oAdd (fC (.int 1)) (fCB bMin (fCons (fC (.int 3)) (fCons (fCB bLen (fCons (fV 0) fNil)) fNil)))) fNil)) (gN 1) F_law_5)
    F_law_1)
local macro_rules | `(tactic| walk_at "f") => `(tactic| simp only [fnF, fSeq, fNext, fRet, fRetN, fAsg, fDrop, fIfS, fAnd, fOr, fNot, fAndV, fOrV, fNotV, fB, fTru, truF, boolF, fOp, fUn, fV, fC, fCons, fNil, fCB, fBM, fCall, cNil, cDat, cOwn, argF, wb, ownIx, fTup, fNew, fLst, fIf, fChain, o2, o2c, oStr, oEqB, oEqD, oNeD, oIsB, isNone, oInSB, oIn, seqF, oIxL, oIxT, oIxS, oIx, fSl, pNo, pSo, sL, sT, sS, listF, tupleF, strF, intF, ownF, fIxO, fLenO, fInO, fAppend, gSubO, gN, gT, gsCons, gsNil, fPar, fPar3, fAug, fFreeze, fOwn, slotF, sz0, sz1, sz2, sz3, sz4, sz5, sz6, sz7, sz8, sz9, sz10, sz11, sz12, sz13, sz14, sz15, sz16, sz17, sz18, sz19, sz20, Nat.reduceLT, Nat.reduceLeDiff, isObjD, fParO1, fParO2, fPar3O3, fAugO, fEqO, fFld, fMk, fMkN, fCallN, List.drop_zero, List.drop_succ_cons, Int.reduceToNat, Int.reducePow, Int.reduceNeg, Int.reduceLE, Int.reduceLT, Int.cast_ofNat_Int, F__law_take, fgt, List.tail_cons, List.headD_cons, at0, at1, at2, at3, at4, Int.zero_add, Int.not_lt, Int.not_le, Nat.not_lt, Nat.not_le, ite_not, fYes, fIsi, oCatL, oCatT, fRep, uNeg, bLenS, bLen, bAbs, bMin, bMax, bDivmod, bAll, bAny, bSum, bInt, bBool, bList, bTuple, one, two, iL, iT, iS, iR1, iR2, iR3, iE, iZ, fBreak, fCont, fNever, fnM, fRetO, fRetW, fCallW, fCallNW, fCBN, nList, nSortI, nSortS, fOpN, nCat, fSlN, fRev, fPopAt, fPop, fInsert, fExtend, fReverse, fIsiLT, bMax3, F__law_same, fParOO, fnX, fCallX, fCallNX, fRaise, fTryK, fIsX, fWhat, excF, excD, tabL, fldD, noX, oIsT, isBool, fCallV, funF, tabF, fSortLam, fSumO, fnD, iA, fRevS, fRevT, oNumD, numD_int, numD_bool, bStrV, strD, iZM, oIsntT, fCallT, fCallXW, nSortP, fnXM, fSetSl, fBorT, fBorE, frz, plainD,
  List.getElem?_cons_zero, List.getElem?_cons_succ, List.getElem?_nil, List.cons_append, List.nil_append, List.append_nil, List.set_cons_zero, List.set_cons_succ, List.map_cons, List.map_nil, List.length_cons, List.length_nil, List.nodup_nil, List.nodup_cons, List.not_mem_nil, not_false_eq_true, and_self, and_true, true_and, List.replicate_succ, List.replicate_zero, List.take_succ_cons, List.take_zero, Nat.reduceSub, Nat.reduceAdd, Nat.zero_add, decide_eq_true_eq, Bool.not_eq_true', decide_eq_false_iff_not, if_true, if_false, Bool.not_true, Bool.not_false, Bool.false_eq_true, reduceIte, id, not_true_eq_false, reduceCtorEq, fFor, fLc, fWhile, wipeF, kit_none_int, kit_none_bool, kit_none_str, kit_none_list, kit_none_tuple, kit_bool_int, kit_bool_bool, kit_bool_str, kit_bool_list, kit_bool_tuple, kit_int_int, kit_int_bool, kit_int_str, kit_int_list, kit_int_tuple, kit_str_int, kit_str_bool, kit_str_str, kit_str_list, kit_str_tuple, kit_list_int, kit_list_bool, kit_list_str, kit_list_list, kit_list_tuple, kit_tuple_int, kit_tuple_bool, kit_tuple_str, kit_tuple_list, kit_tuple_tuple, Option.some.injEq, exists_eq_left', exists_eq_left, List.all_cons, List.all_nil, Bool.and_true, Bool.and_self, List.cons.injEq, Nat.reduceMul , slotL, stF, fnS, fnMS, fnXS, fnXMS, fnU, fnUS, fCallS, fCallWS, fCallXS, fCallTS, fCallNS, fCallNXS, fCallU, fOwnV, fAugR, fPar3O2, fRetV, fRetO, fMeth, fMethW, fMethS, fMethWS, fMkZ, fMkNZ, fMkS, fMkNS, fNewL, fFldU, fSetF, fAugF, fBorT, fBorE, noSt, frz, oShlW, nSortSet, fIfN, putD, nSortSetT, fUnT, unT, fUnD, fEqOU, fTupN, fCntT, fIdxT, tnF, tnD, gSubH, fAugH, fAppH, fIxH, fNo, iEM, fDNew, fDGet, fDIn, fDPut, fDAug, fDGet1, fDGet2, fDLen, keyF, fLenRng, fLenX, fMethN, fMethNS, List.drop_nil, List.tail_cons, List.drop_succ_cons, List.drop_zero, List.headD_cons, immD, immAll, obj_pD, fld_m1, fld_m2, fld_m3, fld_m4, fld_m5, fld_m6, fld_m7])

local macro_rules | `(tactic| walk_at "w") => `(tactic| try walk_at "f")
/-! ### how a law begins, over data -/
theorem one_or (p : Prop) [Decidable p] : (if p then (1 : Int) else 0) = 0 ∨ (if p then (1 : Int) else 0) = 1 := by
  by_cases h : p
  · exact .inr (if_pos h)
  · exact .inl (if_neg h)
theorem f_box {ns : List Int} {k : Nat} (hk : k < 1000) {P : List PyData → List Sl → Prop} (h : ∀ ds sl, BoxD ds 0 → P ds sl) : F__law_box [.fz (.list (ns.map .int)), .fz (.int k)] P := by
  have fin : ∀ c : Int, F__law_box_1 { nx := fun _ => False, rt := fun _ _ => False, ro := fun ds ρ' => P ds (ρ'.take 2) } [.fz (.list (ns.map .int)), .fz (.int k), .fz (.int c)] := by
    intro c
    unfold F__law_box_1
    walk_at "f"
    refine ⟨⟨by decide, by decide, by decide⟩, ?_⟩
    have hz : ∀ z : Int, (z = 0 ∨ z = 1) → (CMul (if c < 0 then -c else c) z) ∧ 0 ≤ (if c < 0 then -c else c) * z := by
      intro z hz
      refine ⟨.inr (by rcases hz with rfl | rfl <;> decide), ?_⟩
      rcases hz with rfl | rfl
      · rw [Int.mul_zero]; exact Int.le_refl _
      · rw [Int.mul_one]; split <;> omega
    have hz' := hz (if 1000000000000000000 ≤ (if c < 0 then -c else c) then 1 else 0) (one_or _)
    have m0 : 0 ≤ c % 2147483629 := Int.emod_nonneg _ (by decide)
    have m1 : c % 2147483629 < 2147483629 := Int.emod_lt_of_pos _ (by decide)
    exact ⟨hz'.1, .inl ⟨by decide, by decide⟩, .inr ⟨by decide, by decide⟩, h _ _ ⟨_, _, _, rfl, hz'.2, Int.emod_nonneg _ (by decide), Int.emod_lt_of_pos _ (by decide), by decide, by decide⟩⟩
  unfold F__law_box
  walk_at "f"
  rw [List.length_map]
  by_cases hl : (k : Int) < ns.length
  · rw [if_pos hl]
    have hkn : k < ns.length := by omega
    refine ⟨.int ns[k], by rw [atI_map, atI_nat' (List.getElem?_eq_getElem hkn)]; rfl, ?_⟩
    exact fin _
  · rw [if_neg hl]
    exact fin _
/-! lists of numbers as data -/
theorem lay_ints (vs : List Int) : PyData.canLayAll0 (vs.map .int) = true ∧ PyData.depthAll (vs.map .int) ≤ 0 := by
  induction vs with
  | nil => exact ⟨rfl, Nat.le_refl _⟩
  | cons v vs ih =>
    refine ⟨?_, ?_⟩
    · show (true && PyData.canLayAll0 (vs.map .int)) = true
      rw [ih.1]; rfl
    · show max 0 (PyData.depthAll (vs.map .int)) ≤ 0
      have := ih.2
      omega
theorem shaped_ints (vs : List Int) : SeqAt.shaped (.list (vs.map .int)) = true := by
  have h := lay_ints vs
  show (PyData.canLayAll0 (vs.map .int) && decide (PyData.depthAll (vs.map .int) + 1 ≤ 64)) = true
  rw [h.1, decide_eq_true (by omega)]
  rfl
theorem eqv_ints (vs : List Int) : PyData.eqv (.list (vs.map .int)) (.list (vs.map .int)) = true := SeqAt.eqv_refl _ (SeqAt.canLay_of_shaped (shaped_ints vs))
theorem cutD_from {xs : List PyData} {k : Nat} (h : k ≤ xs.length) : cutD xs (some (k : Int)) none = xs.drop k := by
  unfold cutD
  rw [HT.sIx_none, HT.sIx_nat, Nat.min_eq_left h, ← List.length_drop, List.take_length]
theorem ints_facts (vs : List Int) : PyData.depthAll (vs.map .int) = 0 ∧ nodesAll (vs.map .int) = vs.length := by
  induction vs with
  | nil => exact ⟨rfl, rfl⟩
  | cons v vs ih =>
    refine ⟨?_, ?_⟩
    · show max 0 (PyData.depthAll (vs.map .int)) = 0
      rw [ih.1]; rfl
    · show nodes (.int v) + nodesAll (vs.map .int) = vs.length + 1
      rw [ih.2, show nodes (.int v) = 1 from rfl]; omega
theorem same_ints {vs : List Int} (few : vs.length ≤ 1000) {Q : List Sl → Prop} (q : ∀ sl, Q sl) : PyData.list (vs.map .int) = .list (vs.map .int) ∧ SeqAt.shaped (.list (vs.map .int)) = true ∧ (PyData.list (vs.map .int)).depth < 8 ∧ nodes (.list (vs.map .int)) ≤ 1000000 ∧ ∀ sl, Q sl := by
  obtain ⟨h1, h2⟩ := ints_facts vs
  refine ⟨rfl, shaped_ints vs, ?_, ?_, q⟩
  · show PyData.depthAll (vs.map .int) + 1 < 8
    rw [h1]; decide
  · show nodesAll (vs.map .int) + 1 ≤ 1000000
    rw [h2]; omega
/-! ### kinds drawn, marked -/
theorem nodup_le : ∀ (ms ns : List Int), ms.Nodup → (∀ k, k ∈ ms → k ∈ ns) → ms.length ≤ ns.length
  | [], _, _, _ => Nat.zero_le _
  | x :: r, ns, hn, hs => by
    have hx := hs x List.mem_cons_self
    obtain ⟨h1, h2⟩ := List.nodup_cons.mp hn
    have := nodup_le r (ns.erase x) h2 fun k hk => (List.mem_erase_of_ne (fun e => h1 (by rw [← e]; exact hk))).mpr (hs k (List.mem_cons_of_mem _ hk))
    rw [List.length_erase_of_mem hx] at this
    have l := List.length_pos_of_mem hx
    rw [List.length_cons]
    omega
/-- kinds: one to eight, to 2,000 -/
def Kinds (ks : List Nat) : Prop := 0 < ks.length ∧ ks.length ≤ 8 ∧ (∀ k ∈ ks, 0 < k ∧ k ≤ 2000) ∧ ks.Pairwise (· < ·)
theorem kinds_of {ns : List Nat} {ms : List Int} (h0 : 0 < ns.length) (h8 : ns.length ≤ 8) (hn : ∀ k ∈ ns, 0 < k ∧ k ≤ 2000) (pw : ms.Pairwise (· < ·)) (hm : ∀ k, k ∈ ms ↔ k ∈ ns.map fun n : Nat => (n : Int)) : ∃ ks, Kinds ks ∧ ms.map PyData.int = ks.map natD := by
  have hle := nodup_le ms (ns.map fun n : Nat => (n : Int)) (pw.imp fun h => Int.ne_of_lt h) fun k hk => (hm k).mp hk
  rw [List.length_map] at hle
  have pos : ∀ k ∈ ms, 0 < k ∧ k ≤ 2000 := fun k hk => by
    obtain ⟨n, h1, rfl⟩ := List.mem_map.mp ((hm k).mp hk)
    have := hn n h1
    omega
  refine ⟨ms.map Int.toNat, ⟨?_, by rw [List.length_map]; omega, fun k hk => ?_, ?_⟩, ?_⟩
  · rw [List.length_map]
    match ns, h0 with
    | n :: _, _ => exact List.length_pos_of_mem ((hm n).mpr List.mem_cons_self)
  · obtain ⟨z, hz, rfl⟩ := List.mem_map.mp hk
    have := pos z hz
    omega
  · refine List.pairwise_map.mpr (List.Pairwise.imp_of_mem (fun {a b} ha hb h => ?_) pw)
    have := pos a ha
    have := pos b hb
    omega
  · rw [List.map_map]
    refine List.map_congr_left fun z hz => ?_
    have := pos z hz
    show PyData.int z = .int ((z.toNat : Nat) : Int)
    rw [show ((z.toNat : Nat) : Int) = z from by omega]
def Fit (ns : List Nat) : Prop := ∀ k ∈ ns, 0 < k ∧ k ≤ 2000
theorem erase_map {α β : Type} (f : α → β) : ∀ (xs : List α) (i : Nat), (xs.map f).eraseIdx i = (xs.eraseIdx i).map f
  | [], _ => rfl
  | _ :: _, 0 => rfl
  | x :: xs, i + 1 => by
    show f x :: (xs.map f).eraseIdx i = f x :: (xs.eraseIdx i).map f
    rw [erase_map f xs i]
theorem f_kinds_3 {ds : List PyData} {m n : Nat} {s2 s3 : PyData} {pool : List Nat} (hb : BoxD ds m) (hm : m ≤ 100000) (h0 : 0 < n) (hn : n ≤ 8) (hp : pool.length = 8) (hf : Fit pool) {P : PyData → En → Prop} (h : ∀ ks ds', Kinds ks → BoxD ds' (m + 8) → P (kD ks) [.own ds']) {E : FEnds} (hE : ∀ d ds' sl, P d [.own ds'] → E.rt d (.own ds' :: sl)) :
    F__law_kinds_3 E [.own ds, .fz (natD n), .fz s2, .fz s3, .own (pool.map natD), .own [], .no] := by
  have lin : sizeLine = 16777216 := by decide +kernel
  unfold F__law_kinds_3
  walk_at "w"
  refine ⟨by omega, by omega, ?_⟩
  rw [show ((n : Int)).toNat = n from Int.toNat_natCast n]
  refine for_range (fun i ρ => ∃ (pl fd : List Nat) (ds' : List PyData), pl.length + i = 8 ∧ fd.length = i ∧ Fit pl ∧ Fit fd ∧ BoxD ds' (m + i) ∧ ρ = [.own ds', .fz (natD n), .fz s2, .fz s3, .own (pl.map natD), .own (fd.map natD), .no]) ⟨pool, [], ds, hp, rfl, hf, fun k hk => (by cases hk), hb, rfl⟩ ?_ ?_
  · rintro i ρ hi ⟨pl, fd, ds1, l1, l2, f1, f2, b1, rfl⟩
    unfold F__law_kinds_2
    walk_at "w"
    rw [List.length_map]
    refine take_step b1 (by omega) (by omega) (by omega) fun u ds2 u0 u1 b2 => ?_
    obtain ⟨v, rfl⟩ := Int.eq_ofNat_of_zero_le u0
    walk_at "w"
    obtain ⟨k, hk⟩ : ∃ k, pl[v]? = some k := ⟨_, List.getElem?_eq_getElem (by omega)⟩
    have sk := f1 k (List.mem_of_getElem? hk)
    refine ⟨by omega, by omega, v, natD k, (ixN_seq (ixN_nat (by omega))).1, by rw [List.getElem?_map, hk]; rfl, by rw [List.length_map]; omega, pl.eraseIdx v, fd ++ [k], ds2, ?_, by rw [List.length_append, l2]; rfl, fun y hy => f1 y (List.mem_of_mem_eraseIdx hy), fun y hy => ?_, b2, rfl, by rw [erase_map], by rw [List.map_append]; rfl⟩
    · rw [List.length_eraseIdx, if_pos (by omega)]
      omega
    · rcases List.mem_append.mp hy with h | h
      · exact f2 y h
      · rw [List.mem_singleton.mp h]; exact sk
  · rintro ρ ⟨pl, fd, ds1, l1, l2, f1, f2, b1, rfl⟩
    unfold F__law_kinds_1
    walk_at "w"
    have : (fd.map natD) = (fd.map fun n : Nat => (n : Int)).map PyData.int := by rw [List.map_map]; rfl
    rw [this]
    refine intsF_map ⟨by rw [List.length_map]; omega, fun ms pw hms => ?_⟩
    obtain ⟨ks, hks, e⟩ := kinds_of (by omega) (by omega) f2 pw hms
    rw [e]
    exact hE _ _ _ (h ks ds1 hks (b1.mono (by omega)))
theorem f_kinds {ds : List PyData} {m : Nat} (hb : BoxD ds m) (hm : m ≤ 10000) {P : PyData → List Sl → Prop} (h : ∀ ks ds', Kinds ks → BoxD ds' (m + 18) → P (kD ks) [.own ds']) : F__law_kinds [.own ds] P := by
  have lin : sizeLine = 16777216 := by decide +kernel
  unfold F__law_kinds
  walk_at "w"
  refine take_step hb (by omega) (by omega) (by omega) fun r ds1 r0 r1 b1 => ?_
  walk_at "w"
  refine take_step b1 (by omega) (by omega) (by omega) fun s ds2 s0 s1 b2 => ?_
  walk_at "w"
  obtain ⟨n, hn⟩ := Int.eq_ofNat_of_zero_le (show 0 ≤ 1 + r by omega)
  by_cases c : s < 3
  · rw [if_pos c]
    have : ∃ pool : List Nat, pool.length = 8 ∧ Fit pool ∧ atI [PyData.tuple [.int 1, .int 2, .int 5, .int 10, .int 20, .int 50, .int 100, .int 200], .tuple [.int 1, .int 3, .int 6, .int 12, .int 24, .int 30, .int 60, .int 240], .tuple [.int 2, .int 3, .int 7, .int 11, .int 13, .int 40, .int 99, .int 2000]] s = some (.tuple (pool.map natD)) := by
      obtain ⟨w, rfl⟩ := Int.eq_ofNat_of_zero_le s0
      have : w = 0 ∨ w = 1 ∨ w = 2 := by omega
      rcases this with rfl | rfl | rfl
      · exact ⟨[1, 2, 5, 10, 20, 50, 100, 200], rfl, by unfold Fit; decide, rfl⟩
      · exact ⟨[1, 3, 6, 12, 24, 30, 60, 240], rfl, by unfold Fit; decide, rfl⟩
      · exact ⟨[2, 3, 7, 11, 13, 40, 99, 2000], rfl, by unfold Fit; decide, rfl⟩
    obtain ⟨pool, p8, pf, ep⟩ := this
    refine ⟨_, ep, ?_⟩
    walk_at "w"
    rw [hn]
    exact f_kinds_3 b2 (by omega) (by omega) (by omega) p8 pf (fun ks ds' hk hb' => h ks ds' hk (hb'.mono (by omega))) fun d ds' sl h => h
  · rw [if_neg c]
    refine lc_inv (List.range 8) (fun k : Nat => .int (0 + (k : Int))) (fun j acc ρ => ∃ (ns : List Nat) (ds' : List PyData), ns.length = j ∧ Fit ns ∧ BoxD ds' (m + 2 + j) ∧ acc = ns.map natD ∧ ρ = [.own ds', .fz (.int (1 + r)), .fz (.int s), .fz (.list [PyData.tuple [.int 1, .int 2, .int 5, .int 10, .int 20, .int 50, .int 100, .int 200], .tuple [.int 1, .int 3, .int 6, .int 12, .int 24, .int 30, .int 60, .int 240], .tuple [.int 2, .int 3, .int 7, .int 11, .int 13, .int 40, .int 99, .int 2000]]), .no, .no, .no]) rfl rfl ⟨[], ds2, rfl, fun k hk => (by cases hk), b2, rfl, rfl⟩ ?_ ?_
    · rintro j x acc ρ hx hj ⟨ns, ds3, ln, hns, b3, rfl, rfl⟩
      rw [List.length_range] at hj
      rw [List.getElem?_range hj] at hx
      cases hx
      unfold F__law_kinds_4
      walk_at "w"
      refine take_step b3 (by omega) (by omega) (by omega) fun u ds4 u0 u1 b4 => ?_
      obtain ⟨v, hv⟩ := Int.eq_ofNat_of_zero_le (show 0 ≤ 1 + u by omega)
      walk_at "w"
      rw [hv]
      refine ⟨by rw [List.length_map]; omega, ns ++ [v], ds4, by rw [List.length_append, ln]; rfl, fun y hy => ?_, b4, by rw [List.map_append]; rfl, rfl⟩
      rcases List.mem_append.mp hy with h | h
      · exact hns y h
      · rw [List.mem_singleton.mp h]; omega
    · rintro acc ρ ⟨ns, ds3, ln, hns, b3, rfl, e⟩
      rw [List.length_range] at ln b3
      rw [e]
      walk_at "w"
      rw [hn]
      exact f_kinds_3 b3 (by omega) (by omega) (by omega) ln hns (fun ks ds' hk hb' => h ks ds' hk (hb'.mono (by omega))) fun d ds' sl h => h
/-! ### purses over data: what is read -/
theorem uns_map {k : PyData} {ks : List Nat} : unT (kD ks) = .tuple (ks.map natD) := rfl
theorem inD_nats (k : Nat) (ks : List Nat) : inD (natD k) (ks.map natD) = decide (k ∈ ks) := by
  unfold inD
  rw [List.any_map]
  refine Bool.eq_iff_iff.mpr ?_
  rw [List.any_eq_true, decide_eq_true_eq]
  constructor
  · rintro ⟨y, hy, e⟩
    have e' : ((y : Int) == (k : Int)) = true := e
    have : y = k := by have := eq_of_beq e'; omega
    exact this ▸ hy
  · exact fun h => ⟨k, h, (beq_self_eq_true ((k : Int)) : ((k : Int) == (k : Int)) = true)⟩
theorem flat_nats (ks : List Nat) : (ks.map natD).all flatD = true := by
  rw [List.all_map]
  exact List.all_eq_true.mpr fun _ _ => rfl
theorem lay_nats (ks : List Nat) : PyData.canLayAll0 (ks.map natD) = true ∧ PyData.depthAll (ks.map natD) ≤ 0 ∧ nodesAll (ks.map natD) = ks.length := by
  induction ks with
  | nil => exact ⟨rfl, Nat.le_refl _, rfl⟩
  | cons k r ih =>
    refine ⟨?_, ?_, ?_⟩
    · show (true && PyData.canLayAll0 (r.map natD)) = true
      rw [ih.1]; rfl
    · show max 0 (PyData.depthAll (r.map natD)) ≤ 0
      have := ih.2.1
      omega
    · show 1 + nodesAll (r.map natD) = r.length + 1
      rw [ih.2.2]; omega
theorem shaped_natsT (ks : List Nat) : SeqAt.shaped (.tuple (ks.map natD)) = true := by
  obtain ⟨h1, h2, _⟩ := lay_nats ks
  show (PyData.canLayAll0 (ks.map natD) && decide (PyData.depthAll (ks.map natD) + 1 ≤ 64)) = true
  rw [h1, decide_eq_true (by omega)]
  rfl
theorem shaped_natsL (ks : List Nat) : SeqAt.shaped (.list (ks.map natD)) = true := shaped_natsT ks
theorem pw_lt {ks : List Nat} (pw : ks.Pairwise (· < ·)) {i j a b : Nat} (hi : ks[i]? = some a) (hj : ks[j]? = some b) (h : i < j) : a < b := by
  obtain ⟨h1, e1⟩ := List.getElem?_eq_some_iff.mp hi
  obtain ⟨h2, e2⟩ := List.getElem?_eq_some_iff.mp hj
  rw [← e1, ← e2]
  exact List.pairwise_iff_getElem.mp pw i j h1 h2 h
theorem f_spot {ks cs : List Nat} {i k : Nat} (pw : ks.Pairwise (· < ·)) (h : ks[i]? = some k) {P : PyData → List Sl → Prop} (q : ∀ sl, P (natD i) sl) : F_Purse_spot_of [.fz (pD ks cs), .fz (natD k)] P := by
  have hm := List.mem_of_getElem? h
  unfold F_Purse_spot_of
  walk_at "w"
  refine ⟨_, fld_kn _ _, ?_⟩
  show flatD (natD k) = true ∧ (ks.map natD).all flatD = true ∧ (if inD (natD k) (ks.map natD) = false then False else F_Purse_spot_of_1 _ _)
  refine ⟨rfl, flat_nats ks, ?_⟩
  rw [inD_nats, decide_eq_true hm, if_neg (by decide)]
  unfold F_Purse_spot_of_1
  walk_at "w"
  refine ⟨_, fld_kn _ _, ?_⟩
  refine ⟨shaped_natsT ks, rfl, by show 0 < 63; decide, i, natD k, by rw [List.getElem?_map, h]; rfl, (beq_self_eq_true (k : Int) : ((k : Int) == (k : Int)) = true), fun m z hm hz => ?_, q _⟩
  rw [List.getElem?_map] at hz
  cases e : ks[m]? with
  | none => rw [e] at hz; cases hz
  | some a =>
    rw [e] at hz
    cases hz
    have := pw_lt pw e h hm
    show ((a : Int) == (k : Int)) = false
    exact beq_false_of_ne (by omega)
theorem atI_natD {ks : List Nat} {i k : Nat} (h : ks[i]? = some k) : atI (ks.map natD) (i : Int) = some (natD k) := by
  rw [atI_map, atI_nat' h]
  rfl
theorem f_many {ks cs : List Nat} {i k c : Nat} (pw : ks.Pairwise (· < ·)) (h : ks[i]? = some k) (hc : cs[i]? = some c) {P : PyData → List Sl → Prop} (q : ∀ sl, P (natD c) sl) : F_Purse_many [.fz (pD ks cs), .fz (natD k)] P := by
  unfold F_Purse_many
  walk_at "w"
  refine ⟨_, fld_cn _ _, ?_⟩
  refine f_spot pw h fun _ => ?_
  exact ⟨_, atI_natD hc, q _⟩
theorem sum_cast (f : Nat × Nat → Nat) : ∀ l : List (Nat × Nat), (l.map fun q => ((f q : Nat) : Int)).sum = (((l.map f).sum : Nat) : Int)
  | [] => rfl
  | q :: l => by
    rw [List.map_cons, List.sum_cons, List.map_cons, List.sum_cons, sum_cast f l]
    omega
theorem sum_nats : ∀ l : List Nat, (l.map fun n : Nat => (n : Int)).sum = ((l.sum : Nat) : Int)
  | [] => rfl
  | q :: l => by
    rw [List.map_cons, List.sum_cons, List.sum_cons, sum_nats l]
    omega
theorem ints_nats {cs : List Nat} {k : List Int → Prop} (h : k (cs.map fun n : Nat => (n : Int))) : intsF (cs.map natD) k := by
  rw [show cs.map natD = (cs.map fun n : Nat => (n : Int)).map PyData.int from by rw [List.map_map]; rfl]
  exact intsF_map h
def worthL (ks cs : List Nat) : Nat := ((ks.zip cs).map fun z => z.1 * z.2).sum
theorem zipD_nats (ks cs : List Nat) : zipD (ks.map natD) (cs.map natD) = (ks.zip cs).map fun z => .tuple [natD z.1, natD z.2] := zipD_map ks cs natD natD
theorem f_worth {ks cs : List Nat} (h8 : ks.length ≤ 1000) (hk : ∀ k ∈ ks, k ≤ 100000) (hc : ∀ c ∈ cs, c ≤ 100000) {P : PyData → List Sl → Prop} (q : ∀ sl, P (natD (worthL ks cs)) sl) : F_Purse_worth [.fz (pD ks cs)] P := by
  have lin : sizeLine = 16777216 := by decide +kernel
  have lz : (ks.zip cs).length ≤ 1000 := by rw [List.length_zip]; omega
  unfold F_Purse_worth
  walk_at "w"
  refine ⟨_, fld_kn _ _, _, fld_cn _ _, ?_⟩
  show lcW (zipD (ks.map natD) (cs.map natD)) _ _ _ _ _ _
  rw [zipD_nats]
  refine lc_map (ks.zip cs) _ (fun z => some (natD (z.1 * z.2))) rfl rfl (by omega) (fun z R acc hz hacc hR => ?_) ?_
  · have h1 := hk _ (List.of_mem_zip hz).1
    have h2 := hc _ (List.of_mem_zip hz).2
    unfold F_Purse_worth_1
    walk_at "w"
    have e1 : (z.1 : Int) * (z.2 : Int) = ((z.1 * z.2 : Nat) : Int) := by push_cast; rfl
    refine ⟨.inl ⟨by omega, by omega⟩, hacc, ?_⟩
    rw [e1]
    exact hR
  · rw [filterMap_some, show (ks.zip cs).map (fun z => natD (z.1 * z.2)) = ((ks.zip cs).map fun z => ((z.1 * z.2 : Nat) : Int)).map PyData.int from by rw [List.map_map]; rfl]
    refine intsF_map ?_
    rw [sum_cast fun z => z.1 * z.2]
    exact q _
theorem f_lenp {ks cs : List Nat} {P : PyData → List Sl → Prop} (hs : cs.sum < 9223372036854775808) (q : ∀ sl, P (natD cs.sum) sl) : F_Purse_len__ [.fz (pD ks cs)] P := by
  unfold F_Purse_len__
  walk_at "w"
  refine ⟨_, fld_cn _ _, ?_⟩
  refine ints_nats ?_
  rw [sum_nats]
  exact ⟨by omega, by omega, q _⟩
theorem f_counts_told {ks cs : List Nat} {P : List PyData → List Sl → Prop} (q : ∀ sl, P (cs.map natD) sl) : F_Purse_counts_told [.fz (pD ks cs)] P := by
  unfold F_Purse_counts_told
  walk_at "w"
  exact ⟨_, fld_cn _ _, q _⟩
theorem f_kinds_told {ks cs : List Nat} {P : PyData → List Sl → Prop} (q : ∀ sl, P (kD ks) sl) : F_Purse_kinds_told [.fz (pD ks cs)] P := by
  unfold F_Purse_kinds_told
  walk_at "w"
  exact ⟨_, fld_kn _ _, q _⟩
/-- counts of so many kinds -/
def Counts (ks cs : List Nat) : Prop := cs.length = ks.length ∧ ∀ c ∈ cs, c ≤ 999
theorem f_counts {ds : List PyData} {m : Nat} {ks : List Nat} (hb : BoxD ds m) (hm : m ≤ 10000) (k8 : ks.length ≤ 8) {P : List PyData → List Sl → Prop} (h : ∀ (cs : List Nat) ds', cs.length = ks.length → (∀ c ∈ cs, c ≤ 99) → BoxD ds' (m + 24) → P (cs.map natD) [.own ds', .fz (kD ks)]) : F__law_counts [.own ds, .fz (kD ks)] P := by
  have lin : sizeLine = 16777216 := by decide +kernel
  unfold F__law_counts
  walk_at "w"
  show lcW (ks.map natD) _ _ _ _ _ _
  refine lc_inv ks natD (fun j acc ρ => ∃ (cs : List Nat) (ds' : List PyData), cs.length = j ∧ (∀ c ∈ cs, c ≤ 99) ∧ BoxD ds' (m + 3 * j) ∧ acc = cs.map natD ∧ ρ = [.own ds', .fz (kD ks), .no]) rfl rfl ⟨[], ds, rfl, by simp, hb, rfl, rfl⟩ ?_ ?_
  · rintro j x acc ρ hx hj ⟨cs, ds2, lc, hcs, b2, rfl, rfl⟩
    unfold F__law_counts_1
    walk_at "w"
    refine take_step b2 (by omega) (by omega) (by omega) fun u1 ds3 u10 u11 b3 => ?_
    walk_at "w"
    refine take_step b3 (by omega) (by omega) (by omega) fun u2 ds4 u20 u21 b4 => ?_
    walk_at "w"
    refine take_step b4 (by omega) (by omega) (by omega) fun u3 ds5 u30 u31 b5 => ?_
    walk_at "w"
    obtain ⟨v1, rfl⟩ := Int.eq_ofNat_of_zero_le u10
    obtain ⟨v2, rfl⟩ := Int.eq_ofNat_of_zero_le u20
    have : ∃ c : Nat, c ≤ 99 ∧ atI [PyData.int 0, .int 1, .int (v1 : Int), .int (v2 : Int), .int 99] u3 = some (natD c) := by
      obtain ⟨w, rfl⟩ := Int.eq_ofNat_of_zero_le u30
      have : w = 0 ∨ w = 1 ∨ w = 2 ∨ w = 3 ∨ w = 4 := by omega
      rcases this with rfl | rfl | rfl | rfl | rfl
      · exact ⟨0, by omega, rfl⟩
      · exact ⟨1, by omega, rfl⟩
      · exact ⟨v1, by omega, rfl⟩
      · exact ⟨v2, by omega, rfl⟩
      · exact ⟨99, by omega, rfl⟩
    obtain ⟨c, hc9, hc⟩ := this
    refine ⟨_, hc, ?_⟩
    walk_at "w"
    refine ⟨by rw [List.length_map]; omega, cs ++ [c], ds5, by rw [List.length_append, lc]; rfl, fun y hy => ?_, b5.mono (by omega), by rw [List.map_append]; rfl, rfl⟩
    rcases List.mem_append.mp hy with h | h
    · exact hcs y h
    · rw [List.mem_singleton.mp h]; exact hc9
  · rintro acc ρ ⟨cs, ds2, lc, hcs, b2, rfl, e⟩
    rw [e]
    walk_at "w"
    exact h cs ds2 lc hcs (b2.mono (by omega))
/-! ### purses put to and taken from -/
theorem zip_get {ks cs : List Nat} {i : Nat} {z : Nat × Nat} (h : (ks.zip cs)[i]? = some z) : ks[i]? = some z.1 ∧ cs[i]? = some z.2 := (List.getElem?_zip_eq_some).mp h
theorem sum_le {B : Nat} : ∀ {cs : List Nat}, (∀ c ∈ cs, c ≤ B) → cs.sum ≤ cs.length * B
  | [], _ => Nat.zero_le _
  | c :: r, h => by
    have := sum_le (cs := r) fun x hx => h x (List.mem_cons_of_mem _ hx)
    have := h c List.mem_cons_self
    rw [List.sum_cons, List.length_cons, Nat.add_mul]
    omega
theorem lay_list {cs : List Nat} (h : cs.length ≤ 1000) : (PyData.list (cs.map natD)).depth < 8 ∧ nodes (.list (cs.map natD)) ≤ 1000000 := by
  obtain ⟨_, h2, h3⟩ := lay_nats cs
  refine ⟨by show PyData.depthAll _ + 1 < 8; omega, by show nodesAll _ + 1 ≤ _; omega⟩
theorem four_ok {ks cs : List Nat} (a b : Nat) (h : ks.length ≤ 1000) (hc : cs.length ≤ 1000) : SeqAt.shaped (.list [.tuple (ks.map natD), .list (cs.map natD), natD a, natD b]) = true ∧ (PyData.list [.tuple (ks.map natD), .list (cs.map natD), natD a, natD b]).depth < 8 ∧ nodes (.list [.tuple (ks.map natD), .list (cs.map natD), natD a, natD b]) ≤ 1000000 := by
  obtain ⟨k1, k2, k3⟩ := lay_nats ks
  obtain ⟨c1, c2, c3⟩ := lay_nats cs
  refine ⟨?_, ?_, ?_⟩
  · show ((PyData.canLayAll0 (ks.map natD) && (PyData.canLayAll0 (cs.map natD) && (true && (true && true)))) && decide (max (PyData.depthAll (ks.map natD) + 1) (max (PyData.depthAll (cs.map natD) + 1) (max 0 (max 0 0))) + 1 ≤ 64)) = true
    rw [k1, c1, decide_eq_true (by omega)]
    rfl
  · show max (PyData.depthAll (ks.map natD) + 1) (max (PyData.depthAll (cs.map natD) + 1) (max 0 (max 0 0))) + 1 < 8
    omega
  · show (nodesAll (ks.map natD) + 1 + (nodesAll (cs.map natD) + 1 + (1 + (1 + 0)))) + 1 ≤ 1000000
    omega
theorem f_stands {ks cs : List Nat} (hk : Kinds ks) (hc : Counts ks cs) {P : PyData → List Sl → Prop} (q : ∀ sl, P (.bool true) sl) : F__law_stands [.fz (pD ks cs), .fz (kD ks), .fz (.list (cs.map natD))] P := by
  have lin : sizeLine = 16777216 := by decide +kernel
  obtain ⟨k0, k8, kb, pw⟩ := hk
  obtain ⟨cl, cb⟩ := hc
  unfold F__law_stands
  walk_at "w"
  show forW _ (zipD (ks.map natD) (cs.map natD)) _ _ _ _
  rw [zipD_nats]
  refine for_map (ks.zip cs) _ (fun i ρ => ρ = [.fz (pD ks cs), .fz (kD ks), .fz (.list (cs.map natD)), .fz (natD ((((ks.zip cs).take i).map fun z => z.1 * z.2).sum)), .no, .no, .no]) rfl rfl ?_ ?_
  · rintro i z ρ hz hi rfl
    obtain ⟨hk1, hc1⟩ := zip_get hz
    unfold F__law_stands_3
    walk_at "w"
    have h1 := kb _ (List.mem_of_getElem? hk1)
    have h2 := cb _ (List.mem_of_getElem? hc1)
    have e1 : (z.1 : Int) * (z.2 : Int) = ((z.1 * z.2 : Nat) : Int) := by push_cast; rfl
    refine ⟨.inl ⟨by omega, by omega⟩, ?_⟩
    refine f_many pw hk1 hc1 fun _ => ⟨rfl, rfl, by show 0 < 8; decide, by show 1 ≤ _; decide, fun _ => ?_⟩
    rw [e1, List.take_add_one, hz, List.map_append, List.sum_append]
    rfl
  · rintro ρ rfl
    rw [List.take_length]
    unfold F__law_stands_2
    walk_at "w"
    refine f_counts_told fun _ => ?_
    refine f_kinds_told fun _ => ?_
    refine f_worth (by omega) (fun k h => by have := kb k h; omega) (fun c h => by have := cb c h; omega) fun _ => ?_
    have sb : cs.sum < 9223372036854775808 := Nat.lt_of_le_of_lt (sum_le cb) (by rw [cl]; have : ks.length * 999 ≤ 8 * 999 := Nat.mul_le_mul_right _ k8; omega)
    refine f_lenp sb fun _ => ?_
    refine ⟨by omega, by omega, ?_⟩
    refine ints_nats ?_
    rw [sum_nats]
    obtain ⟨o1, o2, o3⟩ := four_ok (ks := ks) (cs := cs) (worthL ks cs) cs.sum (by omega) (by omega)
    refine ⟨rfl, o1, o2, o3, fun _ => ?_⟩
    unfold F__law_stands_1
    walk_at "w"
    refine ⟨by rw [List.length_map, lin]; omega, ?_⟩
    refine f_counts_told fun _ => ?_
    exact ⟨rfl, shaped_natsL cs, (lay_list (by omega)).1, (lay_list (by omega)).2, fun _ => q _⟩
/-! ### deeds -/
theorem f_put {ks cs : List Nat} {S : Sto} {p c i k t v : Nat} (pw : ks.Pairwise (· < ·)) (hp : PurseAt S p c ks cs) (hi : ks[i]? = some k) (hv : cs[i]? = some v) {P : PyData → List Sl → Prop}
    (q : ∀ s0 s1 s2, P .none [s0, s1, s2, .st (sset S c (.lst ((cs.set i (v + t)).map natD)))]) : F_Purse_put [.fz (hdl p), .fz (natD k), .fz (natD t), .st S] P := by
  have hi' : i < cs.length := (List.getElem?_eq_some_iff.mp hv).1
  unfold F_Purse_put
  walk_at "w"
  refine ⟨_, _, .inl ⟨p, rfl, hp.ob⟩, fld_cn _ _, S, [.fz (pD ks cs), .fz (natD k), .fz (natD t)], .cons (.fz hp.res) (.cons (.fz (.refl _)) (.cons (.fz (.refl _)) .nil)), ?_⟩
  walk_at "w"
  refine f_spot pw hi fun _ => ⟨rfl, ?_⟩
  refine ⟨c, cs.map natD, v, rfl, hp.ct, atI_natD hv, cs.map natD, i, hp.ct, ixN_nat (by rw [List.length_map]; exact hi'), ?_⟩
  have := q (.fz (hdl p)) (.fz (natD k)) (.fz (natD t))
  rw [List.map_set] at this
  exact this
theorem f_take {ks cs : List Nat} {S : Sto} {p c i k t v : Nat} (pw : ks.Pairwise (· < ·)) (hp : PurseAt S p c ks cs) (hi : ks[i]? = some k) (hv : cs[i]? = some v) (ht : t ≤ v) {P : PyData → List Sl → Prop}
    (q : ∀ s0 s1 s2, P .none [s0, s1, s2, .st (sset S c (.lst ((cs.set i (v - t)).map natD)))]) : F_Purse_take [.fz (hdl p), .fz (natD k), .fz (natD t), .st S] P := by
  have hi' : i < cs.length := (List.getElem?_eq_some_iff.mp hv).1
  unfold F_Purse_take
  walk_at "w"
  refine ⟨S, [.fz (pD ks cs), .fz (natD k), .fz (natD t), .no], .cons (.fz hp.res) (.cons (.fz (.refl _)) (.cons (.fz (.refl _)) (.cons .no .nil))), ?_⟩
  walk_at "w"
  refine f_spot pw hi fun _ => ⟨rfl, ?_⟩
  refine ⟨_, _, .inl ⟨p, rfl, hp.ob⟩, fld_cn _ _, ?_⟩
  refine ⟨c, cs.map natD, natD v, rfl, hp.ct, atI_natD hv, ?_⟩
  walk_at "w"
  rw [if_neg (by omega)]
  unfold F_Purse_take_1
  walk_at "w"
  refine ⟨_, _, .inl ⟨p, rfl, hp.ob⟩, fld_cn _ _, ?_⟩
  refine ⟨c, cs.map natD, v, rfl, hp.ct, atI_natD hv, cs.map natD, i, hp.ct, ixN_nat (by rw [List.length_map]; exact hi'), ?_⟩
  have := q (.fz (hdl p)) (.fz (natD k)) (.fz (natD t))
  rw [List.map_set, show natD (v - t) = .int ((v : Int) - (t : Int)) from by show PyData.int _ = _; rw [Int.ofNat_sub ht]] at this
  exact this
theorem if1 {p : Prop} [Decidable p] {a b : Prop} (h : p) (q : a) : if p then a else b := by rw [if_pos h]; exact q
theorem if0 {p : Prop} [Decidable p] {a b : Prop} (h : ¬ p) (q : b) : if p then a else b := by rw [if_neg h]; exact q
theorem imm_nats (cs : List Nat) : immAll (cs.map natD) = true := by
  induction cs with
  | nil => rfl
  | cons c r ih =>
    show (true && immAll (r.map natD)) = true
    rw [ih]; rfl
theorem rep_zero (n : Nat) : (List.replicate n [PyData.int 0]).flatten = (List.replicate n 0).map natD := by
  induction n with
  | zero => rfl
  | succ n ih =>
    rw [List.replicate_succ, List.replicate_succ, List.flatten_cons, ih]
    rfl
theorem put_kinds (ks : List Nat) : putD (Str.ofString "coin_kinds") (kD ks) [] = [(.str (Str.ofString "coin_kinds"), kD ks)] := rfl
theorem put_counts (ks : List Nat) (c : PyData) : putD (Str.ofString "coin_counts") c [(.str (Str.ofString "coin_kinds"), kD ks)] = pFs ks c := by
  have e : ¬ Str.ofString "coin_kinds" = Str.ofString "coin_counts" := by decide +kernel
  unfold pFs
  simp only [putD, if_neg e]
theorem f_init {ks cs : List Nat} {S : Sto} {x : Nat} {d : PyData} (k8 : ks.length ≤ 100) (hx : S x = some (.obj (Str.ofString "Purse") [])) (hd : (d = .none ∧ cs = List.replicate ks.length 0) ∨ d = .tuple (cs.map natD) ∨ ∃ h, d = hdl h ∧ h ≠ x ∧ S h = some (.lst (cs.map natD))) {P : PyData → List Sl → Prop}
    (q : ∀ s0 s1 s2 S' c, S c = none → c ≠ x → PurseAt S' x c ks cs → (∀ a, a ≠ x → a ≠ c → S' a = S a) → P .none [s0, s1, s2, .st S']) : F_Purse_init [.fz (hdl x), .fz (kD ks), .fz d, .st S] P := by
  have lin : sizeLine = 16777216 := by decide +kernel
  have fin : ∀ (s0 s1 s2 : Sl) (c : Nat), sset S x (.obj (Str.ofString "Purse") (putD (Str.ofString "coin_kinds") (kD ks) [])) c = none → ∃ (p : Addr) (fs : List (PyData × PyData)), hdl x = hdl p ∧ sset (sset S x (.obj (Str.ofString "Purse") (putD (Str.ofString "coin_kinds") (kD ks) []))) c (.lst (cs.map natD)) p = some (.obj (Str.ofString "Purse") fs) ∧ fs.length < 1000 ∧
      P .none [s0, s1, s2, .st (sset (sset (sset S x (.obj (Str.ofString "Purse") (putD (Str.ofString "coin_kinds") (kD ks) []))) c (.lst (cs.map natD))) p (.obj (Str.ofString "Purse") (putD (Str.ofString "coin_counts") (hdl c) fs)))] := by
    intro s0 s1 s2 c hc
    have cx : c ≠ x := fun e => by rw [e, sset_same] at hc; cases hc
    rw [sset_ne cx] at hc
    refine ⟨x, _, rfl, by rw [sset_ne (Ne.symm cx), sset_same], Nat.le_of_ble_eq_true rfl, ?_⟩
    rw [put_kinds, put_counts]
    refine q _ _ _ _ c hc cx ⟨sset_same, by rw [sset_ne cx, sset_same]⟩ fun a h1 h2 => ?_
    rw [sset_ne h1, sset_ne h2, sset_ne h1]
  unfold F_Purse_init
  walk_at "w"
  unfold kD DL.tnD
  unfold kD DL.tnD at fin
  dsimp only
  refine ⟨x, [], rfl, hx, Nat.zero_lt_succ _, ?_⟩
  rcases hd with ⟨rfl, rfl⟩ | rfl | ⟨h, rfl, hh, hs⟩
  · refine if1 rfl ?_
    refine ⟨_, _, .inl ⟨x, rfl, sset_same⟩, rfl, ?_⟩
    dsimp only
    refine ⟨by omega, by rw [List.length_map]; omega, by rw [List.length_map]; omega, fun c hc => ?_⟩
    rw [List.length_map, Int.toNat_natCast, rep_zero]
    exact fin _ _ _ c hc
  · refine if0 Bool.false_ne_true ?_
    refine ⟨_, [_, _, .fz (.tuple (cs.map natD))], .cons (.fz (.refl _)) (.cons (.fz (.refl _)) (.cons (.fz (.refl _)) .nil)), ?_⟩
    walk_at "w"
    refine ⟨imm_nats cs, fun c hc => ?_⟩
    exact fin _ _ _ c hc
  · refine if0 Bool.false_ne_true ?_
    refine ⟨_, [_, _, .fz (.list (cs.map natD))], .cons (.fz (.refl _)) (.cons (.fz (.refl _)) (.cons (.fz (.lst (by rw [sset_ne hh]; exact hs) (ResAll.refl _))) .nil)), ?_⟩
    walk_at "w"
    refine ⟨imm_nats cs, fun c hc => ?_⟩
    exact fin _ _ _ c hc
/-- a purse with its counts, apart -/
structure Pair (S : Sto) (p c g : Nat) (ks cs : List Nat) : Prop where
  at_ : PurseAt S p c ks cs
  own : S g = some (.lst (cs.map natD))
  ne : c ≠ g
theorem Pair.pg {S : Sto} {p c g : Nat} {ks cs : List Nat} (h : Pair S p c g ks cs) : p ≠ g := fun e => by
  have h1 := h.at_.ob
  rw [e, h.own] at h1
  cases h1
theorem Pair.keep {S S' : Sto} {p c g : Nat} {ks cs : List Nat} (h : Pair S p c g ks cs) (hp : S' p = S p) (hc : S' c = S c) (hg : S' g = S g) : Pair S' p c g ks cs := ⟨h.at_.keep hp hc, hg.trans h.own, h.ne⟩
theorem f_deed {ds : List PyData} {m : Nat} {S : Sto} {p c g : Nat} {ks cs : List Nat} (hb : BoxD ds m) (hm : m ≤ 100000) (hk : Kinds ks) (hc : Counts ks cs) (hp : Pair S p c g ks cs) {P : PyData → List Sl → Prop}
    (q : ∀ cs' S' ds' s1 s2 s3, Counts ks cs' → Pair S' p c g ks cs' → (∀ a, a ≠ c → a ≠ g → S' a = S a) → BoxD ds' (m + 5) → P (.bool true) [.own ds', s1, s2, s3, .st S']) : F__law_deed_right [.own ds, .fz (hdl p), .fz (kD ks), .fz (hdl g), .st S] P := by
  obtain ⟨k0, k8, kb, pw⟩ := hk
  have lc := hc.1
  unfold F__law_deed_right
  walk_at "w"
  show takeF ds (((ks.map natD).length : Nat) : Int) _
  rw [List.length_map]
  refine take_step hb (by omega) (by omega) (by omega) fun r1 d1 a1 c1 b1 => ?_
  refine take_step b1 (by decide) (by decide) (by omega) fun r2 d2 a2 c2 b2 => ?_
  obtain ⟨i, rfl⟩ := Int.eq_ofNat_of_zero_le a1
  have hi : i < ks.length := by omega
  obtain ⟨k, hki⟩ : ∃ k, ks[i]? = some k := ⟨_, List.getElem?_eq_getElem hi⟩
  obtain ⟨v, hvi⟩ : ∃ v, cs[i]? = some v := ⟨_, List.getElem?_eq_getElem (by omega)⟩
  have v9 := hc.2 v (List.mem_of_getElem? hvi)
  refine ⟨natD k, atI_natD hki, ?_⟩
  refine take_step b2 (by decide) (by decide) (by omega) fun r3 d3 a3 c3 b3 => ?_
  obtain ⟨n, hn, hn9⟩ : ∃ n : Nat, atI [PyData.int 3, PyData.int 99] r3 = some (natD n) ∧ 0 < n ∧ n ≤ 99 := by
    have h12 : r3 = 0 ∨ r3 = 1 := by omega
    rcases h12 with rfl | rfl
    · exact ⟨3, at0, by omega, by omega⟩
    · exact ⟨99, at1, by omega, by omega⟩
  refine ⟨natD n, hn, ?_⟩
  show takeF d3 (n : Int) _
  refine take_step b3 (by omega) (by omega) (by omega) fun r4 d4 a4 c4 b4 => ?_
  obtain ⟨t, rfl⟩ := Int.eq_ofNat_of_zero_le a4
  rw [show (1 : Int) + (t : Int) = ((1 + t : Nat) : Int) by omega]
  have t9 : 1 + t ≤ 99 ∧ 1 ≤ 1 + t := by omega
  generalize 1 + t = t' at t9
  have same : ∀ s1 s2 s3, P (.bool true) [.own d4, s1, s2, s3, .st S] := fun s1 s2 s3 => q cs S d4 s1 s2 s3 hc hp (fun _ _ _ => rfl) (b4.mono (by omega))
  have done : ∀ (w : Nat) s1 s2 s3, w ≤ 999 → P (.bool true) [.own d4, s1, s2, s3, .st (sset (sset S g (.lst ((cs.set i w).map natD))) c (.lst ((cs.set i w).map natD)))] := fun w s1 s2 s3 hw =>
    q (cs.set i w) _ d4 s1 s2 s3 ⟨by rw [List.length_set]; exact lc, fun x hx => by
      rcases List.mem_or_eq_of_mem_set hx with z | z
      · exact hc.2 x z
      · rw [z]; exact hw⟩ ⟨⟨by rw [sset_ne hp.at_.ne, sset_ne hp.pg]; exact hp.at_.ob, sset_same⟩, by rw [sset_ne (Ne.symm hp.ne), sset_same], hp.ne⟩ (fun a h1 h2 => by rw [sset_ne h1, sset_ne h2]) (b4.mono (by omega))
  have at1' : ∀ w, PurseAt (sset S g (.lst ((cs.set i w).map natD))) p c ks cs := fun w => hp.at_.keep (sset_ne hp.pg) (sset_ne hp.ne)
  by_cases c0 : r2 < 3
  · rw [if_pos c0]
    refine ⟨g, cs.map natD, natD v, rfl, hp.own, atI_natD hvi, ?_⟩
    walk_at "w"
    by_cases c1 : (999 : Int) < (v : Int) + (t' : Int)
    · rw [if_pos c1]
      exact same _ _ _
    · rw [if_neg c1]
      unfold F__law_deed_right_7
      walk_at "w"
      refine ⟨g, cs.map natD, natD v, rfl, hp.own, atI_natD hvi, ?_⟩
      have hl : i < (cs.map natD).length := by rw [List.length_map]; omega
      by_cases c2 : r2 = 0
      · rw [if_pos c2]
        refine ⟨g, cs.map natD, i, rfl, hp.own, ixN_nat hl, ?_⟩
        rw [show (cs.map natD).set i (.int ((v : Int) + 1)) = (cs.set i (v + 1)).map natD from List.map_set.symm]
        unfold F__law_deed_right_6
        walk_at "w"
        rw [if_pos c2]
        exact ⟨_, .inl ⟨p, rfl, (at1' _).ob⟩, fld_m6 _ _, f_put (t := 1) pw (at1' _) hki hvi fun _ _ _ => done (v + 1) _ _ _ (by omega)⟩
      · rw [if_neg c2]
        refine ⟨g, cs.map natD, i, rfl, hp.own, ixN_nat hl, ?_⟩
        rw [show (cs.map natD).set i (.int ((v : Int) + (t' : Int))) = (cs.set i (v + t')).map natD from List.map_set.symm]
        unfold F__law_deed_right_6
        walk_at "w"
        rw [if_neg c2]
        unfold F__law_deed_right_5
        walk_at "w"
        split <;> exact ⟨_, .inl ⟨p, rfl, (at1' _).ob⟩, fld_m6 _ _, f_put pw (at1' _) hki hvi fun _ _ _ => done (v + t') _ _ _ (by omega)⟩
  · rw [if_neg c0]
    unfold F__law_deed_right_4
    walk_at "w"
    refine ⟨g, cs.map natD, natD v, rfl, hp.own, atI_natD hvi, ?_⟩
    walk_at "w"
    by_cases c1 : (v : Int) = 0
    · rw [if_pos c1]
      exact same _ _ _
    · rw [if_neg c1]
      unfold F__law_deed_right_3
      walk_at "w"
      have hl : i < (cs.map natD).length := by rw [List.length_map]; omega
      have next : ∀ w : Nat, w ≤ v → (r2 = 3 → w = 1) → F__law_deed_right_2 { nx := fun ρ' => P .none (ρ'.take 4 ++ ρ'.drop 8), rt := fun d ρ' => P d (ρ'.take 4 ++ ρ'.drop 8), ro := fun _ _ => False } [.own d4, .fz (hdl p), .fz (kD ks), .fz (hdl g), .fz (.int (i : Nat)), .fz (.int r2), .fz (natD k), .fz (natD w), .st S] := by
        intro w hw h3
        unfold F__law_deed_right_2
        walk_at "w"
        refine ⟨g, cs.map natD, natD v, rfl, hp.own, atI_natD hvi, ?_⟩
        walk_at "w"
        refine ⟨g, cs.map natD, i, rfl, hp.own, ixN_nat hl, ?_⟩
        rw [show (cs.map natD).set i (.int ((v : Int) - (w : Int))) = (cs.set i (v - w)).map natD from by rw [List.map_set, show natD (v - w) = .int ((v : Int) - (w : Int)) from by show PyData.int _ = _; rw [Int.ofNat_sub hw]]]
        by_cases c2 : r2 = 3
        · rw [if_pos c2]
          have := h3 c2
          subst this
          exact ⟨_, .inl ⟨p, rfl, (at1' _).ob⟩, fld_m7 _ _, f_take (t := 1) pw (at1' _) hki hvi hw fun _ _ _ => done (v - 1) _ _ _ (by omega)⟩
        · rw [if_neg c2]
          unfold F__law_deed_right_1
          walk_at "w"
          split <;> exact ⟨_, .inl ⟨p, rfl, (at1' _).ob⟩, fld_m7 _ _, f_take pw (at1' _) hki hvi hw fun _ _ _ => done (v - w) _ _ _ (by omega)⟩
      by_cases c2 : r2 = 3
      · rw [if_pos c2]
        exact next 1 (by omega) fun _ => rfl
      · rw [if_neg c2]
        refine ⟨g, cs.map natD, natD v, rfl, hp.own, atI_natD hvi, ?_⟩
        have := next (min t' v) (by omega) fun z => absurd z c2
        rw [show natD (min t' v) = .int (if (v : Int) < (t' : Int) then (v : Int) else (t' : Int)) from by
          show PyData.int _ = _
          congr 1
          split <;> omega] at this
        exact this
theorem some_ne {S : Sto} {a b : Nat} {o : SO} (h : S a = some o) (h' : S b = none) : a ≠ b := fun e => by rw [e, h'] at h; cases h
theorem sset_no {S : Sto} {p a : Addr} {o : SO} (h : sset S p o a = none) : S a = none ∧ a ≠ p := by
  have ne : a ≠ p := fun e => by rw [e, sset_same] at h; cases h
  exact ⟨by rw [sset_ne ne] at h; exact h, ne⟩
/-- a purse made beside its counts -/
theorem f_init2 {ks cs : List Nat} {T : Sto} {x : Nat} {d : PyData} (k8 : ks.length ≤ 100) (hx : T x = none) (hd : (d = .none ∧ cs = List.replicate ks.length 0) ∨ d = .tuple (cs.map natD) ∨ ∃ h, d = hdl h ∧ T h = some (.lst (cs.map natD))) {P : PyData → List Sl → Prop}
    (q : ∀ s0 s1 s2 S' c, T c = none → PurseAt S' x c ks cs → (∀ a, T a ≠ none → S' a = T a) → P .none [s0, s1, s2, .st S']) : F_Purse_init [.fz (hdl x), .fz (kD ks), .fz d, .st (sset T x (.obj (Str.ofString "Purse") []))] P := by
  refine f_init k8 sset_same (hd.imp id (Or.imp id fun ⟨h, e1, e2⟩ => ⟨h, e1, some_ne e2 hx, by rw [sset_ne (some_ne e2 hx)]; exact e2⟩)) fun s0 s1 s2 S' c h1 h2 h3 h4 => q _ _ _ S' c ?_ h3 fun a ha => ?_
  · exact (sset_no h1).1
  · have ax : a ≠ x := fun e => ha (by rw [e]; exact hx)
    have ac : a ≠ c := fun e => ha (by rw [e]; exact (sset_no h1).1)
    rw [h4 a ax ac, sset_ne ax]
theorem f_made {ds : List PyData} {m : Nat} {S : Sto} {ks : List Nat} (hb : BoxD ds m) (hm : m ≤ 10000) (hk : Kinds ks) {P : PyData → List Sl → Prop}
    (q : ∀ p c g cs S' ds' s1, Counts ks cs → Pair S' p c g ks cs → S p = none → S c = none → S g = none → (∀ a, S a ≠ none → S' a = S a) → BoxD ds' (m + 25) → P (.tuple [hdl p, hdl g]) [.own ds', s1, .st S']) : F__law_made [.own ds, .fz (kD ks), .st S] P := by
  have lin : sizeLine = 16777216 := by decide +kernel
  obtain ⟨k0, k8, kb, pw⟩ := hk
  unfold F__law_made
  walk_at "w"
  refine f_counts hb hm k8 fun cs d1 lc c9 b1 => ?_
  walk_at "w"
  intro g hg
  have hgS : ∀ a, S a ≠ none → a ≠ g := fun a h e => h (by rw [e]; exact hg)
  refine take_step b1 (by decide) (by decide) (by omega) fun r1 d2 a1 c1 b2 => ?_
  by_cases c0 : r1 < 2
  · rw [if_pos c0]
    have zero : ∀ x, sset S g (SO.lst (List.map natD cs)) x = none → ∀ (S' : Sto) (c : Nat), sset S g (SO.lst (List.map natD cs)) c = none → PurseAt S' x c ks (List.replicate ks.length 0) → (∀ a, sset S g (SO.lst (List.map natD cs)) a ≠ none → S' a = sset S g (SO.lst (List.map natD cs)) a) → ∀ g', S' g' = none → ∀ s1, P (.tuple [hdl x, hdl g']) [.own d2, s1, .st (sset S' g' (.lst (List.replicate (((ks.map natD).length : Nat) : Int).toNat [PyData.int 0]).flatten))] := by
      intro x hx S' c hc hp hS g' hg' s1
      rw [List.length_map, Int.toNat_natCast, rep_zero]
      have keep : ∀ a, S a ≠ none → S' a = S a := fun a ha => by
        rw [hS a (by rw [sset_ne (hgS a ha)]; exact ha), sset_ne (hgS a ha)]
      refine q x c g' (List.replicate ks.length 0) _ d2 s1 ⟨List.length_replicate, fun y hy => by rw [(List.mem_replicate.mp hy).2]; omega⟩ ⟨hp.keep (sset_ne (some_ne hp.ob hg')) (sset_ne (some_ne hp.ct hg')), sset_same, some_ne hp.ct hg'⟩ (sset_no hx).1 (sset_no hc).1 ?_ (fun a ha => ?_) (b2.mono (by omega))
      · cases e : S g' with
        | none => rfl
        | some o =>
          have := keep g' (by rw [e]; exact Option.some_ne_none _)
          rw [hg', e] at this
          cases this
      · have : S' a ≠ none := by rw [keep a ha]; exact ha
        rw [sset_ne (fun e => this (by rw [e]; exact hg')), keep a ha]
    split <;>
    · intro x hx
      refine f_init2 (by omega) hx (.inl ⟨rfl, rfl⟩) fun s0 s1 s2 S' c hc hp hS => ⟨rfl, ?_⟩
      show _ ∧ _ ∧ _ ∧ ∀ g', S' g' = none → _
      exact ⟨by rw [List.length_map]; omega, by rw [List.length_map]; omega, by rw [List.length_map, lin]; omega, fun g' hg' => zero x hx S' c hc hp hS g' hg' _⟩
  · rw [if_neg c0]
    unfold F__law_made_3
    walk_at "w"
    refine ⟨_, [.no, .fz (kD ks), .fz (.list (cs.map natD)), .fz (.int r1), .no, .no], .cons .fgo (.cons (.fz (.refl _)) (.cons (.fz (.lst sset_same (ResAll.refl _))) (.cons (.fz (.refl _)) (.cons .no (.cons .no .nil))))), ?_⟩
    walk_at "w"
    refine ⟨imm_nats cs, fun h hh => ?_⟩
    obtain ⟨hhS, hg'⟩ := sset_no hh
    -- what is so of the purse made, whatever becomes of the list handed in
    have fin : ∀ (x : Addr), sset (sset S g (.lst (cs.map natD))) h (.lst (cs.map natD)) x = none → ∀ (S' : Sto) (c : Nat), sset (sset S g (.lst (cs.map natD))) h (.lst (cs.map natD)) c = none → PurseAt S' x c ks cs →
        (∀ a, sset (sset S g (.lst (cs.map natD))) h (.lst (cs.map natD)) a ≠ none → S' a = sset (sset S g (.lst (cs.map natD))) h (.lst (cs.map natD)) a) → ∀ S'' : Sto, (∀ a, a ≠ h → S'' a = S' a) → ∀ s1, P (.tuple [hdl x, hdl g]) [.own d2, s1, .st S''] := by
      intro x hx S' c hc hp hS S'' hS'' s1
      obtain ⟨hx1, xh⟩ := sset_no hx
      obtain ⟨hc1, ch⟩ := sset_no hc
      obtain ⟨hx2, xg⟩ := sset_no hx1
      obtain ⟨hc2, cg⟩ := sset_no hc1
      have eg : sset (sset S g (.lst (cs.map natD))) h (.lst (cs.map natD)) g = some (.lst (cs.map natD)) := by rw [sset_ne (Ne.symm hg'), sset_same]
      refine q x c g cs S'' d2 s1 ⟨lc, fun y hy => by have := c9 y hy; omega⟩ ⟨hp.keep (hS'' x xh) (hS'' c ch), by rw [hS'' g (Ne.symm hg'), hS g (by rw [eg]; exact Option.some_ne_none _)]; exact eg, cg⟩ hx2 hc2 hg (fun a ha => ?_) (b2.mono (by omega))
      have ah : a ≠ h := fun e => ha (by rw [e]; exact hhS)
      have e2 : sset (sset S g (.lst (cs.map natD))) h (.lst (cs.map natD)) a = S a := by rw [sset_ne ah, sset_ne (hgS a ha)]
      rw [hS'' a ah, hS a (by rw [e2]; exact ha), e2]
    by_cases c4 : r1 < 4
    · rw [if_pos c4]
      split <;>
      · refine ⟨_, [.no, .fz (kD ks), .no, .fz (.int r1), .fz (.list (cs.map natD)), .no], .cons .fgo (.cons (.fz (.refl _)) (.cons .fgt (.cons (.fz (.refl _)) (.cons (.fz (.lst sset_same (ResAll.refl _))) (.cons .no .nil))))), ?_⟩
        walk_at "w"
        refine ⟨by show immAll (cs.map natD) = true; exact imm_nats cs, fun x hx => ?_⟩
        refine f_init2 (by omega) hx (.inr (.inl rfl)) fun s0 s1 s2 S' c hc hp hS => ⟨rfl, ?_⟩
        exact fin x hx S' c hc hp hS S' (fun _ _ => rfl) _
    · rw [if_neg c4]
      unfold F__law_made_2
      walk_at "w"
      have last : ∀ (x : Addr), sset (sset S g (.lst (cs.map natD))) h (.lst (cs.map natD)) x = none → ∀ (S' : Sto) (c : Nat), sset (sset S g (.lst (cs.map natD))) h (.lst (cs.map natD)) c = none → PurseAt S' x c ks cs →
        (∀ a, sset (sset S g (.lst (cs.map natD))) h (.lst (cs.map natD)) a ≠ none → S' a = sset (sset S g (.lst (cs.map natD))) h (.lst (cs.map natD)) a) → F__law_made_1 { nx := fun ρ' => P .none (ρ'.take 2 ++ ρ'.drop 6), rt := fun d ρ' => P d (ρ'.take 2 ++ ρ'.drop 6), ro := fun _ _ => False } [.own d2, .fz (kD ks), .fz (hdl g), .fz (.int r1), .fz (hdl h), .fz (hdl x), .st S'] := by
        intro x hx S' c hc hp hS
        have e1 : S' h = some (.lst (cs.map natD)) := by rw [hS h (by rw [sset_same]; exact Option.some_ne_none _), sset_same]
        unfold F__law_made_1
        walk_at "w"
        have ne : (cs.map natD ++ [PyData.int 3]).length = cs.length + 1 := by rw [List.length_append, List.length_map]; rfl
        refine ⟨h, _, rfl, e1, _, e1, by rw [List.length_map]; omega, h, _, 0, rfl, sset_same, (show ixN _ ((0 : Nat) : Int) = some 0 from ixN_nat (by rw [ne]; exact Nat.succ_pos _)), ?_⟩
        exact fin x hx S' c hc hp hS _ (fun a ha => by rw [sset_ne ha, sset_ne ha]) _
      split <;>
      · intro x hx
        refine f_init2 (by omega) hx (.inr (.inr ⟨h, rfl, sset_same⟩)) fun s0 s1 s2 S' c hc hp hS => ⟨rfl, ?_⟩
        exact last x hx S' c hc hp hS
theorem f_law_3 {E : FEnds} {S : Sto} {x0 x1 x3 x6 x7 : PyData} {d2 : List PyData} {p c g p' c' g' : Nat} {ks cs ks' cs' : List Nat} (h : Pair S p c g ks cs) (h' : Pair S p' c' g' ks' cs') (hk : Kinds ks) (hk' : Kinds ks') (hc : Counts ks cs) (hc' : Counts ks' cs')
    (q : E.nx [.fz x0, .fz x1, .own d2, .fz x3, .fz (.list [kD ks, kD ks']), .fz (.list [.tuple [hdl p, hdl g], .tuple [hdl p', hdl g']]), .fz x6, .fz x7, .no, .no, .st S]) :
    F_law_3 E [.fz x0, .fz x1, .own d2, .fz x3, .fz (.list [kD ks, kD ks']), .fz (.list [.tuple [hdl p, hdl g], .tuple [hdl p', hdl g']]), .fz x6, .fz x7, .no, .no, .st S] := by
  have res : ∀ {p c g : Nat} {ks cs : List Nat}, Pair S p c g ks cs → Res S (.tuple [hdl p, hdl g]) (.tuple [pD ks cs, .list (cs.map natD)]) := fun h => .tup (.cons h.at_.res (.cons (.lst h.own (ResAll.refl _)) .nil))
  unfold F_law_3
  walk_at "w"
  refine ⟨S, [.no, .no, .no, .no, .fz (.list [kD ks, kD ks']), .fz (.list [.tuple [pD ks cs, .list (cs.map natD)], .tuple [pD ks' cs', .list (cs'.map natD)]]), .no, .no, .no, .no],
    .cons .fgt (.cons .fgt (.cons .fgo (.cons .fgt (.cons (.fz (.refl _)) (.cons (.fz (.list (.cons (res h) (.cons (res h') .nil)))) (.cons .fgt (.cons .fgt (.cons .no (.cons .no .nil))))))))), ?_⟩
  walk_at "w"
  refine lc_map [(ks, cs), (ks', cs')] (fun z => .tuple [.tuple [pD z.1 z.2, .list (z.2.map natD)], kD z.1]) (fun _ => some (.bool true)) rfl rfl (by show 2 ≤ _; exact Nat.le_of_ble_eq_true rfl) (fun z R acc hz hacc hR => ?_) ?_
  · have : Kinds z.1 ∧ Counts z.1 z.2 := by
      simp only [List.mem_cons, List.not_mem_nil, or_false] at hz
      rcases hz with rfl | rfl
      · exact ⟨hk, hc⟩
      · exact ⟨hk', hc'⟩
    unfold F_law_2
    walk_at "w"
    refine f_stands this.1 this.2 fun _ => ?_
    walk_at "w"
    exact ⟨hacc, hR⟩
  · show boolsF (([true, true] : List Bool).map PyData.bool) _
    refine boolsF_map ?_
    exact if0 (by decide) q
/-- one deed and all looks -/
structure Two (S : Sto) (p c g p' c' g' : Nat) (ks cs ks' cs' : List Nat) : Prop where
  one : Pair S p c g ks cs
  two : Pair S p' c' g' ks' cs'
  ap : ∀ a, (a = p ∨ a = c ∨ a = g) → (a = p' ∨ a = c' ∨ a = g') → False
theorem f_law_4 {E : FEnds} {S : Sto} {x0 x1 x3 x6 : PyData} {d2 : List PyData} {m p c g p' c' g' : Nat} {ks cs ks' cs' : List Nat} (hb : BoxD d2 m) (hm : m ≤ 50000) (W : Two S p c g p' c' g' ks cs ks' cs') (hk : Kinds ks) (hk' : Kinds ks') (hc : Counts ks cs) (hc' : Counts ks' cs')
    (q : ∀ S' d7 ds' cs cs', Two S' p c g p' c' g' ks cs ks' cs' → Counts ks cs → Counts ks' cs' → BoxD ds' (m + 6) → E.nx [.fz x0, .fz x1, .own ds', .fz x3, .fz (.list [kD ks, kD ks']), .fz (.list [.tuple [hdl p, hdl g], .tuple [hdl p', hdl g']]), .fz x6, .fz d7, .no, .no, .st S']) :
    F_law_4 E [.fz x0, .fz x1, .own d2, .fz x3, .fz (.list [kD ks, kD ks']), .fz (.list [.tuple [hdl p, hdl g], .tuple [hdl p', hdl g']]), .fz x6, .no, .no, .no, .st S] := by
  unfold F_law_4
  walk_at "w"
  refine take_step hb (by decide) (by decide) (by omega) fun r d1 a1 c1 b1 => ?_
  have h12 : r = 0 ∨ r = 1 := by omega
  rcases h12 with rfl | rfl
  · refine ⟨_, at0, _, at0, _, at0, _, at0, _, at1, by decide, ?_⟩
    refine f_deed b1 (by omega) hk hc W.one fun cs2 S' d2 _ _ _ hc2 W2 hS b2 => ?_
    have w2 : Pair S' p' c' g' ks' cs' := W.two.keep (hS _ (fun e => W.ap c (.inr (.inl rfl)) (.inl e.symm)) (fun e => W.ap g (.inr (.inr rfl)) (.inl e.symm))) (hS _ (fun e => W.ap c (.inr (.inl rfl)) (.inr (.inl e.symm))) (fun e => W.ap g (.inr (.inr rfl)) (.inr (.inl e.symm)))) (hS _ (fun e => W.ap c (.inr (.inl rfl)) (.inr (.inr e.symm))) (fun e => W.ap g (.inr (.inr rfl)) (.inr (.inr e.symm))))
    exact if0 (by decide) (f_law_3 W2 w2 hk hk' hc2 hc' (q S' _ d2 cs2 cs' ⟨W2, w2, W.ap⟩ hc2 hc' (b2.mono (by omega))))
  · refine ⟨_, at1, _, at0, _, at1, _, at1, _, at1, by decide, ?_⟩
    refine f_deed b1 (by omega) hk' hc' W.two fun cs2 S' d2 _ _ _ hc2 W2 hS b2 => ?_
    have w1 : Pair S' p c g ks cs := W.one.keep (hS _ (fun e => W.ap p (.inl rfl) (.inr (.inl e))) (fun e => W.ap p (.inl rfl) (.inr (.inr e)))) (hS _ (fun e => W.ap c (.inr (.inl rfl)) (.inr (.inl e))) (fun e => W.ap c (.inr (.inl rfl)) (.inr (.inr e)))) (hS _ (fun e => W.ap g (.inr (.inr rfl)) (.inr (.inl e))) (fun e => W.ap g (.inr (.inr rfl)) (.inr (.inr e))))
    exact if0 (by decide) (f_law_3 w1 W2 hk hk' hc hc2 (q S' _ d2 cs cs2 ⟨w1, W2, W.ap⟩ hc hc2 (b2.mono (by omega))))
theorem f_law_5 {E : FEnds} {ns : List Int} {i : Nat} {S : Sto} (hi : i < 1000) (q : ∀ S' d1 d2 d3 d4 d5, E.nx [.fz (.list (ns.map .int)), .fz d1, .own d2, .fz d3, .fz d4, .fz d5, .no, .no, .no, .no, .st S']) :
    F_law_5 E [.fz (.list (ns.map .int)), .fz (.int (i : Nat)), .no, .no, .no, .no, .no, .no, .no, .no, .st S] := by
  unfold F_law_5
  walk_at "w"
  refine f_box hi fun d sl hb => ?_
  walk_at "w"
  refine f_kinds hb (by omega) fun ks d1 hk b1 => ?_
  walk_at "w"
  refine f_kinds b1 (by omega) fun ks' d2 hk' b2 => ?_
  refine take_step b2 (by decide) (by decide) (by omega) fun r d3 a3 c3 b3 => ?_
  obtain ⟨ks2, hk2, e2⟩ : ∃ ks2, Kinds ks2 ∧ atI [kD ks, kD ks'] r = some (kD ks2) := by
    have h12 : r = 0 ∨ r = 1 := by omega
    rcases h12 with rfl | rfl
    · exact ⟨ks, hk, at0⟩
    · exact ⟨ks', hk', at1⟩
  refine ⟨kD ks2, e2, by decide, ?_⟩
  refine f_made b3 (by omega) hk fun p c g cs S1 d4 _ hc W1 n1 n2 n3 k1 b4 => ?_
  refine ⟨by decide, ?_⟩
  refine f_made b4 (by omega) hk2 fun p' c' g' cs' S2 d5 _ hc' W2 m1 m2 m3 k2 b5 => ?_
  have s1 : ∀ a, (a = p ∨ a = c ∨ a = g) → S1 a ≠ none := fun a h => by
    rcases h with rfl | rfl | rfl
    · rw [W1.at_.ob]; exact Option.some_ne_none _
    · rw [W1.at_.ct]; exact Option.some_ne_none _
    · rw [W1.own]; exact Option.some_ne_none _
  have W : Two S2 p c g p' c' g' ks cs ks2 cs' := ⟨W1.keep (k2 _ (s1 _ (.inl rfl))) (k2 _ (s1 _ (.inr (.inl rfl)))) (k2 _ (s1 _ (.inr (.inr rfl)))), W2, fun a h h' => s1 a h (by rcases h' with rfl | rfl | rfl <;> assumption)⟩
  refine for_range (fun j ρ => ∃ S' ds' cs cs', Two S' p c g p' c' g' ks cs ks2 cs' ∧ Counts ks cs ∧ Counts ks2 cs' ∧ BoxD ds' (100 + 6 * j) ∧ ρ = [.fz (.list (ns.map .int)), .fz (.int (i : Nat)), .own ds', .fz (kD ks), .fz (.list [kD ks, kD ks2]), .fz (.list [.tuple [hdl p, hdl g], .tuple [hdl p', hdl g']]), .no, .no, .no, .no, .st S']) ⟨S2, d5, cs, cs', W, hc, hc', b5.mono (by omega), rfl⟩ ?_ ?_
  · rintro j ρ hj ⟨S', ds', cs, cs', W, hc, hc', b, rfl⟩
    refine ⟨rfl, ?_⟩
    refine f_law_4 b (by omega) W hk hk2 hc hc' fun S' d7 ds' cs cs' W hc hc' b => ?_
    exact ⟨S', ds', cs, cs', W, hc, hc', b.mono (by omega), rfl⟩
  · rintro ρ ⟨S', ds', cs, cs', W, hc, hc', b, rfl⟩
    exact q _ _ _ _ _ _
theorem f_law {ns : List Int} (hl : ns.length ≤ 63) : F_law [.fz (.list (ns.map .int)), .st noS] fun d _ => d = .bool true := by
  have lin : sizeLine = 16777216 := by decide +kernel
  unfold F_law
  walk_at "w"
  rw [List.length_map]
  obtain ⟨z, hz, hz4⟩ : ∃ z : Nat, (1 + if (ns.length : Int) < 3 then (ns.length : Int) else 3) = (z : Int) ∧ z ≤ 4 := by
    split
    · exact ⟨1 + ns.length, by omega, by omega⟩
    · exact ⟨4, rfl, by decide⟩
  rw [hz, Int.toNat_natCast]
  refine ⟨by omega, by omega, ?_⟩
  refine for_range (fun i ρ => ∃ S : Sto, ρ = [.fz (.list (ns.map .int)), .no, .no, .no, .no, .no, .no, .no, .no, .no, .st S]) ⟨noS, rfl⟩ ?_ ?_
  · rintro i ρ hi ⟨S, rfl⟩
    refine ⟨rfl, ?_⟩
    rw [Int.zero_add]
    show F_law_5 _ [_, .fz (.int (i : Nat)), .no, .no, .no, .no, .no, .no, .no, .no, .st S]
    refine f_law_5 (by omega) fun S' d1 d2 d3 d4 d5 => ⟨S', rfl⟩
  · rintro ρ ⟨S, rfl⟩
    unfold F_law_1
    walk_at "w"
def top (i : Nat) : Stmt := PySem.Challenge.pw_stallshares_k03_purses_put_and_taken.main.body.getD i (.Pass ⟨0, 0, 0, 0⟩)
abbrev s__law_box : Stmt := top 6
abbrev N__law_box : List Str := ["_law_script", "_law_k", "_law_cell"]
theorem sc__law_box : FnScope N__law_box ["_law_script", "_law_k"] (defScope s__law_box) := ⟨rfl, rfl, rfl, by decide +kernel, rfl, by decide +kernel, by decide +kernel⟩
abbrev s__law_take : Stmt := top 7
abbrev N__law_take : List Str := ["_law_box_here", "_law_size", "_law_found", "_law_step", "_law_once", "_law_twice"]
theorem sc__law_take : FnScope N__law_take ["_law_box_here", "_law_size"] (defScope s__law_take) := ⟨rfl, rfl, rfl, by decide +kernel, rfl, by decide +kernel, by decide +kernel⟩
abbrev s__law_kinds : Stmt := top 9
abbrev N__law_kinds : List Str := ["_law_box_here", "_law_many", "_law_way", "_law_some", "_law_pool", "_law_found", "_law_k"]
theorem sc__law_kinds : FnScope N__law_kinds ["_law_box_here"] (defScope s__law_kinds) := ⟨rfl, rfl, rfl, by decide +kernel, rfl, by decide +kernel, by decide +kernel⟩
abbrev s__law_counts : Stmt := top 10
abbrev N__law_counts : List Str := ["_law_box_here", "_law_worths", "_law_coin"]
theorem sc__law_counts : FnScope N__law_counts ["_law_box_here", "_law_worths"] (defScope s__law_counts) := ⟨rfl, rfl, rfl, by decide +kernel, rfl, by decide +kernel, by decide +kernel⟩
abbrev s_Purse_init : Stmt := inClass (top 4) 0
abbrev N_Purse_init : List Str := ["self", "kinds", "counts"]
theorem sc_Purse_init : FnScope N_Purse_init ["self", "kinds", "counts"] (defScope s_Purse_init) := ⟨rfl, rfl, rfl, by decide +kernel, rfl, by decide +kernel, by decide +kernel⟩
abbrev s__law_made : Stmt := top 12
abbrev N__law_made : List Str := ["_law_box_here", "_law_worths", "_law_stock", "_law_way", "_law_handed", "_law_found"]
theorem sc__law_made : FnScope N__law_made ["_law_box_here", "_law_worths"] (defScope s__law_made) := ⟨rfl, rfl, rfl, by decide +kernel, rfl, by decide +kernel, by decide +kernel⟩
abbrev s_Purse_spot_of : Stmt := inClass (top 4) 7
abbrev N_Purse_spot_of : List Str := ["self", "kind"]
theorem sc_Purse_spot_of : FnScope N_Purse_spot_of ["self", "kind"] (defScope s_Purse_spot_of) := ⟨rfl, rfl, rfl, by decide +kernel, rfl, by decide +kernel, by decide +kernel⟩
abbrev s_Purse_take : Stmt := inClass (top 4) 10
abbrev N_Purse_take : List Str := ["self", "kind", "times", "spot"]
theorem sc_Purse_take : FnScope N_Purse_take ["self", "kind", "times"] (defScope s_Purse_take) := ⟨rfl, rfl, rfl, by decide +kernel, rfl, by decide +kernel, by decide +kernel⟩
abbrev s_Purse_put : Stmt := inClass (top 4) 9
abbrev N_Purse_put : List Str := ["self", "kind", "times"]
theorem sc_Purse_put : FnScope N_Purse_put ["self", "kind", "times"] (defScope s_Purse_put) := ⟨rfl, rfl, rfl, by decide +kernel, rfl, by decide +kernel, by decide +kernel⟩
abbrev s__law_deed_right : Stmt := top 13
abbrev N__law_deed_right : List Str := ["_law_box_here", "_law_purse", "_law_worths", "_law_stock", "_law_at", "_law_way", "_law_coin", "_law_often"]
theorem sc__law_deed_right : FnScope N__law_deed_right ["_law_box_here", "_law_purse", "_law_worths", "_law_stock"] (defScope s__law_deed_right) := ⟨rfl, rfl, rfl, by decide +kernel, rfl, by decide +kernel, by decide +kernel⟩
abbrev s_Purse_counts_told : Stmt := inClass (top 4) 6
abbrev N_Purse_counts_told : List Str := ["self"]
theorem sc_Purse_counts_told : FnScope N_Purse_counts_told ["self"] (defScope s_Purse_counts_told) := ⟨rfl, rfl, rfl, by decide +kernel, rfl, by decide +kernel, by decide +kernel⟩
abbrev s__law_same : Stmt := top 8
abbrev N__law_same : List Str := ["_law_found", "_law_due", "_law_one", "_law_other"]
theorem sc__law_same : FnScope N__law_same ["_law_found", "_law_due"] (defScope s__law_same) := ⟨rfl, rfl, rfl, by decide +kernel, rfl, by decide +kernel, by decide +kernel⟩
abbrev s_Purse_many : Stmt := inClass (top 4) 8
abbrev N_Purse_many : List Str := ["self", "kind"]
theorem sc_Purse_many : FnScope N_Purse_many ["self", "kind"] (defScope s_Purse_many) := ⟨rfl, rfl, rfl, by decide +kernel, rfl, by decide +kernel, by decide +kernel⟩
abbrev s_Purse_kinds_told : Stmt := inClass (top 4) 5
abbrev N_Purse_kinds_told : List Str := ["self"]
theorem sc_Purse_kinds_told : FnScope N_Purse_kinds_told ["self"] (defScope s_Purse_kinds_told) := ⟨rfl, rfl, rfl, by decide +kernel, rfl, by decide +kernel, by decide +kernel⟩
abbrev s_Purse_worth : Stmt := inClass (top 4) 11
abbrev N_Purse_worth : List Str := ["self", "kind", "many"]
theorem sc_Purse_worth : FnScope N_Purse_worth ["self"] (defScope s_Purse_worth) := ⟨rfl, rfl, rfl, by decide +kernel, rfl, by decide +kernel, by decide +kernel⟩
abbrev s_Purse_len__ : Stmt := inClass (top 4) 1
abbrev N_Purse_len__ : List Str := ["self"]
theorem sc_Purse_len__ : FnScope N_Purse_len__ ["self"] (defScope s_Purse_len__) := ⟨rfl, rfl, rfl, by decide +kernel, rfl, by decide +kernel, by decide +kernel⟩
abbrev s__law_stands : Stmt := top 11
abbrev N__law_stands : List Str := ["_law_purse", "_law_worths", "_law_stock", "_law_worth", "_law_coin", "_law_often", "_law_told"]
theorem sc__law_stands : FnScope N__law_stands ["_law_purse", "_law_worths", "_law_stock"] (defScope s__law_stands) := ⟨rfl, rfl, rfl, by decide +kernel, rfl, by decide +kernel, by decide +kernel⟩
abbrev s_law : Stmt := top 14
abbrev N_law : List Str := ["_law_script", "_law_k", "_law_box_here", "_law_first", "_law_worths", "_law_some", "_law_turn", "_law_at", "_law_one", "_law_own"]
theorem sc_law : FnScope N_law ["_law_script"] (defScope s_law) := ⟨rfl, rfl, rfl, by decide +kernel, rfl, by decide +kernel, by decide +kernel⟩
structure Ad where
  C_Purse : Addr
  f__law_box : Addr
  d__law_box : FuncData
  f__law_take : Addr
  d__law_take : FuncData
  f__law_kinds : Addr
  d__law_kinds : FuncData
  f__law_counts : Addr
  d__law_counts : FuncData
  f_Purse_init : Addr
  d_Purse_init : FuncData
  f__law_made : Addr
  d__law_made : FuncData
  f_Purse_spot_of : Addr
  d_Purse_spot_of : FuncData
  f_Purse_take : Addr
  d_Purse_take : FuncData
  f_Purse_put : Addr
  d_Purse_put : FuncData
  f__law_deed_right : Addr
  d__law_deed_right : FuncData
  f_Purse_counts_told : Addr
  d_Purse_counts_told : FuncData
  f__law_same : Addr
  d__law_same : FuncData
  f_Purse_many : Addr
  d_Purse_many : FuncData
  f_Purse_kinds_told : Addr
  d_Purse_kinds_told : FuncData
  f_Purse_worth : Addr
  d_Purse_worth : FuncData
  f_Purse_len__ : Addr
  d_Purse_len__ : FuncData
  f__law_stands : Addr
  d__law_stands : FuncData
  f_law : Addr
  d_law : FuncData
structure Txt (K : PySem.W.Frag) (mg : Str → Option Value) (a : Ad) : Prop where
  n_len : mg "len" = none
  n_abs : mg "abs" = none
  n_int : mg "int" = none
  n_divmod : mg "divmod" = none
  n_range : mg "range" = none
  n_tuple : mg "tuple" = none
  n_sorted : mg "sorted" = none
  n_list : mg "list" = none
  n_set : mg "set" = none
  n_min : mg "min" = none
  n_isinstance : mg "isinstance" = none
  n_str : mg "str" = none
  n_all : mg "all" = none
  n_bool : mg "bool" = none
  n_zip : mg "zip" = none
  n_sum : mg "sum" = none
  cl_Purse : Cls K a.C_Purse
  g_Purse : mg "Purse" = some (.ref a.C_Purse)
  q_Purse : PySem.W.nsIn K mainGlobals "Purse" = some (some (.ref a.C_Purse))
  mk_Purse : Mk K a.C_Purse a.f_Purse_init
  na_Purse_coin_kinds : NoAttr K a.C_Purse "coin_kinds"
  na_Purse_coin_counts : NoAttr K a.C_Purse "coin_counts"
  F__law_box : Fun K "_law_box" "_law_box" s__law_box a.f__law_box a.d__law_box
  g__law_box : mg "_law_box" = some (.ref a.f__law_box)
  b__law_box : Binds K a.d__law_box ["_law_script", "_law_k"] []
  F__law_take : Fun K "_law_take" "_law_take" s__law_take a.f__law_take a.d__law_take
  g__law_take : mg "_law_take" = some (.ref a.f__law_take)
  b__law_take : Binds K a.d__law_take ["_law_box_here", "_law_size"] []
  F__law_kinds : Fun K "_law_kinds" "_law_kinds" s__law_kinds a.f__law_kinds a.d__law_kinds
  g__law_kinds : mg "_law_kinds" = some (.ref a.f__law_kinds)
  b__law_kinds : Binds K a.d__law_kinds ["_law_box_here"] []
  F__law_counts : Fun K "_law_counts" "_law_counts" s__law_counts a.f__law_counts a.d__law_counts
  g__law_counts : mg "_law_counts" = some (.ref a.f__law_counts)
  b__law_counts : Binds K a.d__law_counts ["_law_box_here", "_law_worths"] []
  F_Purse_init : FunD K "__init__" "Purse.__init__" (defArgs s_Purse_init) (defBody s_Purse_init) (defScope s_Purse_init) [.non] [] a.f_Purse_init a.d_Purse_init
  b_Purse_init_3 : ∃ ds, Vals [] ds ∧ Binds K a.d_Purse_init ["self", "kinds", "counts"] ds
  kb_Purse_init_2_counts : ∃ its : List Value, KBn K a.d_Purse_init ["self", "kinds", "counts"] 2 ["counts"] (fun us ws => us ++ (ws.drop 0).take 1) (fun vs zs => vs ++ (zs.drop 0).take 1)
  b_Purse_init_2 : ∃ ds, Vals [.non] ds ∧ Binds K a.d_Purse_init ["self", "kinds", "counts"] ds
  F__law_made : Fun K "_law_made" "_law_made" s__law_made a.f__law_made a.d__law_made
  g__law_made : mg "_law_made" = some (.ref a.f__law_made)
  b__law_made : Binds K a.d__law_made ["_law_box_here", "_law_worths"] []
  F_Purse_spot_of : Fun K "spot_of" "Purse.spot_of" s_Purse_spot_of a.f_Purse_spot_of a.d_Purse_spot_of
  m_Purse_spot_of : Meth K a.C_Purse "spot_of" a.f_Purse_spot_of
  b_Purse_spot_of : Binds K a.d_Purse_spot_of ["self", "kind"] []
  F_Purse_take : FunD K "take" "Purse.take" (defArgs s_Purse_take) (defBody s_Purse_take) (defScope s_Purse_take) [.int 1] [] a.f_Purse_take a.d_Purse_take
  m_Purse_take : Meth K a.C_Purse "take" a.f_Purse_take
  b_Purse_take_2 : ∃ ds, Vals [.int 1] ds ∧ Binds K a.d_Purse_take ["self", "kind", "times"] ds
  b_Purse_take_3 : ∃ ds, Vals [] ds ∧ Binds K a.d_Purse_take ["self", "kind", "times"] ds
  kb_Purse_take_2_times : ∃ its : List Value, KBn K a.d_Purse_take ["self", "kind", "times"] 2 ["times"] (fun us ws => us ++ (ws.drop 0).take 1) (fun vs zs => vs ++ (zs.drop 0).take 1)
  F_Purse_put : FunD K "put" "Purse.put" (defArgs s_Purse_put) (defBody s_Purse_put) (defScope s_Purse_put) [.int 1] [] a.f_Purse_put a.d_Purse_put
  m_Purse_put : Meth K a.C_Purse "put" a.f_Purse_put
  b_Purse_put_2 : ∃ ds, Vals [.int 1] ds ∧ Binds K a.d_Purse_put ["self", "kind", "times"] ds
  b_Purse_put_3 : ∃ ds, Vals [] ds ∧ Binds K a.d_Purse_put ["self", "kind", "times"] ds
  kb_Purse_put_2_times : ∃ its : List Value, KBn K a.d_Purse_put ["self", "kind", "times"] 2 ["times"] (fun us ws => us ++ (ws.drop 0).take 1) (fun vs zs => vs ++ (zs.drop 0).take 1)
  F__law_deed_right : Fun K "_law_deed_right" "_law_deed_right" s__law_deed_right a.f__law_deed_right a.d__law_deed_right
  g__law_deed_right : mg "_law_deed_right" = some (.ref a.f__law_deed_right)
  b__law_deed_right : Binds K a.d__law_deed_right ["_law_box_here", "_law_purse", "_law_worths", "_law_stock"] []
  F_Purse_counts_told : Fun K "counts_told" "Purse.counts_told" s_Purse_counts_told a.f_Purse_counts_told a.d_Purse_counts_told
  m_Purse_counts_told : Meth K a.C_Purse "counts_told" a.f_Purse_counts_told
  b_Purse_counts_told : Binds K a.d_Purse_counts_told ["self"] []
  F__law_same : Fun K "_law_same" "_law_same" s__law_same a.f__law_same a.d__law_same
  g__law_same : mg "_law_same" = some (.ref a.f__law_same)
  b__law_same : Binds K a.d__law_same ["_law_found", "_law_due"] []
  F_Purse_many : Fun K "many" "Purse.many" s_Purse_many a.f_Purse_many a.d_Purse_many
  m_Purse_many : Meth K a.C_Purse "many" a.f_Purse_many
  b_Purse_many : Binds K a.d_Purse_many ["self", "kind"] []
  F_Purse_kinds_told : Fun K "kinds_told" "Purse.kinds_told" s_Purse_kinds_told a.f_Purse_kinds_told a.d_Purse_kinds_told
  m_Purse_kinds_told : Meth K a.C_Purse "kinds_told" a.f_Purse_kinds_told
  b_Purse_kinds_told : Binds K a.d_Purse_kinds_told ["self"] []
  F_Purse_worth : Fun K "worth" "Purse.worth" s_Purse_worth a.f_Purse_worth a.d_Purse_worth
  m_Purse_worth : Meth K a.C_Purse "worth" a.f_Purse_worth
  b_Purse_worth : Binds K a.d_Purse_worth ["self"] []
  F_Purse_len__ : Fun K "__len__" "Purse.__len__" s_Purse_len__ a.f_Purse_len__ a.d_Purse_len__
  m_Purse_len__ : Meth K a.C_Purse "__len__" a.f_Purse_len__
  b_Purse_len__ : Binds K a.d_Purse_len__ ["self"] []
  F__law_stands : Fun K "_law_stands" "_law_stands" s__law_stands a.f__law_stands a.d__law_stands
  g__law_stands : mg "_law_stands" = some (.ref a.f__law_stands)
  b__law_stands : Binds K a.d__law_stands ["_law_purse", "_law_worths", "_law_stock"] []
  F_law : Fun K "law" "law" s_law a.f_law a.d_law
/-! ### the draw -/
def sp__law_take : Sp := fun vs H Q _ => ∃ (B : Addr) (m : Int) (n : Nat), vs = [.ref B, .int m] ∧ Box H B n ∧ 0 < m ∧ m < 1073741824 ∧ n < 1000000000 ∧
  ∀ r H', 0 ≤ r → r < m → Fr [B] H H' → Box H' B (n + 1) → Q (.int r) H'
theorem ok__law_take {P : Program} {w : World} {K : PySem.W.Frag} {mg : Str → Option Value} {base : Heap} {ad : Ad} (T : Txt K mg ad) : FnOk P w K mg base CX0 1 ad.f__law_take ad.d__law_take ["_law_box_here", "_law_size"] sp__law_take := by
  refine T.F__law_take.ok sc__law_take (fun vs H Q E h => ?_) (fun cdv A outer s H vs Q E hr h => ?_)
  · obtain ⟨a, ns, k, rfl, _⟩ := h
    rfl
  · obtain ⟨B, m, n, rfl, ⟨b0, b1, b2, hB, h0, h1, h2, h3, h4⟩, m0, m1, hn, q⟩ := h
    refine ⟨_, (pss_cons (ps_if (pt_cmpR op_gt (pe_ix ix_list (pv 0) pe_int (fun _ _ => rfl)) pe_int (nomark _)) (pss_cons (ps_asg (pe_callB call_divmod (by rfl) T.n_divmod (by decide +kernel) (pa_cons (pe_ix ix_list (pv 0) pe_int (fun _ _ => rfl)) (pa_cons (pv 1) pa_nil))) (pg_tup (by rfl) (pgs_cons (pg_sub (pv 0) pe_int set_list) (pgs_cons (pg_name (i := 2) sc__law_take.nd rfl (Or.inl rfl)) pgs_nil))))
    (pss_one (ps_ret (pv 2)))) pss_nil)
    (pss_cons (ps_asg (pe_op op_add (pe_ix ix_list (pv 0) pe_int (fun _ _ => rfl)) pe_int) (pg_sub (pv 0) pe_int set_list))
    (pss_cons (ps_set (i := 3) sc__law_take.nd rfl (Or.inl rfl) (pe_op op_add pe_int (pe_op op_mul (pe_ix ix_list (pv 0) pe_int (fun _ _ => rfl)) (pe_ix ix_list (pv 0) pe_int (fun _ _ => rfl)))))
    (pss_cons (ps_set (i := 4) sc__law_take.nd rfl (Or.inl rfl) (pe_op op_mod (pe_op op_mul (pe_op op_add (pe_ix ix_list (pv 0) pe_int (fun _ _ => rfl)) (pe_op op_mul pe_int (pe_ix ix_list (pv 0) pe_int (fun _ _ => rfl)))) (pv 3)) pe_int))
    (pss_cons (ps_set (i := 5) sc__law_take.nd rfl (Or.inl rfl) (pe_op op_mod (pe_op op_add (pe_op op_mul (pv 4) (pe_op op_add (pe_op op_mod (pv 4) pe_int) pe_int)) (pe_ix ix_list (pv 0) pe_int (fun _ _ => rfl))) pe_int))
    (pss_one (ps_ret (pe_op op_mod (pe_op op_fdiv (pe_op op_mod (pe_op op_mul (pv 5) (pe_op op_add (pe_op op_mod (pv 5) pe_int) pe_int)) pe_int) pe_int) (pv 1))))))))), ?_⟩
    walk_at "z"
    refine ite2 (fun h => ?_) (fun h => ?_)
    · walk_at "z"
      refine fun p hp => ?_
      have hBp : B ≠ p := ne_of_none hB hp
      have hB' : upd H p (.tup [.int (b0 / m), .int (b0 % m)]) B = some (.lst [.int b0, .int b1, .int b2]) := by rw [upd_ne hBp]; exact hB
      walk_at "z"
      refine q _ _ (Int.emod_nonneg _ (by omega)) (Int.emod_lt_of_pos _ m0) ?_ ?_
      · exact (Fr.new hp).put (by simp)
      · exact ⟨_, _, _, upd_same, Int.ediv_nonneg h0 (by omega), h1, h2, h3, by omega⟩
    · walk_at "z"
      refine q _ _ (Int.emod_nonneg _ (by omega)) (Int.emod_lt_of_pos _ m0) ((Fr.refl _ _).put (by simp)) ⟨_, _, _, upd_same, h0, h1, h2, by omega, by omega⟩

theorem okD__law_take {P : Program} {w : World} {K : PySem.W.Frag} {mg : Str → Option Value} {base : Heap} {ad : Ad} (T : Txt K mg ad) : FnOk P w K mg base CX0 1 ad.f__law_take ad.d__law_take ["_law_box_here", "_law_size"] (spF K 2 F__law_take) :=
  (ok__law_take T).imp fun _ _ _ _ h => take_of h

/-! ### the law's own likeness, kind by kind -/
def sp__law_same (K : PySem.W.Frag) (n : Nat) : Sp := fun vs H Q _ => ∃ (v1 v2 : V) (d : PyData), vs = [v1, v2] ∧ Dp K H v1 d ∧ Dp K H v2 d ∧ SeqAt.shaped d = true ∧ d.depth < n ∧ nodes d ≤ 1000000 ∧ ∀ H', Same H H' → Q (.bl true) H'
theorem ok__law_same {P : Program} {w : World} {K : PySem.W.Frag} {mg : Str → Option Value} {base : Heap} {ad : Ad} (T : Txt K mg ad) : ∀ n : Nat, FnOk P w K mg base CX0 n ad.f__law_same ad.d__law_same ["_law_found", "_law_due"] (sp__law_same K n)
  | 0 => ⟨fun vs H Q E ⟨_, _, _, _, _, _, _, h, _, _⟩ => absurd h (Nat.not_lt_zero _), fun _ _ _ _ _ _ _ _ _ _ _ _ _ ⟨_, _, _, _, _, _, _, h, _, _⟩ => absurd h (Nat.not_lt_zero _)⟩
  | n + 1 => by
    have G__law_same := ok__law_same (P := P) (w := w) (base := base) T n
    refine T.F__law_same.ok sc__law_same (fun vs H Q E h => ?_) (fun cdv A outer s H vs Q E hr h => ?_)
    · obtain ⟨v1, v2, d, rfl, _⟩ := h
      rfl
    · obtain ⟨v1, v2, d, rfl, d1, d2, sh, dep, nod, q⟩ := h
      refine ⟨_, (pss_cons (ps_if (pt_val (pe_callB call_isiT (by rfl) T.n_isinstance (by decide +kernel) (pa_cons (pv 1) (pa_cons (pe_tup (pa_cons (pe_bltn (v := .ty "list") (by rfl) T.n_list (by decide +kernel) rfl) (pa_cons (pe_bltn (v := .ty "tuple") (by rfl) T.n_tuple (by decide +kernel) rfl) pa_nil))) pa_nil)))) (pss_cons (ps_if (PW.pt (pw_or (pt_cmpR op_ne (pe_callB call_isi (by rfl) T.n_isinstance (by decide +kernel) (pa_cons (pv 0) (pa_cons (pe_bltn (v := .ty "list") (by rfl) T.n_list (by decide +kernel) rfl) pa_nil))) (pe_callB call_isi (by rfl) T.n_isinstance (by decide +kernel) (pa_cons (pv 1) (pa_cons (pe_bltn (v := .ty "list") (by rfl) T.n_list (by decide +kernel) rfl) pa_nil))) (nomark _)) (pw_or1 (pt_cmpR op_ne (pe_callB call_isi (by rfl) T.n_isinstance (by decide +kernel) (pa_cons (pv 0) (pa_cons (pe_bltn (v := .ty "tuple") (by rfl) T.n_tuple (by decide +kernel) rfl) pa_nil))) (pe_callB call_isi (by rfl) T.n_isinstance (by decide +kernel) (pa_cons (pv 1) (pa_cons (pe_bltn (v := .ty "tuple") (by rfl) T.n_tuple (by decide +kernel) rfl) pa_nil))) (nomark _))))) (pss_one (ps_ret pe_bl)) pss_nil)
    (pss_one (ps_ret (pe_and (pe_cmpR op_eq (pe_callB call_len_seq (by rfl) T.n_len PySem.boot_len (pa_cons (pv 0) pa_nil)) (pe_callB call_len_seq (by rfl) T.n_len PySem.boot_len (pa_cons (pv 1) pa_nil)) (nomark _)) (pe_one (pe_callB (cr_all rfl) (by rfl) T.n_all (by decide +kernel) (pa_cons (pe_lc (own := [("_law_one", 2), ("_law_other", 3)]) (g := gTup K 2 (gCons (gName 2) (gCons (gName 3) gNil))) (by rfl) sc__law_same.nd (RZ.pi_zipA (by rfl) T.n_zip (pa_cons (pv 0) (pa_cons (pv 1) pa_nil))) (blkOk_by (own := [("_law_one", 2), ("_law_other", 3)]) (N := N__law_same) (sc := defScope s__law_same) (by decide +kernel)) (fun _ _ _ _ _ => (pg_tup (by rfl) (pgs_cons (pg_name (i := 2) sc__law_same.nd rfl (Or.inl rfl)) (pgs_cons (pg_name (i := 3) sc__law_same.nd rfl (Or.inl rfl)) pgs_nil)))) (fun _ _ _ _ _ => pts_nil) (fun _ _ _ _ _ => (pe_call G__law_same hr rfl T.g__law_same T.F__law_same.kp T.b__law_same .nil pass0 (pa_cons (pv 2) (pa_cons (pv 3) pa_nil))))) pa_nil))))))) pss_nil)
    (pss_cons (ps_if (PW.pt (pw_or (pt_cmpR op_isN (pv 1) pe_non (nomark _)) (pw_or1 (pt_val (pe_callB call_isi (by rfl) T.n_isinstance (by decide +kernel) (pa_cons (pv 1) (pa_cons (pe_bltn (v := .ty "str") (by rfl) T.n_str (by decide +kernel) rfl) pa_nil))))))) (pss_one (ps_ret (pe_and (pe_cmpR (op_eqD hr.units) (pv 0) (pv 1) (nomark _)) (pe_one (pe_cmpR op_eq (pe_callB call_isi (by rfl) T.n_isinstance (by decide +kernel) (pa_cons (pv 0) (pa_cons (pe_bltn (v := .ty "str") (by rfl) T.n_str (by decide +kernel) rfl) pa_nil))) (pe_callB call_isi (by rfl) T.n_isinstance (by decide +kernel) (pa_cons (pv 1) (pa_cons (pe_bltn (v := .ty "str") (by rfl) T.n_str (by decide +kernel) rfl) pa_nil))) (nomark _)))))) pss_nil)
    (pss_one (ps_ret (pe_and (pe_callB call_isi (by rfl) T.n_isinstance (by decide +kernel) (pa_cons (pv 0) (pa_cons (pe_bltn (v := .ty "int") (by rfl) T.n_int (by decide +kernel) rfl) pa_nil))) (pe_and (pe_cmpR op_eq (pe_callB call_isi (by rfl) T.n_isinstance (by decide +kernel) (pa_cons (pv 0) (pa_cons (pe_bltn (v := .ty "bool") (by rfl) T.n_bool (by decide +kernel) rfl) pa_nil))) (pe_callB call_isi (by rfl) T.n_isinstance (by decide +kernel) (pa_cons (pv 1) (pa_cons (pe_bltn (v := .ty "bool") (by rfl) T.n_bool (by decide +kernel) rfl) pa_nil))) (nomark _)) (pe_one (pe_cmpR (op_eqD hr.units) (pv 0) (pv 1) (nomark _))))))))), ?_⟩
      have fin : ∀ {p : Addr} {o : HO}, H p = none → Q (.bl true) (upd H p o) := fun hp => q _ (Same.new hp)
      cases d with
      | dict _ => cases d1
      | none =>
        refine ⟨_, rfl, Nat.le_of_ble_eq_true rfl, fun p hp => ?_⟩
        have d1' := Dp.mono (Same.new (o := .tup [.ty "list", .ty "tuple"]) hp) d1
        have d2' := Dp.mono (Same.new (o := .tup [.ty "list", .ty "tuple"]) hp) d2
        refine ⟨_, _, _, _, _, false, rfl, upd_same, ltC, tyD "NoneType" d2' rfl, kitLT "NoneType" false false (by decide +kernel) (by decide +kernel), ?_⟩
        cases d1
        cases d2
        walk_at "z"
        refine ⟨.none, .none, .non, .non, rfl, rfl, ?_⟩
        walk_at "z"
        refine ⟨_, _, _, _, false, rfl, .ty _, tyD "NoneType" d1' rfl, kit_ty (by decide +kernel), ?_⟩
        walk_at "z"
        refine ⟨_, _, _, _, false, rfl, .ty _, tyD "NoneType" d2' rfl, kit_ty (by decide +kernel), ?_⟩
        walk_at "z"
        exact fin hp
      | bool b =>
        refine ⟨_, rfl, Nat.le_of_ble_eq_true rfl, fun p hp => ?_⟩
        have d1' := Dp.mono (Same.new (o := .tup [.ty "list", .ty "tuple"]) hp) d1
        have d2' := Dp.mono (Same.new (o := .tup [.ty "list", .ty "tuple"]) hp) d2
        refine ⟨_, _, _, _, _, false, rfl, upd_same, ltC, tyD "bool" d2' rfl, kitLT "bool" false false (by decide +kernel) (by decide +kernel), ?_⟩
        cases d1
        cases d2
        walk_at "z"
        refine ⟨_, _, _, _, false, rfl, .ty _, tyD "bool" d2' rfl, kit_ty (by decide +kernel), ?_⟩
        walk_at "z"
        refine ⟨_, _, _, _, true, rfl, .ty _, tyD "bool" d1' rfl, kit_ty (by decide +kernel), ?_⟩
        walk_at "z"
        refine ⟨_, _, _, _, true, rfl, .ty _, tyD "bool" d1' rfl, kit_ty (by decide +kernel), ?_⟩
        walk_at "z"
        refine ⟨_, _, _, _, true, rfl, .ty _, tyD "bool" d2' rfl, kit_ty (by decide +kernel), ?_⟩
        walk_at "z"
        refine ⟨.bool b, .bool b, .bl _, .bl _, rfl, rfl, ?_⟩
        rw [SeqAt.eqv_refl _ rfl]
        exact fin hp
      | int i =>
        refine ⟨_, rfl, Nat.le_of_ble_eq_true rfl, fun p hp => ?_⟩
        have d1' := Dp.mono (Same.new (o := .tup [.ty "list", .ty "tuple"]) hp) d1
        have d2' := Dp.mono (Same.new (o := .tup [.ty "list", .ty "tuple"]) hp) d2
        refine ⟨_, _, _, _, _, false, rfl, upd_same, ltC, tyD "int" d2' rfl, kitLT "int" false false (by decide +kernel) (by decide +kernel), ?_⟩
        cases d1
        cases d2
        walk_at "z"
        refine ⟨.int i, .int i, .int _, .int _, rfl, rfl, ?_⟩
        rw [SeqAt.eqv_refl _ rfl]
        exact fin hp
      | str x =>
        refine ⟨_, rfl, Nat.le_of_ble_eq_true rfl, fun p hp => ?_⟩
        have d1' := Dp.mono (Same.new (o := .tup [.ty "list", .ty "tuple"]) hp) d1
        have d2' := Dp.mono (Same.new (o := .tup [.ty "list", .ty "tuple"]) hp) d2
        refine ⟨_, _, _, _, _, false, rfl, upd_same, ltC, tyD "str" d2' rfl, kitLT "str" false false (by decide +kernel) (by decide +kernel), ?_⟩
        cases d1
        cases d2
        walk_at "z"
        refine ⟨.str x, .str x, .str _, .str _, sh, sh, ?_⟩
        rw [SeqAt.eqv_refl _ (SeqAt.canLay_of_shaped sh)]
        walk_at "z"
        exact fin hp
      | list ds =>
        obtain ⟨a1, xs, rfl, s1, r1⟩ := Dp.list_of d1
        obtain ⟨a2, ys, rfl, s2, r2⟩ := Dp.list_of d2
        refine ⟨_, rfl, Nat.le_of_ble_eq_true rfl, fun p hp => ?_⟩
        have sm := Same.new (o := .tup [.ty "list", .ty "tuple"]) hp
        have d1' := Dp.mono sm d1
        have d2' := Dp.mono sm d2
        refine ⟨_, _, _, _, _, true, rfl, upd_same, ltC, tyD "list" d2' rfl, kitLT "list" true false (by decide +kernel) (by decide +kernel), ?_⟩
        walk_at "z"
        refine ⟨_, _, _, _, true, rfl, .ty _, tyD "list" d1' rfl, kit_ty (by decide +kernel), ?_⟩
        walk_at "z"
        refine ⟨_, _, _, _, true, rfl, .ty _, tyD "list" d2' rfl, kit_ty (by decide +kernel), ?_⟩
        walk_at "z"
        refine ⟨_, _, _, _, false, rfl, .ty _, tyD "list" d1' rfl, kit_ty (by decide +kernel), ?_⟩
        walk_at "z"
        refine ⟨_, _, _, _, false, rfl, .ty _, tyD "list" d2' rfl, kit_ty (by decide +kernel), ?_⟩
        walk_at "z"
        have hl : xs.length = ys.length := by rw [DpAll.length r1, DpAll.length r2]
        refine ⟨a1, _, rfl, .inl (SqL.mono sm s1), ?_⟩
        refine ⟨_, rfl, a2, _, rfl, .inl (SqL.mono sm s2), ?_⟩
        refine ⟨rfl, _, rfl, ?_⟩
        with_reducible refine iteDS (by rw [hl]) ?_
        refine ⟨_, rfl, _, rfl, a1, a2, xs, ys, rfl, .inl ⟨SqL.mono sm s1, SqL.mono sm s2, fun D hD => ?_⟩⟩
        refine lc_it (walk_zip (xs := xs) (ys := ys) (n := xs.length) (by omega)) (fun i H' => LcP (upd H p (.tup [.ty "list", .ty "tuple"])) D xs (fun _ => V.bl true) i H') (LcP.start hD) ?_ ?_ ?_
        · intro i H' _ lp
          exact ⟨SqL.mono (sm.trans lp.same) s1, SqL.mono (sm.trans lp.same) s2⟩
        · rintro i x H' _ hi lp ⟨t, x, y, rfl, ht, rfl, hx, hy⟩
          walk_at "z"
          obtain ⟨dd, hd, dx⟩ := DpAll.get r1 hx
          obtain ⟨dd', hd', dy⟩ := DpAll.get r2 hy
          have ed : dd' = dd := Option.some.inj (hd'.symm.trans hd)
          subst ed
          have sx : Same H (upd H' t (.tup [x, y])) := (sm.trans lp.same).trans (Same.new ht)
          obtain ⟨c1, c2⟩ := shaped_mem (.inl sh) (List.mem_of_getElem? hd)
          refine ⟨x, y, _, rfl, Dp.mono sx dx, Dp.mono sx dy, c1, ?_, ?_, fun H4 s4 => ?_⟩
          · have : PyData.depthAll ds + 1 < n + 1 := dep
            omega
          · have h1 := nodes_mem (List.mem_of_getElem? hd)
            have h2 : nodesAll ds + 1 ≤ 1000000 := nod
            omega
          · refine lp.step ((Same.new ht).trans s4) hx rfl ?_
            have h1 := len_nodes ds
            have h2 : nodesAll ds + 1 ≤ 1000000 := nod
            have h3 : sizeLine = 16777216 := by decide +kernel
            rw [DpAll.length r1]
            omega
        · intro H' lp
          refine ⟨D, xs.map fun _ => true, rfl, SqL.of (by rw [lp.done, List.map_map]; rfl), ?_⟩
          have e : (xs.map fun _ => true).all id = true := by simp
          rw [e]
          exact q _ (sm.trans lp.same)
      | tuple ds =>
        obtain ⟨a1, xs, rfl, s1, r1⟩ := Dp.tuple_of d1
        obtain ⟨a2, ys, rfl, s2, r2⟩ := Dp.tuple_of d2
        refine ⟨_, rfl, Nat.le_of_ble_eq_true rfl, fun p hp => ?_⟩
        have sm := Same.new (o := .tup [.ty "list", .ty "tuple"]) hp
        have d1' := Dp.mono sm d1
        have d2' := Dp.mono sm d2
        refine ⟨_, _, _, _, _, true, rfl, upd_same, ltC, tyD "tuple" d2' rfl, kitLT "tuple" false true (by decide +kernel) (by decide +kernel), ?_⟩
        walk_at "z"
        refine ⟨_, _, _, _, false, rfl, .ty _, tyD "tuple" d1' rfl, kit_ty (by decide +kernel), ?_⟩
        walk_at "z"
        refine ⟨_, _, _, _, false, rfl, .ty _, tyD "tuple" d2' rfl, kit_ty (by decide +kernel), ?_⟩
        walk_at "z"
        refine ⟨_, _, _, _, true, rfl, .ty _, tyD "tuple" d1' rfl, kit_ty (by decide +kernel), ?_⟩
        walk_at "z"
        refine ⟨_, _, _, _, true, rfl, .ty _, tyD "tuple" d2' rfl, kit_ty (by decide +kernel), ?_⟩
        walk_at "z"
        have hl : xs.length = ys.length := by rw [DpAll.length r1, DpAll.length r2]
        refine ⟨a1, _, rfl, .inr (SqT.mono sm s1), ?_⟩
        refine ⟨_, rfl, a2, _, rfl, .inr (SqT.mono sm s2), ?_⟩
        refine ⟨rfl, _, rfl, ?_⟩
        with_reducible refine iteDS (by rw [hl]) ?_
        refine ⟨_, rfl, _, rfl, a1, a2, xs, ys, rfl, .inr ⟨SqT.mono sm s1, SqT.mono sm s2, fun D hD => ?_⟩⟩
        refine lc_it (walk_zipT (xs := xs) (ys := ys) (n := xs.length) (by omega)) (fun i H' => LcP (upd H p (.tup [.ty "list", .ty "tuple"])) D xs (fun _ => V.bl true) i H') (LcP.start hD) ?_ ?_ ?_
        · intro i H' _ lp
          exact ⟨SqT.mono (sm.trans lp.same) s1, SqT.mono (sm.trans lp.same) s2⟩
        · rintro i x H' _ hi lp ⟨t, x, y, rfl, ht, rfl, hx, hy⟩
          walk_at "z"
          obtain ⟨dd, hd, dx⟩ := DpAll.get r1 hx
          obtain ⟨dd', hd', dy⟩ := DpAll.get r2 hy
          have ed : dd' = dd := Option.some.inj (hd'.symm.trans hd)
          subst ed
          have sx : Same H (upd H' t (.tup [x, y])) := (sm.trans lp.same).trans (Same.new ht)
          obtain ⟨c1, c2⟩ := shaped_mem (.inr sh) (List.mem_of_getElem? hd)
          refine ⟨x, y, _, rfl, Dp.mono sx dx, Dp.mono sx dy, c1, ?_, ?_, fun H4 s4 => ?_⟩
          · have : PyData.depthAll ds + 1 < n + 1 := dep
            omega
          · have h1 := nodes_mem (List.mem_of_getElem? hd)
            have h2 : nodesAll ds + 1 ≤ 1000000 := nod
            omega
          · refine lp.step ((Same.new ht).trans s4) hx rfl ?_
            have h1 := len_nodes ds
            have h2 : nodesAll ds + 1 ≤ 1000000 := nod
            have h3 : sizeLine = 16777216 := by decide +kernel
            rw [DpAll.length r1]
            omega
        · intro H' lp
          refine ⟨D, xs.map fun _ => true, rfl, SqL.of (by rw [lp.done, List.map_map]; rfl), ?_⟩
          have e : (xs.map fun _ => true).all id = true := by simp
          rw [e]
          exact q _ (sm.trans lp.same)

theorem okD__law_same {P : Program} {w : World} {K : PySem.W.Frag} {mg : Str → Option Value} {base : Heap} {ad : Ad} (T : Txt K mg ad) (_ : Nat) : FnOk P w K mg base CX0 8 ad.f__law_same ad.d__law_same ["_law_found", "_law_due"] (spF K 2 F__law_same) :=
  (ok__law_same T 8).imp fun _ _ _ _ h => same_of h

theorem okD__law_box {P : Program} {w : World} {K : PySem.W.Frag} {mg : Str → Option Value} {base : Heap} {ad : Ad} (T : Txt K mg ad) : FnOk P w K mg base CX0 1 ad.f__law_box ad.d__law_box ["_law_script", "_law_k"] (spN K 2 F__law_box) := by
  refine okN0 T.F__law_box sc__law_box fun cdv A outer s H E hr => ⟨_, (pss_cons (ps_set (i := 2) sc__law_box.nd rfl (Or.inl rfl) (pe_ifExp (pt_cmpR op_lt (pv 1) (pe_callB call_len_seq (by rfl) T.n_len PySem.boot_len (pa_cons (pv 0) pa_nil)) (nomark _)) (pe_ix ix_list (pv 0) (pv 1) (fun _ _ => rfl)) pe_int))
    (pss_one (ps_ret (pe_lst (pa_cons (pe_op op_mul (pe_callB call_abs (by rfl) T.n_abs (by decide +kernel) (pa_cons (pv 2) pa_nil)) (pe_callTy call_int1 (by rfl) T.n_int (by decide +kernel) (pa_cons (pe_cmpR op_ge (pe_callB call_abs (by rfl) T.n_abs (by decide +kernel) (pa_cons (pv 2) pa_nil)) (pe_op op_pow pe_int pe_int) (nomark _)) pa_nil))) (pa_cons (pe_op op_mod (pe_op op_mul (pe_op op_add (pe_op op_add (pe_op op_mod (pv 2) pe_int) (pe_op op_mul pe_int (pv 1))) pe_int) pe_int) pe_int) (pa_cons pe_int pa_nil))))))), ?_⟩
  intro J
  exact (rs_seq (rs_asg (re_if (rt_test (re_op rr_lt re_v (re_cb rb_len (ra_cons re_v ra_nil)))) (re_op rr_ixL re_v re_v) (re_c fun _ => .int _)) rg_name)
    (rs_retW (rn_lst (ra_cons (re_op rr_mul (re_cb rb_abs (ra_cons re_v ra_nil)) (re_cb rb_int (ra_cons (re_op rr_ge (re_cb rb_abs (ra_cons re_v ra_nil)) (re_op rr_pow (re_c fun _ => .int _) (re_c fun _ => .int _))) ra_nil))) (ra_cons (re_op rr_mod (re_op rr_mul (re_op rr_add (re_op rr_add (re_op rr_mod re_v (re_c fun _ => .int _)) (re_op rr_mul (re_c fun _ => .int _) re_v)) (re_c fun _ => .int _)) (re_c fun _ => .int _)) (re_c fun _ => .int _)) (ra_cons (re_c fun _ => .int _) ra_nil))))))
theorem okD__law_kinds {P : Program} {w : World} {K : PySem.W.Frag} {mg : Str → Option Value} {base : Heap} {ad : Ad} (T : Txt K mg ad) : FnOk P w K mg base CX0 2 ad.f__law_kinds ad.d__law_kinds ["_law_box_here"] (spF K 1 F__law_kinds) := by
  have G__law_take := okD__law_take (P := P) (w := w) (base := base) T
  refine okF0 T.F__law_kinds sc__law_kinds fun cdv A outer s H E hr => ⟨_, (pss_cons (ps_par (i := 1) (j := 2) (by rfl) sc__law_kinds.nd rfl rfl (by decide) rfl rfl (pa_cons (pe_op op_add pe_int (pe_call G__law_take (hr.mono (by decide)) rfl T.g__law_take T.F__law_take.kp T.b__law_take .nil pass0 (pa_cons (pv 0) (pa_cons pe_int pa_nil)))) (pa_cons (pe_call G__law_take (hr.mono (by decide)) rfl T.g__law_take T.F__law_take.kp T.b__law_take .nil pass0 (pa_cons (pv 0) (pa_cons pe_int pa_nil))) pa_nil)) (by rfl))
    (pss_cons (ps_set (i := 3) sc__law_kinds.nd rfl (Or.inl rfl) (pe_lst (pa_cons (pe_tup (pa_cons pe_int (pa_cons pe_int (pa_cons pe_int (pa_cons pe_int (pa_cons pe_int (pa_cons pe_int (pa_cons pe_int (pa_cons pe_int pa_nil))))))))) (pa_cons (pe_tup (pa_cons pe_int (pa_cons pe_int (pa_cons pe_int (pa_cons pe_int (pa_cons pe_int (pa_cons pe_int (pa_cons pe_int (pa_cons pe_int pa_nil))))))))) (pa_cons (pe_tup (pa_cons pe_int (pa_cons pe_int (pa_cons pe_int (pa_cons pe_int (pa_cons pe_int (pa_cons pe_int (pa_cons pe_int (pa_cons pe_int pa_nil))))))))) pa_nil)))))
    (pss_cons (ps_par (i := 4) (j := 5) (by rfl) sc__law_kinds.nd rfl rfl (by decide) rfl rfl (pa_cons (pe_ifExp (pt_cmpR op_lt (pv 2) pe_int (nomark _)) (pe_callTy call_list_of (by rfl) T.n_list (by decide +kernel) (pa_cons (pe_ix ix_list (pv 3) (pv 2) (fun _ _ => rfl)) pa_nil)) (pe_lc (own := [("_law_k", 6)]) (g := gName 6) (by rfl) sc__law_kinds.nd (pi_range1 rfl T.n_range (pa_cons pe_int pa_nil)) (blkOk_by (own := [("_law_k", 6)]) (N := N__law_kinds) (sc := defScope s__law_kinds) (by decide +kernel)) (fun _ _ _ _ _ => (pg_name (i := 6) sc__law_kinds.nd rfl (Or.inl rfl))) (fun _ _ _ _ _ => pts_nil) (fun _ _ _ _ _ => (pe_op op_add pe_int (pe_call G__law_take (hr.mono (by decide)) rfl T.g__law_take T.F__law_take.kp T.b__law_take .nil pass0 (pa_cons (pv 0) (pa_cons pe_int pa_nil))))))) (pa_cons (pe_lst pa_nil) pa_nil)) (by rfl))
    (pss_cons (ps_for PassesOwn.never rfl (pi_range1 rfl T.n_range (pa_cons (pv 1) pa_nil)) (pg_name (i := 6) sc__law_kinds.nd rfl (Or.inl rfl)) (pss_one (ps_expr (pe_bm PySem.F.plainAttrs_list PySem.F.slot_list_append PySem.F.type_list_append mt_append (pv 5) (pa_cons (pe_bm PySem.F.plainAttrs_list PySem.F.slot_list_pop PySem.F.type_list_pop mt_popAt (pv 4) (pa_cons (pe_call G__law_take (hr.mono (by decide)) rfl T.g__law_take T.F__law_take.kp T.b__law_take .nil pass0 (pa_cons (pv 0) (pa_cons (pe_callB call_len_seq (by rfl) T.n_len PySem.boot_len (pa_cons (pv 4) pa_nil)) pa_nil))) pa_nil)) pa_nil)))))
    (pss_one (ps_ret (pe_callTy cr_tupN (by rfl) T.n_tuple (by decide +kernel) (pa_cons (pe_callB (cr_sortedSet rfl) (by rfl) T.n_sorted (by decide +kernel) (pa_cons (pe_callTy (cr_setI rfl) (by rfl) T.n_set (by decide +kernel) (pa_cons (pv 5) pa_nil)) pa_nil)) pa_nil)))))))), ?_⟩
  intro J
  exact (rs_seq (rs_par (ra_cons (re_op rr_add (re_c fun _ => .int _) (re_call (fun _ => .nil) (rc_own (rc_dat (re_c fun _ => .int _) rc_nil)))) (ra_cons (re_call (fun _ => .nil) (rc_own (rc_dat (re_c fun _ => .int _) rc_nil))) ra_nil)))
    (rs_seq (rs_asg (RN.re (rn_lst (ra_cons (re_tup (ra_cons (re_c fun _ => .int _) (ra_cons (re_c fun _ => .int _) (ra_cons (re_c fun _ => .int _) (ra_cons (re_c fun _ => .int _) (ra_cons (re_c fun _ => .int _) (ra_cons (re_c fun _ => .int _) (ra_cons (re_c fun _ => .int _) (ra_cons (re_c fun _ => .int _) ra_nil))))))))) (ra_cons (re_tup (ra_cons (re_c fun _ => .int _) (ra_cons (re_c fun _ => .int _) (ra_cons (re_c fun _ => .int _) (ra_cons (re_c fun _ => .int _) (ra_cons (re_c fun _ => .int _) (ra_cons (re_c fun _ => .int _) (ra_cons (re_c fun _ => .int _) (ra_cons (re_c fun _ => .int _) ra_nil))))))))) (ra_cons (re_tup (ra_cons (re_c fun _ => .int _) (ra_cons (re_c fun _ => .int _) (ra_cons (re_c fun _ => .int _) (ra_cons (re_c fun _ => .int _) (ra_cons (re_c fun _ => .int _) (ra_cons (re_c fun _ => .int _) (ra_cons (re_c fun _ => .int _) (ra_cons (re_c fun _ => .int _) ra_nil))))))))) ra_nil))))) rg_name)
    (rs_seq (rs_parOO (by decide) (by decide) (by decide) (rn_if (rt_test (re_op rr_lt re_v (re_c fun _ => .int _))) (rn_cb rbn_list (ra_cons (re_op rr_ixL re_v re_v) ra_nil)) (rn_lc (by decide) (ri_rng1 (ra_cons (re_c fun _ => .int _) ra_nil)) (fun _ le => rg_name) (fun _ le => rt_yes) (fun _ le => (re_op rr_add (re_c fun _ => .int _) (re_call (fun _ => .nil) (rc_own (rc_dat (re_c fun _ => .int _) rc_nil))))))) (rn_lst ra_nil))
    (rs_seq (rs_for (by decide) (ri_rng1 (ra_cons re_v ra_nil)) rg_name (rs_append (re_popAt (re_call (fun _ => .nil) (rc_own (rc_dat re_lenO rc_nil))))))
    (rs_freeze (by decide) (rs_ret (re_tupN (RN.re (rn_sortSet (ra_cons re_v ra_nil))))))))))
theorem okD__law_counts {P : Program} {w : World} {K : PySem.W.Frag} {mg : Str → Option Value} {base : Heap} {ad : Ad} (T : Txt K mg ad) : FnOk P w K mg base CX0 2 ad.f__law_counts ad.d__law_counts ["_law_box_here", "_law_worths"] (spN K 2 F__law_counts) := by
  have G__law_take := okD__law_take (P := P) (w := w) (base := base) T
  refine okN0 T.F__law_counts sc__law_counts fun cdv A outer s H E hr => ⟨_, (pss_one (ps_ret (pe_lc (own := [("_law_coin", 2)]) (g := gName 2) (by rfl) sc__law_counts.nd (pi_tup (pv 1)) (blkOk_by (own := [("_law_coin", 2)]) (N := N__law_counts) (sc := defScope s__law_counts) (by decide +kernel)) (fun _ _ _ _ _ => (pg_name (i := 2) sc__law_counts.nd rfl (Or.inl rfl))) (fun _ _ _ _ _ => pts_nil) (fun _ _ _ _ _ => (pe_ix (r := rIxL K) ix_list (pe_lst (pa_cons pe_int (pa_cons pe_int (pa_cons (pe_call G__law_take (hr.mono (by decide)) rfl T.g__law_take T.F__law_take.kp T.b__law_take .nil pass0 (pa_cons (pv 0) (pa_cons pe_int pa_nil))) (pa_cons (pe_call G__law_take (hr.mono (by decide)) rfl T.g__law_take T.F__law_take.kp T.b__law_take .nil pass0 (pa_cons (pv 0) (pa_cons pe_int pa_nil))) (pa_cons pe_int pa_nil)))))) (pe_call G__law_take (hr.mono (by decide)) rfl T.g__law_take T.F__law_take.kp T.b__law_take .nil pass0 (pa_cons (pv 0) (pa_cons pe_int pa_nil))) (fun _ _ => rfl)))))), ?_⟩
  intro J
  exact (rs_retW (rn_lc (by decide) (ri_tup (re_unT re_v)) (fun _ le => rg_name) (fun _ le => rt_yes) (fun _ le => (re_op rr_ixL (RN.re (rn_lst (ra_cons (re_c fun _ => .int _) (ra_cons (re_c fun _ => .int _) (ra_cons (re_call (fun _ => .nil) (rc_own (rc_dat (re_c fun _ => .int _) rc_nil))) (ra_cons (re_call (fun _ => .nil) (rc_own (rc_dat (re_c fun _ => .int _) rc_nil))) (ra_cons (re_c fun _ => .int _) ra_nil))))))) (re_call (fun _ => .nil) (rc_own (rc_dat (re_c fun _ => .int _) rc_nil)))))))
theorem okD_Purse_init {P : Program} {w : World} {K : PySem.W.Frag} {mg : Str → Option Value} {base : Heap} {ad : Ad} (T : Txt K mg ad) : FnOk P w K mg base CX0 1 ad.f_Purse_init ad.d_Purse_init ["self", "kinds", "counts"] (spS K 3 F_Purse_init) := by
  refine okSD T.F_Purse_init sc_Purse_init fun cdv A outer s H E hr => ⟨_, (pss_cons (ps_fld (pv 0) (pe_callTy cr_tupN (by rfl) T.n_tuple (by decide +kernel) (pa_cons (pv 1) pa_nil)) rfl)
    (pss_one (ps_fld (pv 0) (pe_ifExp (pt_cmpR op_isN (pv 2) pe_non (nomark _)) (pe_op op_rep (pe_lst (pa_cons pe_int pa_nil)) (pe_callB call_len_seq (by rfl) T.n_len PySem.boot_len (pa_cons (pe_fld (pv 0) rfl) pa_nil))) (pe_callTy call_list_of (by rfl) T.n_list (by decide +kernel) (pa_cons (pv 2) pa_nil))) rfl))), ?_⟩
  intro J
  exact (rs_seq (rs_setF T.q_Purse T.cl_Purse T.na_Purse_coin_kinds re_v (re_tupN re_v))
    (rs_setF T.q_Purse T.cl_Purse T.na_Purse_coin_counts re_v (re_if (rt_test (re_op rr_isN re_v (re_c fun _ => .non))) (re_newL (rn_rep (rn_lst (ra_cons (re_c fun _ => .int _) ra_nil)) (re_cb rb_len (ra_cons (re_unT (re_fldU T.q_Purse T.cl_Purse T.na_Purse_coin_kinds re_v)) ra_nil)))) (re_newL (rn_opn (rn_cb rbn_list (ra_cons re_v ra_nil)))))))
theorem okD__law_made {P : Program} {w : World} {K : PySem.W.Frag} {mg : Str → Option Value} {base : Heap} {ad : Ad} (T : Txt K mg ad) : FnOk P w K mg base CX0 3 ad.f__law_made ad.d__law_made ["_law_box_here", "_law_worths"] (spS K 2 F__law_made) := by
  have G__law_counts := okD__law_counts (P := P) (w := w) (base := base) T
  have G__law_take := okD__law_take (P := P) (w := w) (base := base) T
  have G_Purse_init := okD_Purse_init (P := P) (w := w) (base := base) T
  obtain ⟨db_Purse_init_3, vb_Purse_init_3, b_Purse_init_3⟩ := T.b_Purse_init_3
  obtain ⟨ikb_Purse_init_2_counts, kb_Purse_init_2_counts⟩ := T.kb_Purse_init_2_counts
  obtain ⟨db_Purse_init_2, vb_Purse_init_2, b_Purse_init_2⟩ := T.b_Purse_init_2
  refine okS0 T.F__law_made sc__law_made fun cdv A outer s H E hr => ⟨_, (pss_cons (ps_par (i := 2) (j := 3) (by rfl) sc__law_made.nd rfl rfl (by decide) rfl rfl (pa_cons (pe_call G__law_counts (hr.mono (by decide)) rfl T.g__law_counts T.F__law_counts.kp T.b__law_counts .nil pass0 (pa_cons (pv 0) (pa_cons (pv 1) pa_nil))) (pa_cons (pe_call G__law_take (hr.mono (by decide)) rfl T.g__law_take T.F__law_take.kp T.b__law_take .nil pass0 (pa_cons (pv 0) (pa_cons pe_int pa_nil))) pa_nil)) (by rfl))
    (pss_cons (ps_if (pt_cmpR op_lt (pv 3) pe_int (nomark _)) (pss_one (ps_ret (pe_tup (pa_cons (pe_ifExp (pt_cmpR op_eq (pv 3) pe_int (nomark _)) (pe_make T.mk_Purse G_Purse_init (hr.mono (by decide)) rfl T.g_Purse b_Purse_init_2 vb_Purse_init_2 pass0 (pa_cons (pv 1) pa_nil)) (pe_makeN T.mk_Purse G_Purse_init (hr.mono (by decide)) rfl T.g_Purse kb_Purse_init_2_counts pass0 (pa_cons (pv 1) pa_nil) (pk_cons pe_non pk_nil))) (pa_cons (pe_op op_rep (pe_lst (pa_cons pe_int pa_nil)) (pe_callB call_len_seq (by rfl) T.n_len PySem.boot_len (pa_cons (pv 1) pa_nil))) pa_nil))))) pss_nil)
    (pss_cons (ps_set (i := 4) sc__law_made.nd rfl (Or.inl rfl) (pe_callTy call_list_of (by rfl) T.n_list (by decide +kernel) (pa_cons (pv 2) pa_nil)))
    (pss_cons (ps_if (pt_cmpR op_lt (pv 3) pe_int (nomark _)) (pss_one (ps_ret (pe_tup (pa_cons (pe_ifExp (pt_cmpR op_eq (pv 3) pe_int (nomark _)) (pe_make T.mk_Purse G_Purse_init (hr.mono (by decide)) rfl T.g_Purse b_Purse_init_3 vb_Purse_init_3 pass0 (pa_cons (pv 1) (pa_cons (pe_callTy cr_tupN (by rfl) T.n_tuple (by decide +kernel) (pa_cons (pv 4) pa_nil)) pa_nil))) (pe_makeN T.mk_Purse G_Purse_init (hr.mono (by decide)) rfl T.g_Purse kb_Purse_init_2_counts pass0 (pa_cons (pv 1) pa_nil) (pk_cons (pe_callTy cr_tupN (by rfl) T.n_tuple (by decide +kernel) (pa_cons (pv 4) pa_nil)) pk_nil))) (pa_cons (pv 2) pa_nil))))) pss_nil)
    (pss_cons (ps_set (i := 5) sc__law_made.nd rfl (Or.inl rfl) (pe_ifExp (pt_cmpR op_lt (pv 3) pe_int (nomark _)) (pe_make T.mk_Purse G_Purse_init (hr.mono (by decide)) rfl T.g_Purse b_Purse_init_3 vb_Purse_init_3 pass0 (pa_cons (pv 1) (pa_cons (pv 4) pa_nil))) (pe_makeN T.mk_Purse G_Purse_init (hr.mono (by decide)) rfl T.g_Purse kb_Purse_init_2_counts pass0 (pa_cons (pv 1) pa_nil) (pk_cons (pv 4) pk_nil))))
    (pss_cons (ps_expr (pe_bm PySem.F.plainAttrs_list PySem.F.slot_list_append PySem.F.type_list_append mt_append (pv 4) (pa_cons pe_int pa_nil)))
    (pss_cons (ps_asg pe_int (pg_sub (pv 4) pe_int set_list))
    (pss_one (ps_ret (pe_tup (pa_cons (pv 5) (pa_cons (pv 2) pa_nil)))))))))))), ?_⟩
  intro J
  exact (rs_seq (rs_par (ra_cons (re_newL (rn_call (fun _ => .nil) (rc_own (rc_dat re_v rc_nil)))) (ra_cons (re_call (fun _ => .nil) (rc_own (rc_dat (re_c fun _ => .int _) rc_nil))) ra_nil)))
    (rs_seq (rs_if (rt_test (re_op rr_lt re_v (re_c fun _ => .int _))) (rs_ret (re_tup (ra_cons (re_if (rt_test (re_op rr_eq re_v (re_c fun _ => .int _))) (re_mkS T.q_Purse (fun _ => (.cons (.non) .nil)) (ra_cons re_v ra_nil)) (re_mkNS T.q_Purse (fun x vs zs ds es H r1 r2 => ⟨_, rfl, (r1.append ((r2.drop 0).take 1))⟩) (ra_cons re_v ra_nil) (ra_cons (re_c fun _ => .non) ra_nil))) (ra_cons (re_newL (rn_rep (rn_lst (ra_cons (re_c fun _ => .int _) ra_nil)) (re_cb rb_len (ra_cons (re_unT re_v) ra_nil)))) ra_nil)))) rs_next)
    (rs_seq (rs_asg (re_newL (rn_opn (rn_cb rbn_list (ra_cons re_v ra_nil)))) rg_name)
    (rs_seq (rs_if (rt_test (re_op rr_lt re_v (re_c fun _ => .int _))) (rs_ret (re_tup (ra_cons (re_if (rt_test (re_op rr_eq re_v (re_c fun _ => .int _))) (re_mkS T.q_Purse (fun _ => .nil) (ra_cons re_v (ra_cons (re_unT (re_opn (re_unT (re_tupN re_v)))) ra_nil))) (re_mkNS T.q_Purse (fun x vs zs ds es H r1 r2 => ⟨_, rfl, (r1.append ((r2.drop 0).take 1))⟩) (ra_cons re_v ra_nil) (ra_cons (re_unT (re_opn (re_unT (re_tupN re_v)))) ra_nil))) (ra_cons re_v ra_nil)))) rs_next)
    (rs_seq (rs_asg (re_if (rt_test (re_op rr_lt re_v (re_c fun _ => .int _))) (re_mkS T.q_Purse (fun _ => .nil) (ra_cons re_v (ra_cons re_v ra_nil))) (re_mkNS T.q_Purse (fun x vs zs ds es H r1 r2 => ⟨_, rfl, (r1.append ((r2.drop 0).take 1))⟩) (ra_cons re_v ra_nil) (ra_cons re_v ra_nil))) rg_name)
    (rs_seq (rs_appH re_v (re_c fun _ => .int _))
    (rs_seq (rs_asg (re_c fun _ => .int _) (rg_subH re_v (re_c fun _ => .int _)))
    (rs_ret (re_tup (ra_cons re_v (ra_cons re_v ra_nil)))))))))))
theorem okD_Purse_spot_of {P : Program} {w : World} {K : PySem.W.Frag} {mg : Str → Option Value} {base : Heap} {ad : Ad} (T : Txt K mg ad) : FnOk P w K mg base CX0 1 ad.f_Purse_spot_of ad.d_Purse_spot_of ["self", "kind"] (spF K 2 F_Purse_spot_of) := by
  refine okF0 T.F_Purse_spot_of sc_Purse_spot_of fun cdv A outer s H E hr => ⟨_, (pss_cons (ps_if (pt_cmpR op_notIn_seq (pv 1) (pe_fld (pv 0) rfl) rfl) (pss_one ps_never) pss_nil)
    (pss_one (ps_ret (pe_tm PySem.F.slot_tuple_index PySem.F.type_tuple_index (mt_idxTD hr.units) (pe_fld (pv 0) rfl) (pa_cons (pv 1) pa_nil))))), ?_⟩
  intro J
  exact (rs_seq (rs_if (rt_test (re_op rr_in re_v (re_unT (re_fld T.q_Purse T.cl_Purse T.na_Purse_coin_kinds re_v)))) rs_never rs_next)
    (rs_ret (re_idxT (re_fld T.q_Purse T.cl_Purse T.na_Purse_coin_kinds re_v) re_v)))
theorem okD_Purse_take {P : Program} {w : World} {K : PySem.W.Frag} {mg : Str → Option Value} {base : Heap} {ad : Ad} (T : Txt K mg ad) : FnOk P w K mg base CX0 2 ad.f_Purse_take ad.d_Purse_take ["self", "kind", "times"] (spS K 3 F_Purse_take) := by
  have G_Purse_spot_of := okD_Purse_spot_of (P := P) (w := w) (base := base) T
  refine okSD T.F_Purse_take sc_Purse_take fun cdv A outer s H E hr => ⟨_, (pss_cons (ps_set (i := 3) sc_Purse_take.nd rfl (Or.inl rfl) (pe_meth (pv 0) T.cl_Purse T.m_Purse_spot_of G_Purse_spot_of (hr.mono (by decide)) T.b_Purse_spot_of .nil pass0 (pa_cons (pv 1) pa_nil)))
    (pss_cons (ps_if (pt_cmpR op_lt (pe_ix ix_list (pe_fld (pv 0) rfl) (pv 3) (fun _ _ => rfl)) (pv 2) (nomark _)) (pss_one ps_never) pss_nil)
    (pss_one (ps_augS (pe_fld (pv 0) rfl) (pv 3) get_list (pv 2) ip_sub set_list)))), ?_⟩
  intro J
  exact (rs_seq (rs_asg (re_opn (re_meth T.q_Purse (fun _ => .nil) re_v (rc_dat re_v rc_nil))) rg_name)
    (rs_seq (rs_if (rt_test (re_op rr_lt (re_ixH (re_fldU T.q_Purse T.cl_Purse T.na_Purse_coin_counts re_v) re_v) re_v)) rs_never rs_next)
    (rs_augH (re_fldU T.q_Purse T.cl_Purse T.na_Purse_coin_counts re_v) re_v re_v)))
theorem okD_Purse_put {P : Program} {w : World} {K : PySem.W.Frag} {mg : Str → Option Value} {base : Heap} {ad : Ad} (T : Txt K mg ad) : FnOk P w K mg base CX0 2 ad.f_Purse_put ad.d_Purse_put ["self", "kind", "times"] (spS K 3 F_Purse_put) := by
  have G_Purse_spot_of := okD_Purse_spot_of (P := P) (w := w) (base := base) T
  refine okSD T.F_Purse_put sc_Purse_put fun cdv A outer s H E hr => ⟨_, (pss_one (ps_augS (pe_fld (pv 0) rfl) (pe_meth (pv 0) T.cl_Purse T.m_Purse_spot_of G_Purse_spot_of (hr.mono (by decide)) T.b_Purse_spot_of .nil pass0 (pa_cons (pv 1) pa_nil)) get_list (pv 2) ip_add set_list)), ?_⟩
  intro J
  exact (rs_augH (re_fldU T.q_Purse T.cl_Purse T.na_Purse_coin_counts re_v) (re_opn (re_meth T.q_Purse (fun _ => .nil) re_v (rc_dat re_v rc_nil))) re_v)
theorem okD__law_deed_right {P : Program} {w : World} {K : PySem.W.Frag} {mg : Str → Option Value} {base : Heap} {ad : Ad} (T : Txt K mg ad) : FnOk P w K mg base CX0 3 ad.f__law_deed_right ad.d__law_deed_right ["_law_box_here", "_law_purse", "_law_worths", "_law_stock"] (spS K 4 F__law_deed_right) := by
  have G__law_take := okD__law_take (P := P) (w := w) (base := base) T
  have G_Purse_take := okD_Purse_take (P := P) (w := w) (base := base) T
  have G_Purse_put := okD_Purse_put (P := P) (w := w) (base := base) T
  obtain ⟨db_Purse_take_2, vb_Purse_take_2, b_Purse_take_2⟩ := T.b_Purse_take_2
  obtain ⟨db_Purse_take_3, vb_Purse_take_3, b_Purse_take_3⟩ := T.b_Purse_take_3
  obtain ⟨ikb_Purse_take_2_times, kb_Purse_take_2_times⟩ := T.kb_Purse_take_2_times
  obtain ⟨db_Purse_put_2, vb_Purse_put_2, b_Purse_put_2⟩ := T.b_Purse_put_2
  obtain ⟨db_Purse_put_3, vb_Purse_put_3, b_Purse_put_3⟩ := T.b_Purse_put_3
  obtain ⟨ikb_Purse_put_2_times, kb_Purse_put_2_times⟩ := T.kb_Purse_put_2_times
  refine okS0 T.F__law_deed_right sc__law_deed_right fun cdv A outer s H E hr => ⟨_, (pss_cons (ps_par (i := 4) (j := 5) (by rfl) sc__law_deed_right.nd rfl rfl (by decide) rfl rfl (pa_cons (pe_call G__law_take (hr.mono (by decide)) rfl T.g__law_take T.F__law_take.kp T.b__law_take .nil pass0 (pa_cons (pv 0) (pa_cons (pe_callB call_len_seq (by rfl) T.n_len PySem.boot_len (pa_cons (pv 2) pa_nil)) pa_nil))) (pa_cons (pe_call G__law_take (hr.mono (by decide)) rfl T.g__law_take T.F__law_take.kp T.b__law_take .nil pass0 (pa_cons (pv 0) (pa_cons pe_int pa_nil))) pa_nil)) (by rfl))
    (pss_cons (ps_par (i := 6) (j := 7) (by rfl) sc__law_deed_right.nd rfl rfl (by decide) rfl rfl (pa_cons (pe_ix ix_tup (pv 2) (pv 4) (fun _ _ => rfl)) (pa_cons (pe_op op_add pe_int (pe_call G__law_take (hr.mono (by decide)) rfl T.g__law_take T.F__law_take.kp T.b__law_take .nil pass0 (pa_cons (pv 0) (pa_cons (pe_ix ix_list (pe_lst (pa_cons pe_int (pa_cons pe_int pa_nil))) (pe_call G__law_take (hr.mono (by decide)) rfl T.g__law_take T.F__law_take.kp T.b__law_take .nil pass0 (pa_cons (pv 0) (pa_cons pe_int pa_nil))) (fun _ _ => rfl)) pa_nil)))) pa_nil)) (by rfl))
    (pss_cons (ps_if (pt_cmpR op_lt (pv 5) pe_int (nomark _)) (pss_cons (ps_if (pt_cmpR op_gt (pe_op op_add (pe_ix ix_list (pv 3) (pv 4) (fun _ _ => rfl)) (pv 7)) pe_int (nomark _)) (pss_one (ps_ret pe_bl)) pss_nil)
    (pss_cons (ps_asg (pe_op op_add (pe_ix ix_list (pv 3) (pv 4) (fun _ _ => rfl)) (pe_ifExp (pt_cmpR op_eq (pv 5) pe_int (nomark _)) pe_int (pv 7))) (pg_sub (pv 3) (pv 4) set_list))
    (pss_cons (ps_if (pt_cmpR op_eq (pv 5) pe_int (nomark _)) (pss_one (ps_ret (pe_cmpR op_isN (pe_meth (pv 1) T.cl_Purse T.m_Purse_put G_Purse_put (hr.mono (by decide)) b_Purse_put_2 vb_Purse_put_2 pass0 (pa_cons (pv 6) pa_nil)) pe_non (nomark _)))) pss_nil)
    (pss_one (ps_ret (pe_cmpR op_isN (pe_ifExp (pt_cmpR op_eq (pv 5) pe_int (nomark _)) (pe_meth (pv 1) T.cl_Purse T.m_Purse_put G_Purse_put (hr.mono (by decide)) b_Purse_put_3 vb_Purse_put_3 pass0 (pa_cons (pv 6) (pa_cons (pv 7) pa_nil))) (pe_methN (pv 1) T.cl_Purse T.m_Purse_put G_Purse_put (hr.mono (by decide)) kb_Purse_put_2_times pass0 (pa_cons (pv 6) pa_nil) (pk_cons (pv 7) pk_nil))) pe_non (nomark _))))))) pss_nil)
    (pss_cons (ps_if (pt_cmpR op_eq (pe_ix ix_list (pv 3) (pv 4) (fun _ _ => rfl)) pe_int (nomark _)) (pss_one (ps_ret pe_bl)) pss_nil)
    (pss_cons (ps_set (i := 7) sc__law_deed_right.nd rfl (Or.inl rfl) (pe_ifExp (pt_cmpR op_eq (pv 5) pe_int (nomark _)) pe_int (pe_callB (call_min2 rfl) (by rfl) T.n_min (by decide +kernel) (pa_cons (pv 7) (pa_cons (pe_ix ix_list (pv 3) (pv 4) (fun _ _ => rfl)) pa_nil)))))
    (pss_cons (ps_asg (pe_op op_sub (pe_ix ix_list (pv 3) (pv 4) (fun _ _ => rfl)) (pv 7)) (pg_sub (pv 3) (pv 4) set_list))
    (pss_cons (ps_if (pt_cmpR op_eq (pv 5) pe_int (nomark _)) (pss_one (ps_ret (pe_cmpR op_isN (pe_meth (pv 1) T.cl_Purse T.m_Purse_take G_Purse_take (hr.mono (by decide)) b_Purse_take_2 vb_Purse_take_2 pass0 (pa_cons (pv 6) pa_nil)) pe_non (nomark _)))) pss_nil)
    (pss_one (ps_ret (pe_cmpR op_isN (pe_ifExp (pt_cmpR op_eq (pv 5) pe_int (nomark _)) (pe_meth (pv 1) T.cl_Purse T.m_Purse_take G_Purse_take (hr.mono (by decide)) b_Purse_take_3 vb_Purse_take_3 pass0 (pa_cons (pv 6) (pa_cons (pv 7) pa_nil))) (pe_methN (pv 1) T.cl_Purse T.m_Purse_take G_Purse_take (hr.mono (by decide)) kb_Purse_take_2_times pass0 (pa_cons (pv 6) pa_nil) (pk_cons (pv 7) pk_nil))) pe_non (nomark _))))))))))), ?_⟩
  intro J
  exact (rs_seq (rs_par (ra_cons (re_call (fun _ => .nil) (rc_own (rc_dat (re_cb rb_len (ra_cons (re_unT re_v) ra_nil)) rc_nil))) (ra_cons (re_call (fun _ => .nil) (rc_own (rc_dat (re_c fun _ => .int _) rc_nil))) ra_nil)))
    (rs_seq (rs_par (ra_cons (re_op rr_ixT (re_unT re_v) re_v) (ra_cons (re_op rr_add (re_c fun _ => .int _) (re_call (fun _ => .nil) (rc_own (rc_dat (re_op rr_ixL (RN.re (rn_lst (ra_cons (re_c fun _ => .int _) (ra_cons (re_c fun _ => .int _) ra_nil)))) (re_call (fun _ => .nil) (rc_own (rc_dat (re_c fun _ => .int _) rc_nil)))) rc_nil)))) ra_nil)))
    (rs_seq (rs_if (rt_test (re_op rr_lt re_v (re_c fun _ => .int _))) (rs_seq (rs_if (rt_test (re_op rr_gt (re_op rr_add (re_ixH re_v re_v) re_v) (re_c fun _ => .int _))) (rs_ret (re_c fun _ => .bl _)) rs_next)
    (rs_seq (rs_asg (re_op rr_add (re_ixH re_v re_v) (re_if (rt_test (re_op rr_eq re_v (re_c fun _ => .int _))) (re_c fun _ => .int _) re_v)) (rg_subH re_v re_v))
    (rs_seq (rs_if (rt_test (re_op rr_eq re_v (re_c fun _ => .int _))) (rs_ret (re_op rr_isN (re_methS T.q_Purse (fun _ => (.cons (.int _) .nil)) re_v (rc_dat re_v rc_nil)) (re_c fun _ => .non))) rs_next)
    (rs_ret (re_op rr_isN (re_if (rt_test (re_op rr_eq re_v (re_c fun _ => .int _))) (re_methS T.q_Purse (fun _ => .nil) re_v (rc_dat re_v (rc_dat re_v rc_nil))) (re_methNS T.q_Purse (fun x vs zs ds es H r1 r2 => ⟨_, rfl, (r1.append ((r2.drop 0).take 1))⟩) re_v (ra_cons re_v ra_nil) (ra_cons re_v ra_nil))) (re_c fun _ => .non)))))) rs_next)
    (rs_seq (rs_if (rt_test (re_op rr_eq (re_ixH re_v re_v) (re_c fun _ => .int _))) (rs_ret (re_c fun _ => .bl _)) rs_next)
    (rs_seq (rs_asg (re_if (rt_test (re_op rr_eq re_v (re_c fun _ => .int _))) (re_c fun _ => .int _) (re_cb rb_min2 (ra_cons re_v (ra_cons (re_ixH re_v re_v) ra_nil)))) rg_name)
    (rs_seq (rs_asg (re_op rr_sub (re_ixH re_v re_v) re_v) (rg_subH re_v re_v))
    (rs_seq (rs_if (rt_test (re_op rr_eq re_v (re_c fun _ => .int _))) (rs_ret (re_op rr_isN (re_methS T.q_Purse (fun _ => (.cons (.int _) .nil)) re_v (rc_dat re_v rc_nil)) (re_c fun _ => .non))) rs_next)
    (rs_ret (re_op rr_isN (re_if (rt_test (re_op rr_eq re_v (re_c fun _ => .int _))) (re_methS T.q_Purse (fun _ => .nil) re_v (rc_dat re_v (rc_dat re_v rc_nil))) (re_methNS T.q_Purse (fun x vs zs ds es H r1 r2 => ⟨_, rfl, (r1.append ((r2.drop 0).take 1))⟩) re_v (ra_cons re_v ra_nil) (ra_cons re_v ra_nil))) (re_c fun _ => .non))))))))))
theorem okD_Purse_counts_told {P : Program} {w : World} {K : PySem.W.Frag} {mg : Str → Option Value} {base : Heap} {ad : Ad} (T : Txt K mg ad) : FnOk P w K mg base CX0 1 ad.f_Purse_counts_told ad.d_Purse_counts_told ["self"] (spN K 1 F_Purse_counts_told) := by
  refine okN0 T.F_Purse_counts_told sc_Purse_counts_told fun cdv A outer s H E hr => ⟨_, (pss_one (ps_ret (pe_callTy call_list_of (by rfl) T.n_list (by decide +kernel) (pa_cons (pe_fld (pv 0) rfl) pa_nil)))), ?_⟩
  intro J
  exact (rs_retW (rn_cb rbn_list (ra_cons (re_fld T.q_Purse T.cl_Purse T.na_Purse_coin_counts re_v) ra_nil)))
theorem okD_Purse_many {P : Program} {w : World} {K : PySem.W.Frag} {mg : Str → Option Value} {base : Heap} {ad : Ad} (T : Txt K mg ad) : FnOk P w K mg base CX0 2 ad.f_Purse_many ad.d_Purse_many ["self", "kind"] (spF K 2 F_Purse_many) := by
  have G_Purse_spot_of := okD_Purse_spot_of (P := P) (w := w) (base := base) T
  refine okF0 T.F_Purse_many sc_Purse_many fun cdv A outer s H E hr => ⟨_, (pss_one (ps_ret (pe_ix ix_list (pe_fld (pv 0) rfl) (pe_meth (pv 0) T.cl_Purse T.m_Purse_spot_of G_Purse_spot_of (hr.mono (by decide)) T.b_Purse_spot_of .nil pass0 (pa_cons (pv 1) pa_nil)) (fun _ _ => rfl)))), ?_⟩
  intro J
  exact (rs_ret (re_op rr_ixL (re_fld T.q_Purse T.cl_Purse T.na_Purse_coin_counts re_v) (re_meth T.q_Purse (fun _ => .nil) re_v (rc_dat re_v rc_nil))))
theorem okD_Purse_kinds_told {P : Program} {w : World} {K : PySem.W.Frag} {mg : Str → Option Value} {base : Heap} {ad : Ad} (T : Txt K mg ad) : FnOk P w K mg base CX0 1 ad.f_Purse_kinds_told ad.d_Purse_kinds_told ["self"] (spF K 1 F_Purse_kinds_told) := by
  refine okF0 T.F_Purse_kinds_told sc_Purse_kinds_told fun cdv A outer s H E hr => ⟨_, (pss_one (ps_ret (pe_fld (pv 0) rfl))), ?_⟩
  intro J
  exact (rs_ret (re_fld T.q_Purse T.cl_Purse T.na_Purse_coin_kinds re_v))
theorem okD_Purse_worth {P : Program} {w : World} {K : PySem.W.Frag} {mg : Str → Option Value} {base : Heap} {ad : Ad} (T : Txt K mg ad) : FnOk P w K mg base CX0 1 ad.f_Purse_worth ad.d_Purse_worth ["self"] (spF K 1 F_Purse_worth) := by
  refine okF0 T.F_Purse_worth sc_Purse_worth fun cdv A outer s H E hr => ⟨_, (pss_one (ps_ret (pe_callB (cr_sum rfl) (by rfl) T.n_sum (by decide +kernel) (pa_cons (pe_lc (own := [("kind", 1), ("many", 2)]) (g := gTup K 2 (gCons (gName 1) (gCons (gName 2) gNil))) (by rfl) sc_Purse_worth.nd (ZM.pi_zipM (by rfl) T.n_zip (pa_cons (pe_fld (pv 0) rfl) (pa_cons (pe_fld (pv 0) rfl) pa_nil))) (blkOk_by (own := [("kind", 1), ("many", 2)]) (N := N_Purse_worth) (sc := defScope s_Purse_worth) (by decide +kernel)) (fun _ _ _ _ _ => (pg_tup (by rfl) (pgs_cons (pg_name (i := 1) sc_Purse_worth.nd rfl (Or.inl rfl)) (pgs_cons (pg_name (i := 2) sc_Purse_worth.nd rfl (Or.inl rfl)) pgs_nil)))) (fun _ _ _ _ _ => pts_nil) (fun _ _ _ _ _ => (pe_op op_mul (pv 1) (pv 2)))) pa_nil)))), ?_⟩
  intro J
  exact (rs_ret (re_cb rb_sum (ra_cons (RN.re (rn_lc (by decide) (ri_zipM (ra_cons (re_unT (re_fld T.q_Purse T.cl_Purse T.na_Purse_coin_kinds re_v)) (ra_cons (re_fld T.q_Purse T.cl_Purse T.na_Purse_coin_counts re_v) ra_nil))) (fun _ le => (rg_tup (rgs_cons rg_name (rgs_cons rg_name rgs_nil)))) (fun _ le => rt_yes) (fun _ le => (re_op rr_mul re_v re_v)))) ra_nil)))
theorem okD_Purse_len__ {P : Program} {w : World} {K : PySem.W.Frag} {mg : Str → Option Value} {base : Heap} {ad : Ad} (T : Txt K mg ad) : FnOk P w K mg base CX0 1 ad.f_Purse_len__ ad.d_Purse_len__ ["self"] (spF K 1 F_Purse_len__) := by
  refine okF0 T.F_Purse_len__ sc_Purse_len__ fun cdv A outer s H E hr => ⟨_, (pss_one (ps_ret (pe_callB cr_lenRng (by rfl) T.n_len PySem.boot_len (pa_cons (pe_callTy cr_rng1 (by rfl) T.n_range (by decide +kernel) (pa_cons (pe_callB (cr_sum rfl) (by rfl) T.n_sum (by decide +kernel) (pa_cons (pe_fld (pv 0) rfl) pa_nil)) pa_nil)) pa_nil)))), ?_⟩
  intro J
  exact (rs_ret (re_lenRng (re_cb rb_sum (ra_cons (re_fld T.q_Purse T.cl_Purse T.na_Purse_coin_counts re_v) ra_nil))))
theorem okD__law_stands {P : Program} {w : World} {K : PySem.W.Frag} {mg : Str → Option Value} {base : Heap} {ad : Ad} (T : Txt K mg ad) : FnOk P w K mg base CX0 9 ad.f__law_stands ad.d__law_stands ["_law_purse", "_law_worths", "_law_stock"] (spF K 3 F__law_stands) := by
  have G_Purse_counts_told := okD_Purse_counts_told (P := P) (w := w) (base := base) T
  have G__law_same := okD__law_same (P := P) (w := w) (base := base) T 8
  have G_Purse_many := okD_Purse_many (P := P) (w := w) (base := base) T
  have G_Purse_kinds_told := okD_Purse_kinds_told (P := P) (w := w) (base := base) T
  have G_Purse_worth := okD_Purse_worth (P := P) (w := w) (base := base) T
  have G_Purse_len__ := okD_Purse_len__ (P := P) (w := w) (base := base) T
  refine okF0 T.F__law_stands sc__law_stands fun cdv A outer s H E hr => ⟨_, (pss_cons (ps_set (i := 3) sc__law_stands.nd rfl (Or.inl rfl) pe_int)
    (pss_cons (ps_for PassesOwn.never rfl (ZM.pi_zipM (by rfl) T.n_zip (pa_cons (pv 1) (pa_cons (pv 2) pa_nil))) (pg_tup (by rfl) (pgs_cons (pg_name (i := 4) sc__law_stands.nd rfl (Or.inl rfl)) (pgs_cons (pg_name (i := 5) sc__law_stands.nd rfl (Or.inl rfl)) pgs_nil))) (pss_cons (ps_set (i := 3) sc__law_stands.nd rfl (Or.inl rfl) (pe_op op_add (pv 3) (pe_op op_mul (pv 4) (pv 5))))
    (pss_one (ps_if (pt_not (pt_val (pe_call G__law_same (hr.mono (by decide)) rfl T.g__law_same T.F__law_same.kp T.b__law_same .nil pass0 (pa_cons (pe_meth (pv 0) T.cl_Purse T.m_Purse_many G_Purse_many (hr.mono (by decide)) T.b_Purse_many .nil pass0 (pa_cons (pv 4) pa_nil)) (pa_cons (pv 5) pa_nil))))) (pss_one (ps_ret pe_bl)) pss_nil))))
    (pss_cons (ps_set (i := 6) sc__law_stands.nd rfl (Or.inl rfl) (pe_meth0 (pv 0) T.cl_Purse T.m_Purse_counts_told G_Purse_counts_told (hr.mono (by decide)) T.b_Purse_counts_told .nil pass0 ))
    (pss_cons (ps_if (pt_not (pt_val (pe_call G__law_same (hr.mono (by decide)) rfl T.g__law_same T.F__law_same.kp T.b__law_same .nil pass0 (pa_cons (pe_lst (pa_cons (pe_meth0 (pv 0) T.cl_Purse T.m_Purse_kinds_told G_Purse_kinds_told (hr.mono (by decide)) T.b_Purse_kinds_told .nil pass0 ) (pa_cons (pv 6) (pa_cons (pe_meth0 (pv 0) T.cl_Purse T.m_Purse_worth G_Purse_worth (hr.mono (by decide)) T.b_Purse_worth .nil pass0 ) (pa_cons (pe_callB (cr_lenOwn T.m_Purse_len__ G_Purse_len__ (hr.mono (by decide)) T.b_Purse_len__ pass0) (by rfl) T.n_len PySem.boot_len (pa_cons (pv 0) pa_nil)) pa_nil))))) (pa_cons (pe_lst (pa_cons (pv 1) (pa_cons (pv 2) (pa_cons (pv 3) (pa_cons (pe_callB (cr_sum rfl) (by rfl) T.n_sum (by decide +kernel) (pa_cons (pv 2) pa_nil)) pa_nil))))) pa_nil))))) (pss_one (ps_ret pe_bl)) pss_nil)
    (pss_cons (ps_expr (pe_bm PySem.F.plainAttrs_list PySem.F.slot_list_append PySem.F.type_list_append mt_append (pv 6) (pa_cons pe_int pa_nil)))
    (pss_cons (ps_expr (pe_bm0 PySem.F.plainAttrs_list PySem.F.slot_list_reverse PySem.F.type_list_reverse mt_reverse (pv 6)))
    (pss_one (ps_ret (pe_call G__law_same (hr.mono (by decide)) rfl T.g__law_same T.F__law_same.kp T.b__law_same .nil pass0 (pa_cons (pe_meth0 (pv 0) T.cl_Purse T.m_Purse_counts_told G_Purse_counts_told (hr.mono (by decide)) T.b_Purse_counts_told .nil pass0 ) (pa_cons (pv 2) pa_nil))))))))))), ?_⟩
  intro J
  exact (rs_seq (rs_asg (re_c fun _ => .int _) rg_name)
    (rs_seq (rs_for (by decide) (ri_zipM (ra_cons (re_unT re_v) (ra_cons re_v ra_nil))) (rg_tup (rgs_cons rg_name (rgs_cons rg_name rgs_nil))) (rs_seq (rs_asg (re_op rr_add re_v (re_op rr_mul re_v re_v)) rg_name)
    (rs_if (rt_not (rt_b (re_call (fun _ => .nil) (rc_dat (re_meth T.q_Purse (fun _ => .nil) re_v (rc_dat re_v rc_nil)) (rc_dat re_v rc_nil))))) (rs_ret (re_c fun _ => .bl _)) rs_next)))
    (rs_seq (rs_own (by decide) (rn_meth T.q_Purse (fun _ => .nil) re_v rc_nil))
    (rs_seq (rs_if (rt_bor (rt_not (rt_b (re_call (fun _ => .nil) (rc_dat (RN.re (rn_lst (ra_cons (re_unT (re_meth T.q_Purse (fun _ => .nil) re_v rc_nil)) (ra_cons re_v (ra_cons (re_meth T.q_Purse (fun _ => .nil) re_v rc_nil) (ra_cons (re_lenX T.q_Purse re_v) ra_nil)))))) (rc_dat (RN.re (rn_lst (ra_cons (re_unT re_v) (ra_cons re_v (ra_cons re_v (ra_cons (re_cb rb_sum (ra_cons re_v ra_nil)) ra_nil)))))) rc_nil)))))) (rs_ret (re_c fun _ => .bl _)) rs_next)
    (rs_seq (rs_append (re_c fun _ => .int _))
    (rs_seq rs_reverse
    (rs_ret (re_call (fun _ => .nil) (rc_dat (RN.re (rn_meth T.q_Purse (fun _ => .nil) re_v rc_nil)) (rc_dat re_v rc_nil))))))))))
theorem okD_law {P : Program} {w : World} {K : PySem.W.Frag} {mg : Str → Option Value} {base : Heap} {ad : Ad} (T : Txt K mg ad) : FnOk P w K mg base CX0 10 ad.f_law ad.d_law ["_law_script"] (spS K 1 F_law) := by
  have G__law_box := okD__law_box (P := P) (w := w) (base := base) T
  have G__law_kinds := okD__law_kinds (P := P) (w := w) (base := base) T
  have G__law_made := okD__law_made (P := P) (w := w) (base := base) T
  have G__law_take := okD__law_take (P := P) (w := w) (base := base) T
  have G__law_deed_right := okD__law_deed_right (P := P) (w := w) (base := base) T
  have G__law_stands := okD__law_stands (P := P) (w := w) (base := base) T
  refine okS0 T.F_law sc_law fun cdv A outer s H E hr => ⟨_, (pss_cons (ps_for PassesOwn.never rfl (pi_range1 rfl T.n_range (pa_cons (pe_op op_add pe_int (pe_callB (call_min2 rfl) (by rfl) T.n_min (by decide +kernel) (pa_cons pe_int (pa_cons (pe_callB call_len_seq (by rfl) T.n_len PySem.boot_len (pa_cons (pv 0) pa_nil)) pa_nil)))) pa_nil)) (pg_name (i := 1) sc_law.nd rfl (Or.inl rfl)) (pss_cons (ps_set (i := 2) sc_law.nd rfl (Or.inl rfl) (pe_call G__law_box (hr.mono (by decide)) rfl T.g__law_box T.F__law_box.kp T.b__law_box .nil pass0 (pa_cons (pv 0) (pa_cons (pv 1) pa_nil))))
    (pss_cons (ps_set (i := 3) sc_law.nd rfl (Or.inl rfl) (pe_call G__law_kinds (hr.mono (by decide)) rfl T.g__law_kinds T.F__law_kinds.kp T.b__law_kinds .nil pass0 (pa_cons (pv 2) pa_nil)))
    (pss_cons (ps_set (i := 4) sc_law.nd rfl (Or.inl rfl) (pe_lst (pa_cons (pv 3) (pa_cons (pe_ix ix_list (pe_lst (pa_cons (pv 3) (pa_cons (pe_call G__law_kinds (hr.mono (by decide)) rfl T.g__law_kinds T.F__law_kinds.kp T.b__law_kinds .nil pass0 (pa_cons (pv 2) pa_nil)) pa_nil))) (pe_call G__law_take (hr.mono (by decide)) rfl T.g__law_take T.F__law_take.kp T.b__law_take .nil pass0 (pa_cons (pv 2) (pa_cons pe_int pa_nil))) (fun _ _ => rfl)) pa_nil))))
    (pss_cons (ps_set (i := 5) sc_law.nd rfl (Or.inl rfl) (pe_lst (pa_cons (pe_call G__law_made (hr.mono (by decide)) rfl T.g__law_made T.F__law_made.kp T.b__law_made .nil pass0 (pa_cons (pv 2) (pa_cons (pe_ix ix_list (pv 4) pe_int (fun _ _ => rfl)) pa_nil))) (pa_cons (pe_call G__law_made (hr.mono (by decide)) rfl T.g__law_made T.F__law_made.kp T.b__law_made .nil pass0 (pa_cons (pv 2) (pa_cons (pe_ix ix_list (pv 4) pe_int (fun _ _ => rfl)) pa_nil))) pa_nil))))
    (pss_one (ps_for PassesOwn.never rfl (pi_range1 rfl T.n_range (pa_cons pe_int pa_nil)) (pg_name (i := 6) sc_law.nd rfl (Or.inl rfl)) (pss_cons (ps_set (i := 7) sc_law.nd rfl (Or.inl rfl) (pe_call G__law_take (hr.mono (by decide)) rfl T.g__law_take T.F__law_take.kp T.b__law_take .nil pass0 (pa_cons (pv 2) (pa_cons pe_int pa_nil))))
    (pss_cons (ps_if (pt_not (pt_val (pe_call G__law_deed_right (hr.mono (by decide)) rfl T.g__law_deed_right T.F__law_deed_right.kp T.b__law_deed_right .nil pass0 (pa_cons (pv 2) (pa_cons (pe_ix ix_tup (pe_ix ix_list (pv 5) (pv 7) (fun _ _ => rfl)) pe_int (fun _ _ => rfl)) (pa_cons (pe_ix ix_list (pv 4) (pv 7) (fun _ _ => rfl)) (pa_cons (pe_ix ix_tup (pe_ix ix_list (pv 5) (pv 7) (fun _ _ => rfl)) pe_int (fun _ _ => rfl)) pa_nil))))))) (pss_one (ps_ret pe_bl)) pss_nil)
    (pss_one (ps_if (pt_not (pt_val (pe_callB (cr_all rfl) (by rfl) T.n_all (by decide +kernel) (pa_cons (pe_lc (own := [("_law_one", 8), ("_law_own", 9)]) (g := gTup K 2 (gCons (gName 8) (gCons (gName 9) gNil))) (by rfl) sc_law.nd (RZ.pi_zipA (by rfl) T.n_zip (pa_cons (pv 5) (pa_cons (pv 4) pa_nil))) (blkOk_by (own := [("_law_one", 8), ("_law_own", 9)]) (N := N_law) (sc := defScope s_law) (by decide +kernel)) (fun _ _ _ _ _ => (pg_tup (by rfl) (pgs_cons (pg_name (i := 8) sc_law.nd rfl (Or.inl rfl)) (pgs_cons (pg_name (i := 9) sc_law.nd rfl (Or.inl rfl)) pgs_nil)))) (fun _ _ _ _ _ => pts_nil) (fun _ _ _ _ _ => (pe_call G__law_stands (hr.mono (by decide)) rfl T.g__law_stands T.F__law_stands.kp T.b__law_stands .nil pass0 (pa_cons (pe_ix (r := rIxT K) ix_tup (pv 8) pe_int (fun _ _ => rfl)) (pa_cons (pv 9) (pa_cons (pe_ix (r := rIxT K) ix_tup (pv 8) pe_int (fun _ _ => rfl)) pa_nil)))))) pa_nil)))) (pss_one (ps_ret pe_bl)) pss_nil)))))))))))
    (pss_one (ps_ret pe_bl))), ?_⟩
  intro J
  exact (rs_seq (rs_for (by decide) (ri_rng1 (ra_cons (re_op rr_add (re_c fun _ => .int _) (re_cb rb_min2 (ra_cons (re_c fun _ => .int _) (ra_cons (re_cb rb_len (ra_cons re_v ra_nil)) ra_nil)))) ra_nil)) rg_name (rs_seq (rs_own (by decide) (rn_call (fun _ => .nil) (rc_dat re_v (rc_dat re_v rc_nil))))
    (rs_seq (rs_asg (re_call (fun _ => .nil) (rc_own rc_nil)) rg_name)
    (rs_seq (rs_asg (RN.re (rn_lst (ra_cons re_v (ra_cons (re_op rr_ixL (RN.re (rn_lst (ra_cons re_v (ra_cons (re_call (fun _ => .nil) (rc_own rc_nil)) ra_nil)))) (re_call (fun _ => .nil) (rc_own (rc_dat (re_c fun _ => .int _) rc_nil)))) ra_nil)))) rg_name)
    (rs_seq (rs_asg (RN.re (rn_lst (ra_cons (re_callS (fun _ => .nil) (rc_own (rc_dat (re_op rr_ixL re_v (re_c fun _ => .int _)) rc_nil))) (ra_cons (re_callS (fun _ => .nil) (rc_own (rc_dat (re_op rr_ixL re_v (re_c fun _ => .int _)) rc_nil))) ra_nil)))) rg_name)
    (rs_for (by decide) (ri_rng1 (ra_cons (re_c fun _ => .int _) ra_nil)) rg_name (rs_seq (rs_asg (re_call (fun _ => .nil) (rc_own (rc_dat (re_c fun _ => .int _) rc_nil))) rg_name)
    (rs_seq (rs_if (rt_not (rt_b (re_callS (fun _ => .nil) (rc_own (rc_dat (re_op rr_ixT (re_op rr_ixL re_v re_v) (re_c fun _ => .int _)) (rc_dat (re_op rr_ixL re_v re_v) (rc_dat (re_op rr_ixT (re_op rr_ixL re_v re_v) (re_c fun _ => .int _)) rc_nil))))))) (rs_ret (re_c fun _ => .bl _)) rs_next)
    (rs_if (rt_not (rt_opn (rt_b (re_cb rb_all (ra_cons (RN.re (rn_lc (by decide) (ri_zip (ra_cons re_v (ra_cons re_v ra_nil))) (fun _ le => (rg_tup (rgs_cons rg_name (rgs_cons rg_name rgs_nil)))) (fun _ le => rt_yes) (fun _ le => (re_call (fun _ => .nil) (rc_dat (re_op rr_ixT re_v (re_c fun _ => .int _)) (rc_dat re_v (rc_dat (re_op rr_ixT re_v (re_c fun _ => .int _)) rc_nil))))))) ra_nil))))) (rs_ret (re_c fun _ => .bl _)) rs_next)))))))))
    (rs_ret (re_c fun _ => .bl _)))
abbrev sp_law (K : PySem.W.Frag) : Sp := spLaw K
theorem ok_law {P : Program} {w : World} {K : PySem.W.Frag} {mg : Str → Option Value} {base : Heap} {ad : Ad} (T : Txt K mg ad) : FnOk P w K mg base CX0 10 ad.f_law ad.d_law ["_law_script"] (sp_law K) :=
  (okD_law T).imp fun _ _ _ _ h => law_ofS (fun ns hl => f_law hl) h

theorem all_mk {l : PySem.W.OpenLaw} {w : World} {K : PySem.W.Frag} {h : Heap} {mg : Str → Option Value} {fa : Addr} (X : K.In h) (G : h.Ns mainGlobals mg) (hfa : mg "law" = some (.ref fa))
    {C_Purse : Addr}
    {f__law_box : Addr} {od__law_box an__law_box : Option Addr} {sl__law_box : Array (Option Value)} {oc__law_box kV__law_box dc__law_box pm__law_box cd__law_box ct__law_box : Value}
    {f__law_take : Addr} {od__law_take an__law_take : Option Addr} {sl__law_take : Array (Option Value)} {oc__law_take kV__law_take dc__law_take pm__law_take cd__law_take ct__law_take : Value}
    {f__law_kinds : Addr} {od__law_kinds an__law_kinds : Option Addr} {sl__law_kinds : Array (Option Value)} {oc__law_kinds kV__law_kinds dc__law_kinds pm__law_kinds cd__law_kinds ct__law_kinds : Value}
    {f__law_counts : Addr} {od__law_counts an__law_counts : Option Addr} {sl__law_counts : Array (Option Value)} {oc__law_counts kV__law_counts dc__law_counts pm__law_counts cd__law_counts ct__law_counts : Value}
    {f_Purse_init : Addr} {od_Purse_init an_Purse_init : Option Addr} {sl_Purse_init : Array (Option Value)} {oc_Purse_init kV_Purse_init dc_Purse_init pm_Purse_init cd_Purse_init ct_Purse_init : Value}
    {T_Purse_init : Addr} {oT_Purse_init : Value} {dT_Purse_init : Option Addr} {nT_Purse_init : Nat} {sT_Purse_init : Array (Option Value)}
    {f__law_made : Addr} {od__law_made an__law_made : Option Addr} {sl__law_made : Array (Option Value)} {oc__law_made kV__law_made dc__law_made pm__law_made cd__law_made ct__law_made : Value}
    {f_Purse_spot_of : Addr} {od_Purse_spot_of an_Purse_spot_of : Option Addr} {sl_Purse_spot_of : Array (Option Value)} {oc_Purse_spot_of kV_Purse_spot_of dc_Purse_spot_of pm_Purse_spot_of cd_Purse_spot_of ct_Purse_spot_of : Value}
    {f_Purse_take : Addr} {od_Purse_take an_Purse_take : Option Addr} {sl_Purse_take : Array (Option Value)} {oc_Purse_take kV_Purse_take dc_Purse_take pm_Purse_take cd_Purse_take ct_Purse_take : Value}
    {T_Purse_take : Addr} {oT_Purse_take : Value} {dT_Purse_take : Option Addr} {nT_Purse_take : Nat} {sT_Purse_take : Array (Option Value)} {tk_Purse_take_0 : Tok}
    {f_Purse_put : Addr} {od_Purse_put an_Purse_put : Option Addr} {sl_Purse_put : Array (Option Value)} {oc_Purse_put kV_Purse_put dc_Purse_put pm_Purse_put cd_Purse_put ct_Purse_put : Value}
    {T_Purse_put : Addr} {oT_Purse_put : Value} {dT_Purse_put : Option Addr} {nT_Purse_put : Nat} {sT_Purse_put : Array (Option Value)} {tk_Purse_put_0 : Tok}
    {f__law_deed_right : Addr} {od__law_deed_right an__law_deed_right : Option Addr} {sl__law_deed_right : Array (Option Value)} {oc__law_deed_right kV__law_deed_right dc__law_deed_right pm__law_deed_right cd__law_deed_right ct__law_deed_right : Value}
    {f_Purse_counts_told : Addr} {od_Purse_counts_told an_Purse_counts_told : Option Addr} {sl_Purse_counts_told : Array (Option Value)} {oc_Purse_counts_told kV_Purse_counts_told dc_Purse_counts_told pm_Purse_counts_told cd_Purse_counts_told ct_Purse_counts_told : Value}
    {f__law_same : Addr} {od__law_same an__law_same : Option Addr} {sl__law_same : Array (Option Value)} {oc__law_same kV__law_same dc__law_same pm__law_same cd__law_same ct__law_same : Value}
    {f_Purse_many : Addr} {od_Purse_many an_Purse_many : Option Addr} {sl_Purse_many : Array (Option Value)} {oc_Purse_many kV_Purse_many dc_Purse_many pm_Purse_many cd_Purse_many ct_Purse_many : Value}
    {f_Purse_kinds_told : Addr} {od_Purse_kinds_told an_Purse_kinds_told : Option Addr} {sl_Purse_kinds_told : Array (Option Value)} {oc_Purse_kinds_told kV_Purse_kinds_told dc_Purse_kinds_told pm_Purse_kinds_told cd_Purse_kinds_told ct_Purse_kinds_told : Value}
    {f_Purse_worth : Addr} {od_Purse_worth an_Purse_worth : Option Addr} {sl_Purse_worth : Array (Option Value)} {oc_Purse_worth kV_Purse_worth dc_Purse_worth pm_Purse_worth cd_Purse_worth ct_Purse_worth : Value}
    {f_Purse_len__ : Addr} {od_Purse_len__ an_Purse_len__ : Option Addr} {sl_Purse_len__ : Array (Option Value)} {oc_Purse_len__ kV_Purse_len__ dc_Purse_len__ pm_Purse_len__ cd_Purse_len__ ct_Purse_len__ : Value}
    {f__law_stands : Addr} {od__law_stands an__law_stands : Option Addr} {sl__law_stands : Array (Option Value)} {oc__law_stands kV__law_stands dc__law_stands pm__law_stands cd__law_stands ct__law_stands : Value}
    {f_law : Addr} {od_law an_law : Option Addr} {sl_law : Array (Option Value)} {oc_law kV_law dc_law pm_law cd_law ct_law : Value}
    (a_Purse : PySem.W.nsIn K mainGlobals "Purse" = some (some (.ref C_Purse)))
    (pg_Purse : PySem.W.plainGet K C_Purse Str.empty = true)
    (hd_Purse : PySem.W.hasDictIn K C_Purse = true)
    (po_Purse : PySem.W.plainOver K C_Purse = true)
    (sa_Purse : PySem.W.findIn K (.ref C_Purse) "__setattr__" = some (some (.builtin "object.__setattr__")))
    (mk_Purse : PySem.W.makesIn K C_Purse = true)
    (kc_Purse : PySem.W.keepIn K (.ref C_Purse) = true)
    (na_Purse_coin_kinds : PySem.W.findIn K (.ref C_Purse) "coin_kinds" = some none)
    (na_Purse_coin_counts : PySem.W.findIn K (.ref C_Purse) "coin_counts" = some none)
    (a__law_box : PySem.W.nsIn K mainGlobals "_law_box" = some (some (.ref f__law_box)))
    (l__law_box : K.lookup f__law_box = some ⟨oc__law_box, od__law_box, .func (PySem.W.fnOf "_law_box" "_law_box" (defArgs s__law_box) (defBody s__law_box) (defScope s__law_box) .none kV__law_box dc__law_box pm__law_box an__law_box cd__law_box ct__law_box), sl__law_box⟩)
    (e__law_box : PySem.W.codeIn K cd__law_box "_law_box" = true)
    (k__law_box : PySem.W.keepIn K (.ref f__law_box) = true)
    (a__law_take : PySem.W.nsIn K mainGlobals "_law_take" = some (some (.ref f__law_take)))
    (l__law_take : K.lookup f__law_take = some ⟨oc__law_take, od__law_take, .func (PySem.W.fnOf "_law_take" "_law_take" (defArgs s__law_take) (defBody s__law_take) (defScope s__law_take) .none kV__law_take dc__law_take pm__law_take an__law_take cd__law_take ct__law_take), sl__law_take⟩)
    (e__law_take : PySem.W.codeIn K cd__law_take "_law_take" = true)
    (k__law_take : PySem.W.keepIn K (.ref f__law_take) = true)
    (a__law_kinds : PySem.W.nsIn K mainGlobals "_law_kinds" = some (some (.ref f__law_kinds)))
    (l__law_kinds : K.lookup f__law_kinds = some ⟨oc__law_kinds, od__law_kinds, .func (PySem.W.fnOf "_law_kinds" "_law_kinds" (defArgs s__law_kinds) (defBody s__law_kinds) (defScope s__law_kinds) .none kV__law_kinds dc__law_kinds pm__law_kinds an__law_kinds cd__law_kinds ct__law_kinds), sl__law_kinds⟩)
    (e__law_kinds : PySem.W.codeIn K cd__law_kinds "_law_kinds" = true)
    (k__law_kinds : PySem.W.keepIn K (.ref f__law_kinds) = true)
    (a__law_counts : PySem.W.nsIn K mainGlobals "_law_counts" = some (some (.ref f__law_counts)))
    (l__law_counts : K.lookup f__law_counts = some ⟨oc__law_counts, od__law_counts, .func (PySem.W.fnOf "_law_counts" "_law_counts" (defArgs s__law_counts) (defBody s__law_counts) (defScope s__law_counts) .none kV__law_counts dc__law_counts pm__law_counts an__law_counts cd__law_counts ct__law_counts), sl__law_counts⟩)
    (e__law_counts : PySem.W.codeIn K cd__law_counts "_law_counts" = true)
    (k__law_counts : PySem.W.keepIn K (.ref f__law_counts) = true)
    (a_Purse_init : PySem.W.findIn K (.ref C_Purse) "__init__" = some (some (.ref f_Purse_init)))
    (i_Purse_init : PySem.W.isFn K (.ref f_Purse_init) = true)
    (l_Purse_init : K.lookup f_Purse_init = some ⟨oc_Purse_init, od_Purse_init, .func (PySem.W.fnOf "__init__" "Purse.__init__" (defArgs s_Purse_init) (defBody s_Purse_init) (defScope s_Purse_init) (.ref T_Purse_init) kV_Purse_init dc_Purse_init pm_Purse_init an_Purse_init cd_Purse_init ct_Purse_init), sl_Purse_init⟩)
    (e_Purse_init : PySem.W.codeIn K cd_Purse_init "Purse.__init__" = true)
    (k_Purse_init : PySem.W.keepIn K (.ref f_Purse_init) = true)
    (t_Purse_init : K.lookup T_Purse_init = some ⟨oT_Purse_init, dT_Purse_init, .seq ([Value.none] : List Value).toArray nT_Purse_init, sT_Purse_init⟩)
    (a__law_made : PySem.W.nsIn K mainGlobals "_law_made" = some (some (.ref f__law_made)))
    (l__law_made : K.lookup f__law_made = some ⟨oc__law_made, od__law_made, .func (PySem.W.fnOf "_law_made" "_law_made" (defArgs s__law_made) (defBody s__law_made) (defScope s__law_made) .none kV__law_made dc__law_made pm__law_made an__law_made cd__law_made ct__law_made), sl__law_made⟩)
    (e__law_made : PySem.W.codeIn K cd__law_made "_law_made" = true)
    (k__law_made : PySem.W.keepIn K (.ref f__law_made) = true)
    (a_Purse_spot_of : PySem.W.findIn K (.ref C_Purse) "spot_of" = some (some (.ref f_Purse_spot_of)))
    (i_Purse_spot_of : PySem.W.isFn K (.ref f_Purse_spot_of) = true)
    (l_Purse_spot_of : K.lookup f_Purse_spot_of = some ⟨oc_Purse_spot_of, od_Purse_spot_of, .func (PySem.W.fnOf "spot_of" "Purse.spot_of" (defArgs s_Purse_spot_of) (defBody s_Purse_spot_of) (defScope s_Purse_spot_of) .none kV_Purse_spot_of dc_Purse_spot_of pm_Purse_spot_of an_Purse_spot_of cd_Purse_spot_of ct_Purse_spot_of), sl_Purse_spot_of⟩)
    (e_Purse_spot_of : PySem.W.codeIn K cd_Purse_spot_of "Purse.spot_of" = true)
    (k_Purse_spot_of : PySem.W.keepIn K (.ref f_Purse_spot_of) = true)
    (a_Purse_take : PySem.W.findIn K (.ref C_Purse) "take" = some (some (.ref f_Purse_take)))
    (i_Purse_take : PySem.W.isFn K (.ref f_Purse_take) = true)
    (l_Purse_take : K.lookup f_Purse_take = some ⟨oc_Purse_take, od_Purse_take, .func (PySem.W.fnOf "take" "Purse.take" (defArgs s_Purse_take) (defBody s_Purse_take) (defScope s_Purse_take) (.ref T_Purse_take) kV_Purse_take dc_Purse_take pm_Purse_take an_Purse_take cd_Purse_take ct_Purse_take), sl_Purse_take⟩)
    (e_Purse_take : PySem.W.codeIn K cd_Purse_take "Purse.take" = true)
    (k_Purse_take : PySem.W.keepIn K (.ref f_Purse_take) = true)
    (t_Purse_take : K.lookup T_Purse_take = some ⟨oT_Purse_take, dT_Purse_take, .seq ([Value.int 1 tk_Purse_take_0] : List Value).toArray nT_Purse_take, sT_Purse_take⟩)
    (a_Purse_put : PySem.W.findIn K (.ref C_Purse) "put" = some (some (.ref f_Purse_put)))
    (i_Purse_put : PySem.W.isFn K (.ref f_Purse_put) = true)
    (l_Purse_put : K.lookup f_Purse_put = some ⟨oc_Purse_put, od_Purse_put, .func (PySem.W.fnOf "put" "Purse.put" (defArgs s_Purse_put) (defBody s_Purse_put) (defScope s_Purse_put) (.ref T_Purse_put) kV_Purse_put dc_Purse_put pm_Purse_put an_Purse_put cd_Purse_put ct_Purse_put), sl_Purse_put⟩)
    (e_Purse_put : PySem.W.codeIn K cd_Purse_put "Purse.put" = true)
    (k_Purse_put : PySem.W.keepIn K (.ref f_Purse_put) = true)
    (t_Purse_put : K.lookup T_Purse_put = some ⟨oT_Purse_put, dT_Purse_put, .seq ([Value.int 1 tk_Purse_put_0] : List Value).toArray nT_Purse_put, sT_Purse_put⟩)
    (a__law_deed_right : PySem.W.nsIn K mainGlobals "_law_deed_right" = some (some (.ref f__law_deed_right)))
    (l__law_deed_right : K.lookup f__law_deed_right = some ⟨oc__law_deed_right, od__law_deed_right, .func (PySem.W.fnOf "_law_deed_right" "_law_deed_right" (defArgs s__law_deed_right) (defBody s__law_deed_right) (defScope s__law_deed_right) .none kV__law_deed_right dc__law_deed_right pm__law_deed_right an__law_deed_right cd__law_deed_right ct__law_deed_right), sl__law_deed_right⟩)
    (e__law_deed_right : PySem.W.codeIn K cd__law_deed_right "_law_deed_right" = true)
    (k__law_deed_right : PySem.W.keepIn K (.ref f__law_deed_right) = true)
    (a_Purse_counts_told : PySem.W.findIn K (.ref C_Purse) "counts_told" = some (some (.ref f_Purse_counts_told)))
    (i_Purse_counts_told : PySem.W.isFn K (.ref f_Purse_counts_told) = true)
    (l_Purse_counts_told : K.lookup f_Purse_counts_told = some ⟨oc_Purse_counts_told, od_Purse_counts_told, .func (PySem.W.fnOf "counts_told" "Purse.counts_told" (defArgs s_Purse_counts_told) (defBody s_Purse_counts_told) (defScope s_Purse_counts_told) .none kV_Purse_counts_told dc_Purse_counts_told pm_Purse_counts_told an_Purse_counts_told cd_Purse_counts_told ct_Purse_counts_told), sl_Purse_counts_told⟩)
    (e_Purse_counts_told : PySem.W.codeIn K cd_Purse_counts_told "Purse.counts_told" = true)
    (k_Purse_counts_told : PySem.W.keepIn K (.ref f_Purse_counts_told) = true)
    (a__law_same : PySem.W.nsIn K mainGlobals "_law_same" = some (some (.ref f__law_same)))
    (l__law_same : K.lookup f__law_same = some ⟨oc__law_same, od__law_same, .func (PySem.W.fnOf "_law_same" "_law_same" (defArgs s__law_same) (defBody s__law_same) (defScope s__law_same) .none kV__law_same dc__law_same pm__law_same an__law_same cd__law_same ct__law_same), sl__law_same⟩)
    (e__law_same : PySem.W.codeIn K cd__law_same "_law_same" = true)
    (k__law_same : PySem.W.keepIn K (.ref f__law_same) = true)
    (a_Purse_many : PySem.W.findIn K (.ref C_Purse) "many" = some (some (.ref f_Purse_many)))
    (i_Purse_many : PySem.W.isFn K (.ref f_Purse_many) = true)
    (l_Purse_many : K.lookup f_Purse_many = some ⟨oc_Purse_many, od_Purse_many, .func (PySem.W.fnOf "many" "Purse.many" (defArgs s_Purse_many) (defBody s_Purse_many) (defScope s_Purse_many) .none kV_Purse_many dc_Purse_many pm_Purse_many an_Purse_many cd_Purse_many ct_Purse_many), sl_Purse_many⟩)
    (e_Purse_many : PySem.W.codeIn K cd_Purse_many "Purse.many" = true)
    (k_Purse_many : PySem.W.keepIn K (.ref f_Purse_many) = true)
    (a_Purse_kinds_told : PySem.W.findIn K (.ref C_Purse) "kinds_told" = some (some (.ref f_Purse_kinds_told)))
    (i_Purse_kinds_told : PySem.W.isFn K (.ref f_Purse_kinds_told) = true)
    (l_Purse_kinds_told : K.lookup f_Purse_kinds_told = some ⟨oc_Purse_kinds_told, od_Purse_kinds_told, .func (PySem.W.fnOf "kinds_told" "Purse.kinds_told" (defArgs s_Purse_kinds_told) (defBody s_Purse_kinds_told) (defScope s_Purse_kinds_told) .none kV_Purse_kinds_told dc_Purse_kinds_told pm_Purse_kinds_told an_Purse_kinds_told cd_Purse_kinds_told ct_Purse_kinds_told), sl_Purse_kinds_told⟩)
    (e_Purse_kinds_told : PySem.W.codeIn K cd_Purse_kinds_told "Purse.kinds_told" = true)
    (k_Purse_kinds_told : PySem.W.keepIn K (.ref f_Purse_kinds_told) = true)
    (a_Purse_worth : PySem.W.findIn K (.ref C_Purse) "worth" = some (some (.ref f_Purse_worth)))
    (i_Purse_worth : PySem.W.isFn K (.ref f_Purse_worth) = true)
    (l_Purse_worth : K.lookup f_Purse_worth = some ⟨oc_Purse_worth, od_Purse_worth, .func (PySem.W.fnOf "worth" "Purse.worth" (defArgs s_Purse_worth) (defBody s_Purse_worth) (defScope s_Purse_worth) .none kV_Purse_worth dc_Purse_worth pm_Purse_worth an_Purse_worth cd_Purse_worth ct_Purse_worth), sl_Purse_worth⟩)
    (e_Purse_worth : PySem.W.codeIn K cd_Purse_worth "Purse.worth" = true)
    (k_Purse_worth : PySem.W.keepIn K (.ref f_Purse_worth) = true)
    (a_Purse_len__ : PySem.W.findIn K (.ref C_Purse) "__len__" = some (some (.ref f_Purse_len__)))
    (i_Purse_len__ : PySem.W.isFn K (.ref f_Purse_len__) = true)
    (l_Purse_len__ : K.lookup f_Purse_len__ = some ⟨oc_Purse_len__, od_Purse_len__, .func (PySem.W.fnOf "__len__" "Purse.__len__" (defArgs s_Purse_len__) (defBody s_Purse_len__) (defScope s_Purse_len__) .none kV_Purse_len__ dc_Purse_len__ pm_Purse_len__ an_Purse_len__ cd_Purse_len__ ct_Purse_len__), sl_Purse_len__⟩)
    (e_Purse_len__ : PySem.W.codeIn K cd_Purse_len__ "Purse.__len__" = true)
    (k_Purse_len__ : PySem.W.keepIn K (.ref f_Purse_len__) = true)
    (a__law_stands : PySem.W.nsIn K mainGlobals "_law_stands" = some (some (.ref f__law_stands)))
    (l__law_stands : K.lookup f__law_stands = some ⟨oc__law_stands, od__law_stands, .func (PySem.W.fnOf "_law_stands" "_law_stands" (defArgs s__law_stands) (defBody s__law_stands) (defScope s__law_stands) .none kV__law_stands dc__law_stands pm__law_stands an__law_stands cd__law_stands ct__law_stands), sl__law_stands⟩)
    (e__law_stands : PySem.W.codeIn K cd__law_stands "_law_stands" = true)
    (k__law_stands : PySem.W.keepIn K (.ref f__law_stands) = true)
    (a_law : PySem.W.nsIn K mainGlobals "law" = some (some (.ref f_law)))
    (l_law : K.lookup f_law = some ⟨oc_law, od_law, .func (PySem.W.fnOf "law" "law" (defArgs s_law) (defBody s_law) (defScope s_law) .none kV_law dc_law pm_law an_law cd_law ct_law), sl_law⟩)
    (e_law : PySem.W.codeIn K cd_law "law" = true)
    (k_law : PySem.W.keepIn K (.ref f_law) = true)
    (z_len : PySem.W.nsIn K mainGlobals "len" = some none)
    (z_abs : PySem.W.nsIn K mainGlobals "abs" = some none)
    (z_int : PySem.W.nsIn K mainGlobals "int" = some none)
    (z_divmod : PySem.W.nsIn K mainGlobals "divmod" = some none)
    (z_range : PySem.W.nsIn K mainGlobals "range" = some none)
    (z_tuple : PySem.W.nsIn K mainGlobals "tuple" = some none)
    (z_sorted : PySem.W.nsIn K mainGlobals "sorted" = some none)
    (z_list : PySem.W.nsIn K mainGlobals "list" = some none)
    (z_set : PySem.W.nsIn K mainGlobals "set" = some none)
    (z_min : PySem.W.nsIn K mainGlobals "min" = some none)
    (z_isinstance : PySem.W.nsIn K mainGlobals "isinstance" = some none)
    (z_str : PySem.W.nsIn K mainGlobals "str" = some none)
    (z_all : PySem.W.nsIn K mainGlobals "all" = some none)
    (z_bool : PySem.W.nsIn K mainGlobals "bool" = some none)
    (z_zip : PySem.W.nsIn K mainGlobals "zip" = some none)
    (z_sum : PySem.W.nsIn K mainGlobals "sum" = some none)
    : ∃ fd : FuncData, (∀ (s : Shared) (v : Value), BindsTo s fd ⟨[v], []⟩ [("_law_script", v)]) ∧ ∀ base : Heap, K.In base → base.Ns mainGlobals mg → FnOk l.prog w K mg base CX0 10 fa fd ["_law_script"] (sp_law K) := by
  have e := hfa.symm.trans (PySem.W.mg_of X G a_law)
  cases e
  have F__law_box := fun_mk (st := s__law_box) l__law_box e__law_box k__law_box
  have b__law_box := F__law_box.binds (ps := ["_law_script", "_law_k"]) fun _ _ _ _ _ _ us hl => match us, hl with | [_, _], _ => rfl
  have F__law_take := fun_mk (st := s__law_take) l__law_take e__law_take k__law_take
  have b__law_take := F__law_take.binds (ps := ["_law_box_here", "_law_size"]) fun _ _ _ _ _ _ us hl => match us, hl with | [_, _], _ => rfl
  have F__law_kinds := fun_mk (st := s__law_kinds) l__law_kinds e__law_kinds k__law_kinds
  have b__law_kinds := F__law_kinds.binds (ps := ["_law_box_here"]) fun _ _ _ _ _ _ us hl => match us, hl with | [_], _ => rfl
  have F__law_counts := fun_mk (st := s__law_counts) l__law_counts e__law_counts k__law_counts
  have b__law_counts := F__law_counts.binds (ps := ["_law_box_here", "_law_worths"]) fun _ _ _ _ _ _ us hl => match us, hl with | [_, _], _ => rfl
  have F_Purse_init : FunD K "__init__" "Purse.__init__" (defArgs s_Purse_init) (defBody s_Purse_init) (defScope s_Purse_init) [.non] [] f_Purse_init _ := ⟨⟨_, _, _, _, _, _, _, _, _, _, rfl, l_Purse_init, e_Purse_init, .inr ⟨by simp, T_Purse_init, _, _, _, rfl, t_Purse_init, rfl, (.cons rfl .nil)⟩, .inl rfl⟩, k_Purse_init⟩
  have b_Purse_init_3 := FunD.binds1 (ps := ["self", "kinds", "counts"]) F_Purse_init 3 1 (by simp) rfl (fun _ _ _ _ _ _ _ us its h1 h2 => match us, its, h1, h2 with | [_, _, _], [_], _, _ => ⟨_, rfl, rfl⟩)
  have kb_Purse_init_2_counts := FunD.kbindsD (ps := ["self", "kinds", "counts"]) F_Purse_init 2 ["counts"] (fun a b c => a ++ (c.drop 0).take 1) (by simp) (fun r1 r2 r3 => (r1.append ((r3.drop 0).take 1))) (fun _ _ _ _ _ _ _ us its ws h1 h2 h3 => match us, its, ws, h1, h2, h3 with | [_, _], [_], [_], _, _, _ => ⟨_, rfl, rfl⟩)
  have b_Purse_init_2 := FunD.binds1 (ps := ["self", "kinds", "counts"]) F_Purse_init 2 0 (by simp) rfl (fun _ _ _ _ _ _ _ us its h1 h2 => match us, its, h1, h2 with | [_, _], [_], _, _ => ⟨_, rfl, rfl⟩)
  have F__law_made := fun_mk (st := s__law_made) l__law_made e__law_made k__law_made
  have b__law_made := F__law_made.binds (ps := ["_law_box_here", "_law_worths"]) fun _ _ _ _ _ _ us hl => match us, hl with | [_, _], _ => rfl
  have F_Purse_spot_of := fun_mk (st := s_Purse_spot_of) l_Purse_spot_of e_Purse_spot_of k_Purse_spot_of
  have b_Purse_spot_of := F_Purse_spot_of.binds (ps := ["self", "kind"]) fun _ _ _ _ _ _ us hl => match us, hl with | [_, _], _ => rfl
  have F_Purse_take : FunD K "take" "Purse.take" (defArgs s_Purse_take) (defBody s_Purse_take) (defScope s_Purse_take) [.int 1] [] f_Purse_take _ := ⟨⟨_, _, _, _, _, _, _, _, _, _, rfl, l_Purse_take, e_Purse_take, .inr ⟨by simp, T_Purse_take, _, _, _, rfl, t_Purse_take, rfl, (.cons ⟨_, rfl⟩ .nil)⟩, .inl rfl⟩, k_Purse_take⟩
  have b_Purse_take_2 := FunD.binds1 (ps := ["self", "kind", "times"]) F_Purse_take 2 0 (by simp) rfl (fun _ _ _ _ _ _ _ us its h1 h2 => match us, its, h1, h2 with | [_, _], [_], _, _ => ⟨_, rfl, rfl⟩)
  have b_Purse_take_3 := FunD.binds1 (ps := ["self", "kind", "times"]) F_Purse_take 3 1 (by simp) rfl (fun _ _ _ _ _ _ _ us its h1 h2 => match us, its, h1, h2 with | [_, _, _], [_], _, _ => ⟨_, rfl, rfl⟩)
  have kb_Purse_take_2_times := FunD.kbindsD (ps := ["self", "kind", "times"]) F_Purse_take 2 ["times"] (fun a b c => a ++ (c.drop 0).take 1) (by simp) (fun r1 r2 r3 => (r1.append ((r3.drop 0).take 1))) (fun _ _ _ _ _ _ _ us its ws h1 h2 h3 => match us, its, ws, h1, h2, h3 with | [_, _], [_], [_], _, _, _ => ⟨_, rfl, rfl⟩)
  have F_Purse_put : FunD K "put" "Purse.put" (defArgs s_Purse_put) (defBody s_Purse_put) (defScope s_Purse_put) [.int 1] [] f_Purse_put _ := ⟨⟨_, _, _, _, _, _, _, _, _, _, rfl, l_Purse_put, e_Purse_put, .inr ⟨by simp, T_Purse_put, _, _, _, rfl, t_Purse_put, rfl, (.cons ⟨_, rfl⟩ .nil)⟩, .inl rfl⟩, k_Purse_put⟩
  have b_Purse_put_2 := FunD.binds1 (ps := ["self", "kind", "times"]) F_Purse_put 2 0 (by simp) rfl (fun _ _ _ _ _ _ _ us its h1 h2 => match us, its, h1, h2 with | [_, _], [_], _, _ => ⟨_, rfl, rfl⟩)
  have b_Purse_put_3 := FunD.binds1 (ps := ["self", "kind", "times"]) F_Purse_put 3 1 (by simp) rfl (fun _ _ _ _ _ _ _ us its h1 h2 => match us, its, h1, h2 with | [_, _, _], [_], _, _ => ⟨_, rfl, rfl⟩)
  have kb_Purse_put_2_times := FunD.kbindsD (ps := ["self", "kind", "times"]) F_Purse_put 2 ["times"] (fun a b c => a ++ (c.drop 0).take 1) (by simp) (fun r1 r2 r3 => (r1.append ((r3.drop 0).take 1))) (fun _ _ _ _ _ _ _ us its ws h1 h2 h3 => match us, its, ws, h1, h2, h3 with | [_, _], [_], [_], _, _, _ => ⟨_, rfl, rfl⟩)
  have F__law_deed_right := fun_mk (st := s__law_deed_right) l__law_deed_right e__law_deed_right k__law_deed_right
  have b__law_deed_right := F__law_deed_right.binds (ps := ["_law_box_here", "_law_purse", "_law_worths", "_law_stock"]) fun _ _ _ _ _ _ us hl => match us, hl with | [_, _, _, _], _ => rfl
  have F_Purse_counts_told := fun_mk (st := s_Purse_counts_told) l_Purse_counts_told e_Purse_counts_told k_Purse_counts_told
  have b_Purse_counts_told := F_Purse_counts_told.binds (ps := ["self"]) fun _ _ _ _ _ _ us hl => match us, hl with | [_], _ => rfl
  have F__law_same := fun_mk (st := s__law_same) l__law_same e__law_same k__law_same
  have b__law_same := F__law_same.binds (ps := ["_law_found", "_law_due"]) fun _ _ _ _ _ _ us hl => match us, hl with | [_, _], _ => rfl
  have F_Purse_many := fun_mk (st := s_Purse_many) l_Purse_many e_Purse_many k_Purse_many
  have b_Purse_many := F_Purse_many.binds (ps := ["self", "kind"]) fun _ _ _ _ _ _ us hl => match us, hl with | [_, _], _ => rfl
  have F_Purse_kinds_told := fun_mk (st := s_Purse_kinds_told) l_Purse_kinds_told e_Purse_kinds_told k_Purse_kinds_told
  have b_Purse_kinds_told := F_Purse_kinds_told.binds (ps := ["self"]) fun _ _ _ _ _ _ us hl => match us, hl with | [_], _ => rfl
  have F_Purse_worth := fun_mk (st := s_Purse_worth) l_Purse_worth e_Purse_worth k_Purse_worth
  have b_Purse_worth := F_Purse_worth.binds (ps := ["self"]) fun _ _ _ _ _ _ us hl => match us, hl with | [_], _ => rfl
  have F_Purse_len__ := fun_mk (st := s_Purse_len__) l_Purse_len__ e_Purse_len__ k_Purse_len__
  have b_Purse_len__ := F_Purse_len__.binds (ps := ["self"]) fun _ _ _ _ _ _ us hl => match us, hl with | [_], _ => rfl
  have F__law_stands := fun_mk (st := s__law_stands) l__law_stands e__law_stands k__law_stands
  have b__law_stands := F__law_stands.binds (ps := ["_law_purse", "_law_worths", "_law_stock"]) fun _ _ _ _ _ _ us hl => match us, hl with | [_, _, _], _ => rfl
  have F_law := fun_mk (st := s_law) l_law e_law k_law
  have T : Txt K mg ⟨C_Purse, f__law_box, PySem.W.fnOf "_law_box" "_law_box" (defArgs s__law_box) (defBody s__law_box) (defScope s__law_box) .none kV__law_box dc__law_box pm__law_box an__law_box cd__law_box ct__law_box, f__law_take, PySem.W.fnOf "_law_take" "_law_take" (defArgs s__law_take) (defBody s__law_take) (defScope s__law_take) .none kV__law_take dc__law_take pm__law_take an__law_take cd__law_take ct__law_take, f__law_kinds, PySem.W.fnOf "_law_kinds" "_law_kinds" (defArgs s__law_kinds) (defBody s__law_kinds) (defScope s__law_kinds) .none kV__law_kinds dc__law_kinds pm__law_kinds an__law_kinds cd__law_kinds ct__law_kinds, f__law_counts, PySem.W.fnOf "_law_counts" "_law_counts" (defArgs s__law_counts) (defBody s__law_counts) (defScope s__law_counts) .none kV__law_counts dc__law_counts pm__law_counts an__law_counts cd__law_counts ct__law_counts, f_Purse_init, PySem.W.fnOf "__init__" "Purse.__init__" (defArgs s_Purse_init) (defBody s_Purse_init) (defScope s_Purse_init) (.ref T_Purse_init) kV_Purse_init dc_Purse_init pm_Purse_init an_Purse_init cd_Purse_init ct_Purse_init, f__law_made, PySem.W.fnOf "_law_made" "_law_made" (defArgs s__law_made) (defBody s__law_made) (defScope s__law_made) .none kV__law_made dc__law_made pm__law_made an__law_made cd__law_made ct__law_made, f_Purse_spot_of, PySem.W.fnOf "spot_of" "Purse.spot_of" (defArgs s_Purse_spot_of) (defBody s_Purse_spot_of) (defScope s_Purse_spot_of) .none kV_Purse_spot_of dc_Purse_spot_of pm_Purse_spot_of an_Purse_spot_of cd_Purse_spot_of ct_Purse_spot_of, f_Purse_take, PySem.W.fnOf "take" "Purse.take" (defArgs s_Purse_take) (defBody s_Purse_take) (defScope s_Purse_take) (.ref T_Purse_take) kV_Purse_take dc_Purse_take pm_Purse_take an_Purse_take cd_Purse_take ct_Purse_take, f_Purse_put, PySem.W.fnOf "put" "Purse.put" (defArgs s_Purse_put) (defBody s_Purse_put) (defScope s_Purse_put) (.ref T_Purse_put) kV_Purse_put dc_Purse_put pm_Purse_put an_Purse_put cd_Purse_put ct_Purse_put, f__law_deed_right, PySem.W.fnOf "_law_deed_right" "_law_deed_right" (defArgs s__law_deed_right) (defBody s__law_deed_right) (defScope s__law_deed_right) .none kV__law_deed_right dc__law_deed_right pm__law_deed_right an__law_deed_right cd__law_deed_right ct__law_deed_right, f_Purse_counts_told, PySem.W.fnOf "counts_told" "Purse.counts_told" (defArgs s_Purse_counts_told) (defBody s_Purse_counts_told) (defScope s_Purse_counts_told) .none kV_Purse_counts_told dc_Purse_counts_told pm_Purse_counts_told an_Purse_counts_told cd_Purse_counts_told ct_Purse_counts_told, f__law_same, PySem.W.fnOf "_law_same" "_law_same" (defArgs s__law_same) (defBody s__law_same) (defScope s__law_same) .none kV__law_same dc__law_same pm__law_same an__law_same cd__law_same ct__law_same, f_Purse_many, PySem.W.fnOf "many" "Purse.many" (defArgs s_Purse_many) (defBody s_Purse_many) (defScope s_Purse_many) .none kV_Purse_many dc_Purse_many pm_Purse_many an_Purse_many cd_Purse_many ct_Purse_many, f_Purse_kinds_told, PySem.W.fnOf "kinds_told" "Purse.kinds_told" (defArgs s_Purse_kinds_told) (defBody s_Purse_kinds_told) (defScope s_Purse_kinds_told) .none kV_Purse_kinds_told dc_Purse_kinds_told pm_Purse_kinds_told an_Purse_kinds_told cd_Purse_kinds_told ct_Purse_kinds_told, f_Purse_worth, PySem.W.fnOf "worth" "Purse.worth" (defArgs s_Purse_worth) (defBody s_Purse_worth) (defScope s_Purse_worth) .none kV_Purse_worth dc_Purse_worth pm_Purse_worth an_Purse_worth cd_Purse_worth ct_Purse_worth, f_Purse_len__, PySem.W.fnOf "__len__" "Purse.__len__" (defArgs s_Purse_len__) (defBody s_Purse_len__) (defScope s_Purse_len__) .none kV_Purse_len__ dc_Purse_len__ pm_Purse_len__ an_Purse_len__ cd_Purse_len__ ct_Purse_len__, f__law_stands, PySem.W.fnOf "_law_stands" "_law_stands" (defArgs s__law_stands) (defBody s__law_stands) (defScope s__law_stands) .none kV__law_stands dc__law_stands pm__law_stands an__law_stands cd__law_stands ct__law_stands, fa, PySem.W.fnOf "law" "law" (defArgs s_law) (defBody s_law) (defScope s_law) .none kV_law dc_law pm_law an_law cd_law ct_law⟩ := ⟨PySem.W.mg_none_of X G z_len, PySem.W.mg_none_of X G z_abs, PySem.W.mg_none_of X G z_int, PySem.W.mg_none_of X G z_divmod, PySem.W.mg_none_of X G z_range, PySem.W.mg_none_of X G z_tuple, PySem.W.mg_none_of X G z_sorted, PySem.W.mg_none_of X G z_list, PySem.W.mg_none_of X G z_set, PySem.W.mg_none_of X G z_min, PySem.W.mg_none_of X G z_isinstance, PySem.W.mg_none_of X G z_str, PySem.W.mg_none_of X G z_all, PySem.W.mg_none_of X G z_bool, PySem.W.mg_none_of X G z_zip, PySem.W.mg_none_of X G z_sum, ⟨pg_Purse, hd_Purse, po_Purse, sa_Purse⟩, PySem.W.mg_of X G a_Purse, a_Purse, ⟨mk_Purse, a_Purse_init, i_Purse_init, kc_Purse⟩, na_Purse_coin_kinds, na_Purse_coin_counts, F__law_box, PySem.W.mg_of X G a__law_box, b__law_box, F__law_take, PySem.W.mg_of X G a__law_take, b__law_take, F__law_kinds, PySem.W.mg_of X G a__law_kinds, b__law_kinds, F__law_counts, PySem.W.mg_of X G a__law_counts, b__law_counts, F_Purse_init, b_Purse_init_3, kb_Purse_init_2_counts, b_Purse_init_2, F__law_made, PySem.W.mg_of X G a__law_made, b__law_made, F_Purse_spot_of, ⟨a_Purse_spot_of, i_Purse_spot_of, k_Purse_spot_of⟩, b_Purse_spot_of, F_Purse_take, ⟨a_Purse_take, i_Purse_take, k_Purse_take⟩, b_Purse_take_2, b_Purse_take_3, kb_Purse_take_2_times, F_Purse_put, ⟨a_Purse_put, i_Purse_put, k_Purse_put⟩, b_Purse_put_2, b_Purse_put_3, kb_Purse_put_2_times, F__law_deed_right, PySem.W.mg_of X G a__law_deed_right, b__law_deed_right, F_Purse_counts_told, ⟨a_Purse_counts_told, i_Purse_counts_told, k_Purse_counts_told⟩, b_Purse_counts_told, F__law_same, PySem.W.mg_of X G a__law_same, b__law_same, F_Purse_many, ⟨a_Purse_many, i_Purse_many, k_Purse_many⟩, b_Purse_many, F_Purse_kinds_told, ⟨a_Purse_kinds_told, i_Purse_kinds_told, k_Purse_kinds_told⟩, b_Purse_kinds_told, F_Purse_worth, ⟨a_Purse_worth, i_Purse_worth, k_Purse_worth⟩, b_Purse_worth, F_Purse_len__, ⟨a_Purse_len__, i_Purse_len__, k_Purse_len__⟩, b_Purse_len__, F__law_stands, PySem.W.mg_of X G a__law_stands, b__law_stands, F_law⟩
  exact ⟨_, fun s v => .of_eq rfl, fun base _ _ => ok_law T⟩
theorem walk {l : PySem.W.OpenLaw} {q : Program} {loose : List Str} {XP : (Str → Option Value) → Heap → Prop} {YP : World → Heap → Prop} {d : DefRec} {K : Params → PySem.W.Frag} (hn : l.most = some 63) (hdf : d.params.defaults = [])
    (hY : ∀ (w : World) (h : Heap), YP w h → (K w.params).In h)
    (F : ∀ (w : World) (mg : Str → Option Value) (fa : Addr) (h : Heap), (K w.params).In h → h.Ns mainGlobals mg → mg d.name = some (.ref fa) →
      ∃ fd : FuncData, (∀ (s : Shared) (u : Value), BindsTo s fd ⟨[u], []⟩ [("_law_script", u)]) ∧ ∀ base : Heap, (K w.params).In base → base.Ns mainGlobals mg → FnOk l.prog w (K w.params) mg base CX0 10 fa fd ["_law_script"] (sp_law (K w.params))) :
    PySem.W.WalkO q loose XP YP l.row.toRowW d [] (fun f vs => PySem.call f vs) :=
  L2.walk_of (n := 63) (k := 10) (x := "_law_script") (CX := fun _ => CX0) (sp := fun w => sp_law (K w.params)) hn (by decide) hdf ⟨rfl, by decide, by decide⟩ hY F (fun _ _ a ns hl _ hS => ⟨a, ns, rfl, hS, hl, (fun _ hp => nomatch hp), fun _ => rfl⟩) fun _ _ _ _ _ z => z
end K

open PySem PySem.W PyProof.Rows in
set_option maxRecDepth 100000 in
set_option maxHeartbeats 0 in
theorem PySem.Challenge.cw_stallshares_k03_purses_put_and_taken_holds : PySem.Challenge.rw_stallshares_k03_purses_put_and_taken.Holds := by
  w_on; o_law; k_head; (case hw => w_witness2)
  k_fill
  refine K.walk (l := PySem.Challenge.rw_stallshares_k03_purses_put_and_taken) rfl rfl (fun w h Y => PySem.W.kIn_of Y) ?F
  case F =>
    intro w mg fa h KX G hmg
    refine' K.all_mk KX G hmg ?a_Purse ?pg_Purse ?hd_Purse ?po_Purse ?sa_Purse ?mk_Purse ?kc_Purse ?na_Purse_coin_kinds ?na_Purse_coin_counts ?a__law_box ?l__law_box ?e__law_box ?k__law_box ?a__law_take ?l__law_take ?e__law_take ?k__law_take ?a__law_kinds ?l__law_kinds ?e__law_kinds ?k__law_kinds ?a__law_counts ?l__law_counts ?e__law_counts ?k__law_counts ?a_Purse_init ?i_Purse_init ?l_Purse_init ?e_Purse_init ?k_Purse_init ?t_Purse_init ?a__law_made ?l__law_made ?e__law_made ?k__law_made ?a_Purse_spot_of ?i_Purse_spot_of ?l_Purse_spot_of ?e_Purse_spot_of ?k_Purse_spot_of ?a_Purse_take ?i_Purse_take ?l_Purse_take ?e_Purse_take ?k_Purse_take ?t_Purse_take ?a_Purse_put ?i_Purse_put ?l_Purse_put ?e_Purse_put ?k_Purse_put ?t_Purse_put ?a__law_deed_right ?l__law_deed_right ?e__law_deed_right ?k__law_deed_right ?a_Purse_counts_told ?i_Purse_counts_told ?l_Purse_counts_told ?e_Purse_counts_told ?k_Purse_counts_told ?a__law_same ?l__law_same ?e__law_same ?k__law_same ?a_Purse_many ?i_Purse_many ?l_Purse_many ?e_Purse_many ?k_Purse_many ?a_Purse_kinds_told ?i_Purse_kinds_told ?l_Purse_kinds_told ?e_Purse_kinds_told ?k_Purse_kinds_told ?a_Purse_worth ?i_Purse_worth ?l_Purse_worth ?e_Purse_worth ?k_Purse_worth ?a_Purse_len__ ?i_Purse_len__ ?l_Purse_len__ ?e_Purse_len__ ?k_Purse_len__ ?a__law_stands ?l__law_stands ?e__law_stands ?k__law_stands ?a_law ?l_law ?e_law ?k_law ?z_len ?z_abs ?z_int ?z_divmod ?z_range ?z_tuple ?z_sorted ?z_list ?z_set ?z_min ?z_isinstance ?z_str ?z_all ?z_bool ?z_zip ?z_sum
    (case a_Purse => k_is)
    (case pg_Purse => k_is)
    (case hd_Purse => k_is)
    (case po_Purse => k_is)
    (case sa_Purse => k_is)
    (case mk_Purse => k_is)
    (case kc_Purse => k_is)
    (case na_Purse_coin_kinds => k_is)
    (case na_Purse_coin_counts => k_is)
    (case a__law_box => k_is)
    (case l__law_box => k_is)
    (case e__law_box => k_is)
    (case k__law_box => k_is)
    (case a__law_take => k_is)
    (case l__law_take => k_is)
    (case e__law_take => k_is)
    (case k__law_take => k_is)
    (case a__law_kinds => k_is)
    (case l__law_kinds => k_is)
    (case e__law_kinds => k_is)
    (case k__law_kinds => k_is)
    (case a__law_counts => k_is)
    (case l__law_counts => k_is)
    (case e__law_counts => k_is)
    (case k__law_counts => k_is)
    (case a_Purse_init => k_is)
    (case i_Purse_init => k_is)
    (case l_Purse_init => k_is)
    (case e_Purse_init => k_is)
    (case k_Purse_init => k_is)
    (case t_Purse_init => k_is)
    (case a__law_made => k_is)
    (case l__law_made => k_is)
    (case e__law_made => k_is)
    (case k__law_made => k_is)
    (case a_Purse_spot_of => k_is)
    (case i_Purse_spot_of => k_is)
    (case l_Purse_spot_of => k_is)
    (case e_Purse_spot_of => k_is)
    (case k_Purse_spot_of => k_is)
    (case a_Purse_take => k_is)
    (case i_Purse_take => k_is)
    (case l_Purse_take => k_is)
    (case e_Purse_take => k_is)
    (case k_Purse_take => k_is)
    (case t_Purse_take => k_is)
    (case a_Purse_put => k_is)
    (case i_Purse_put => k_is)
    (case l_Purse_put => k_is)
    (case e_Purse_put => k_is)
    (case k_Purse_put => k_is)
    (case t_Purse_put => k_is)
    (case a__law_deed_right => k_is)
    (case l__law_deed_right => k_is)
    (case e__law_deed_right => k_is)
    (case k__law_deed_right => k_is)
    (case a_Purse_counts_told => k_is)
    (case i_Purse_counts_told => k_is)
    (case l_Purse_counts_told => k_is)
    (case e_Purse_counts_told => k_is)
    (case k_Purse_counts_told => k_is)
    (case a__law_same => k_is)
    (case l__law_same => k_is)
    (case e__law_same => k_is)
    (case k__law_same => k_is)
    (case a_Purse_many => k_is)
    (case i_Purse_many => k_is)
    (case l_Purse_many => k_is)
    (case e_Purse_many => k_is)
    (case k_Purse_many => k_is)
    (case a_Purse_kinds_told => k_is)
    (case i_Purse_kinds_told => k_is)
    (case l_Purse_kinds_told => k_is)
    (case e_Purse_kinds_told => k_is)
    (case k_Purse_kinds_told => k_is)
    (case a_Purse_worth => k_is)
    (case i_Purse_worth => k_is)
    (case l_Purse_worth => k_is)
    (case e_Purse_worth => k_is)
    (case k_Purse_worth => k_is)
    (case a_Purse_len__ => k_is)
    (case i_Purse_len__ => k_is)
    (case l_Purse_len__ => k_is)
    (case e_Purse_len__ => k_is)
    (case k_Purse_len__ => k_is)
    (case a__law_stands => k_is)
    (case l__law_stands => k_is)
    (case e__law_stands => k_is)
    (case k__law_stands => k_is)
    (case a_law => k_is)
    (case l_law => k_is)
    (case e_law => k_is)
    (case k_law => k_is)
    (case z_len => k_is)
    (case z_abs => k_is)
    (case z_int => k_is)
    (case z_divmod => k_is)
    (case z_range => k_is)
    (case z_tuple => k_is)
    (case z_sorted => k_is)
    (case z_list => k_is)
    (case z_set => k_is)
    (case z_min => k_is)
    (case z_isinstance => k_is)
    (case z_str => k_is)
    (case z_all => k_is)
    (case z_bool => k_is)
    (case z_zip => k_is)
    (case z_sum => k_is)
