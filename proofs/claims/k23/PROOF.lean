import PyProof.Rows.All
import Wide.All
import OpenK.AllK
import Wide.FinOn
import HandS.ForMost
import HandS.IsInst
import HandS.StrMore
import HandS.Walk
import HandS.SortInts
import HandS.Zip
import HandS.Style
import HandS.MakeKw
import HandS.TupAny
import HandS.Exc
import HandS.ExcInit
import HandS.ExcOwn
import HandS.CallSlots
import HandS.ExcIs
import HandS.ExcField
import HandS.WordsExc
import HandS.Lambda
import HandS.EndTab
import HandS.SortKw
import KE.KSortKeySt
import KE.KExcInit
import KE.KTryMore
import KE.KExcIs
import KE.KExcLine
import KE.RegKIsAll
import KE.RegKTryMore
import KE.GoesMore
import PySem.Challenge.RW_stallshares_k23_fair_or_not
set_option Elab.async false
set_option linter.all false
set_option maxRecDepth 100000
set_option maxHeartbeats 4000000
/-! the shared layer: heaps but for some mutable places, the box of draws -/
namespace Z
open PySem L2

/-- H without the places of M -/
def hid (M : List Addr) (H : Hp) : Hp := fun a => if a ∈ M then none else H a
theorem hid_of {M : List Addr} {H : Hp} {a : Addr} (h : a ∉ M) : hid M H a = H a := if_neg h
theorem hid_none {M : List Addr} {H : Hp} {a : Addr} (h : H a = none) : hid M H a = none := by
  unfold hid; split <;> simp_all
theorem hid_same {M : List Addr} {H : Hp} : Same (hid M H) H := fun a o h => by
  unfold hid at h
  split at h
  · cases h
  · exact h
/-- what stands outside M is as it was -/
def Fr (M : List Addr) (H H' : Hp) : Prop := ∀ a o, a ∉ M → H a = some o → H' a = some o
theorem Fr.refl (M : List Addr) (H : Hp) : Fr M H H := fun _ _ _ h => h
theorem Fr.trans {M : List Addr} {H H1 H2 : Hp} (a : Fr M H H1) (b : Fr M H1 H2) : Fr M H H2 := fun x o n h => b x o n (a x o n h)
theorem Same.fr {M : List Addr} {H H' : Hp} (s : Same H H') : Fr M H H' := fun a o _ h => s a o h
theorem Fr.same {M : List Addr} {H H' : Hp} (f : Fr M H H') : Same (hid M H) (hid M H') := fun a o h => by
  unfold hid at h ⊢
  split at h
  · cases h
  · next n => rw [if_neg n]; exact f a o n h
theorem Fr.new {M : List Addr} {H : Hp} {p : Addr} {o : HO} (h : H p = none) : Fr M H (upd H p o) := fun a u _ e => by
  rw [upd_ne (ne_of_none e h)]; exact e
theorem Same.new {H : Hp} {p : Addr} {o : HO} (h : H p = none) : Same H (upd H p o) := fun a u e => by
  rw [upd_ne (ne_of_none e h)]; exact e
theorem Fr.put {M : List Addr} {H H' : Hp} {p : Addr} {o : HO} (f : Fr M H H') (h : p ∈ M) : Fr M H (upd H' p o) := fun a u n e => by
  rw [upd_ne (fun q : a = p => n (by rw [q]; exact h))]; exact f a u n e
theorem Fr.mono {M N : List Addr} {H H' : Hp} (f : Fr M H H') (s : ∀ a ∈ M, a ∈ N) : Fr N H H' := fun a o n h => f a o (fun q => n (s a q)) h
theorem Fr.nil {H H' : Hp} (f : Fr [] H H') : Same H H' := fun a o h => f a o (by simp) h
theorem Fr.back {M : List Addr} {H H' : Hp} {p : Addr} (f : Fr M H H') (hp : p ∉ M) (h : H' p = none) : H p = none := by
  cases q : H p with
  | none => rfl
  | some o => rw [f p o hp q] at h; cases h
theorem Fr.out {M : List Addr} {H H1 H2 : Hp} (f : Fr M H1 H2) (s : Same H H1) (hM : ∀ b ∈ M, H b = none) : Same H H2 := fun a o h => f a o (fun q => by rw [hM a q] at h; cases h) (s a o h)
theorem Fr.drop {M : List Addr} {H H' : Hp} {f : Addr} (fr : Fr (M ++ [f]) H H') (h : H f = none) : Fr M H H' := fun a o n e => fr a o (by
  simp only [List.mem_append, List.mem_singleton, not_or]
  exact ⟨n, ne_of_none e h⟩) e
theorem SqL.mono {K : PySem.W.Frag} {H H' : Hp} {a : Addr} {xs : List V} (e : Same H H') (h : SqL K H a xs) : SqL K H' a xs := e.seq h
theorem SqT.mono {K : PySem.W.Frag} {H H' : Hp} {a : Addr} {xs : List V} (e : Same H H') (h : SqT K H a xs) : SqT K H' a xs := by
  rcases h with (h | ⟨o, h⟩) | h
  · exact .inl (.inl (e _ _ h))
  · exact .inl (.inr ⟨o, e _ _ h⟩)
  · exact .inr h
mutual
theorem Dp.mono {K : PySem.W.Frag} {H H' : Hp} (e : Same H H') : ∀ {v : V} {d : PyData}, Dp K H v d → Dp K H' v d
  | _, _, .non => .non
  | _, _, .bl b => .bl b
  | _, _, .int i => .int i
  | _, _, .str x => .str x
  | _, _, .lst h r => .lst (SqL.mono e h) (DpAll.mono e r)
  | _, _, .tup h r => .tup (SqT.mono e h) (DpAll.mono e r)
theorem DpAll.mono {K : PySem.W.Frag} {H H' : Hp} (e : Same H H') : ∀ {v : List V} {d : List PyData}, DpAll K H v d → DpAll K H' v d
  | _, _, .nil => .nil
  | _, _, .cons a b => .cons (Dp.mono e a) (DpAll.mono e b)
end

theorem DpAll.length {K : PySem.W.Frag} {H : Hp} : ∀ {v : List V} {d : List PyData}, DpAll K H v d → v.length = d.length
  | _, _, .nil => rfl
  | _, _, .cons _ b => by rw [List.length_cons, List.length_cons, DpAll.length b]
theorem DpAll.get {K : PySem.W.Frag} {H : Hp} : ∀ {v : List V} {d : List PyData} {i : Nat} {x : V}, DpAll K H v d → v[i]? = some x → ∃ y, d[i]? = some y ∧ Dp K H x y
  | _, _, _, _, .nil, h => by simp at h
  | _, _, 0, _, .cons a _, h => by simp at h; subst h; exact ⟨_, rfl, a⟩
  | _, _, i + 1, _, .cons _ b, h => by
    obtain ⟨y, e, q⟩ := DpAll.get (i := i) b (by simpa using h)
    exact ⟨y, by simpa using e, q⟩
theorem Dp.list_of {K : PySem.W.Frag} {H : Hp} {v : V} {ds : List PyData} (h : Dp K H v (.list ds)) : ∃ a xs, v = .ref a ∧ SqL K H a xs ∧ DpAll K H xs ds := by
  cases h with
  | lst s r => exact ⟨_, _, rfl, s, r⟩
theorem Dp.tuple_of {K : PySem.W.Frag} {H : Hp} {v : V} {ds : List PyData} (h : Dp K H v (.tuple ds)) : ∃ a xs, v = .ref a ∧ SqT K H a xs ∧ DpAll K H xs ds := by
  cases h with
  | tup s r => exact ⟨_, _, rfl, s, r⟩
/-- the built-in class of data -/
def kindD : PyData → String
  | .none => "NoneType"
  | .bool _ => "bool"
  | .int _ => "int"
  | .str _ => "str"
  | .list _ => "list"
  | .tuple _ => "tuple"
  | .dict _ => "dict"
theorem SqL.ty {K : PySem.W.Frag} {H : Hp} {a : Addr} {xs : List V} (h : SqL K H a xs) : TyX K H (.ref a) (.type "list") := by
  rcases h with (h | ⟨o, h⟩) | ⟨o, its, n, e, c, _⟩
  · exact .base (.lst h)
  · exact .base (.frz h)
  · exact .kList e c
theorem SqT.ty {K : PySem.W.Frag} {H : Hp} {a : Addr} {xs : List V} (h : SqT K H a xs) : TyX K H (.ref a) (.type "tuple") := by
  rcases h with (h | ⟨o, h⟩) | ⟨o, its, n, e, c, _⟩
  · exact .base (.tup h)
  · exact .fTuple h
  · exact .kTuple e c
theorem Dp.ty {K : PySem.W.Frag} {H : Hp} {v : V} {d : PyData} (h : Dp K H v d) : TyX K H v (.type (kindD d)) := by
  cases h with
  | non => exact .base .non
  | bl b => exact .base (.bl b)
  | int i => exact .base (.int i)
  | str x => exact .base (.str x)
  | lst s _ => exact SqL.ty s
  | tup s _ => exact SqT.ty s
theorem tyD {K : PySem.W.Frag} {H : Hp} {v : V} {d : PyData} (A : String) (h : Dp K H v d) (e : kindD d = A) : TyX K H v (.type A) := e ▸ Dp.ty h
theorem ltC : Paired ClsV [.ty "list", .ty "tuple"] [.type "list", .type "tuple"] := .cons (.ty _) (.cons (.ty _) .nil)
theorem kitLT {K : PySem.W.Frag} (A : String) (b c : Bool) (k : kitB A "list" = some b) (k2 : kitB A "tuple" = some c) : PySem.W.kitAny K (.type A) [.type "list", .type "tuple"] = some (b || c) := by
  refine kitAny_cons (kit_ty k) (fun e => ?_) (fun e => by rw [e]; rfl)
  subst e
  exact kitAny_cons (kit_ty k2) (fun e => by subst e; exact kitAny_nil) (fun e => by rw [e]; rfl)
theorem lay_mem : ∀ {ds : List PyData} {d : PyData}, PyData.canLayAll0 ds = true → d ∈ ds → d.canLay0 = true
  | [], _, _, h => by cases h
  | x :: r, d, h, hm => by
    have h' : (x.canLay0 && PyData.canLayAll0 r) = true := h
    rw [Bool.and_eq_true] at h'
    rcases List.mem_cons.mp hm with rfl | hm
    · exact h'.1
    · exact lay_mem h'.2 hm
theorem depth_mem : ∀ {ds : List PyData} {d : PyData}, d ∈ ds → d.depth ≤ PyData.depthAll ds
  | [], _, h => by cases h
  | x :: r, d, hm => by
    show _ ≤ max x.depth (PyData.depthAll r)
    rcases List.mem_cons.mp hm with rfl | hm
    · exact Nat.le_max_left _ _
    · exact Nat.le_trans (depth_mem hm) (Nat.le_max_right _ _)
theorem shaped_mem {ds : List PyData} {d : PyData} (h : SeqAt.shaped (.list ds) = true ∨ SeqAt.shaped (.tuple ds) = true) (hm : d ∈ ds) : SeqAt.shaped d = true ∧ d.depth ≤ PyData.depthAll ds := by
  have h1 : PyData.canLayAll0 ds = true ∧ PyData.depthAll ds + 1 ≤ 64 := by
    rcases h with h | h
    · exact ⟨SeqAt.canLay_of_shaped h, SeqAt.depth_of_shaped h⟩
    · exact ⟨SeqAt.canLay_of_shaped h, SeqAt.depth_of_shaped h⟩
  have h2 := depth_mem hm
  refine ⟨?_, h2⟩
  unfold SeqAt.shaped
  rw [lay_mem h1.1 hm, decide_eq_true (by omega)]
  rfl
mutual
/-- how many things data is made of -/
def nodes : PyData → Nat
  | .list xs => nodesAll xs + 1
  | .tuple xs => nodesAll xs + 1
  | _ => 1
def nodesAll : List PyData → Nat
  | [] => 0
  | x :: r => nodes x + nodesAll r
end
theorem nodes_pos (d : PyData) : 1 ≤ nodes d := by cases d <;> simp [nodes]
theorem len_nodes : ∀ ds : List PyData, ds.length ≤ nodesAll ds
  | [] => Nat.le_refl _
  | x :: r => by
    have h1 := nodes_pos x
    have h2 := len_nodes r
    show r.length + 1 ≤ nodes x + nodesAll r
    omega
theorem nodes_mem : ∀ {ds : List PyData} {d : PyData}, d ∈ ds → nodes d ≤ nodesAll ds
  | [], _, h => by cases h
  | x :: r, d, hm => by
    show _ ≤ nodes x + nodesAll r
    rcases List.mem_cons.mp hm with rfl | hm
    · omega
    · have := nodes_mem hm
      omega
theorem walk_zipT {K : PySem.W.Frag} {a b : Addr} {xs ys : List V} {n : Nat} (hn : n = min xs.length ys.length) :
    Walk (RZ.ItzT K a b) n (fun H => SqT K H a xs ∧ SqT K H b ys) (YPair (fun i => xs[i]?) (fun i => ys[i]?)) := by
  refine ⟨fun i H hi q => ?_, fun H q => ⟨xs, ys, q.1, q.2, by omega⟩, fun i H v H' hi q y => ?_⟩
  · exact ⟨xs, ys, xs[i]'(by omega), ys[i]'(by omega), q.1, q.2, List.getElem?_eq_getElem (by omega), List.getElem?_eq_getElem (by omega)⟩
  · obtain ⟨t, x, z, e1, e2, e3, e4, e5⟩ := y
    exact ⟨t, x, z, e1, e2, e3, e4 xs q.1, e5 ys q.2⟩
/-- a comprehension that lays g of each, nothing else being changed -/
structure LcP {α : Type} (H1 : Hp) (D : Addr) (xs : List α) (g : α → V) (i : Nat) (H : Hp) : Prop where
  new : H1 D = none
  same : Same H1 H
  at_ : H D = some (.lst ((xs.take i).map g))
theorem LcP.start {α : Type} {H1 : Hp} {D : Addr} {xs : List α} {g : α → V} (h : H1 D = none) : LcP H1 D xs g 0 (upd H1 D (.lst [])) := ⟨h, Same.new h, upd_same⟩
theorem LcP.step {α : Type} {H1 H H4 : Hp} {D : Addr} {xs : List α} {g : α → V} {i : Nat} {x : α} {y : V} (p : LcP H1 D xs g i H) (s : Same H H4) (hx : xs[i]? = some x) (hy : y = g x) (hl : xs.length ≤ sizeLine) :
    ∃ acc, H4 D = some (.lst acc) ∧ acc.length < sizeLine ∧ LcP H1 D xs g (i + 1) (upd H4 D (.lst (acc ++ [y]))) := by
  have hi : i < xs.length := (List.getElem?_eq_some_iff.mp hx).1
  refine ⟨_, s _ _ p.at_, by simp; omega, p.new, fun b o e => ?_, ?_⟩
  · rw [upd_ne (ne_of_none e p.new)]
    exact s _ _ (p.same _ _ e)
  · rw [upd_same, hy, List.take_add_one, hx, List.map_append]
    rfl
theorem LcP.done {α : Type} {H1 H : Hp} {D : Addr} {xs : List α} {g : α → V} (p : LcP H1 D xs g xs.length H) : H D = some (.lst (xs.map g)) := by
  have h := p.at_
  rw [List.take_length] at h
  exact h

/-- a comprehension: what is laid so far is told by A -/
structure LcA (H1 : Hp) (D : Addr) (A : Nat → List V) (i : Nat) (H : Hp) : Prop where
  new : H1 D = none
  same : Same H1 H
  at_ : H D = some (.lst (A i))
theorem LcA.start {H1 : Hp} {D : Addr} {A : Nat → List V} (h : H1 D = none) (h0 : A 0 = []) : LcA H1 D A 0 (upd H1 D (.lst [])) := ⟨h, Same.new h, by rw [upd_same, h0]⟩
theorem LcA.put {H1 H H4 : Hp} {D : Addr} {A : Nat → List V} {i : Nat} {y : V} (p : LcA H1 D A i H) (s : Same H H4) (hA : A (i + 1) = A i ++ [y]) (hl : (A i).length < sizeLine) :
    ∃ acc, H4 D = some (.lst acc) ∧ acc.length < sizeLine ∧ LcA H1 D A (i + 1) (upd H4 D (.lst (acc ++ [y]))) := by
  refine ⟨_, s _ _ p.at_, hl, p.new, fun b o e => ?_, by rw [upd_same, hA]⟩
  rw [upd_ne (ne_of_none e p.new)]
  exact s _ _ (p.same _ _ e)
theorem LcA.skip {H1 H H4 : Hp} {D : Addr} {A : Nat → List V} {i : Nat} (p : LcA H1 D A i H) (s : Same H H4) (hA : A (i + 1) = A i) : LcA H1 D A (i + 1) H4 :=
  ⟨p.new, p.same.trans s, by rw [hA]; exact s _ _ p.at_⟩

/-- tuples and locked things stay -/
def Immut : HO → Prop
  | .tup _ => True
  | .frz _ _ => True
  | .ins _ _ _ => True
  | .own _ => True
  | _ => False
def KeepT (H H' : Hp) : Prop := ∀ t u, Immut u → H t = some u → H' t = some u
theorem KeepT.refl (H : Hp) : KeepT H H := fun _ _ _ h => h
theorem KeepT.trans {H H1 H2 : Hp} (a : KeepT H H1) (b : KeepT H1 H2) : KeepT H H2 := fun t u i h => b t u i (a t u i h)
theorem Same.kt {H H' : Hp} (s : Same H H') : KeepT H H' := fun t u _ h => s t u h
theorem KeepT.new {H : Hp} {p : Addr} {o : HO} (h : H p = none) : KeepT H (upd H p o) := Same.kt (Same.new h)
theorem KeepT.lst {H : Hp} {p : Addr} {xs : List V} {o : HO} (h : H p = some (.lst xs)) : KeepT H (upd H p o) := fun t u i e => by
  have hn : t ≠ p := fun q => by
    rw [q, h] at e
    cases e
    exact i
  rw [upd_ne hn]
  exact e
mutual
def noList : PyData → Bool
  | .list _ => false
  | .dict _ => false
  | .tuple xs => noLists xs
  | _ => true
def noLists : List PyData → Bool
  | [] => true
  | x :: r => noList x && noLists r
end
theorem SqT.keep {K : PySem.W.Frag} {H H' : Hp} {a : Addr} {xs : List V} (e : KeepT H H') (h : SqT K H a xs) : SqT K H' a xs := by
  rcases h with (h | ⟨o, h⟩) | h
  · exact .inl (.inl (e _ _ trivial h))
  · exact .inl (.inr ⟨o, e _ _ trivial h⟩)
  · exact .inr h
mutual
theorem Dp.keep {K : PySem.W.Frag} {H H' : Hp} (e : KeepT H H') : ∀ {v : V} {d : PyData}, Dp K H v d → noList d = true → Dp K H' v d
  | _, _, .non, _ => .non
  | _, _, .bl b, _ => .bl b
  | _, _, .int i, _ => .int i
  | _, _, .str x, _ => .str x
  | _, _, .lst _ _, h => by cases h
  | _, _, .tup s r, h => .tup (SqT.keep e s) (DpAll.keep e r h)
theorem DpAll.keep {K : PySem.W.Frag} {H H' : Hp} (e : KeepT H H') : ∀ {v : List V} {d : List PyData}, DpAll K H v d → noLists d = true → DpAll K H' v d
  | _, _, .nil, _ => .nil
  | _, _, .cons a b, h => by
    have h' := Bool.and_eq_true_iff.mp h
    exact .cons (Dp.keep e a h'.1) (DpAll.keep e b h'.2)
end
theorem DpAll.snoc {K : PySem.W.Frag} {H : Hp} {y : V} {c : PyData} (hy : Dp K H y c) : ∀ {v : List V} {d : List PyData}, DpAll K H v d → DpAll K H (v ++ [y]) (d ++ [c])
  | _, _, .nil => .cons hy .nil
  | _, _, .cons a b => .cons a (DpAll.snoc hy b)
theorem DpAll.take {K : PySem.W.Frag} {H : Hp} : ∀ {v : List V} {d : List PyData} (n : Nat), DpAll K H v d → DpAll K H (v.take n) (d.take n)
  | _, _, 0, _ => .nil
  | _, _, _ + 1, .nil => .nil
  | _, _, n + 1, .cons a b => .cons a (DpAll.take n b)
theorem DpAll.set {K : PySem.W.Frag} {H : Hp} {y : V} {c : PyData} (hy : Dp K H y c) : ∀ {v : List V} {d : List PyData} (n : Nat), DpAll K H v d → DpAll K H (v.set n y) (d.set n c)
  | _, _, _, .nil => .nil
  | _, _, 0, .cons _ b => .cons hy b
  | _, _, n + 1, .cons a b => .cons a (DpAll.set hy n b)

theorem DpAll.ints {K : PySem.W.Frag} {H : Hp} : ∀ ns : List Int, DpAll K H (ns.map V.int) (ns.map .int)
  | [] => .nil
  | n :: r => .cons (.int n) (DpAll.ints r)
theorem lay_ints (ns : List Int) : PyData.canLayAll0 (ns.map .int) = true ∧ PyData.depthAll (ns.map .int) = 0 ∧ nodesAll (ns.map .int) = ns.length := by
  induction ns with
  | nil => exact ⟨rfl, rfl, rfl⟩
  | cons n r ih =>
    refine ⟨ih.1, ?_, ?_⟩
    · show max 0 (PyData.depthAll (r.map .int)) = 0
      rw [ih.2.1]
      rfl
    · show 1 + nodesAll (r.map .int) = r.length + 1
      rw [ih.2.2]
      omega
theorem shaped_ints (ns : List Int) : SeqAt.shaped (.list (ns.map .int)) = true := by
  obtain ⟨h1, h2, _⟩ := lay_ints ns
  show (PyData.canLayAll0 (ns.map .int) && decide (PyData.depthAll (ns.map .int) + 1 ≤ 64)) = true
  rw [h1, h2]
  rfl
/-- those of xs whose data is kept -/
def selV {α : Type} (k : α → Bool) (xs : List V) (ps : List α) : List V := ((xs.zip ps).filter fun z => k z.2).map Prod.fst
theorem DpAll.sel {α : Type} {K : PySem.W.Frag} {H : Hp} {k : α → Bool} {g : α → PyData} : ∀ {xs : List V} {ps : List α}, DpAll K H xs (ps.map g) → DpAll K H (selV k xs ps) ((ps.filter k).map g)
  | [], [], _ => .nil
  | _ :: _, [], h => by cases h
  | [], _ :: _, h => by cases h
  | x :: xs, p :: ps, h => by
    cases h with
    | cons a b =>
      have ih := DpAll.sel (k := k) b
      unfold selV at ih ⊢
      rw [List.zip_cons_cons, List.filter_cons, List.filter_cons]
      cases hk : k p
      · rw [if_neg (by simp [hk]), if_neg (by simp)]
        exact ih
      · rw [if_pos (by simp [hk]), if_pos rfl]
        exact .cons a ih
theorem selV_take {α : Type} {k : α → Bool} {xs : List V} {ps : List α} {i : Nat} {x : V} {p : α} (hx : xs[i]? = some x) (hp : ps[i]? = some p) :
    selV k (xs.take (i + 1)) (ps.take (i + 1)) = selV k (xs.take i) (ps.take i) ++ (if k p then [x] else []) := by
  unfold selV
  have tz : ∀ n, (xs.take n).zip (ps.take n) = (xs.zip ps).take n := fun n => by rw [List.zip_eq_zipWith, List.zip_eq_zipWith, List.take_zipWith]
  rw [tz, tz, List.take_add_one, (List.getElem?_zip_eq_some (z := (x, p))).mpr ⟨hx, hp⟩, List.filter_append, List.map_append]
  congr 1
  cases hk : k p <;> simp [hk]
theorem selV_len {α : Type} {k : α → Bool} {xs : List V} {ps : List α} : (selV k xs ps).length ≤ xs.length := by
  unfold selV
  rw [List.length_map]
  exact Nat.le_trans (List.length_filter_le _ _) (by rw [List.length_zip]; omega)

/-- the box of draws at B, n draws behind it at most -/
def Box (H : Hp) (B : Addr) (n : Nat) : Prop := ∃ b0 b1 b2 : Int, H B = some (.lst [.int b0, .int b1, .int b2]) ∧ 0 ≤ b0 ∧ 0 ≤ b1 ∧ b1 < 2147483647 ∧ 0 ≤ b2 ∧ b2 ≤ (n : Int)
theorem Box.mono {H : Hp} {B : Addr} {n m : Nat} (b : Box H B n) (h : n ≤ m) : Box H B m := by
  obtain ⟨b0, b1, b2, e, h0, h1, h2, h3, h4⟩ := b
  exact ⟨b0, b1, b2, e, h0, h1, h2, h3, by omega⟩
theorem Box.some {H : Hp} {B : Addr} {n : Nat} (b : Box H B n) : ∃ o, H B = some o := by
  obtain ⟨b0, b1, b2, e, _⟩ := b
  exact ⟨_, e⟩
theorem Box.keep {H H' : Hp} {B : Addr} {n : Nat} (b : Box H B n) (s : Same H H') : Box H' B n := by
  obtain ⟨b0, b1, b2, e, h⟩ := b
  exact ⟨b0, b1, b2, s _ _ e, h⟩
theorem Box.put {H : Hp} {B p : Addr} {n : Nat} {o : HO} (b : Box H B n) (h : p ≠ B) : Box (upd H p o) B n := by
  obtain ⟨b0, b1, b2, e, r⟩ := b
  exact ⟨b0, b1, b2, by rw [upd_ne h.symm]; exact e, r⟩
theorem Box.ne {H : Hp} {B p : Addr} {n : Nat} (b : Box H B n) (h : H p = none) : p ≠ B := by
  obtain ⟨o, e⟩ := b.some
  exact (ne_of_none e h).symm
theorem Fr.kt {H H' : Hp} {B : Addr} {n : Nat} (f : Fr [B] H H') (b : Box H B n) : KeepT H H' := fun t u i e => by
  have hn : t ≠ B := fun q => by
    obtain ⟨b0, b1, b2, hB, _⟩ := b
    rw [q, hB] at e
    cases e
    exact i
  exact f t u (by simp [hn]) e
theorem atI_in {xs : List V} {r : Int} (h0 : 0 ≤ r) (h1 : r < xs.length) : ∃ v, atI xs r = some v ∧ v ∈ xs := by
  obtain ⟨j, rfl⟩ := Int.eq_ofNat_of_zero_le h0
  have hj : j < xs.length := by omega
  exact ⟨xs[j], atI_nat (List.getElem?_eq_getElem hj), List.getElem_mem hj⟩
theorem walk_range0 {n : Nat} : Walk (Itr 0 n) n (fun _ => True) (YFn fun i => .int ((i : Nat) : Int)) :=
  walk_range.mono (fun _ h => h) fun i H x H' _ _ y => ⟨y.1, by rw [y.2]; show V.int (0 + (i : Int)) = V.int (i : Int); rw [Int.zero_add]⟩
theorem iteD {p A B : Prop} [Decidable p] (h1 : p → A) (h2 : ¬ p → B) : if decide p = true then A else B := by
  by_cases h : p
  · rw [if_pos (decide_eq_true h)]; exact h1 h
  · rw [if_neg (by rw [decide_eq_false h]; exact Bool.false_ne_true)]; exact h2 h
theorem iteND {p A B : Prop} [Decidable p] (h1 : ¬ p → A) (h2 : p → B) : if (!decide p) = true then A else B := by
  by_cases h : p
  · rw [decide_eq_true h]; exact iteF (h2 h)
  · rw [decide_eq_false h]; exact iteT (h1 h)
theorem iteDS {p A B : Prop} [Decidable p] (h : p) (a : A) : if decide p = true then A else B := by rw [if_pos (decide_eq_true h)]; exact a
theorem iteDN {p A B : Prop} [Decidable p] (h : ¬ p) (b : B) : if decide p = true then A else B := by rw [decide_eq_false h]; exact iteF b
theorem iteNDN {p A B : Prop} [Decidable p] (h : ¬ p) (a : A) : if (!decide p) = true then A else B := by rw [decide_eq_false h]; exact iteT a
theorem ixN_nat {n j : Nat} (h : j < n) : ixN n (j : Int) = some j := by
  unfold ixN
  rw [if_pos (by omega), if_pos (by omega), Int.toNat_natCast]
def rLenK (K : PySem.W.Frag) : List V → Hp → VK → Prop := fun xs H Q => ∃ p ys, xs = [.ref p] ∧ (SqL K H p ys ∨ SqT K H p ys) ∧ Q (.int ys.length) H
theorem call_len_seqK {X : Cx} {K : PySem.W.Frag} (h : X.K = K) : CallR X (.builtin "len") (rLenK K) := by
  subst h
  exact call_len_seq
theorem atI_last {xs : List V} {x : V} (h : xs[xs.length - 1]? = some x) : atI xs (-1) = some x := by
  have hl : xs.length - 1 < xs.length := (List.getElem?_eq_some_iff.mp h).1
  have e : ixN xs.length (-1) = some (xs.length - 1) := by
    unfold ixN
    rw [if_neg (by decide), if_pos (by omega)]
    congr 1
    omega
  unfold atI
  rw [e]
  exact h
theorem ixN_last {n : Nat} (h : 0 < n) : ixN n (-1) = some (n - 1) := by
  unfold ixN
  rw [if_neg (by decide), if_pos (by omega)]
  congr 1
  omega
theorem vals3 {a b c : V} {us : List Value} (r : Vals [a, b, c] us) : ∃ x y z, us = [x, y, z] ∧ RelV a x ∧ RelV b y ∧ RelV c z := by
  cases r with
  | cons r1 r => cases r with
    | cons r2 r => cases r with
      | cons r3 r => cases r; exact ⟨_, _, _, rfl, r1, r2, r3⟩
def max3 (i j k : Int) : Int := if k > (if j > i then j else i) then k else (if j > i then j else i)
theorem call_max3 {X : Cx} (hc : X.calm = true) : CallR X (.builtin "max") (fun xs H Q => ∃ i j k, xs = [.int i, .int j, .int k] ∧ Q (.int (max3 i j k)) H) := by
  intro pins s σ H xs us Q I r h
  obtain ⟨i, j, k, rfl, q⟩ := h
  obtain ⟨u, v, w', rfl, ⟨t, rfl⟩, ⟨t', rfl⟩, ⟨t'', rfl⟩⟩ := vals3 r
  refine max_three_ints (I.ok.hd hc) fun h' tk kk => ⟨_, H, I.kept kk, ?_, q⟩
  unfold max3
  by_cases h1 : j > i
  · rw [if_pos h1, if_pos h1]
    by_cases h2 : k > j
    · rw [if_pos h2, if_pos h2]; exact ⟨_, rfl⟩
    · rw [if_neg h2, if_neg h2]; exact ⟨_, rfl⟩
  · rw [if_neg h1, if_neg h1]
    by_cases h2 : k > i
    · rw [if_pos h2, if_pos h2]; exact ⟨_, rfl⟩
    · rw [if_neg h2, if_neg h2]; exact ⟨_, rfl⟩
theorem putF_len (f : Str) (v : V) : ∀ l : List (Str × V), (putF f v l).length ≤ l.length + 1
  | [] => Nat.le_refl _
  | (g, w) :: r => by
    unfold putF
    split
    · exact Nat.le_succ _
    · have := putF_len f v r
      simp only [List.length_cons]
      omega
theorem putF_few {f : Str} {v : V} {l : List (Str × V)} {n : Nat} (h : l.length ≤ n) : (putF f v l).length ≤ n + 1 := Nat.le_trans (putF_len f v l) (Nat.succ_le_succ h)
theorem putF_ok {l : List (Str × V)} {n : Nat} (h : l.length ≤ n) (hn : n < 1000) : l.length < 1000 := Nat.lt_of_le_of_lt h hn
theorem ix3 {a b c : V} : (atI [a, b, c] 0 = some a ∧ atI [a, b, c] 1 = some b ∧ atI [a, b, c] 2 = some c) := ⟨rfl, rfl, rfl⟩

theorem log2_ok {x : Int} (h : x.natAbs < 2 ^ 200) : x.natAbs.log2 < 1920 := by
  by_cases h0 : x.natAbs = 0
  · rw [h0]; decide
  · exact Nat.lt_of_lt_of_le ((Nat.log2_lt h0).mpr h) (by decide)
theorem log2_ok18 {x : Int} (h : x.natAbs < 10 ^ 18) : x.natAbs.log2 < 1920 := log2_ok (Nat.lt_of_lt_of_le h (by decide))
theorem ite01 (b : Bool) : (0 : Int) ≤ (if b = true then 1 else 0) := by cases b <;> decide
theorem pe_globE {X : Cx} {x : Str} {v : V} {pos : Pos} (hg : Gl X x) (h : ∃ u, X.mg x = some u ∧ RelV v u) (hd : (x == ("__debug__" : Str)) = false := by decide) : PE X (.Name x pos) (tC v) := by
  obtain ⟨u, hm, r⟩ := h
  exact pe_glob hg hm r hd
/-- s.rpartition(t) -/
theorem mt_rpartition {X : Cx} : MtR X "str.rpartition" (fun x xs H Q => ∃ a b, x = .str a ∧ xs = [.str b] ∧ (b.length == 0) = false ∧ a.length ≤ sizeLine ∧
    ∀ p, H p = none → Q (.ref p) (upd H p (.tup [.str (Txt.rpartition a b).1, .str (Txt.rpartition a b).2.1, .str (Txt.rpartition a b).2.2]))) := by
  intro pins s σ H x xs v us Q I rx rs h
  obtain ⟨a, b, rfl, rfl, hb, hz, h⟩ := h
  obtain ⟨t, rfl⟩ := rx
  cases rs with
  | cons r1 rs =>
    cases rs
    obtain ⟨u, rfl⟩ := r1
    refine call_meets F.slot_str_rpartition (typeIs_str _ _ _) F.entry_str_rpartition (F.args_str_rpartition_2 _ _) (meets_str_rpartition a b t u hb hz) ?_
    unfold Txt.rpartition at h
    revert h
    cases Builtin.Str.lastOccurrence a b 0 a.length with
    | none => intro h; exact laid_parts I h
    | some i => intro h; exact laid_parts I h
end Z
/-! defs that run while no repr is under way; repr and str of data -/
namespace Z
open PySem L2 PySem.Spec PyProof.Rows

/-- a promise that is kept wherever no repr is under way -/
structure FnG (P : Program) (w : World) (K : PySem.W.Frag) (mg : Str → Option Value) (base : Heap) (k : Nat) (f : Addr) (fd : FuncData)
    (ps : List Str) (sp : Sp) : Prop where
  size : ∀ vs H Q E, sp vs H Q E → vs.length = ps.length
  goes : ∀ (A : Around) (outer : List Env) (s : Shared) (H : Hp) (args : Args) (us : List Value) (vs : List V) (Q : VK) (E : XK),
    Room k A → A.guards = some [] → Env0 P w K mg base A outer s H → BindsTo s fd args (ps.zip us) → Vals vs us → sp vs H Q E →
    codeAny (model P w) A (.call (.ref f) args) (CR CX0 outer P w H s Q E) s
section
variable {P : Program} {w : World} {K : PySem.W.Frag} {mg : Str → Option Value} {base : Heap} {k : Nat} {f : Addr} {fd : FuncData} {ps : List Str} {sp : Sp}
theorem FnG.of (F : FnOk P w K mg base CX0 k f fd ps sp) : FnG P w K mg base k f fd ps sp :=
  ⟨F.len, fun A outer s H args us vs Q E hr _ => F.run A outer s H args us vs Q E hr⟩
theorem FnG.fit (F : FnG P w K mg base k f fd ps sp) {j : Nat} (h : k ≤ j) : FnG P w K mg base j f fd ps sp :=
  ⟨F.size, fun A outer s H args us vs Q E hr => F.goes A outer s H args us vs Q E (hr.mono h)⟩
/-- its body, in a frame of which it is known that no repr is under way -/
theorem okG {x qual : Str} {st : Stmt} {N : List Str} (F : Fun K x qual st f fd) (S : FnScope N ps (defScope st))
    (len : ∀ vs H Q E, sp vs H Q E → vs.length = ps.length)
    (body : ∀ (cdv : Value) (A : Around) (outer : List Env) (s : Shared) (H : Hp) (vs : List V) (Q : VK) (E : XK),
      Room k (A.deeper (envOfC qual (defScope st) s.heap.objs.size f cdv)) →
      (A.deeper (envOfC qual (defScope st) s.heap.objs.size f cdv)).guards = some [] → sp vs H Q E →
      ∃ t, PSs (cxOf CX0 P w K mg base N qual (defScope st) f cdv A outer s H E).nox (defBody st) t ∧
        t { nx := fun _ H' => Q .non H', rt := Q } (start N vs) H) :
    FnG P w K mg base (k + 1) f fd ps sp := by
  obtain ⟨oc, od, kV, doc, pm, an, cdv, ct, osl, rfl, at_f, code⟩ := F.ex
  refine ⟨len, fun A outer s H args us vs Q E room calm start0 binds rel want => ?_⟩
  have here : K.In s.heap := start0.mod.kin.keeps fun b o e => (start0.bs b o e).1
  have nolim : s.heap.NoLimit := start0.mod.nolimit.keeps fun b o e => (start0.bs b o e).1
  obtain ⟨t, der, rd⟩ := body cdv A outer s H vs Q E (room.deeper _) calm want
  have kinds : ∀ y ∈ ps.zip us, (defScope st).names.lookup y.1 = some .local ∨
      ((defScope st).names.lookup y.1 = some .cell ∧ ((cellsFrom (s.heap.objs.size + 1) (defScope st).names []).lookup y.1).isSome = true) := by
    rintro ⟨n, v⟩ hy
    refine (S.par n (List.of_mem_zip hy).1).imp id fun q => ⟨q, PySem.W.cellsFrom_some _ _ _ (.inl q)⟩
  refine codeAny_call_function room.depth (here _ _ at_f) rfl S.co S.gen rfl (PySem.W.codeRec_of here code) (binds _ _ _ _ ?_)
  refine wpAny_newFunctionEnv_cells S.kind kinds fun env he s1 inside => ?_
  subst he
  refine ⟨nolim.keeps inside.toInCall.keep, codeAny_func ?_⟩
  have I := inv_start (CX := CX0) (E := E) S room.hd start0 (len _ _ _ _ want) rel inside
  refine wpAny_mono (der.nox.run [] s1 (start N vs) H _ I rd) (fun fl s' ends => ?_) fun e s' ends => ends
  cases fl with
  | ret u => obtain ⟨v, σ', H', J, rv, q⟩ := ends; exact ⟨v, H', J.os, J.bare, J.base, J.hok, rv, q⟩
  | next => obtain ⟨σ', H', J, q⟩ := ends; exact ⟨.non, H', J.os, J.bare, J.base, J.hok, rfl, q⟩
  | brk => obtain ⟨_, _, _, q⟩ := ends; exact q.elim
  | cont => obtain ⟨_, _, _, q⟩ := ends; exact q.elim
end
section
variable {X : Cx} {k : Nat} {f : Addr} {fd : FuncData} {ps : List Str} {sp : Sp} {dvs : List V} {ds : List Value} {x : Str} {p pos : Pos} {e : Expr} {es : List Expr} {t : TA}
/-- such a callee runs -/
theorem runG {pins : List (Addr × Obj)} {σ : L2.St} {H : Hp} {s : Shared} {Q : VK} {us : List Value} {vs : List V} (F : FnG X.prog X.w X.K X.mg X.base k f fd ps sp)
    (hr : Room k X.A) (calm : X.A.guards = some []) (hb : Binds X.K fd ps ds) (hd : Vals dvs ds) (I : Inv X pins σ H s) (r : Vals vs us)
    (h : sp (vs ++ dvs) H Q E0) : wpAny (model X.prog X.w) X.A (call (.ref f) us) (EP X pins σ Q) X.xe s := by
  have both : Vals (vs ++ dvs) (us ++ ds) := r.append hd
  have enough : (us ++ ds).length = ps.length := both.length ▸ F.size _ _ _ _ h
  refine wpAny_call (codeAny_mono (F.goes X.A X.stack s H ⟨us, []⟩ _ _ Q E0 hr calm I.env0 (hb s us I.kIn enough) both h) fun res s' out => ?_)
  match res, out with
  | .ok (.ret u), out => exact I.after out
  | .ok .next, out => exact (out : False).elim
  | .ok .brk, out => exact (out : False).elim
  | .ok .cont, out => exact (out : False).elim
  | .error _, out => exact (out : False).elim
theorem pe_callG (F : FnG X.prog X.w X.K X.mg X.base k f fd ps sp) (hr : Room k X.A) (calm : X.A.guards = some []) (hg : Gl X x)
    (hm : X.mg x = some (.ref f)) (hk : PySem.W.keepIn X.K (.ref f) = true) (hb : Binds X.K fd ps ds) (hd : Vals dvs ds) (ha : PA X (e :: es) t)
    (nodebug : (x == ("__debug__" : Str)) = false := by decide)
    (nostar : starEach (e :: es) X.env = (false, eval e X.env) :: starEach es X.env := by rfl)
    (plain : (backTo pos (starEach es X.env)).any (·.1) = false := by rfl) : PE X (.Call (.Name x p) (e :: es) [] pos) (tCall sp dvs E0 t) :=
  ⟨fun pins s σ H Q I h => wpAny_Call_Name_kw (ld_glob I hg hm
    (PySem.W.callWith_K (h₀ := X.base) I.ok.mod.kin hk (thn (ha.run pos pins s σ H _ I h) fun us s1 ⟨vs, H1, I1, r, q⟩ =>
      ⟨I1.kIn, runG F hr calm hb hd I1 r q⟩) nostar plain) nodebug)⟩
theorem pe_callG0 (F : FnG X.prog X.w X.K X.mg X.base k f fd ps sp) (hr : Room k X.A) (calm : X.A.guards = some []) (hg : Gl X x)
    (hm : X.mg x = some (.ref f)) (hk : PySem.W.keepIn X.K (.ref f) = true) (hb : Binds X.K fd ps ds) (hd : Vals dvs ds)
    (nodebug : (x == ("__debug__" : Str)) = false := by decide) : PE X (.Call (.Name x p) [] [] pos) (tCall sp dvs E0 tNil) :=
  ⟨fun pins s σ H Q I h => wpAny_Call_Name_kw (ld_glob I hg hm (PySem.W.callWith_K0 I.kIn hk (runG (us := []) F hr calm hb hd I .nil h)) nodebug)⟩
end

/-! the law's call, its def being such a one -/
theorem law_callG {P : Program} {w : World} {K : PySem.W.Frag} {mg mb : Str → Option Value} {k : Nat} {fa a : Addr} {fd : FuncData} {x : Str} {sp : Sp} {s₁ : Shared} {vs : List Value} {ns : List Int}
    (kin : K.In s₁.heap) (ng : s₁.heap.Ns mainGlobals mg) (nb : s₁.heap.Ns builtinsNs mb) (boot : ∀ x : Str, x ≠ "__name__" → mb x = bootBuiltins x)
    (nolim : s₁.heap.NoLimit) (nogen : s₁.gens = #[]) (at_a : s₁.heap.get? a = some { cls := .type "list", data := .seq vs.toArray })
    (ints_ : IntsAre vs ns) (few : ns.length ≤ sizeLine) (room : Room k callerA)
    (F : ∀ base : Heap, K.In base → base.Ns mainGlobals mg → FnG P w K mg base k fa fd [x] sp) (bind : ∀ (s : Shared) (u : Value), BindsTo s fd ⟨[u], []⟩ [(x, u)])
    (want : ∀ H : Hp, Only H → SqL K H a (ns.map V.int) → sp [.ref a] H (fun v _ => v = .bl true) fun _ _ _ => False) :
    codeAny (model P w) callerA (.call (.ref fa) ⟨[.ref a], []⟩)
      (fun r s' => r = .ok (.ret (.bool true)) ∧ OldK s₁.heap s'.heap ∧ s'.os = s₁.os ∧ AllBare s'.gens) s₁ := by
  have rel := vals_ints ints_
  have one : ∀ H : Hp, Only H → SqL K H a (ns.map V.int) → HOk P w H s₁.heap → (∀ b, H b ≠ none → b = a) → (H a ≠ none → K.lookup a = none) →
      codeAny (model P w) callerA (.call (.ref fa) ⟨[.ref a], []⟩)
        (fun r s' => r = .ok (.ret (.bool true)) ∧ OldK s₁.heap s'.heap ∧ s'.os = s₁.os ∧ AllBare s'.gens) s₁ := fun H only sq hok alone noK => by
    have dictOut : ∀ {b : Addr} {o : Obj} {es : Array DictEntry} {ep : Nat}, s₁.heap.get? b = some o → o.data = .dict es ep → H b = none := by
      intro b o es ep e d
      refine Option.eq_none_iff_forall_ne_some.mpr fun u q => ?_
      have hb := alone b (q ▸ Option.some_ne_none u)
      rw [hb, at_a] at e
      injection e with e
      rw [← e] at d
      exact Data.noConfusion d
    have nsIn : ∀ {b : Addr} {m : Str → Option Value}, s₁.heap.Ns b m → (hidT s₁.heap H).Ns b m := by
      rintro b m ⟨o, es, ep, e, d, r⟩
      exact ⟨o, es, ep, hidT_get e (dictOut e d), d, r⟩
    have kb : K.In (hidT s₁.heap H) := fun b o e => hidT_get (kin b o e) (Option.eq_none_iff_forall_ne_some.mpr fun u q => by
      have hb := alone b (q ▸ Option.some_ne_none u)
      rw [hb] at q e
      rw [noK (q ▸ Option.some_ne_none u)] at e
      cases e)
    have lim' : (hidT s₁.heap H).NoLimit := by
      obtain ⟨mc, h1, h2⟩ := nolim
      exact ⟨mc, nsIn h1, h2⟩
    have start0 : Env0 P w K mg (hidT s₁.heap H) callerA [] s₁ H :=
      ⟨rfl, ⟨kb, nsIn ng, ⟨mb, nsIn nb, boot⟩, lim'⟩, fun b o e => of_hidT e, Nat.le_of_eq (hidT_size _ _), trivial, (fun b hb => (List.not_mem_nil hb).elim), hok, .of_eq nogen⟩
    refine codeAny_mono ((F _ kb (nsIn ng)).goes callerA [] s₁ H ⟨[.ref a], []⟩ [.ref a] [.ref a] _ _ room rfl start0 (bind s₁ (.ref a)) (.cons rfl .nil) (want H only sq)) ?_
    intro res s' out
    match res, out with
    | .ok .next, out => exact (out : False).elim
    | .ok .brk, out => exact (out : False).elim
    | .ok .cont, out => exact (out : False).elim
    | .error _, out => exact (out : False).elim
    | .ok (.ret u), out =>
      obtain ⟨v, H', os, bare, un, hok', rv, q⟩ := out
      cases (show v = .bl true from q)
      cases (show u = Value.bool true from rv)
      refine ⟨rfl, OldK.of_keep fun b o e => ?_, os, bare⟩
      rcases only b with z | ⟨ob, xs, z⟩
      · exact un.keep b o e z (fun q => by cases q) (fun q => by cases q)
      · have e1 := (hok b _ z).1
        have e2 := (hok' b _ (un.frzs b ob _ z)).1
        rw [e] at e1
        injection e1 with e1
        rw [e1]
        exact e2
  by_cases hk : K.lookup a = none
  · refine one (fun b => if b = a then some (.frz { cls := .type "list", data := .seq vs.toArray } (.lst (ns.map V.int))) else none) (fun b => ?_)
      (.inl (.inr ⟨_, if_pos rfl⟩)) (fun b u z => ?_) (fun b z => ?_) fun _ => hk
    · exact if h : b = a then .inr ⟨_, _, if_pos h⟩ else .inl (if_neg h)
    · refine if h : b = a then ?_ else ?_
      · dsimp only at z
        rw [if_pos h] at z
        cases z
        rw [h]
        exact ⟨at_a, by rw [List.length_map]; exact few, vs, _, rel, at_a⟩
      · dsimp only at z
        rw [if_neg h] at z
        cases z
    · exact Decidable.byContradiction fun h => z (if_neg h)
  · obtain ⟨o, ho⟩ := Option.ne_none_iff_exists'.mp hk
    have e := kin a o ho
    rw [at_a] at e
    injection e with e
    refine one (fun _ => none) (fun _ => .inl rfl) (.inr ⟨_, vs.toArray, _, ho, by rw [← e], by rw [← e], by rw [← e], ?_, ?_⟩) (fun b u z => by cases z) (fun b z => (z rfl).elim) fun z => (z rfl).elim
    · rw [List.size_toArray, ints_.length]
      exact few
    · simpa using rel
theorem walk_ofG {l : PySem.W.OpenLaw} {n k : Nat} {q : Program} {loose : List Str} {XP : (Str → Option Value) → Heap → Prop} {YP : World → Heap → Prop} {d : DefRec} {K : Params → PySem.W.Frag}
    {sp : PySem.W.Frag → Sp} {x : Str} (most : l.most = some n) (line : n ≤ sizeLine) (nodef : d.params.defaults = []) (room : Room k callerA)
    (kin : ∀ (w : World) (h : Heap), YP w h → (K w.params).In h)
    (F : ∀ (w : World) (mg : Str → Option Value) (fa : Addr) (h : Heap), (K w.params).In h → h.Ns mainGlobals mg → mg d.name = some (.ref fa) →
      ∃ fd : FuncData, (∀ (s : Shared) (u : Value), BindsTo s fd ⟨[u], []⟩ [(x, u)]) ∧
        ∀ base : Heap, (K w.params).In base → base.Ns mainGlobals mg → FnG l.prog w (K w.params) mg base k fa fd [x] (sp (K w.params)))
    (want : ∀ (K : PySem.W.Frag) (H : Hp) (a : Addr) (ns : List Int), ns.length ≤ n → Only H → SqL K H a (ns.map V.int) → sp K [.ref a] H (fun v _ => v = .bl true) fun _ _ _ => False) :
    PySem.W.WalkO q loose XP YP l.row.toRowW d [] (fun f vs => PySem.call f vs) := by
  refine Att.attach_call most nodef fun w s₀ s₁ mg mb fa o pm cd doc a vs ns G Y ho hd hcd hmg hobj hints hlen hg => ?_
  obtain ⟨fd, hb, hF⟩ := F w mg fa _ (kin w _ Y) G.T.g hmg
  exact law_callG (kin w _ Y) G.T.g G.T.b G.T.builtins G.T.nolimit hg hobj hints (Nat.le_trans hlen line) room hF hb fun H only sq => want _ H a ns hlen only sq
end Z
namespace Z
open PySem L2 PySem.Spec PyProof.Rows
section
variable {X : Cx}
mutual
theorem Dp.plain {K : PySem.W.Frag} {H : Hp} : ∀ {v : V} {d : PyData}, Dp K H v d → d.hasDict = false
  | _, _, .non => rfl
  | _, _, .bl _ => rfl
  | _, _, .int _ => rfl
  | _, _, .str _ => rfl
  | _, _, .lst _ r => DpAll.plain r
  | _, _, .tup _ r => DpAll.plain r
theorem DpAll.plain {K : PySem.W.Frag} {H : Hp} : ∀ {v : List V} {d : List PyData}, DpAll K H v d → PyData.hasDictAll d = false
  | _, _, .nil => rfl
  | _, _, .cons a b => by
    show (PyData.hasDict _ || PyData.hasDictAll _) = false
    rw [Dp.plain a, DpAll.plain b]
    rfl
end
/-- repr(x), x a list or a tuple of data -/
theorem call_reprD (calm : X.A.guards = some []) (hu : X.A.units + 64 < cLine) : CallR X (.builtin "repr") (fun xs H Q => ∃ (a : Addr) (d : PyData), xs = [.ref a] ∧ Dp X.K H (.ref a) d ∧
    d.showable = true ∧ d.depth ≤ 60 ∧ d.shown.length ≤ sizeLine ∧ Q (.str d.shown) H) := by
  intro pins s σ H xs us Q I r h
  obtain ⟨a, d, rfl, hd, sh, dp, sz, q⟩ := h
  obtain ⟨u, rfl, rx⟩ := vals1 r
  obtain ⟨as, rd⟩ := Dp.reads I d _ u hd rx
  cases (show u = Value.ref a from rx)
  exact repr_of_reads' rd sh (PyData.noDict_hsm (Dp.plain hd)) calm (by omega) (fun _ _ e => e) (fun h' u tk hk => ⟨.str d.shown, H, I.kept (t' := tk) hk, ⟨u, rfl⟩, q⟩) sz
/-- str(x), x a list or a tuple of data -/
theorem call_strD (calm : X.A.guards = some []) (hu : X.A.units + 64 < cLine) : CallR X (.type "str") (fun xs H Q => ∃ (a : Addr) (d : PyData), xs = [.ref a] ∧ Dp X.K H (.ref a) d ∧
    d.showable = true ∧ d.depth ≤ 60 ∧ d.shown.length ≤ sizeLine ∧ Q (.str d.shown) H) := by
  intro pins s σ H xs us Q I r h
  obtain ⟨a, d, rfl, hd, sh, dp, sz, q⟩ := h
  obtain ⟨u, rfl, rx⟩ := vals1 r
  obtain ⟨as, rd⟩ := Dp.reads I d _ u hd rx
  cases (show u = Value.ref a from rx)
  exact str_of_reads rd sh (PyData.noDict_hsm (Dp.plain hd)) calm (by omega) (fun _ _ e => e) (fun h' u tk hk => ⟨.str d.shown, H, I.kept (t' := tk) hk, ⟨u, rfl⟩, q⟩) sz
end
end Z
/-! carrying facts along heaps -/
namespace Z
open PySem L2
theorem Same.at {H H' : Hp} {p : Addr} {o : HO} (s : Same H H') (h : H p = some o) : H' p = some o := s _ _ h
theorem Fr.at1 {H H' : Hp} {B p : Addr} {o : HO} (f : Fr [B] H H') (n : p ≠ B) (h : H p = some o) : H' p = some o := f p o (by simp [n]) h
theorem upd_at {H : Hp} {p q : Addr} {o u : HO} (n : q ≠ p) (h : H q = some o) : upd H p u q = some o := by rw [upd_ne n]; exact h
theorem upd_new {H : Hp} {p q : Addr} {o u : HO} (n : H p = none) (h : H q = some o) : upd H p u q = some o := by rw [upd_ne (ne_of_none h n)]; exact h
theorem KeepT.bySame {H H1 H2 : Hp} (s : Same H1 H2) (k : KeepT H H1) : KeepT H H2 := k.trans (Same.kt s)
theorem KeepT.byFr {H H1 H2 : Hp} {B : Addr} {n : Nat} (f : Fr [B] H1 H2) (b : Box H1 B n) (k : KeepT H H1) : KeepT H H2 := k.trans (f.kt b)
theorem Fr.bySame {H H1 H2 : Hp} {M : List Addr} (s : Same H1 H2) (f : Fr M H H1) : Fr M H H2 := f.trans (Same.fr s)
theorem Fr.byFr {H H1 H2 : Hp} {M : List Addr} (g : Fr M H1 H2) (f : Fr M H H1) : Fr M H H2 := f.trans g
theorem Same.bySame {H H1 H2 : Hp} (s : Same H1 H2) (f : Same H H1) : Same H H2 := f.trans s
theorem Box.bySame {H H' : Hp} {B : Addr} {n : Nat} (s : Same H H') (b : Box H B n) : Box H' B n := b.keep s
theorem Dp.bySame {K : PySem.W.Frag} {H H' : Hp} {v : V} {d : PyData} (s : Same H H') (h : Dp K H v d) : Dp K H' v d := Dp.mono s h
theorem Dp.byFr {K : PySem.W.Frag} {H H' : Hp} {v : V} {d : PyData} {B : Addr} {n : Nat} (f : Fr [B] H H') (b : Box H B n) (nl : noList d = true) (h : Dp K H v d) : Dp K H' v d := Dp.keep (f.kt b) h nl
theorem DpAll.bySame {K : PySem.W.Frag} {H H' : Hp} {v : List V} {d : List PyData} (s : Same H H') (h : DpAll K H v d) : DpAll K H' v d := DpAll.mono s h
theorem DpAll.byFr {K : PySem.W.Frag} {H H' : Hp} {v : List V} {d : List PyData} {B : Addr} {n : Nat} (f : Fr [B] H H') (b : Box H B n) (nl : noLists d = true) (h : DpAll K H v d) : DpAll K H' v d := DpAll.keep (f.kt b) h nl
theorem SqT.bySame {K : PySem.W.Frag} {H H' : Hp} {a : Addr} {xs : List V} (s : Same H H') (h : SqT K H a xs) : SqT K H' a xs := SqT.mono s h
theorem SqT.byFr {K : PySem.W.Frag} {H H' : Hp} {a : Addr} {xs : List V} {B : Addr} {n : Nat} (f : Fr [B] H H') (b : Box H B n) (h : SqT K H a xs) : SqT K H' a xs := SqT.keep (f.kt b) h
theorem SqL.bySame {K : PySem.W.Frag} {H H' : Hp} {a : Addr} {xs : List V} (s : Same H H') (h : SqL K H a xs) : SqL K H' a xs := SqL.mono s h
theorem Box.byPut {H : Hp} {B p : Addr} {n : Nat} {o : HO} (h : p ≠ B) (b : Box H B n) : Box (upd H p o) B n := b.put h
theorem Fr.byPut {M : List Addr} {H H' : Hp} {p : Addr} {o : HO} (h : p ∈ M) (f : Fr M H H') : Fr M H (upd H' p o) := f.put h
theorem none_of_same {H H' : Hp} {p : Addr} (s : Same H H') (h : H' p = none) : H p = none := by
  cases e : H p with
  | none => rfl
  | some o => rw [s _ _ e] at h; cases h
end Z
/-! tuples cut and put together, by what is to be read there -/
namespace Z
open PySem L2
theorem cut_to (xs : List V) (k : Nat) : cutV xs none (some (k : Int)) = xs.take k := by
  unfold cutV
  rw [HT.sIx_nat, HT.sIx_none, List.drop_zero, Nat.sub_zero]
  by_cases h : k ≤ xs.length
  · rw [Nat.min_eq_left h]
  · rw [Nat.min_eq_right (by omega), List.take_length, List.take_of_length_le (by omega)]
theorem cut_from (xs : List V) (k : Nat) : cutV xs (some (k : Int)) none = xs.drop k := by
  unfold cutV
  rw [HT.sIx_nat, HT.sIx_none]
  by_cases h : k ≤ xs.length
  · rw [Nat.min_eq_left h, List.take_of_length_le (by rw [List.length_drop]; omega)]
  · rw [Nat.min_eq_right (by omega), List.drop_length, List.take_nil, List.drop_of_length_le (by omega)]
theorem cut_mid (xs : List V) (k l : Nat) : cutV xs (some (k : Int)) (some (l : Int)) = (xs.take l).drop k := by
  unfold cutV
  rw [HT.sIx_nat, HT.sIx_nat, List.drop_take]
  by_cases h : k ≤ xs.length
  · rw [Nat.min_eq_left h]
    by_cases h2 : l ≤ xs.length
    · rw [Nat.min_eq_left h2]
    · rw [Nat.min_eq_right (by omega), List.take_of_length_le (by rw [List.length_drop]; omega), List.take_of_length_le (by rw [List.length_drop]; omega)]
  · rw [show min k xs.length = xs.length by omega, List.drop_length, List.drop_of_length_le (show xs.length ≤ k by omega), List.take_nil, List.take_nil]
theorem sl_of {K : PySem.W.Frag} {H : Hp} {a : Addr} {xs : List V} {lo hi : Option Int} {Q : VK} (h : SqT K H a xs)
    (q : ∀ p H', Same H H' → SqT K H' p (cutV xs lo hi) → Q (.ref p) H') : rSlA K (.ref a) lo hi H Q := by
  refine ⟨a, xs, rfl, h, fun e => q a H (Same.refl _) ?_, fun _ p hp => q p _ (Same.new hp) (SqT.of upd_same)⟩
  unfold cutV
  rw [e.1, e.2, List.drop_zero, Nat.sub_zero, List.take_length]
  exact h
theorem cat_of {K : PySem.W.Frag} {H : Hp} {a b : Addr} {xs ys : List V} {Q : VK} (h : SqT K H a xs) (h2 : SqT K H b ys) (hl : xs.length + ys.length ≤ sizeLine)
    (q : ∀ p H', Same H H' → SqT K H' p (xs ++ ys) → Q (.ref p) H') : rCatA K (.ref a) (.ref b) H Q := by
  refine ⟨a, b, xs, ys, rfl, rfl, h, h2, hl, fun e => ?_, fun _ e => ?_, fun _ _ p hp => q p _ (Same.new hp) (SqT.of upd_same)⟩
  · subst e
    exact q b H (Same.refl _) h2
  · subst e
    exact q a H (Same.refl _) (by rw [List.append_nil]; exact h)
end Z
/-! defs with defaults -/
namespace Z
open PySem L2 PySem.Spec PyProof.Rows
section
variable {P : Program} {w : World} {K : PySem.W.Frag} {mg : Str → Option Value} {base : Heap} {x qual : Str} {params : Arguments} {body : List Stmt} {scope : Scope} {dvs : List V} {kws : List (Str × V)} {f : Addr} {fd : FuncData}
theorem okD {N ps : List Str} {k : Nat} {sp : Sp} (F : FunD K x qual params body scope dvs kws f fd) (S : FnScope N ps scope) (len : ∀ vs H Q E, sp vs H Q E → vs.length = ps.length)
    (walk : ∀ (cdv : Value) (A : Around) (outer : List Env) (s : Shared) (H : Hp) (vs : List V) (Q : VK) (E : XK), Room k (A.deeper (envOfC qual scope s.heap.objs.size f cdv)) → sp vs H Q E →
      ∃ t, PSs (cxOf CX0 P w K mg base N qual scope f cdv A outer s H E).nox body t ∧ t { nx := fun _ H' => Q .non H', rt := Q } (start N vs) H) : FnOk P w K mg base CX0 (k + 1) f fd ps sp :=
  FunD.ok F S len fun cdv A outer s H vs Q E hr h => by
    obtain ⟨t, der, rd⟩ := walk cdv A outer s H vs Q E hr h
    exact ⟨t, der.nox, rd⟩
theorem binds_full {ps : List Str} (F : FunD K x qual params body scope dvs kws f fd)
    (h : ∀ (dV kV doc pm : Value) (an : Option Addr) (cdv ct : Value) (us : List Value), us.length = ps.length → bindArgs (PySem.W.fnOf x qual params body scope dV kV doc pm an cdv ct) ⟨us, []⟩ = pure (ps.zip us)) : Binds K fd ps [] := by
  obtain ⟨oc, od, dV, kV, doc, pm, an, cdv, ct, osl, rfl, _⟩ := F.ex
  exact .all (h dV kV doc pm an cdv ct)
theorem kb_full {ps : List Str} (F : FunD K x qual params body scope dvs kws f fd) (n : Nat) (ks : List Str) (g : {α : Type} → List α → List α → List α → List α)
    (rel : ∀ {vs ds zs : List V} {us its ws : List Value}, Vals vs us → Vals ds its → Vals zs ws → Vals (g vs ds zs) (g us its ws))
    (h : ∀ (dV kV doc pm : Value) (an : Option Addr) (cdv ct : Value) (us its ws : List Value), us.length = n → its.length = dvs.length → ws.length = ks.length →
      bindArgs (PySem.W.fnOf x qual params body scope dV kV doc pm an cdv ct) ⟨us, ks.zip ws⟩ = pure (ps.zip (g us its ws))) :
    ∃ its : List Value, KBn K fd ps n ks (fun us ws => g us its ws) (fun vs zs => g vs dvs zs) := by
  obtain ⟨oc, od, dV, kV, doc, pm, an, cdv, ct, osl, rfl, _, _, hD, _⟩ := F.ex
  obtain ⟨its, rI⟩ : ∃ its, Vals dvs its := by
    rcases hD with ⟨e, _⟩ | ⟨_, T, o, its, m, _, _, _, rT⟩
    · exact ⟨[], by rw [e]; exact .nil⟩
    · exact ⟨its, rT⟩
  exact ⟨its, fun s us ws _ l1 l2 => BindsTo.of_eq (h dV kV doc pm an cdv ct us its ws l1 rI.length.symm l2), fun r1 r2 => rel r1 rI r2⟩
end
end Z
/-! values as data: heaps but for some places, slots, what stands in them -/
namespace DL
open PySem L2 Z
open Classical in
/-- H without the places of A -/
noncomputable def hp (A : Addr → Prop) (H : Hp) : Hp := fun a => if A a then none else H a
theorem hp_of {A : Addr → Prop} {H : Hp} {a : Addr} (h : ¬ A a) : hp A H a = H a := if_neg h
theorem hp_some {A : Addr → Prop} {H : Hp} {a : Addr} {o : HO} (h : hp A H a = some o) : ¬ A a ∧ H a = some o := by
  by_cases q : A a
  · rw [show hp A H a = none from if_pos q] at h; cases h
  · exact ⟨q, by rw [← hp_of (H := H) q]; exact h⟩
theorem hp_mk {A : Addr → Prop} {H : Hp} {a : Addr} {o : HO} (h : ¬ A a) (e : H a = some o) : hp A H a = some o := by rw [hp_of h]; exact e
theorem hp_same {A : Addr → Prop} {H : Hp} : Same (hp A H) H := fun _ _ h => (hp_some h).2
def FrA (A : Addr → Prop) (H H' : Hp) : Prop := ∀ a o, ¬ A a → H a = some o → H' a = some o
theorem FrA.refl (A : Addr → Prop) (H : Hp) : FrA A H H := fun _ _ _ h => h
theorem FrA.trans {A : Addr → Prop} {H H1 H2 : Hp} (f : FrA A H H1) (g : FrA A H1 H2) : FrA A H H2 := fun a o n h => g a o n (f a o n h)
theorem FrA.of {A : Addr → Prop} {H H' : Hp} (s : Same H H') : FrA A H H' := fun a o _ h => s a o h
theorem FrA.up {A B : Addr → Prop} {H H' : Hp} (f : FrA A H H') (h : ∀ a, A a → B a) : FrA B H H' := fun a o n e => f a o (fun q => n (h a q)) e
theorem hp_less {A B : Addr → Prop} {H : Hp} (h : ∀ a, B a → A a) : Same (hp A H) (hp B H) := fun a o e => by
  obtain ⟨n, e⟩ := hp_some e
  exact hp_mk (fun q => n (h a q)) e
theorem hp_fr {A W : Addr → Prop} {H H' : Hp} (f : FrA W H H') (h : ∀ a, W a → A a) : Same (hp A H) (hp A H') := fun a o e => by
  obtain ⟨n, e⟩ := hp_some e
  exact hp_mk n (f a o (fun q => n (h a q)) e)
theorem hp_grow {A : Addr → Prop} {H H' : Hp} (s : Same H H') : Same (hp A H) (hp A H') := hp_fr (W := fun _ => False) (FrA.of s) (fun _ q => q.elim)
/-- a caught exception that is kept: its class, its dict -/
def exk (a C dx : Addr) : HO := .ext fun h => ∃ o vs, h.get? a = some o ∧ o.cls = .ref C ∧ o.dict = some dx ∧ o.data = .fields vs
mutual
inductive Dq (K : PySem.W.Frag) (H : Hp) : V → PyData → Prop
  | non : Dq K H .non .none
  | bl (b : Bool) : Dq K H (.bl b) (.bool b)
  | int (i : Int) : Dq K H (.int i) (.int i)
  | str (x : Str) : Dq K H (.str x) (.str x)
  | lst {a : Addr} {xs : List V} {ds : List PyData} : SqL K H a xs → DqAll K H xs ds → Dq K H (.ref a) (.list ds)
  | tup {a : Addr} {xs : List V} {ds : List PyData} : SqT K H a xs → DqAll K H xs ds → Dq K H (.ref a) (.tuple ds)
  | obj {a C dx : Addr} {c : Str} {fv : List (Str × V)} {fs : List (PyData × PyData)} : PySem.W.nsIn K mainGlobals c = some (some (.ref C)) → H a = some (.ins C dx fv) → DqFs K H fv fs → Dq K H (.ref a) (.dict ((.str c, .none) :: fs))
  | exc {a C dx : Addr} {c : Str} {fv : List (Str × V)} {fs : List (PyData × PyData)} : PySem.W.nsIn K mainGlobals c = some (some (.ref C)) → H a = some (exk a C dx) → H dx = some (.xd fv) → DqFs K H fv fs → Dq K H (.ref a) (.dict ((.str c, .bool true) :: fs))
  | fnc {a : Addr} {x : Str} : PySem.W.nsIn K mainGlobals x = some (some (.ref a)) → Dq K H (.ref a) (.dict [(.str x, .int 0)])
/-- the fields of an object -/
inductive DqFs (K : PySem.W.Frag) (H : Hp) : List (Str × V) → List (PyData × PyData) → Prop
  | nil : DqFs K H [] []
  | cons {f : Str} {v : V} {d : PyData} {fv : List (Str × V)} {fs : List (PyData × PyData)} : Dq K H v d → DqFs K H fv fs → DqFs K H ((f, v) :: fv) ((.str f, d) :: fs)
inductive DqAll (K : PySem.W.Frag) (H : Hp) : List V → List PyData → Prop
  | nil : DqAll K H [] []
  | cons {v : V} {vs : List V} {d : PyData} {ds : List PyData} : Dq K H v d → DqAll K H vs ds → DqAll K H (v :: vs) (d :: ds)
end
mutual
theorem Dq.mono {K : PySem.W.Frag} {H H' : Hp} (e : Same H H') : ∀ {v : V} {d : PyData}, Dq K H v d → Dq K H' v d
  | _, _, .non => .non
  | _, _, .bl b => .bl b
  | _, _, .int i => .int i
  | _, _, .str x => .str x
  | _, _, .lst h r => .lst (SqL.mono e h) (DqAll.mono e r)
  | _, _, .tup h r => .tup (SqT.mono e h) (DqAll.mono e r)
  | _, _, .obj c h r => .obj c (e _ _ h) (DqFs.mono e r)
  | _, _, .exc c h g r => .exc c (e _ _ h) (e _ _ g) (DqFs.mono e r)
  | _, _, .fnc h => .fnc h
theorem DqFs.mono {K : PySem.W.Frag} {H H' : Hp} (e : Same H H') : ∀ {fv : List (Str × V)} {fs : List (PyData × PyData)}, DqFs K H fv fs → DqFs K H' fv fs
  | _, _, .nil => .nil
  | _, _, .cons a b => .cons (Dq.mono e a) (DqFs.mono e b)
theorem DqAll.mono {K : PySem.W.Frag} {H H' : Hp} (e : Same H H') : ∀ {v : List V} {d : List PyData}, DqAll K H v d → DqAll K H' v d
  | _, _, .nil => .nil
  | _, _, .cons a b => .cons (Dq.mono e a) (DqAll.mono e b)
end
mutual
theorem Dq.dp {K : PySem.W.Frag} {H : Hp} : ∀ {v : V} {d : PyData}, Dq K H v d → d.hasDict = false → Dp K H v d
  | _, _, .non, _ => .non
  | _, _, .bl b, _ => .bl b
  | _, _, .int i, _ => .int i
  | _, _, .str x, _ => .str x
  | _, _, .lst h r, e => .lst h (DqAll.dp r e)
  | _, _, .tup h r, e => .tup h (DqAll.dp r e)
  | _, _, .obj _ _ _, e => by cases e
  | _, _, .exc _ _ _ _, e => by cases e
  | _, _, .fnc _, e => by cases e
theorem DqAll.dp {K : PySem.W.Frag} {H : Hp} : ∀ {v : List V} {d : List PyData}, DqAll K H v d → PyData.hasDictAll d = false → DpAll K H v d
  | _, _, .nil, _ => .nil
  | _, _, .cons a b, e => by
    have e' : (PyData.hasDict _ || PyData.hasDictAll _) = false := e
    rw [Bool.or_eq_false_iff] at e'
    exact .cons (Dq.dp a e'.1) (DqAll.dp b e'.2)
end
theorem plain_of {d : PyData} (h : SeqAt.shaped d = true) : d.hasDict = false := PyData.hasDict_of_canLay d (SeqAt.canLay_of_shaped h)
def fldD (f : Str) : List (PyData × PyData) → Option PyData
  | [] => none
  | (.str g, d) :: r => if f = g then some d else fldD f r
  | _ :: r => fldD f r
theorem DqFs.get {K : PySem.W.Frag} {H : Hp} {f : Str} {d : PyData} : ∀ {fv : List (Str × V)} {fs : List (PyData × PyData)}, DqFs K H fv fs → fldD f fs = some d → ∃ v, fv.lookup f = some v ∧ Dq K H v d
  | _, _, .nil, h => by cases h
  | _, _, .cons (f := g) (v := v) (d := c) a b, h => by
    unfold fldD at h
    rw [List.lookup_cons]
    by_cases e : f = g
    · rw [if_pos e] at h
      cases h
      have : (f == g) = true := by rw [e]; exact beq_self_eq_true g
      rw [this]
      exact ⟨_, rfl, a⟩
    · rw [if_neg e] at h
      have : (f == g) = false := by simpa using e
      rw [this]
      exact DqFs.get b h
section
variable {K : PySem.W.Frag} {H : Hp}
theorem DqAll.length : ∀ {v : List V} {d : List PyData}, DqAll K H v d → v.length = d.length
  | _, _, .nil => rfl
  | _, _, .cons _ b => by rw [List.length_cons, List.length_cons, DqAll.length b]
theorem DqAll.get : ∀ {v : List V} {d : List PyData} {i : Nat} {x : V}, DqAll K H v d → v[i]? = some x → ∃ y, d[i]? = some y ∧ Dq K H x y
  | _, _, _, _, .nil, h => by simp at h
  | _, _, 0, _, .cons a _, h => by simp at h; subst h; exact ⟨_, rfl, a⟩
  | _, _, i + 1, _, .cons _ b, h => by
    obtain ⟨y, e, q⟩ := DqAll.get (i := i) b (by simpa using h)
    exact ⟨y, by simpa using e, q⟩
theorem DqAll.got : ∀ {v : List V} {d : List PyData} {i : Nat} {y : PyData}, DqAll K H v d → d[i]? = some y → ∃ x, v[i]? = some x ∧ Dq K H x y
  | _, _, _, _, .nil, h => by simp at h
  | _, _, 0, _, .cons a _, h => by simp at h; subst h; exact ⟨_, rfl, a⟩
  | _, _, i + 1, _, .cons _ b, h => by
    obtain ⟨y, e, q⟩ := DqAll.got (i := i) b (by simpa using h)
    exact ⟨y, by simpa using e, q⟩
theorem DqAll.append : ∀ {v : List V} {d : List PyData} {w : List V} {e : List PyData}, DqAll K H v d → DqAll K H w e → DqAll K H (v ++ w) (d ++ e)
  | _, _, _, _, .nil, h => h
  | _, _, _, _, .cons a b, h => .cons a (DqAll.append b h)
theorem DqAll.take : ∀ {v : List V} {d : List PyData} (n : Nat), DqAll K H v d → DqAll K H (v.take n) (d.take n)
  | _, _, 0, _ => .nil
  | _, _, _ + 1, .nil => .nil
  | _, _, n + 1, .cons a b => .cons a (DqAll.take n b)
theorem DqAll.drop : ∀ {v : List V} {d : List PyData} (n : Nat), DqAll K H v d → DqAll K H (v.drop n) (d.drop n)
  | _, _, 0, h => h
  | _, _, _ + 1, .nil => .nil
  | _, _, n + 1, .cons _ b => DqAll.drop n b
theorem DqAll.set {y : V} {c : PyData} (hy : Dq K H y c) : ∀ {v : List V} {d : List PyData} (n : Nat), DqAll K H v d → DqAll K H (v.set n y) (d.set n c)
  | _, _, _, .nil => .nil
  | _, _, 0, .cons _ b => .cons hy b
  | _, _, n + 1, .cons a b => .cons a (DqAll.set hy n b)
theorem DqAll.rev : ∀ {v : List V} {d : List PyData}, DqAll K H v d → DqAll K H v.reverse d.reverse
  | _, _, .nil => .nil
  | _, _, .cons a b => by rw [List.reverse_cons, List.reverse_cons]; exact DqAll.append (DqAll.rev b) (.cons a .nil)
theorem DqAll.rep {v : List V} {d : List PyData} (h : DqAll K H v d) : ∀ n : Nat, DqAll K H (List.replicate n v).flatten (List.replicate n d).flatten
  | 0 => .nil
  | n + 1 => by rw [List.replicate_succ, List.replicate_succ, List.flatten_cons, List.flatten_cons]; exact DqAll.append h (DqAll.rep h n)
theorem DqAll.ints : ∀ ns : List Int, DqAll K H (ns.map V.int) (ns.map .int)
  | [] => .nil
  | n :: r => .cons (.int n) (DqAll.ints r)
theorem DqAll.strs : ∀ ns : List Str, DqAll K H (ns.map V.str) (ns.map .str)
  | [] => .nil
  | n :: r => .cons (.str n) (DqAll.strs r)
theorem DqAll.ints_of : ∀ {ns : List Int} {v : List V}, DqAll K H v (ns.map .int) → v = ns.map V.int
  | [], _, .nil => rfl
  | n :: r, _, .cons a b => by cases a; rw [DqAll.ints_of b]; rfl
theorem DqAll.strs_of : ∀ {ns : List Str} {v : List V}, DqAll K H v (ns.map .str) → v = ns.map V.str
  | [], _, .nil => rfl
  | n :: r, _, .cons a b => by cases a; rw [DqAll.strs_of b]; rfl
theorem DqAll.bools_of : ∀ {ns : List Bool} {v : List V}, DqAll K H v (ns.map .bool) → v = ns.map V.bl
  | [], _, .nil => rfl
  | n :: r, _, .cons a b => by cases a; rw [DqAll.bools_of b]; rfl
theorem Dq.list_of {v : V} {ds : List PyData} (h : Dq K H v (.list ds)) : ∃ a xs, v = .ref a ∧ SqL K H a xs ∧ DqAll K H xs ds := by
  cases h with
  | lst s r => exact ⟨_, _, rfl, s, r⟩
theorem Dq.tuple_of {v : V} {ds : List PyData} (h : Dq K H v (.tuple ds)) : ∃ a xs, v = .ref a ∧ SqT K H a xs ∧ DqAll K H xs ds := by
  cases h with
  | tup s r => exact ⟨_, _, rfl, s, r⟩
end

/-- a slot: nothing that is known, data that stays, a list that is its own -/
inductive Sl where
  | no
  | fz (d : PyData)
  | own (ds : List PyData)
abbrev En := List Sl
/-- the tables of code objects that may grow -/
class Tbs where
  T : List (Addr × Str)
variable [Tbs]
abbrev TabsOk (H : Hp) : Prop := LamX.Tabs Tbs.T H
theorem TabsOk.put {H : Hp} {a : Addr} {xs ys : List V} (t : TabsOk H) (h : H a = some (.lst xs)) : TabsOk (upd H a (.lst ys)) := fun p hp => by
  obtain ⟨ps, h1, h2, h3⟩ := t p hp
  have ne : ∀ b o, H b = some o → o ≠ .lst xs → b ≠ a := fun b o e n z => n (Option.some.inj (e.symm.trans (by rw [z]; exact h)))
  refine ⟨ps, by rw [upd_ne (ne _ _ h1 (fun z => by cases z))]; exact h1, h2, fun pos cv hc => ?_⟩
  obtain ⟨c, e1, e2⟩ := h3 pos cv hc
  exact ⟨c, e1, by rw [upd_ne (ne _ _ e2 (fun z => by unfold LamX.CodeO at z; cases z))]; exact e2⟩
theorem TabsOk.full {H : Hp} (t : TabsOk H) {p : Addr × Str} (hp : p ∈ Tbs.T) : H p.1 ≠ none := by
  obtain ⟨ps, h1, _⟩ := t p hp
  rw [h1]
  exact Option.some_ne_none _
theorem TabsOk.no {H : Hp} {a : Addr} {xs : List V} (t : TabsOk H) (h : H a = some (.lst xs)) : ¬ ∃ p ∈ Tbs.T, p.1 = a := fun ⟨p, hp, e⟩ => by
  obtain ⟨ps, h1, _⟩ := t p hp
  rw [e, h] at h1
  cases h1
def Own (as : Nat → Option Addr) (a : Addr) : Prop := (∃ i, as i = some a) ∨ ∃ p ∈ Tbs.T, p.1 = a
def Hid (O : Addr → Prop) (as : Nat → Option Addr) (a : Addr) : Prop := O a ∨ Own as a
section
variable {as as' as'' : Nat → Option Addr} {H H' H'' : Hp} {n : Nat}
/-- how one state comes of another: but for own lists and new objects all stays -/
structure Ext (n : Nat) (as as' : Nat → Option Addr) (H H' : Hp) : Prop where
  fr : FrA (Own as) H H'
  new : ∀ a, Own as' a → Own as a ∨ H a = none
  fix : ∀ i, i < n → as' i = as i
theorem Ext.refl : Ext n as as H H := ⟨FrA.refl _ _, fun _ h => .inl h, fun _ _ => rfl⟩
theorem Ext.of (f : FrA (Own as) H H') : Ext n as as H H' := ⟨f, fun _ h => .inl h, fun _ _ => rfl⟩
theorem Ext.trans (x : Ext n as as' H H') (y : Ext n as' as'' H' H'') : Ext n as as'' H H'' := by
  refine ⟨fun a o h e => y.fr a o (fun q => ?_) (x.fr a o h e), fun a q => ?_, fun i h => (y.fix i h).trans (x.fix i h)⟩
  · rcases x.new a q with z | z
    · exact h z
    · rw [z] at e; cases e
  · rcases y.new a q with z | z
    · exact x.new a z
    · by_cases w : Own as a
      · exact .inl w
      · cases e : H a with
        | none => exact .inr rfl
        | some o => rw [x.fr a o w e] at z; cases z
theorem Ext.less {m : Nat} (x : Ext n as as' H H') (h : m ≤ n) : Ext m as as' H H' := ⟨x.fr, x.new, fun i q => x.fix i (Nat.lt_of_lt_of_le q h)⟩
end
/-- what is so from some state on -/
structure Jv (n : Nat) where
  P : (Nat → Option Addr) → Hp → Prop
  cl : ∀ as as' H H', P as H → Ext n as as' H H' → P as' H'
  Q : (Addr → Prop) → Prop
  up : ∀ O O' : Addr → Prop, (∀ a, O a → O' a) → Q O → Q O'
def J0 : Jv n := ⟨fun _ _ => True, fun _ _ _ _ _ _ => trivial, fun _ => True, fun _ _ _ _ => trivial⟩
/-- all that comes of this state -/
def Jst (n : Nat) (O : Addr → Prop) (as : Nat → Option Addr) (H : Hp) : Jv n := ⟨fun as' H' => Ext n as as' H H', fun _ _ _ _ x y => x.trans y, fun O' => ∀ a, O a → O' a, fun _ _ h q a z => h a (q a z)⟩
def Jv.and {n : Nat} (J J' : Jv n) : Jv n := ⟨fun as H => J.P as H ∧ J'.P as H, fun _ _ _ _ x y => ⟨J.cl _ _ _ _ x.1 y, J'.cl _ _ _ _ x.2 y⟩, fun O => J.Q O ∧ J'.Q O, fun _ _ h q => ⟨J.up _ _ h q.1, J'.up _ _ h q.2⟩⟩
def Jv.le {n : Nat} (J' J : Jv n) : Prop := (∀ as H, J'.P as H → J.P as H) ∧ ∀ O, J'.Q O → J.Q O
theorem Jv.le.refl {n : Nat} {J : Jv n} : J.le J := ⟨fun _ _ h => h, fun _ h => h⟩
theorem Jv.fr {n : Nat} (J : Jv n) {as : Nat → Option Addr} {H H' : Hp} (h : J.P as H) (f : FrA (Own as) H H') : J.P as H' := J.cl _ _ _ _ h (.of f)
inductive SlR (K : PySem.W.Frag) (G H : Hp) : Option Addr → Sl → Option V → Prop
  | no {o : Option V} : SlR K G H none .no o
  | fz {v : V} {d : PyData} : Dq K G v d → SlR K G H none (.fz d) (some v)
  | own {a : Addr} {xs : List V} {ds : List PyData} : H a = some (.lst xs) → DqAll K G xs ds → SlR K G H (some a) (.own ds) (some (.ref a))
structure EnR (K : PySem.W.Frag) {n : Nat} (J : Jv n) (O : Addr → Prop) (as : Nat → Option Addr) (H : Hp) (ρ : En) (σ : L2.St) : Prop where
  len : ρ.length = σ.length
  at_ : ∀ (i : Nat) (sl : Sl) (o : Option V), ρ[i]? = some sl → σ[i]? = some o → SlR K (hp (Hid O as) H) H (as i) sl o
  inj : ∀ (i j : Nat) (a : Addr), as i = some a → as j = some a → i = j
  out : ∀ (i : Nat) (a : Addr), as i = some a → ¬ O a
  bnd : ∀ (i : Nat) (a : Addr), as i = some a → i < ρ.length
  occ : ∀ a, O a → H a ≠ none
  inv : J.P as H
  inq : J.Q O
  tab : TabsOk H
section
variable {K : PySem.W.Frag} {n : Nat} {J : Jv n} {O : Addr → Prop} {as as' as'' : Nat → Option Addr} {H H' H'' : Hp} {ρ : En} {σ : L2.St} {i : Nat} {v : V} {d : PyData} {ds : List PyData}
theorem EnR.reJ {n' : Nat} {J' : Jv n'} (E : EnR K J O as H ρ σ) (h : J'.P as H) (q : J'.Q O) : EnR K J' O as H ρ σ := ⟨E.len, E.at_, E.inj, E.out, E.bnd, E.occ, h, q, E.tab⟩
theorem EnR.at' (E : EnR K J O as H ρ σ) {sl : Sl} (h : ρ[i]? = some sl) : ∃ o, σ[i]? = some o ∧ SlR K (hp (Hid O as) H) H (as i) sl o := by
  have hi : i < σ.length := by rw [← E.len]; exact (List.getElem?_eq_some_iff.mp h).1
  exact ⟨_, List.getElem?_eq_getElem hi, E.at_ i sl _ h (List.getElem?_eq_getElem hi)⟩
theorem EnR.fz_at (E : EnR K J O as H ρ σ) (h : ρ[i]? = some (.fz d)) : ∃ v, σ[i]? = some (some v) ∧ as i = none ∧ Dq K (hp (Hid O as) H) v d := by
  obtain ⟨o, e, r⟩ := E.at' h
  generalize as i = z at r
  cases r with
  | fz q => exact ⟨_, e, rfl, q⟩
theorem EnR.own_at (E : EnR K J O as H ρ σ) (h : ρ[i]? = some (.own ds)) : ∃ a xs, σ[i]? = some (some (.ref a)) ∧ as i = some a ∧ H a = some (.lst xs) ∧ DqAll K (hp (Hid O as) H) xs ds := by
  obtain ⟨o, e, r⟩ := E.at' h
  generalize as i = z at r
  cases r with
  | own q z => exact ⟨_, _, e, rfl, q, z⟩
theorem EnR.is_own (E : EnR K J O as H ρ σ) {a : Addr} (h : as i = some a) : ∃ ds xs, ρ[i]? = some (.own ds) ∧ σ[i]? = some (some (.ref a)) ∧ H a = some (.lst xs) ∧ DqAll K (hp (Hid O as) H) xs ds := by
  have hi := E.bnd i a h
  obtain ⟨o, e, r⟩ := E.at' (List.getElem?_eq_getElem hi)
  rw [h] at r
  rw [List.getElem?_eq_getElem hi]
  generalize ρ[i] = sl at r
  cases r with
  | own q z => exact ⟨_, _, rfl, e, q, z⟩
theorem EnR.not_own (E : EnR K J O as H ρ σ) {sl : Sl} (h : ρ[i]? = some sl) (n : ∀ ds, sl ≠ .own ds) : as i = none := by
  cases e : as i with
  | none => rfl
  | some a =>
    obtain ⟨ds, xs, h', _⟩ := E.is_own e
    rw [h] at h'
    exact absurd (Option.some.inj h') (n ds)
theorem EnR.full (E : EnR K J O as H ρ σ) {a : Addr} (h : Hid O as a) : H a ≠ none := by
  rcases h with h | ⟨i, h⟩ | ⟨p, hp, h⟩
  · exact E.occ a h
  · obtain ⟨ds, xs, _, _, e, _⟩ := E.is_own h
    rw [e]
    exact Option.some_ne_none _
  · rw [← h]
    exact E.tab.full hp
theorem EnR.occ' (E : EnR K J O as H ρ σ) (f : FrA (Own as) H H') (t : TabsOk H') {a : Addr} (h : O a) : H' a ≠ none := by
  by_cases q : ∃ p ∈ Tbs.T, p.1 = a
  · obtain ⟨p, hp, e⟩ := q
    rw [← e]
    exact t.full hp
  · obtain ⟨o, e⟩ := Option.ne_none_iff_exists'.mp (E.occ a h)
    rw [f a o (fun z => z.elim (fun ⟨i, z⟩ => E.out i a z h) q) e]
    exact Option.some_ne_none _
theorem EnR.fresh (E : EnR K J O as H ρ σ) {a : Addr} (h : H a = none) : ¬ Hid O as a := fun q => E.full q h
theorem SlR.mono {G G' H H' : Hp} {a : Option Addr} {sl : Sl} {o : Option V} (s : Same G G') (f : ∀ b, a = some b → H' b = H b) (r : SlR K G H a sl o) : SlR K G' H' a sl o := by
  cases r with
  | no => exact .no
  | fz q => exact .fz (q.mono s)
  | own q z => exact .own (by rw [f _ rfl]; exact q) (z.mono s)
/-- more objects -/
theorem EnR.grow (E : EnR K J O as H ρ σ) (s : Same H H') : EnR K J O as H' ρ σ := by
  refine ⟨E.len, fun i sl o h1 h2 => (E.at_ i sl o h1 h2).mono (hp_grow s) fun b hb => ?_, E.inj, E.out, E.bnd, fun a h => ?_, J.fr E.inv (FrA.of s), E.inq, E.tab.ext s⟩
  · obtain ⟨ds, xs, _, _, e, _⟩ := E.is_own hb
    rw [e, s _ _ e]
  · obtain ⟨o, e⟩ := Option.ne_none_iff_exists'.mp (E.occ a h)
    rw [s _ _ e]
    exact Option.some_ne_none _
def Sl.isOwn : Sl → Bool
  | .own _ => true
  | _ => false
/-- the slot is there and no list of its own -/
def slotF (ρ : En) (i : Nat) : Bool := match ρ[i]? with
  | some (.own _) => false
  | some _ => true
  | none => false
theorem slotF_of (h : slotF ρ i = true) : ∃ sl, ρ[i]? = some sl ∧ ∀ ds, sl ≠ .own ds := by
  unfold slotF at h
  split at h
  · cases h
  · next sl e hn => exact ⟨sl, hn, fun ds q => e ds (by rw [q])⟩
  · cases h
theorem EnR.none_of (E : EnR K J O as H ρ σ) (h : slotF ρ i = true) : as i = none := by
  obtain ⟨sl, e, n⟩ := slotF_of h
  exact E.not_own e n
/-- data stored -/
theorem EnR.setFz (E : EnR K J O as H ρ σ) (h : slotF ρ i = true) (q : Dq K (hp (Hid O as) H) v d) : EnR K J O as H (ρ.set i (.fz d)) (σ.set i (some v)) := by
  have hn := E.none_of h
  refine ⟨by rw [List.length_set, List.length_set]; exact E.len, fun j sl o h1 h2 => ?_, E.inj, E.out, fun j a e => by rw [List.length_set]; exact E.bnd j a e, E.occ, E.inv, E.inq, E.tab⟩
  rw [List.getElem?_set] at h1 h2
  by_cases e : i = j
  · subst e
    rw [if_pos rfl] at h1 h2
    split at h1
    · split at h2
      · cases h1; cases h2
        rw [hn]
        exact .fz q
      · cases h2
    · cases h1
  · rw [if_neg e] at h1 h2
    exact E.at_ j sl o h1 h2
theorem EnR.setNo (E : EnR K J O as H ρ σ) (h : slotF ρ i = true) (o : Option V) : EnR K J O as H (ρ.set i .no) (σ.set i o) := by
  have hn := E.none_of h
  refine ⟨by rw [List.length_set, List.length_set]; exact E.len, fun j sl o h1 h2 => ?_, E.inj, E.out, fun j a e => by rw [List.length_set]; exact E.bnd j a e, E.occ, E.inv, E.inq, E.tab⟩
  rw [List.getElem?_set] at h1 h2
  by_cases e : i = j
  · subst e
    rw [if_pos rfl] at h1 h2
    split at h1
    · cases h1
      rw [hn]
      exact .no
    · cases h1
  · rw [if_neg e] at h1 h2
    exact E.at_ j sl o h1 h2
/-- an own list changed -/
theorem EnR.put (E : EnR K J O as H ρ σ) {a : Addr} (ha : as i = some a) {xs : List V} (q : DqAll K (hp (Hid O as) H) xs ds) : EnR K J O as (upd H a (.lst xs)) (ρ.set i (.own ds)) σ := by
  have hS : Same (hp (Hid O as) H) (hp (Hid O as) (upd H a (.lst xs))) := fun b o e => by
    obtain ⟨n, e⟩ := hp_some e
    exact hp_mk n (by rw [upd_ne (fun z : b = a => n (by rw [z]; exact .inr (.inl ⟨i, ha⟩)))]; exact e)
  refine ⟨by rw [List.length_set]; exact E.len, fun j sl o h1 h2 => ?_, E.inj, E.out, fun j a e => by rw [List.length_set]; exact E.bnd j a e, fun b h => ?_, J.fr E.inv fun b o nb e => by rw [upd_ne (fun z : b = a => nb (by rw [z]; exact .inl ⟨i, ha⟩))]; exact e, E.inq, by
    obtain ⟨_, _, _, _, e, _⟩ := E.is_own ha
    exact E.tab.put e⟩
  · rw [List.getElem?_set] at h1
    by_cases e : i = j
    · subst e
      rw [if_pos rfl] at h1
      obtain ⟨ds0, xs0, e0, e1, _, _⟩ := E.is_own ha
      rw [e1] at h2
      cases h2
      split at h1
      · cases h1
        rw [ha]
        exact .own upd_same (q.mono hS)
      · cases h1
    · rw [if_neg e] at h1
      refine (E.at_ j sl o h1 h2).mono hS fun b hb => ?_
      rw [upd_ne]
      intro z
      rw [z] at hb
      exact e (E.inj i j a ha hb)
  · by_cases z : b = a
    · rw [z, upd_same]; exact Option.some_ne_none _
    · rw [upd_ne z]; exact E.occ b h
def upA (as : Nat → Option Addr) (i : Nat) (o : Option Addr) : Nat → Option Addr := fun j => if j = i then o else as j
theorem upA_at {o : Option Addr} : upA as i o i = o := if_pos rfl
theorem upA_ne {o : Option Addr} {j : Nat} (h : j ≠ i) : upA as i o j = as j := if_neg h
theorem Own.up {a : Addr} {o : Option Addr} (h : Own (upA as i o) a) : o = some a ∨ Own as a := by
  rcases h with ⟨j, h⟩ | h
  · by_cases e : j = i
    · rw [e, upA_at] at h; exact .inl h
    · rw [upA_ne e] at h; exact .inr (.inl ⟨j, h⟩)
  · exact .inr (.inr h)
/-- a new list of its own -/
theorem EnR.setOwn (E : EnR K J O as H ρ σ) (hi : i < ρ.length) {p : Addr} (hJ : J.P (upA as i (some p)) H) {xs : List V} (hp0 : ¬ Hid O as p) (hp1 : H p = some (.lst xs))
    (hf : ∀ (j : Nat) (sl : Sl) (o : Option V), ρ[j]? = some sl → σ[j]? = some o → j ≠ i → SlR K (hp (fun a => Hid O as a ∨ a = p) H) H (as j) sl o)
    (q : DqAll K (hp (fun a => Hid O as a ∨ a = p) H) xs ds) : EnR K J O (upA as i (some p)) H (ρ.set i (.own ds)) (σ.set i (some (.ref p))) := by
  have hS : Same (hp (fun a => Hid O as a ∨ a = p) H) (hp (Hid O (upA as i (some p))) H) := hp_less fun a h => by
    rcases h with h | h
    · exact .inl (.inl h)
    · rcases h.up with h | h
      · exact .inr (Option.some.inj h).symm
      · exact .inl (.inr h)
  refine ⟨by rw [List.length_set, List.length_set]; exact E.len, fun j sl o h1 h2 => ?_, fun j k a h1 h2 => ?_, fun j a h => ?_, fun j a h => ?_, E.occ, hJ, E.inq, E.tab⟩
  · rw [List.getElem?_set] at h1 h2
    by_cases e : i = j
    · subst e
      rw [if_pos rfl, if_pos hi] at h1
      rw [if_pos rfl, if_pos (by rw [← E.len]; exact hi)] at h2
      cases h1; cases h2
      rw [upA_at]
      exact .own hp1 (q.mono hS)
    · rw [if_neg e] at h1 h2
      rw [upA_ne (fun z => e z.symm)]
      exact (hf j sl o h1 h2 (fun z => e z.symm)).mono hS fun _ _ => rfl
  · by_cases e1 : j = i
    · rw [e1, upA_at] at h1
      by_cases e2 : k = i
      · rw [e1, e2]
      · rw [upA_ne e2] at h2
        have := Option.some.inj h1
        exact absurd (.inr (.inl ⟨k, by rw [this]; exact h2⟩)) hp0
    · rw [upA_ne e1] at h1
      by_cases e2 : k = i
      · rw [e2, upA_at] at h2
        have := Option.some.inj h2
        exact absurd (.inr (.inl ⟨j, by rw [this]; exact h1⟩)) hp0
      · rw [upA_ne e2] at h2
        exact E.inj j k a h1 h2
  · by_cases e1 : j = i
    · rw [e1, upA_at] at h
      rw [← Option.some.inj h]
      exact fun z => hp0 (.inl z)
    · rw [upA_ne e1] at h
      exact E.out j a h
  · rw [List.length_set]
    by_cases e1 : j = i
    · rw [e1]; exact hi
    · rw [upA_ne e1] at h
      exact E.bnd j a h
/-- an own list that stays from now on -/
theorem EnR.freeze (E : EnR K J O as H ρ σ) (hn : n ≤ i) (h : ρ[i]? = some (.own ds)) : EnR K J O (upA as i none) H (ρ.set i (.fz (.list ds))) σ := by
  obtain ⟨a, xs, e1, e2, e3, e4⟩ := E.own_at h
  have hS : Same (hp (Hid O as) H) (hp (Hid O (upA as i none)) H) := hp_less fun a h => by
    rcases h with h | h
    · exact .inl h
    · rcases h.up with h | h
      · cases h
      · exact .inr h
  have hn : ¬ Hid O (upA as i none) a := by
    rintro (z | ⟨j, z⟩ | z)
    · exact E.out i a e2 z
    rotate_left
    · exact E.tab.no e3 z
    · by_cases q : j = i
      · rw [q, upA_at] at z; cases z
      · rw [upA_ne q] at z
        exact q (E.inj j i a z e2)
  refine ⟨by rw [List.length_set]; exact E.len, fun j sl o h1 h2 => ?_, fun j k b h1 h2 => ?_, fun j b h => ?_, fun j b h => ?_, E.occ, J.cl _ _ _ _ E.inv ⟨FrA.refl _ _, fun a q => by
    rcases q.up with q | q
    · cases q
    · exact .inl q, fun j hj => upA_ne (by omega)⟩, E.inq, E.tab⟩
  · rw [List.getElem?_set] at h1
    by_cases e : i = j
    · subst e
      rw [e1] at h2
      cases h2
      rw [if_pos rfl] at h1
      split at h1
      · cases h1
        rw [upA_at]
        exact .fz (.lst (SqL.of (hp_mk hn e3)) (e4.mono hS))
      · cases h1
    · rw [if_neg e] at h1
      rw [upA_ne (fun z => e z.symm)]
      exact (E.at_ j sl o h1 h2).mono hS fun _ _ => rfl
  · by_cases q : j = i
    · rw [q, upA_at] at h1; cases h1
    · by_cases q2 : k = i
      · rw [q2, upA_at] at h2; cases h2
      · rw [upA_ne q] at h1; rw [upA_ne q2] at h2
        exact E.inj j k b h1 h2
  · by_cases q : j = i
    · rw [q, upA_at] at h; cases h
    · rw [upA_ne q] at h; exact E.out j b h
  · by_cases q : j = i
    · rw [q, upA_at] at h; cases h
    · rw [upA_ne q] at h; rw [List.length_set]; exact E.bnd j b h
theorem Ext.same (x : Ext n as as' H H') : Same (hp (Hid O as) H) (hp (Hid O as') H') := fun a o e => by
  obtain ⟨h, e⟩ := hp_some e
  refine hp_mk (fun q => ?_) (x.fr a o (fun z => h (.inr z)) e)
  rcases q with q | q
  · exact h (.inl q)
  · rcases x.new a q with z | z
    · exact h (.inr z)
    · rw [z] at e; cases e
end
end DL
/-! what expressions, tests, arguments, stores and statements come to -/
namespace DL
open PySem L2 Z
variable [Tbs]
abbrev FE := En → (PyData → En → Prop) → Prop
abbrev FT := En → (Bool → En → Prop) → Prop
abbrev FA := En → (List PyData → En → Prop) → Prop
abbrev FG := PyData → En → (En → Prop) → Prop
abbrev FGs := List PyData → En → (En → Prop) → Prop
inductive Ar where
  | dat (d : PyData)
  | own (i : Nat)
abbrev FC := En → (List Ar → En → Prop) → Prop
structure FEnds where
  nx : En → Prop
  rt : PyData → En → Prop
  bk : En → Prop := fun _ => False
  ct : En → Prop := fun _ => False
  ro : List PyData → En → Prop := fun _ _ => False
abbrev FS := FEnds → En → Prop
abbrev FN := List Sl → (PyData → List Sl → Prop) → Prop
def RE (K : PySem.W.Frag) {n : Nat} (J : Jv n) (t : TE) (f : FE) : Prop := ∀ (O : Addr → Prop) (as : Nat → Option Addr) (σ : L2.St) (H : Hp) (Q : VK) (ρ : En) (P : PyData → En → Prop), EnR K J O as H ρ σ → f ρ P →
  (∀ d ρ' v H', P d ρ' → FrA (Own as) H H' → EnR K J O as H' ρ' σ → Dq K (hp (Hid O as) H') v d → Q v H') → t σ H Q
/-- one place more -/
def plus (O : Addr → Prop) (p : Addr) : Addr → Prop := fun a => O a ∨ a = p
theorem hid_plus {O : Addr → Prop} {p : Addr} {as : Nat → Option Addr} {a : Addr} (h : Hid O as a) : Hid (plus O p) as a := by
  rcases h with h | h
  · exact .inl (.inl h)
  · exact .inr h
theorem EnR.addO {K : PySem.W.Frag} {n : Nat} {J : Jv n} {O : Addr → Prop} {as : Nat → Option Addr} {H : Hp} {ρ : En} {σ : L2.St} {p : Addr} {o : HO} (E : EnR K J O as H ρ σ) (h : H p = none) :
    EnR K J (plus O p) as (upd H p o) ρ σ ∧ Same (hp (Hid O as) H) (hp (Hid (plus O p) as) (upd H p o)) := by
  have np := E.fresh h
  have hS : Same (hp (Hid O as) H) (hp (Hid (plus O p) as) (upd H p o)) := fun a u e => by
    obtain ⟨n, e⟩ := hp_some e
    have ne : a ≠ p := ne_of_none e h
    refine hp_mk (fun q => ?_) (by rw [upd_ne ne]; exact e)
    rcases q with (q | q) | q
    · exact n (.inl q)
    · exact ne q
    · exact n (.inr q)
  refine ⟨⟨E.len, fun i sl o' h1 h2 => (E.at_ i sl o' h1 h2).mono hS fun b hb => ?_, E.inj, fun i a e q => ?_, E.bnd, fun a q => ?_, J.fr E.inv (FrA.of (Same.new h)), J.up _ _ (fun _ z => .inl z) E.inq, E.tab.ext (Same.new h)⟩, hS⟩
  · rw [upd_ne]
    rintro rfl
    exact np (.inr (.inl ⟨i, hb⟩))
  · rcases q with q | rfl
    · exact E.out i a e q
    · exact np (.inr (.inl ⟨i, e⟩))
  · by_cases z : a = p
    · rw [z, upd_same]; exact Option.some_ne_none _
    · rw [upd_ne z]
      rcases q with q | q
      · exact E.occ a q
      · exact absurd q z
theorem EnR.lessO {K : PySem.W.Frag} {n : Nat} {J : Jv n} {O : Addr → Prop} {as : Nat → Option Addr} {H : Hp} {ρ : En} {σ : L2.St} {p : Addr} (E : EnR K J (plus O p) as H ρ σ) (hq : J.Q O) : EnR K J O as H ρ σ :=
  ⟨E.len, fun i sl o h1 h2 => (E.at_ i sl o h1 h2).mono (hp_less fun _ => hid_plus) fun _ _ => rfl, E.inj, fun i a e q => E.out i a e (.inl q), E.bnd, fun a q => E.occ a (.inl q), E.inv, hq, E.tab⟩
theorem EnR.putO {K : PySem.W.Frag} {n : Nat} {J : Jv n} {O : Addr → Prop} {as : Nat → Option Addr} {H : Hp} {ρ : En} {σ : L2.St} {p : Addr} {xs ys : List V} (E : EnR K J O as H ρ σ) (h : O p) (hl : H p = some (.lst xs)) (hJ : J.P as (upd H p (.lst ys))) :
    EnR K J O as (upd H p (.lst ys)) ρ σ ∧ Same (hp (Hid O as) H) (hp (Hid O as) (upd H p (.lst ys))) := by
  have hS : Same (hp (Hid O as) H) (hp (Hid O as) (upd H p (.lst ys))) := fun a u e => by
    obtain ⟨n, e⟩ := hp_some e
    exact hp_mk n (by rw [upd_ne (fun z : a = p => n (by rw [z]; exact .inl h))]; exact e)
  refine ⟨⟨E.len, fun i sl o' h1 h2 => (E.at_ i sl o' h1 h2).mono hS fun b hb => ?_, E.inj, E.out, E.bnd, fun a q => ?_, hJ, E.inq, E.tab.put hl⟩, hS⟩
  · rw [upd_ne]
    rintro rfl
    exact E.out i b hb h
  · by_cases z : a = p
    · rw [z, upd_same]; exact Option.some_ne_none _
    · rw [upd_ne z]; exact E.occ a q
/-- an expression that makes a new list -/
def RN (K : PySem.W.Frag) {n : Nat} (J : Jv n) (t : TE) (f : FA) : Prop := ∀ (O : Addr → Prop) (as : Nat → Option Addr) (σ : L2.St) (H : Hp) (Q : VK) (ρ : En) (P : List PyData → En → Prop), EnR K J O as H ρ σ → f ρ P →
  (∀ ds ρ' p xs H', P ds ρ' → FrA (Own as) H H' → H p = none → EnR K J (plus O p) as H' ρ' σ → H' p = some (.lst xs) → DqAll K (hp (Hid (plus O p) as) H') xs ds → Q (.ref p) H') → t σ H Q
def RT (K : PySem.W.Frag) {n : Nat} (J : Jv n) (t : TT) (f : FT) : Prop := ∀ (O : Addr → Prop) (as : Nat → Option Addr) (σ : L2.St) (H : Hp) (Q : Bool → Hp → Prop) (ρ : En) (P : Bool → En → Prop), EnR K J O as H ρ σ → f ρ P →
  (∀ b ρ' H', P b ρ' → FrA (Own as) H H' → EnR K J O as H' ρ' σ → Q b H') → t σ H Q
def RA (K : PySem.W.Frag) {n : Nat} (J : Jv n) (t : TA) (f : FA) : Prop := ∀ (O : Addr → Prop) (as : Nat → Option Addr) (σ : L2.St) (H : Hp) (Q : List V → Hp → Prop) (ρ : En) (P : List PyData → En → Prop), EnR K J O as H ρ σ → f ρ P →
  (∀ ds ρ' vs H', P ds ρ' → FrA (Own as) H H' → EnR K J O as H' ρ' σ → DqAll K (hp (Hid O as) H') vs ds → Q vs H') → t σ H Q
inductive ArR (K : PySem.W.Frag) (G : Hp) (as : Nat → Option Addr) : V → Ar → Prop
  | dat {v : V} {d : PyData} : Dq K G v d → ArR K G as v (.dat d)
  | own {a : Addr} {i : Nat} : as i = some a → ArR K G as (.ref a) (.own i)
inductive ArsR (K : PySem.W.Frag) (G : Hp) (as : Nat → Option Addr) : List V → List Ar → Prop
  | nil : ArsR K G as [] []
  | cons {v : V} {vs : List V} {x : Ar} {xs : List Ar} : ArR K G as v x → ArsR K G as vs xs → ArsR K G as (v :: vs) (x :: xs)
def RC (K : PySem.W.Frag) {n : Nat} (J : Jv n) (t : TA) (f : FC) : Prop := ∀ (O : Addr → Prop) (as : Nat → Option Addr) (σ : L2.St) (H : Hp) (Q : List V → Hp → Prop) (ρ : En) (P : List Ar → En → Prop), EnR K J O as H ρ σ → f ρ P →
  (∀ xs ρ' vs H', P xs ρ' → FrA (Own as) H H' → EnR K J O as H' ρ' σ → ArsR K (hp (Hid O as) H') as vs xs → Q vs H') → t σ H Q
/-- but for these slots all is as it was -/
def Touch (vs : List Nat) (σ σ' : L2.St) : Prop := σ'.length = σ.length ∧ ∀ j, j ∉ vs → σ'[j]? = σ[j]?
def RG (K : PySem.W.Frag) {n : Nat} (J : Jv n) (vs : List Nat) (g : TG) (f : FG) : Prop := ∀ (O : Addr → Prop) (as : Nat → Option Addr) (σ : L2.St) (H : Hp) (R : L2.St → Hp → Prop) (ρ : En) (P : En → Prop) (v : V) (d : PyData), EnR K J O as H ρ σ → Dq K (hp (Hid O as) H) v d → f d ρ P →
  (∀ ρ' σ' H', P ρ' → FrA (Own as) H H' → EnR K J O as H' ρ' σ' → Touch vs σ σ' → R σ' H') → g v σ H R
def RGs (K : PySem.W.Frag) {n : Nat} (J : Jv n) (vs : List Nat) (g : TGs) (f : FGs) : Prop := ∀ (O : Addr → Prop) (as : Nat → Option Addr) (σ : L2.St) (H : Hp) (R : L2.St → Hp → Prop) (ρ : En) (P : En → Prop) (ys : List V) (ds : List PyData), EnR K J O as H ρ σ → DqAll K (hp (Hid O as) H) ys ds → f ds ρ P →
  (∀ ρ' σ' H', P ρ' → FrA (Own as) H H' → EnR K J O as H' ρ' σ' → Touch vs σ σ' → R σ' H') → g ys σ H R
/-- what the ends ask, carried over -/
structure Car (K : PySem.W.Frag) {n : Nat} (J : Jv n) (O : Addr → Prop) (as : Nat → Option Addr) (H : Hp) (E : FEnds) (D : Ends) : Prop where
  nx : ∀ ρ' as' σ' H', E.nx ρ' → Ext n as as' H H' → EnR K J O as' H' ρ' σ' → D.nx σ' H'
  rt : ∀ d ρ' v as' σ' H', E.rt d ρ' → Ext n as as' H H' → EnR K J O as' H' ρ' σ' → Dq K (hp (Hid O as') H') v d → D.rt v H'
  bk : ∀ ρ' as' σ' H', E.bk ρ' → Ext n as as' H H' → EnR K J O as' H' ρ' σ' → D.bk σ' H'
  ct : ∀ ρ' as' σ' H', E.ct ρ' → Ext n as as' H H' → EnR K J O as' H' ρ' σ' → D.ct σ' H'
  ro : ∀ ds ρ' p xs as' σ' H', E.ro ds ρ' → Ext n as as' H H' → H p = none ∨ Own as p → EnR K J (plus O p) as' H' ρ' σ' → H' p = some (.lst xs) → DqAll K (hp (Hid (plus O p) as') H') xs ds → D.rt (.ref p) H'
theorem Ext.old {n : Nat} {as as' : Nat → Option Addr} {H H' : Hp} {p : Addr} (x : Ext n as as' H H') (h : H' p = none ∨ Own as' p) : H p = none ∨ Own as p := by
  by_cases w : Own as p
  · exact .inr w
  · rcases h with h | h
    · cases e : H p with
      | none => exact .inl rfl
      | some o => rw [x.fr p o w e] at h; cases h
    · rcases x.new p h with z | z
      · exact absurd z w
      · exact .inl z
theorem Car.ext {K : PySem.W.Frag} {n : Nat} {J : Jv n} {O : Addr → Prop} {as as' : Nat → Option Addr} {H H' : Hp} {E : FEnds} {D : Ends} (C : Car K J O as H E D) (x : Ext n as as' H H') : Car K J O as' H' E D :=
  ⟨fun ρ' as2 σ' H2 p y => C.nx ρ' as2 σ' H2 p (x.trans y), fun d ρ' v as2 σ' H2 p y => C.rt d ρ' v as2 σ' H2 p (x.trans y), fun ρ' as2 σ' H2 p y => C.bk ρ' as2 σ' H2 p (x.trans y), fun ρ' as2 σ' H2 p y => C.ct ρ' as2 σ' H2 p (x.trans y), fun ds ρ' p xs as2 σ' H2 q y o => C.ro ds ρ' p xs as2 σ' H2 q (x.trans y) (x.old o)⟩
def RS (K : PySem.W.Frag) {n : Nat} (J : Jv n) (t : TS) (f : FS) : Prop := ∀ (O : Addr → Prop) (as : Nat → Option Addr) (σ : L2.St) (H : Hp) (D : Ends) (ρ : En) (E : FEnds), EnR K J O as H ρ σ → f E ρ → Car K J O as H E D → t D σ H

section
variable {K : PySem.W.Frag} {n : Nat} {J : Jv n}
theorem own_hid {O : Addr → Prop} {as : Nat → Option Addr} : ∀ a, Own as a → Hid O as a := fun _ h => .inr h
theorem Dq.fr {O : Addr → Prop} {as : Nat → Option Addr} {H H' : Hp} {v : V} {d : PyData} (q : Dq K (hp (Hid O as) H) v d) (f : FrA (Own as) H H') : Dq K (hp (Hid O as) H') v d := q.mono (hp_fr f own_hid)
theorem DqAll.fr {O : Addr → Prop} {as : Nat → Option Addr} {H H' : Hp} {v : List V} {d : List PyData} (q : DqAll K (hp (Hid O as) H) v d) (f : FrA (Own as) H H') : DqAll K (hp (Hid O as) H') v d := q.mono (hp_fr f own_hid)
/-! constants, names -/
def fC (d : PyData) : FE := fun ρ P => P d ρ
theorem re_c {v : V} {d : PyData} (h : ∀ H, Dq K H v d) : RE K J (tC v) (fC d) := fun O as σ H Q ρ P E f k => k d ρ v H f (FrA.refl _ _) E (h _)
def fV (i : Nat) : FE := fun ρ P => match ρ[i]? with
  | some (.fz d) => P d ρ
  | _ => False
theorem re_v {i : Nat} : RE K J (tVar i) (fV i) := by
  intro O as σ H Q ρ P E f k
  unfold fV at f
  split at f
  · next d h =>
    obtain ⟨v, e, _, q⟩ := E.fz_at h
    exact ⟨v, e, k d ρ v H f (FrA.refl _ _) E q⟩
  · exact f.elim
/-! arguments -/
def fNil : FA := fun ρ P => P [] ρ
def fCons (a : FE) (b : FA) : FA := fun ρ P => a ρ fun d ρ1 => b ρ1 fun ds ρ2 => P (d :: ds) ρ2
theorem ra_nil : RA K J tNil fNil := fun O as σ H Q ρ P E f k => k [] ρ [] H f (FrA.refl _ _) E .nil
theorem ra_cons {ta : TE} {t : TA} {fa : FE} {f : FA} (ha : RE K J ta fa) (h : RA K J t f) : RA K J (tCons ta t) (fCons fa f) := by
  intro O as σ H Q ρ P E q k
  refine ha O as σ H _ ρ _ E q fun d ρ1 v H1 q1 f1 E1 d1 => ?_
  refine h O as σ H1 _ ρ1 _ E1 q1 fun ds ρ2 vs H2 q2 f2 E2 d2 => ?_
  exact k _ _ _ _ q2 (f1.trans f2) E2 (.cons (d1.fr f2) d2)
/-! operators -/
def RR (K : PySem.W.Frag) (r : R2) (g : PyData → PyData → (PyData → Prop) → Prop) : Prop := ∀ (A : Addr → Prop) (H : Hp) (Q : VK) (x y : V) (a b : PyData) (P : PyData → Prop), (∀ c, A c → H c ≠ none) →
  Dq K (hp A H) x a → Dq K (hp A H) y b → g a b P → (∀ d v H', P d → Same H H' → Dq K (hp A H') v d → Q v H') → r x y H Q
def fOp (g : PyData → PyData → (PyData → Prop) → Prop) (a b : FE) : FE := fun ρ P => a ρ fun x ρ1 => b ρ1 fun y ρ2 => g x y fun d => P d ρ2
theorem re_op {r : R2} {g : PyData → PyData → (PyData → Prop) → Prop} {ta tb : TE} {fa fb : FE} (hr : RR K r g) (ha : RE K J ta fa) (hb : RE K J tb fb) : RE K J (tOp r ta tb) (fOp g fa fb) := by
  intro O as σ H Q ρ P E q k
  refine ha O as σ H _ ρ _ E q fun a ρ1 x H1 q1 f1 E1 d1 => ?_
  refine hb O as σ H1 _ ρ1 _ E1 q1 fun b ρ2 y H2 q2 f2 E2 d2 => ?_
  refine hr (Hid O as) H2 _ x y a b _ (fun c h => E2.full h) (d1.fr f2) d2 q2 fun d v H3 p s3 d3 => ?_
  exact k d ρ2 v H3 p ((f1.trans f2).trans (FrA.of s3)) (E2.grow s3) d3
def RU (K : PySem.W.Frag) (r : V → Hp → VK → Prop) (g : PyData → (PyData → Prop) → Prop) : Prop := ∀ (A : Addr → Prop) (H : Hp) (Q : VK) (x : V) (a : PyData) (P : PyData → Prop), (∀ c, A c → H c ≠ none) →
  Dq K (hp A H) x a → g a P → (∀ d v H', P d → Same H H' → Dq K (hp A H') v d → Q v H') → r x H Q
def fUn (g : PyData → (PyData → Prop) → Prop) (a : FE) : FE := fun ρ P => a ρ fun x ρ1 => g x fun d => P d ρ1
theorem re_un {r : V → Hp → VK → Prop} {g : PyData → (PyData → Prop) → Prop} {ta : TE} {fa : FE} (hr : RU K r g) (ha : RE K J ta fa) : RE K J (tUn r ta) (fUn g fa) := by
  intro O as σ H Q ρ P E q k
  refine ha O as σ H _ ρ _ E q fun a ρ1 x H1 q1 f1 E1 d1 => ?_
  refine hr (Hid O as) H1 _ x a _ (fun c h => E1.full h) d1 q1 fun d v H3 p s3 d3 => ?_
  exact k d ρ1 v H3 p (f1.trans (FrA.of s3)) (E1.grow s3) d3
/-! built-in calls -/
def RB (K : PySem.W.Frag) (r : List V → Hp → VK → Prop) (g : List PyData → (PyData → Prop) → Prop) : Prop := ∀ (A : Addr → Prop) (H : Hp) (Q : VK) (xs : List V) (ds : List PyData) (P : PyData → Prop), (∀ c, A c → H c ≠ none) →
  DqAll K (hp A H) xs ds → g ds P → (∀ d v H', P d → Same H H' → Dq K (hp A H') v d → Q v H') → r xs H Q
def fCB (g : List PyData → (PyData → Prop) → Prop) (a : FA) : FE := fun ρ P => a ρ fun ds ρ1 => g ds fun d => P d ρ1
theorem re_cb {r : List V → Hp → VK → Prop} {g : List PyData → (PyData → Prop) → Prop} {t : TA} {f : FA} (hr : RB K r g) (ha : RA K J t f) : RE K J (tCB r t) (fCB g f) := by
  intro O as σ H Q ρ P E q k
  refine ha O as σ H _ ρ _ E q fun ds ρ1 vs H1 q1 f1 E1 d1 => ?_
  refine hr (Hid O as) H1 _ vs ds _ (fun c h => E1.full h) d1 q1 fun d v H3 p s3 d3 => ?_
  exact k d ρ1 v H3 p (f1.trans (FrA.of s3)) (E1.grow s3) d3
/-- methods of texts -/
def RM (K : PySem.W.Frag) (r : V → List V → Hp → VK → Prop) (g : Str → List PyData → (PyData → Prop) → Prop) : Prop := ∀ (A : Addr → Prop) (H : Hp) (Q : VK) (z : Str) (xs : List V) (ds : List PyData) (P : PyData → Prop), (∀ c, A c → H c ≠ none) →
  DqAll K (hp A H) xs ds → g z ds P → (∀ d v H', P d → Same H H' → Dq K (hp A H') v d → Q v H') → r (.str z) xs H Q
def strF (a : PyData) (k : Str → Prop) : Prop := match a with
  | .str z => k z
  | _ => False
def fBM (g : Str → List PyData → (PyData → Prop) → Prop) (a : FE) (b : FA) : FE := fun ρ P => a ρ fun x ρ1 => strF x fun z => b ρ1 fun ds ρ2 => g z ds fun d => P d ρ2
theorem re_bm {r : V → List V → Hp → VK → Prop} {g : Str → List PyData → (PyData → Prop) → Prop} {to : TE} {t : TA} {fo : FE} {f : FA} (hr : RM K r g) (ho : RE K J to fo) (ha : RA K J t f) : RE K J (tBM K "str" r to t) (fBM g fo f) := by
  intro O as σ H Q ρ P E q k
  refine ho O as σ H _ ρ _ E q fun a ρ1 x H1 q1 f1 E1 d1 => ?_
  unfold strF at q1
  split at q1
  · next z =>
    cases d1
    refine ⟨rfl, ?_⟩
    refine ha O as σ H1 _ ρ1 _ E1 q1 fun ds ρ2 vs H2 q2 f2 E2 d2 => ?_
    refine hr (Hid O as) H2 _ z vs ds _ (fun c h => E2.full h) d2 q2 fun d v H3 p s3 d3 => ?_
    exact k d ρ2 v H3 p ((f1.trans f2).trans (FrA.of s3)) (E2.grow s3) d3
  · exact q1.elim
/-! displays -/
def fTup (f : FA) : FE := fun ρ P => f ρ fun ds ρ1 => ds.length ≤ sizeLine ∧ P (.tuple ds) ρ1
theorem re_tup {t : TA} {f : FA} (h : RA K J t f) : RE K J (tTup t) (fTup f) := by
  intro O as σ H Q ρ P E q k
  refine h O as σ H _ ρ _ E q fun ds ρ1 vs H1 q1 f1 E1 d1 => ⟨by rw [d1.length]; exact q1.1, fun p hp1 => ?_⟩
  have s := Same.new (o := .tup vs) hp1
  refine k _ _ _ _ q1.2 (f1.trans (FrA.of s)) (E1.grow s) (.tup (SqT.of (hp_mk (E1.fresh hp1) upd_same)) (d1.mono (hp_grow s)))
def fLst (f : FA) : FA := fun ρ P => f ρ fun ds ρ1 => ds.length ≤ sizeLine ∧ P ds ρ1
theorem rn_lst {t : TA} {f : FA} (h : RA K J t f) : RN K J (tLst t) (fLst f) := by
  intro O as σ H Q ρ P E q k
  refine h O as σ H _ ρ _ E q fun ds ρ1 vs H1 q1 f1 E1 d1 => ⟨by rw [d1.length]; exact q1.1, fun p hp1 => ?_⟩
  obtain ⟨E2, s2⟩ := E1.addO (o := .lst vs) hp1
  refine k _ _ _ _ _ q1.2 (f1.trans (FrA.of (Same.new hp1))) ?_ E2 upd_same (d1.mono s2)
  cases e : H p with
  | none => rfl
  | some o =>
    by_cases w : Own as p
    · exact absurd (.inr w) (E1.fresh hp1)
    · rw [f1 _ _ w e] at hp1; cases hp1
def fNew (f : FA) : FE := fun ρ P => f ρ fun ds ρ1 => P (.list ds) ρ1
theorem RN.re {t : TE} {f : FA} (h : RN K J t f) : RE K J t (fNew f) := by
  intro O as σ H Q ρ P E q k
  refine h O as σ H _ ρ _ E q fun ds ρ1 p xs H2 q1 f1 hp1 E1 hp2 d1 => ?_
  exact k _ _ _ _ q1 f1 (E1.lessO E.inq) (.lst (SqL.of (hp_mk (E.fresh hp1) hp2)) (d1.mono (hp_less fun _ => hid_plus)))
/-! tests -/
def boolF (a : PyData) (k : Bool → Prop) : Prop := match a with
  | .bool b => k b
  | _ => False
def fB (f : FE) : FT := fun ρ P => f ρ fun d ρ1 => boolF d fun b => P b ρ1
theorem rt_b {t : TE} {f : FE} (h : RE K J t f) : RT K J (tB t) (fB f) := by
  intro O as σ H Q ρ P E q k
  refine h O as σ H _ ρ _ E q fun d ρ1 v H1 q1 f1 E1 d1 => ?_
  unfold boolF at q1
  split at q1
  · cases d1; exact ⟨_, rfl, k _ _ _ q1 f1 E1⟩
  · exact q1.elim
theorem rt_test {t : TE} {f : FE} (h : RE K J t f) : RT K J (tTest t) (fB f) := rt_b h
def fAnd (a b : FT) : FT := fun ρ P => a ρ fun c ρ1 => if c = true then b ρ1 P else P false ρ1
def fOr (a b : FT) : FT := fun ρ P => a ρ fun c ρ1 => if c = true then P true ρ1 else b ρ1 P
def fNot (a : FT) : FT := fun ρ P => a ρ fun c ρ1 => P (!c) ρ1
theorem rt_and {t u : TT} {a b : FT} (ha : RT K J t a) (hb : RT K J u b) : RT K J (tAnd t u) (fAnd a b) := by
  intro O as σ H Q ρ P E q k
  refine ha O as σ H _ ρ _ E q fun c ρ1 H1 q1 f1 E1 => ?_
  cases c
  · exact k _ _ _ q1 f1 E1
  · exact hb O as σ H1 _ ρ1 _ E1 q1 fun b ρ2 H2 q2 f2 E2 => k _ _ _ q2 (f1.trans f2) E2
theorem rt_or {t u : TT} {a b : FT} (ha : RT K J t a) (hb : RT K J u b) : RT K J (tOr t u) (fOr a b) := by
  intro O as σ H Q ρ P E q k
  refine ha O as σ H _ ρ _ E q fun c ρ1 H1 q1 f1 E1 => ?_
  cases c
  · exact hb O as σ H1 _ ρ1 _ E1 q1 fun b ρ2 H2 q2 f2 E2 => k _ _ _ q2 (f1.trans f2) E2
  · exact k _ _ _ q1 f1 E1
theorem rt_not {t : TT} {a : FT} (ha : RT K J t a) : RT K J (tNot t) (fNot a) := by
  intro O as σ H Q ρ P E q k
  exact ha O as σ H _ ρ _ E q fun c ρ1 H1 q1 f1 E1 => k _ _ _ q1 f1 E1
def fAndV (a b : FE) : FE := fun ρ P => a ρ fun d ρ1 => boolF d fun c => if c = true then b ρ1 P else P (.bool false) ρ1
def fOrV (a b : FE) : FE := fun ρ P => a ρ fun d ρ1 => boolF d fun c => if c = true then P (.bool true) ρ1 else b ρ1 P
def fNotV (a : FE) : FE := fun ρ P => a ρ fun d ρ1 => boolF d fun c => P (.bool (!c)) ρ1
theorem re_and {t u : TE} {a b : FE} (ha : RE K J t a) (hb : RE K J u b) : RE K J (tAndV t u) (fAndV a b) := by
  intro O as σ H Q ρ P E q k
  refine ha O as σ H _ ρ _ E q fun d ρ1 v H1 q1 f1 E1 d1 => ?_
  unfold boolF at q1
  split at q1
  · next c =>
    cases d1
    refine ⟨_, rfl, ?_⟩
    cases c
    · exact k _ _ _ _ q1 f1 E1 (.bl _)
    · exact hb O as σ H1 _ ρ1 _ E1 q1 fun b ρ2 v H2 q2 f2 E2 => k _ _ _ _ q2 (f1.trans f2) E2
  · exact q1.elim
theorem re_or {t u : TE} {a b : FE} (ha : RE K J t a) (hb : RE K J u b) : RE K J (tOrV t u) (fOrV a b) := by
  intro O as σ H Q ρ P E q k
  refine ha O as σ H _ ρ _ E q fun d ρ1 v H1 q1 f1 E1 d1 => ?_
  unfold boolF at q1
  split at q1
  · next c =>
    cases d1
    refine ⟨_, rfl, ?_⟩
    cases c
    · exact hb O as σ H1 _ ρ1 _ E1 q1 fun b ρ2 v H2 q2 f2 E2 => k _ _ _ _ q2 (f1.trans f2) E2
    · exact k _ _ _ _ q1 f1 E1 (.bl _)
  · exact q1.elim
theorem re_not {t : TE} {a : FE} (ha : RE K J t a) : RE K J (tNotV t) (fNotV a) := by
  intro O as σ H Q ρ P E q k
  refine ha O as σ H _ ρ _ E q fun d ρ1 v H1 q1 f1 E1 d1 => ?_
  unfold boolF at q1
  split at q1
  · cases d1
    exact ⟨_, rfl, k _ _ _ _ q1 f1 E1 (.bl _)⟩
  · exact q1.elim
def fIf (c : FT) (a b : FE) : FE := fun ρ P => c ρ fun k ρ1 => if k = true then a ρ1 P else b ρ1 P
theorem re_if {t : TT} {ta tb : TE} {c : FT} {a b : FE} (hc : RT K J t c) (ha : RE K J ta a) (hb : RE K J tb b) : RE K J (tIf t ta tb) (fIf c a b) := by
  intro O as σ H Q ρ P E q k
  refine hc O as σ H _ ρ _ E q fun c ρ1 H1 q1 f1 E1 => ?_
  cases c
  · exact hb O as σ H1 _ ρ1 _ E1 q1 fun b ρ2 v H2 q2 f2 E2 => k _ _ _ _ q2 (f1.trans f2) E2
  · exact ha O as σ H1 _ ρ1 _ E1 q1 fun b ρ2 v H2 q2 f2 E2 => k _ _ _ _ q2 (f1.trans f2) E2
def fChain (g g' : PyData → PyData → (PyData → Prop) → Prop) (a b c : FE) : FE := fun ρ P => a ρ fun x ρ1 => b ρ1 fun y ρ2 => g x y fun z => boolF z fun k => if k = true then c ρ2 fun w ρ3 => g' y w fun d => P d ρ3 else P (.bool false) ρ2
theorem re_chain {r r' : R2} {g g' : PyData → PyData → (PyData → Prop) → Prop} {ta tb tc : TE} {fa fb fc : FE} (hr : RR K r g) (hr' : RR K r' g') (ha : RE K J ta fa) (hb : RE K J tb fb) (hc : RE K J tc fc) : RE K J (tChain r r' ta tb tc) (fChain g g' fa fb fc) := by
  intro O as σ H Q ρ P E q k
  refine ha O as σ H _ ρ _ E q fun a ρ1 x H1 q1 f1 E1 d1 => ?_
  refine hb O as σ H1 _ ρ1 _ E1 q1 fun b ρ2 y H2 q2 f2 E2 d2 => ?_
  refine hr (Hid O as) H2 _ x y a b _ (fun c h => E2.full h) (d1.fr f2) d2 q2 fun d v H3 p s3 d3 => ?_
  unfold boolF at p
  split at p
  · next c =>
    cases d3
    refine ⟨_, rfl, ?_⟩
    have E3 := E2.grow s3
    have f3 := (f1.trans f2).trans (FrA.of s3)
    cases c
    · exact k _ _ _ _ p f3 E3 (.bl _)
    · refine hc O as σ H3 _ ρ2 _ E3 p fun e ρ4 w H4 q4 f4 E4 d4 => ?_
      refine hr' (Hid O as) H4 _ y w b e _ (fun c h => E4.full h) ((d2.mono (hp_grow s3)).fr f4) d4 q4 fun d v H5 p s5 d5 => ?_
      exact k _ _ _ _ p ((f3.trans f4).trans (FrA.of s5)) (E4.grow s5) d5
  · exact p.elim
/-! stores -/
def gN (i : Nat) : FG := fun d ρ P => slotF ρ i = true ∧ P (ρ.set i (.fz d))
theorem rg_name {i : Nat} : RG K J [i] (gName i) (gN i) := fun O as σ H R ρ P v d E q f k => k _ _ H f.2 (FrA.refl _ _) (E.setFz f.1 q) ⟨List.length_set, fun j hj => by
  rw [List.getElem?_set, if_neg (fun z => hj (by simp [z]))]⟩
def gsNil : FGs := fun ds ρ P => ds = [] ∧ P ρ
def gsCons (a : FG) (b : FGs) : FGs := fun ds ρ P => match ds with
  | d :: r => a d ρ fun ρ1 => b r ρ1 P
  | [] => False
theorem rgs_nil : RGs K J [] gNil gsNil := by
  intro O as σ H R ρ P vs ds E q f k
  obtain ⟨rfl, f⟩ := f
  cases q
  exact ⟨rfl, k _ _ H f (FrA.refl _ _) E ⟨rfl, fun _ _ => rfl⟩⟩
theorem rgs_cons {us ws : List Nat} {g : TG} {gs : TGs} {a : FG} {b : FGs} (ha : RG K J us g a) (hb : RGs K J ws gs b) : RGs K J (us ++ ws) (gCons g gs) (gsCons a b) := by
  intro O as σ H R ρ P vs ds E q f k
  cases q with
  | nil => exact f.elim
  | cons q1 q2 =>
    refine ⟨_, _, rfl, ?_⟩
    refine ha O as σ H _ ρ _ _ _ E q1 f fun ρ1 σ1 H1 p1 f1 E1 z1 => ?_
    exact hb O as σ1 H1 _ ρ1 _ _ _ E1 (q2.fr f1) p1 fun ρ2 σ2 H2 p2 f2 E2 z2 => k _ _ _ p2 (f1.trans f2) E2 ⟨z2.1.trans z1.1, fun j hj => by
      rw [List.mem_append, not_or] at hj
      rw [z2.2 j hj.2, z1.2 j hj.1]⟩
def gT (m : Nat) (b : FGs) : FG := fun d ρ P => match d with
  | .tuple ds => ds.length = m ∧ b ds ρ P
  | _ => False
theorem rg_tup {ws : List Nat} {m : Nat} {gs : TGs} {b : FGs} (h : RGs K J ws gs b) : RG K J ws (gTup K m gs) (gT m b) := by
  intro O as σ H R ρ P v d E q f k
  unfold gT at f
  split at f
  · obtain ⟨a, xs, rfl, s, r⟩ := q.tuple_of
    exact ⟨_, _, rfl, SqT.mono hp_same s, by rw [r.length]; exact f.1, h O as σ H _ ρ _ _ _ E r f.2 k⟩
  · exact f.elim
/-! statements -/
def fSeq (a b : FS) : FS := fun E ρ => a { E with nx := b E } ρ
theorem rs_seq {t u : TS} {a b : FS} (ha : RS K J t a) (hb : RS K J u b) : RS K J (tSeq t u) (fSeq a b) := by
  intro O as σ H D ρ E R f C
  refine ha O as σ H _ ρ _ R f ⟨fun ρ' as' σ' H' p x R' => ?_, C.rt, C.bk, C.ct, C.ro⟩
  exact hb O as' σ' H' D ρ' E R' p (C.ext x)
def fNext : FS := fun E ρ => E.nx ρ
theorem rs_next : RS K J tNext fNext := fun O as σ H D ρ E R f C => C.nx ρ as σ H f .refl R
def fAsg (a : FE) (g : FG) : FS := fun E ρ => a ρ fun d ρ1 => g d ρ1 E.nx
theorem rs_asg {ws : List Nat} {te : TE} {g : TG} {a : FE} {b : FG} (ha : RE K J te a) (hg : RG K J ws g b) : RS K J (tAsg te g) (fAsg a b) := by
  intro O as σ H D ρ E R f C
  refine ha O as σ H _ ρ _ R f fun d ρ1 v H1 q1 f1 E1 d1 => ?_
  refine hg O as σ H1 _ ρ1 _ v d E1 d1 q1 fun ρ2 σ2 H2 p2 f2 E2 _ => ?_
  exact C.nx _ _ _ _ p2 (.of (f1.trans f2)) E2
def fRet (a : FE) : FS := fun E ρ => a ρ E.rt
theorem rs_ret {te : TE} {a : FE} (ha : RE K J te a) : RS K J (tRet te) (fRet a) := by
  intro O as σ H D ρ E R f C
  exact ha O as σ H _ ρ _ R f fun d ρ1 v H1 q1 f1 E1 d1 => C.rt _ _ _ _ _ _ q1 (.of f1) E1 d1
def fRetN : FS := fun E ρ => E.rt .none ρ
theorem rs_retN : RS K J tRetN fRetN := fun O as σ H D ρ E R f C => C.rt _ _ _ _ _ _ f .refl R .non
def fDrop (a : FE) : FS := fun E ρ => a ρ fun _ ρ1 => E.nx ρ1
theorem rs_drop {te : TE} {a : FE} (ha : RE K J te a) : RS K J (tDrop te) (fDrop a) := by
  intro O as σ H D ρ E R f C
  exact ha O as σ H _ ρ _ R f fun d ρ1 v H1 q1 f1 E1 d1 => C.nx _ _ _ _ q1 (.of f1) E1
def fIfS (c : FT) (a b : FS) : FS := fun E ρ => c ρ fun k ρ1 => if k = true then a E ρ1 else b E ρ1
theorem rs_if {c : TT} {t u : TS} {fc : FT} {a b : FS} (hc : RT K J c fc) (ha : RS K J t a) (hb : RS K J u b) : RS K J (tIfS c t u) (fIfS fc a b) := by
  intro O as σ H D ρ E R f C
  refine hc O as σ H _ ρ _ R f fun k ρ1 H1 q1 f1 E1 => ?_
  cases k
  · exact hb O as σ H1 D ρ1 E E1 q1 (C.ext (.of f1))
  · exact ha O as σ H1 D ρ1 E E1 q1 (C.ext (.of f1))
def fNever : FS := fun _ _ => False
theorem rs_never : RS K J tNever fNever := fun O as σ H D ρ E R f C => f.elim
def fBreak : FS := fun E ρ => E.bk ρ
theorem rs_break : RS K J tBreak fBreak := fun O as σ H D ρ E R f C => C.bk ρ as σ H f .refl R
def fCont : FS := fun E ρ => E.ct ρ
theorem rs_cont : RS K J tCont fCont := fun O as σ H D ρ E R f C => C.ct ρ as σ H f .refl R
def fPar (i j : Nat) (a : FA) : FS := fun E ρ => a ρ fun ds ρ1 => match ds with
  | [x, y] => gN i x ρ1 fun ρ2 => gN j y ρ2 E.nx
  | _ => False
theorem rs_par {i j : Nat} {t : TA} {a : FA} (ha : RA K J t a) : RS K J (tPar i j t) (fPar i j a) := by
  intro O as σ H D ρ E R f C
  refine ha O as σ H _ ρ _ R f fun ds ρ1 vs H1 q1 f1 E1 d1 => ?_
  split at q1
  · cases d1 with
    | cons d1 r => cases r with
      | cons d2 r =>
        cases r
        refine ⟨_, _, rfl, ?_⟩
        exact C.nx _ _ _ _ q1.2.2 (.of f1) ((E1.setFz q1.1 d1).setFz q1.2.1 d2)
  · exact q1.elim
/-- an own list that is so from now on -/
def fFreeze (i : Nat) (a : FS) : FS := fun E ρ => match ρ[i]? with
  | some (.own ds) => a E (ρ.set i (.fz (.list ds)))
  | _ => a E ρ
theorem rs_freeze {i : Nat} {t : TS} {a : FS} (hi : n ≤ i) (ha : RS K J t a) : RS K J t (fFreeze i a) := by
  intro O as σ H D ρ E R f C
  unfold fFreeze at f
  split at f
  · next ds h =>
    refine ha O _ σ H D _ E (R.freeze hi h) f (C.ext ⟨FrA.refl _ _, fun a q => ?_, fun j hj => upA_ne (by omega)⟩)
    rcases q.up with q | q
    · cases q
    · exact .inl q
  · exact ha O as σ H D ρ E R f C
/-- a new list into a slot, its own -/
def fOwn (i : Nat) (a : FA) : FS := fun E ρ => a ρ fun ds ρ1 => i < ρ1.length ∧ E.nx (ρ1.set i (.own ds))
theorem rs_own {i : Nat} {te : TE} {a : FA} (hi : n ≤ i) (ha : RN K J te a) : RS K J (tAsg te (gName i)) (fOwn i a) := by
  intro O as σ H D ρ E R f C
  refine ha O as σ H _ ρ _ R f fun ds ρ1 p xs H2 q1 f1 hp1 E1 hp2 d1 => ?_
  have np := R.fresh hp1
  have hS : Same (hp (Hid (plus O p) as) H2) (hp (fun a => Hid O as a ∨ a = p) H2) := hp_less fun a q => by
    rcases q with (q | q) | q
    · exact .inl (.inl q)
    · exact .inr q
    · exact .inl (.inr q)
  have x : Ext n as (upA as i (some p)) H H2 := ⟨f1, fun a q => by
    rcases q.up with q | q
    · rw [← Option.some.inj q]; exact .inr hp1
    · exact .inl q, fun j hj => upA_ne (by omega)⟩
  have E2 := (E1.lessO R.inq).setOwn q1.1 (J.cl _ _ _ _ R.inv x) np hp2 (fun j sl o h1 h2 _ => (E1.at_ j sl o h1 h2).mono hS fun b hb => rfl) (d1.mono hS)
  exact C.nx _ _ _ _ q1.2 x E2
end
end DL
/-! loops, comprehensions, calls -/
namespace DL
open PySem L2 Z
variable [Tbs]
/-- what is gone through: the data of each turn -/
def IsIt (K : PySem.W.Frag) (A : Addr → Prop) (J : It) (H : Hp) (ds : List PyData) : Prop := ∃ (G : Hp → Prop) (Y : Nat → Hp → V → Hp → Prop), Walk J ds.length G Y ∧ (∀ (A' : Addr → Prop) (H1 : Hp), Same (hp A H) (hp A' H1) → G H1) ∧
  ∀ (i : Nat) (d : PyData) (A' : Addr → Prop) (H1 : Hp) (x : V) (H2 : Hp), ds[i]? = some d → Same (hp A H) (hp A' H1) → (∀ c, A' c → H1 c ≠ none) → Y i H1 x H2 → Same H1 H2 ∧ Dq K (hp A' H2) x d
def RI (K : PySem.W.Frag) {n : Nat} (J : Jv n) (wi : TI) (f : FA) : Prop := ∀ (O : Addr → Prop) (as : Nat → Option Addr) (σ : L2.St) (H : Hp) (R : It → Hp → Prop) (ρ : En) (P : List PyData → En → Prop), EnR K J O as H ρ σ → f ρ P →
  (∀ ds ρ' I H', P ds ρ' → FrA (Own as) H H' → EnR K J O as H' ρ' σ → IsIt K (Hid O as) I H' ds → R I H') → wi σ H R
section
variable {K : PySem.W.Frag} {n : Nat} {J : Jv n}
def listF (a : PyData) (k : List PyData → Prop) : Prop := match a with
  | .list ds => k ds
  | _ => False
def tupleF (a : PyData) (k : List PyData → Prop) : Prop := match a with
  | .tuple ds => k ds
  | _ => False
def intF (a : PyData) (k : Int → Prop) : Prop := match a with
  | .int i => k i
  | _ => False
def iL (f : FE) : FA := fun ρ P => f ρ fun d ρ1 => listF d fun ds => P ds ρ1
theorem ri_list {tl : TE} {f : FE} (h : RE K J tl f) : RI K J (iList K tl) (iL f) := by
  intro O as σ H R ρ P E q k
  refine h O as σ H _ ρ _ E q fun d ρ1 v H1 q1 f1 E1 d1 => ?_
  unfold listF at q1
  split at q1
  · next ds =>
    obtain ⟨a, xs, rfl, s, r⟩ := d1.list_of
    refine ⟨a, rfl, ⟨_, SqL.mono hp_same s⟩, k _ _ _ _ q1 f1 E1 ?_⟩
    refine ⟨_, _, by rw [← r.length]; exact walk_list (xs := xs), fun A' H2 s2 => SqL.mono hp_same (SqL.mono s2 s), fun i d A' H2 x H3 hd s2 oc y => ?_⟩
    obtain ⟨rfl, hx⟩ := y
    obtain ⟨d', e, q⟩ := r.get hx
    rw [hd] at e
    cases e
    exact ⟨Same.refl _, q.mono s2⟩
  · exact q1.elim
def iT (f : FE) : FA := fun ρ P => f ρ fun d ρ1 => tupleF d fun ds => P ds ρ1
theorem ri_tup {tl : TE} {f : FE} (h : RE K J tl f) : RI K J (iTup K tl) (iT f) := by
  intro O as σ H R ρ P E q k
  refine h O as σ H _ ρ _ E q fun d ρ1 v H1 q1 f1 E1 d1 => ?_
  unfold tupleF at q1
  split at q1
  · next ds =>
    obtain ⟨a, xs, rfl, s, r⟩ := d1.tuple_of
    refine ⟨a, rfl, ⟨_, SqT.mono hp_same s⟩, k _ _ _ _ q1 f1 E1 ?_⟩
    refine ⟨_, _, by rw [← r.length]; exact walk_tup (xs := xs), fun A' H2 s2 => SqT.mono hp_same (SqT.mono s2 s), fun i d A' H2 x H3 hd s2 oc y => ?_⟩
    obtain ⟨rfl, hx⟩ := y
    obtain ⟨d', e, q⟩ := r.get hx
    rw [hd] at e
    cases e
    exact ⟨Same.refl _, q.mono s2⟩
  · exact q1.elim
def signs (z : Str) : List PyData := z.cps.toList.map fun c => .str ⟨#[c]⟩
def iS (f : FE) : FA := fun ρ P => f ρ fun d ρ1 => strF d fun z => P (signs z) ρ1
theorem ri_str {te : TE} {f : FE} (h : RE K J te f) : RI K J (iStr te) (iS f) := by
  intro O as σ H R ρ P E q k
  refine h O as σ H _ ρ _ E q fun d ρ1 v H1 q1 f1 E1 d1 => ?_
  unfold strF at q1
  split at q1
  · next z =>
    cases d1
    refine ⟨z, rfl, k _ _ _ _ q1 f1 E1 ?_⟩
    refine ⟨_, _, by rw [signs, List.length_map, Array.length_toList]; exact walk_str (z := z), fun _ _ _ => trivial, fun i d A' H2 x H3 hd s2 oc y => ?_⟩
    obtain ⟨rfl, c, hc, rfl⟩ := y
    rw [signs, List.getElem?_map, Array.getElem?_toList, hc] at hd
    cases hd
    exact ⟨Same.refl _, .str _⟩
  · exact q1.elim
def rangeD (lo : Int) (m : Nat) : List PyData := (List.range m).map fun k : Nat => .int (lo + (k : Int))
theorem isIt_range {A : Addr → Prop} {H : Hp} {lo : Int} {m : Nat} : IsIt K A (Itr lo m) H (rangeD lo m) := by
  refine ⟨_, _, by rw [rangeD, List.length_map, List.length_range]; exact walk_range (lo := lo) (n := m), fun _ _ _ => trivial, fun i d A' H2 x H3 hd s2 oc y => ?_⟩
  obtain ⟨rfl, rfl⟩ := y
  rw [rangeD, List.getElem?_map] at hd
  have hi : i < m := by
    by_cases h : i < m
    · exact h
    · rw [List.getElem?_eq_none (by rw [List.length_range]; omega)] at hd; cases hd
  rw [List.getElem?_range hi] at hd
  cases hd
  exact ⟨Same.refl _, .int _⟩
def iR1 (f : FA) : FA := fun ρ P => f ρ fun ds ρ1 => match ds with
  | [.int j] => -(2 ^ 62) ≤ j ∧ j < 2 ^ 62 ∧ P (rangeD 0 j.toNat) ρ1
  | _ => False
theorem ri_rng1 {ta : TA} {f : FA} (h : RA K J ta f) : RI K J (iRng1 ta) (iR1 f) := by
  intro O as σ H R ρ P E q k
  refine h O as σ H _ ρ _ E q fun ds ρ1 vs H1 q1 f1 E1 d1 => ?_
  split at q1
  · cases d1 with
    | cons a b => cases a; cases b; exact ⟨_, rfl, q1.1, q1.2.1, k _ _ _ _ q1.2.2 f1 E1 isIt_range⟩
  · exact q1.elim
def iR2 (f : FA) : FA := fun ρ P => f ρ fun ds ρ1 => match ds with
  | [.int i, .int j] => (-(2 ^ 62) ≤ i ∧ i < 2 ^ 62 ∧ -(2 ^ 62) ≤ j ∧ j < 2 ^ 62) ∧ P (rangeD i (j - i).toNat) ρ1
  | _ => False
theorem ri_rng2 {ta : TA} {f : FA} (h : RA K J ta f) : RI K J (iRng2 ta) (iR2 f) := by
  intro O as σ H R ρ P E q k
  refine h O as σ H _ ρ _ E q fun ds ρ1 vs H1 q1 f1 E1 d1 => ?_
  split at q1
  · cases d1 with
    | cons a b => cases a; cases b with
      | cons a b => cases a; cases b; exact ⟨_, _, rfl, q1.1, k _ _ _ _ q1.2 f1 E1 isIt_range⟩
  · exact q1.elim
def downD (lo : Int) (m : Nat) : List PyData := (List.range m).map fun k : Nat => .int (lo - (k : Int))
/-- range(i, j, -1) -/
def iR3 (f : FA) : FA := fun ρ P => f ρ fun ds ρ1 => match ds with
  | [.int i, .int j, .int c] => c = -1 ∧ (-(2 ^ 62) ≤ i ∧ i < 2 ^ 62 ∧ -(2 ^ 62) ≤ j ∧ j < 2 ^ 62) ∧ P (downD i (i - j).toNat) ρ1
  | _ => False
theorem ri_rng3 {ta : TA} {f : FA} (h : RA K J ta f) : RI K J (iRng3 ta) (iR3 f) := by
  intro O as σ H R ρ P E q k
  refine h O as σ H _ ρ _ E q fun ds ρ1 vs H1 q1 f1 E1 d1 => ?_
  split at q1
  · next i j c =>
    cases d1 with
    | cons a b => cases a; cases b with
      | cons a b => cases a; cases b with
        | cons a b =>
          cases a; cases b
          obtain ⟨rfl, ⟨b1, b2, b3, b4⟩, q1⟩ := q1
          refine ⟨_, _, _, _, rfl, RgC.neg b1 b2 b3 b4, k _ _ _ _ q1 f1 E1 ?_⟩
          refine ⟨_, _, by rw [downD, List.length_map, List.length_range]; exact walk_rangeC (lo := i) (c := -1) (n := (i - j).toNat), fun _ _ _ => trivial, fun l d A' H2 x H3 hd s2 oc y => ?_⟩
          obtain ⟨rfl, rfl⟩ := y
          rw [downD, List.getElem?_map] at hd
          have hi : l < (i - j).toNat := by
            by_cases h : l < (i - j).toNat
            · exact h
            · rw [List.getElem?_eq_none (by rw [List.length_range]; omega)] at hd; cases hd
          rw [List.getElem?_range hi] at hd
          cases hd
          refine ⟨Same.refl _, ?_⟩
          dsimp only
          rw [show i + (l : Int) * -1 = i - (l : Int) by omega]
          exact .int _
  · exact q1.elim
theorem yPair {A A' : Addr → Prop} {H H1 H2 : Hp} {T : Addr} {x y : V} {a b : PyData} (hT : H1 T = none) (e : H2 = upd H1 T (.tup [x, y])) (oc : ∀ c, A' c → H1 c ≠ none) (hx : Dq K (hp A' H1) x a) (hy : Dq K (hp A' H1) y b) :
    Same H1 H2 ∧ Dq K (hp A' H2) (.ref T) (.tuple [a, b]) := by
  subst e
  have s := Same.new (o := .tup [x, y]) hT
  exact ⟨s, .tup (SqT.of (hp_mk (fun q => oc _ q hT) upd_same)) (.cons (hx.mono (hp_grow s)) (.cons (hy.mono (hp_grow s)) .nil))⟩
def enumD (ds : List PyData) : List PyData := ds.zipIdx.map fun z => .tuple [.int (z.2 : Nat), z.1]
def iE (f : FA) : FA := fun ρ P => f ρ fun ds ρ1 => match ds with
  | [.list es] => P (enumD es) ρ1
  | _ => False
theorem ri_enum {ta : TA} {f : FA} (h : RA K J ta f) : RI K J (iEnum K ta) (iE f) := by
  intro O as σ H R ρ P E q k
  refine h O as σ H _ ρ _ E q fun ds ρ1 vs H1 q1 f1 E1 d1 => ?_
  split at q1
  · next es =>
    cases d1 with
    | cons d1 b =>
      cases b
      obtain ⟨a, xs, rfl, s, r⟩ := d1.list_of
      refine ⟨a, xs, rfl, SqL.mono hp_same s, k _ _ _ _ q1 f1 E1 ?_⟩
      refine ⟨_, _, by rw [enumD, List.length_map, List.length_zipIdx, ← r.length]; exact walk_enum (xs := xs), fun A' H2 s2 => SqL.mono hp_same (SqL.mono s2 s), fun i d A' H2 x H3 hd s2 oc y => ?_⟩
      obtain ⟨T, x1, y1, rfl, hT, e, e1, e2⟩ := y
      cases e1
      obtain ⟨d', e', q'⟩ := r.get e2
      rw [enumD, List.getElem?_map, List.getElem?_zipIdx, e'] at hd
      simp only [Option.map_some, Nat.zero_add] at hd
      cases hd
      exact yPair (A := fun _ => False) (H := H) hT e oc (.int _) (q'.mono s2)
  · exact q1.elim
def zipD (a b : List PyData) : List PyData := (a.zip b).map fun z => .tuple [z.1, z.2]
def iZ (f : FA) : FA := fun ρ P => f ρ fun ds ρ1 => match ds with
  | [.list es, .list gs] => P (zipD es gs) ρ1
  | [.tuple es, .tuple gs] => P (zipD es gs) ρ1
  | _ => False
theorem zipD_get {es gs : List PyData} {i : Nat} {d d1 d2 : PyData} (h : (zipD es gs)[i]? = some d) (h1 : es[i]? = some d1) (h2 : gs[i]? = some d2) : d = .tuple [d1, d2] := by
  rw [zipD, List.getElem?_map, (List.getElem?_zip_eq_some (z := (d1, d2))).mpr ⟨h1, h2⟩] at h
  cases h
  rfl
theorem zipD_len {es gs : List PyData} : (zipD es gs).length = min es.length gs.length := by rw [zipD, List.length_map, List.length_zip]
theorem ri_zip {ta : TA} {f : FA} (h : RA K J ta f) : RI K J (RZ.iZipA K ta) (iZ f) := by
  intro O as σ H R ρ P E q k
  refine h O as σ H _ ρ _ E q fun ds ρ1 vs H1 q1 f1 E1 d1 => ?_
  split at q1
  · next es gs =>
    cases d1 with
    | cons d1 b => cases b with
      | cons d2 b =>
        cases b
        obtain ⟨a, xs, rfl, s, r⟩ := d1.list_of
        obtain ⟨a', xs', rfl, s', r'⟩ := d2.list_of
        refine ⟨a, a', xs, xs', rfl, .inl ⟨SqL.mono hp_same s, SqL.mono hp_same s', k _ _ _ _ q1 f1 E1 ?_⟩⟩
        refine ⟨_, _, walk_zip (xs := xs) (ys := xs') (n := (zipD es gs).length) (by rw [zipD_len, ← r.length, ← r'.length]), fun A' H2 s2 => ⟨SqL.mono hp_same (SqL.mono s2 s), SqL.mono hp_same (SqL.mono s2 s')⟩, fun i d A' H2 x H3 hd s2 oc y => ?_⟩
        obtain ⟨T, x1, y1, rfl, hT, e, e1, e2⟩ := y
        obtain ⟨c1, g1, q1'⟩ := r.get e1
        obtain ⟨c2, g2, q2'⟩ := r'.get e2
        rw [zipD_get hd g1 g2]
        exact yPair (A := fun _ => False) (H := H) hT e oc (q1'.mono s2) (q2'.mono s2)
  · next es gs =>
    cases d1 with
    | cons d1 b => cases b with
      | cons d2 b =>
        cases b
        obtain ⟨a, xs, rfl, s, r⟩ := d1.tuple_of
        obtain ⟨a', xs', rfl, s', r'⟩ := d2.tuple_of
        refine ⟨a, a', xs, xs', rfl, .inr ⟨SqT.mono hp_same s, SqT.mono hp_same s', k _ _ _ _ q1 f1 E1 ?_⟩⟩
        refine ⟨_, _, walk_zipT (xs := xs) (ys := xs') (n := (zipD es gs).length) (by rw [zipD_len, ← r.length, ← r'.length]), fun A' H2 s2 => ⟨SqT.mono hp_same (SqT.mono s2 s), SqT.mono hp_same (SqT.mono s2 s')⟩, fun i d A' H2 x H3 hd s2 oc y => ?_⟩
        obtain ⟨T, x1, y1, rfl, hT, e, e1, e2⟩ := y
        obtain ⟨c1, g1, q1'⟩ := r.get e1
        obtain ⟨c2, g2, q2'⟩ := r'.get e2
        rw [zipD_get hd g1 g2]
        exact yPair (A := fun _ => False) (H := H) hT e oc (q1'.mono s2) (q2'.mono s2)
  · exact q1.elim
/-! for, while -/
/-- slots forgotten -/
def fgt (ρ : En) : List Nat → En
  | [] => ρ
  | v :: vs => fgt (ρ.set v .no) vs
theorem EnR.forget1 {O : Addr → Prop} {as : Nat → Option Addr} {H : Hp} {ρ : En} {σ : L2.St} {v : Nat} (R : EnR K J O as H ρ σ) (hv : n ≤ v) : ∃ as', Ext n as as' H H ∧ EnR K J O as' H (ρ.set v .no) σ := by
  have self : ∀ {ρ : En} {as : Nat → Option Addr}, EnR K J O as H ρ σ → slotF ρ v = true → EnR K J O as H (ρ.set v .no) σ := fun {ρ as} R h => by
    obtain ⟨sl, e, _⟩ := slotF_of h
    obtain ⟨o, eo, _⟩ := R.at' e
    have := R.setNo h o
    rw [show σ.set v o = σ from by
      refine List.ext_getElem? fun j => ?_
      rw [List.getElem?_set]
      by_cases z : v = j
      · subst z
        rw [if_pos rfl, eo, if_pos (List.getElem?_eq_some_iff.mp eo).1]
      · rw [if_neg z]] at this
    exact this
  cases e : ρ[v]? with
  | none =>
    rw [List.set_eq_of_length_le (List.getElem?_eq_none_iff.mp e)]
    exact ⟨as, .refl, R⟩
  | some sl =>
    cases sl with
    | no => exact ⟨as, .refl, self R (by unfold slotF; rw [e])⟩
    | fz d => exact ⟨as, .refl, self R (by unfold slotF; rw [e])⟩
    | own ds =>
      have R2 := R.freeze hv e
      have hl := (List.getElem?_eq_some_iff.mp e).1
      have R3 := self R2 (by unfold slotF; rw [List.getElem?_set, if_pos rfl, if_pos hl])
      rw [List.set_set] at R3
      refine ⟨_, ⟨FrA.refl _ _, fun a q => ?_, fun j hj => upA_ne (by omega)⟩, R3⟩
      rcases q.up with q | q
      · cases q
      · exact .inl q
theorem EnR.forget {O : Addr → Prop} {H : Hp} {σ : L2.St} : ∀ (vs : List Nat) {as : Nat → Option Addr} {ρ : En}, EnR K J O as H ρ σ → (∀ v ∈ vs, n ≤ v) → ∃ as', Ext n as as' H H ∧ EnR K J O as' H (fgt ρ vs) σ
  | [], as, ρ, R, _ => ⟨as, .refl, R⟩
  | v :: vs, as, ρ, R, h => by
    obtain ⟨a1, x1, R1⟩ := R.forget1 (h v (List.mem_cons_self ..))
    obtain ⟨a2, x2, R2⟩ := EnR.forget vs R1 (fun u hu => h u (List.mem_cons_of_mem _ hu))
    exact ⟨a2, x1.trans x2, R2⟩
/-- a loop over data from now on; the slots us are forgotten at each turn's end -/
def forW (us : List Nat) (ds : List PyData) (g : FG) (b : FS) (E : FEnds) (ρ : En) : Prop := ∃ W : Nat → En → Prop, W 0 (fgt ρ us) ∧ (∀ i d ρ2, ds[i]? = some d → W i ρ2 → g d ρ2 fun ρ3 => b { E with nx := fun ρ4 => W (i + 1) (fgt ρ4 us), ct := fun ρ4 => W (i + 1) (fgt ρ4 us), bk := E.nx } ρ3) ∧ ∀ ρ2, W ds.length ρ2 → E.nx ρ2
def fFor (us : List Nat) (fi : FA) (g : FG) (b : FS) : FS := fun E ρ => fi ρ fun ds ρ1 => forW us ds g b E ρ1
theorem rs_for {us ws : List Nat} {wi : TI} {g : TG} {tb : TS} {fi : FA} {fg : FG} {b : FS} (hu : ∀ u ∈ us, n ≤ u) (hi : RI K J wi fi) (hg : RG K J ws g fg) (hb : RS K J tb b) : RS K J (tFor wi g tb) (fFor us fi fg b) := by
  intro O as σ H D ρ E R f C
  refine hi O as σ H _ ρ _ R f fun ds ρ1 I H1 q1 f1 E1 it => ?_
  obtain ⟨W, w0, ws', we⟩ := q1
  obtain ⟨G, Y, wk, hG, hY⟩ := it
  have C1 := C.ext (.of f1)
  obtain ⟨a0, x0, R0⟩ := E1.forget us hu
  refine for_it wk (fun i σ' H' => ∃ as' ρ', Ext n as as' H1 H' ∧ EnR K J O as' H' ρ' σ' ∧ W i ρ') ⟨a0, _, x0, R0, w0⟩ (fun i σ' H' _ ⟨as', ρ', x, _, _⟩ => hG _ _ x.same) ?_ ?_
  · rintro i x σ2 H2 H3 hi' ⟨as', ρ', x2, E2, w⟩ y
    obtain ⟨s3, d3⟩ := hY i _ (Hid O as') H2 x H3 (List.getElem?_eq_getElem hi') x2.same (fun c h => E2.full h) y
    have x3 : Ext n as' as' H2 H3 := .of (FrA.of s3)
    refine hg O as' σ2 H3 _ ρ' _ x _ (E2.grow s3) d3 (ws' i _ ρ' (List.getElem?_eq_getElem hi') w) fun ρ4 σ4 H4 p4 f4 E4 _ => ?_
    have x4 := (x2.trans x3).trans (Ext.of (n := n) f4)
    have C4 := C1.ext x4
    have fin : ∀ ρ5 as5 σ5 H5, W (i + 1) (fgt ρ5 us) → Ext n as' as5 H4 H5 → EnR K J O as5 H5 ρ5 σ5 → ∃ as' ρ', Ext n as as' H1 H5 ∧ EnR K J O as' H5 ρ' σ5 ∧ W (i + 1) ρ' := fun ρ5 as5 σ5 H5 p5 x5 E5 => by
      obtain ⟨a6, x6, R6⟩ := E5.forget us hu
      exact ⟨a6, _, (x4.trans x5).trans x6, R6, p5⟩
    refine hb O as' σ4 H4 _ ρ4 _ E4 p4 ⟨fin, C4.rt, C4.nx, fin, C4.ro⟩
  · rintro σ2 H2 ⟨as', ρ', x2, E2, w⟩
    exact C1.nx _ _ _ _ (we _ w) x2 E2
def whileW (us : List Nat) (c : FT) (b : FS) (E : FEnds) (ρ : En) : Prop := ∃ W : Nat → En → Prop, (∃ m, W m (fgt ρ us)) ∧ ∀ m ρ1, W m ρ1 → c ρ1 fun k ρ2 => if k = true then b { E with nx := fun ρ' => ∃ m', m' < m ∧ W m' (fgt ρ' us), ct := fun ρ' => ∃ m', m' < m ∧ W m' (fgt ρ' us), bk := E.nx } ρ2 else E.nx ρ2
def fWhile (us : List Nat) (c : FT) (b : FS) : FS := fun E ρ => whileW us c b E ρ
theorem rs_while {us : List Nat} {c : TT} {tb : TS} {fc : FT} {b : FS} (hu : ∀ u ∈ us, n ≤ u) (hc : RT K J c fc) (hb : RS K J tb b) : RS K J (tWhile c tb) (fWhile us fc b) := by
  intro O as σ H D ρ E R f C
  obtain ⟨W, ⟨m0, w0⟩, st⟩ := f
  obtain ⟨a0, x0, R0⟩ := R.forget us hu
  refine ⟨fun m σ' H' => ∃ as' ρ', Ext n as as' H H' ∧ EnR K J O as' H' ρ' σ' ∧ W m ρ', ⟨m0, a0, _, x0, R0, w0⟩, ?_⟩
  rintro m σ1 H1 ⟨as1, ρ1, x1, E1, w⟩
  refine hc O as1 σ1 H1 _ ρ1 _ E1 (st m ρ1 w) fun k ρ2 H2 q2 f2 E2 => ?_
  have x2 := x1.trans (Ext.of (n := n) f2)
  cases k
  · exact C.nx _ _ _ _ q2 x2 E2
  · refine ⟨fun σ' H' => ∃ m', m' < m ∧ ∃ as' ρ', Ext n as as' H H' ∧ EnR K J O as' H' ρ' σ' ∧ W m' ρ', fun σ' H' h => h, ?_⟩
    have C2 := C.ext x2
    have fin : ∀ ρ5 as5 σ5 H5, (∃ m', m' < m ∧ W m' (fgt ρ5 us)) → Ext n as1 as5 H2 H5 → EnR K J O as5 H5 ρ5 σ5 → ∃ m', m' < m ∧ ∃ as' ρ', Ext n as as' H H5 ∧ EnR K J O as' H5 ρ' σ5 ∧ W m' ρ' := fun ρ5 as5 σ5 H5 ⟨m', hm, p5⟩ x5 E5 => by
      obtain ⟨a6, x6, R6⟩ := E5.forget us hu
      exact ⟨m', hm, a6, _, (x2.trans x5).trans x6, R6, p5⟩
    exact hb O as1 σ1 H2 _ ρ2 _ E2 q2 ⟨fin, C2.rt, C2.nx, fin, C2.ro⟩
/-! comprehensions -/
def wipeF (ρ : En) : List Nat → En
  | [] => ρ
  | v :: vs => (wipeF ρ vs).set v .no
theorem wipe_at (σ : L2.St) (j : Nat) : ∀ vs : List Nat, (wipe σ vs)[j]? = if j ∈ vs ∧ j < σ.length then some none else σ[j]?
  | [] => by simp [wipe]
  | v :: vs => by
    rw [wipe, List.getElem?_set, wipe_length, wipe_at σ j vs]
    by_cases e : v = j
    · subst e
      by_cases h : v < σ.length
      · simp [h]
      · simp [h]
    · rw [if_neg e]
      simp [show ¬ j = v from fun z => e z.symm]
theorem wipe_eq {σ σ' : L2.St} {vs : List Nat} (hl : σ'.length = σ.length) (h : ∀ j, j ∉ vs → σ'[j]? = σ[j]?) : wipe σ' vs = wipe σ vs := by
  refine List.ext_getElem? fun j => ?_
  rw [wipe_at, wipe_at, hl]
  by_cases q : j ∈ vs
  · by_cases z : j < σ.length
    · rw [if_pos ⟨q, z⟩, if_pos ⟨q, z⟩]
    · rw [if_neg (fun w => z w.2), if_neg (fun w => z w.2), List.getElem?_eq_none (by omega), List.getElem?_eq_none (by omega)]
  · rw [if_neg (fun w => q w.1), if_neg (fun w => q w.1)]
    exact h j q
theorem slotF_set {ρ : En} {i j : Nat} (h : slotF ρ j = true) : slotF (ρ.set i .no) j = true := by
  obtain ⟨sl, q, _⟩ := slotF_of h
  have hj : j < ρ.length := (List.getElem?_eq_some_iff.mp q).1
  unfold slotF at *
  rw [List.getElem?_set]
  by_cases e : i = j
  · subst e
    simp [hj]
  · rw [if_neg e]
    exact h
theorem EnR.wipes {O : Addr → Prop} {as : Nat → Option Addr} {H : Hp} {ρ : En} {σ : L2.St} (E : EnR K J O as H ρ σ) : ∀ vs : List Nat, vs.all (slotF ρ) = true → EnR K J O as H (wipeF ρ vs) (wipe σ vs) ∧ ∀ j, slotF ρ j = true → slotF (wipeF ρ vs) j = true
  | [], _ => ⟨E, fun _ h => h⟩
  | v :: vs, h => by
    have h' : (slotF ρ v && vs.all (slotF ρ)) = true := h
    rw [Bool.and_eq_true] at h'
    obtain ⟨E1, k⟩ := EnR.wipes E vs h'.2
    exact ⟨E1.setNo (k v h'.1) none, fun j hj => slotF_set (k j hj)⟩
theorem wipeF_len (ρ : En) : ∀ vs : List Nat, (wipeF ρ vs).length = ρ.length
  | [] => rfl
  | v :: vs => by rw [wipeF, List.length_set, wipeF_len ρ vs]
theorem wipeF_at (ρ : En) (j : Nat) : ∀ vs : List Nat, (wipeF ρ vs)[j]? = if j ∈ vs ∧ j < ρ.length then some .no else ρ[j]?
  | [] => by simp [wipeF]
  | v :: vs => by
    rw [wipeF, List.getElem?_set, wipeF_len, wipeF_at ρ j vs]
    by_cases e : v = j
    · subst e
      by_cases h : v < ρ.length
      · simp [h]
      · simp [h]
    · rw [if_neg e]
      simp [show ¬ j = v from fun z => e z.symm]
/-- slots that are known of nothing may hold anything -/
theorem EnR.unwipe {O : Addr → Prop} {as : Nat → Option Addr} {H : Hp} {ρ : En} {σ σ' : L2.St} {vs : List Nat} (E : EnR K J O as H (wipeF ρ vs) (wipe σ vs)) (h : ∀ j, j ∈ vs → as j = none) (hl : σ'.length = σ.length) (h' : ∀ j, j ∉ vs → σ'[j]? = σ[j]?) :
    EnR K J O as H (wipeF ρ vs) σ' := by
  refine ⟨by rw [E.len, wipe_length, hl], fun j sl o h1 h2 => ?_, E.inj, E.out, E.bnd, E.occ, E.inv, E.inq, E.tab⟩
  by_cases q : j ∈ vs
  · rw [wipeF_at] at h1
    have hj : j < ρ.length := by
      have := (List.getElem?_eq_some_iff.mp h2).1
      have e := E.len
      rw [wipeF_len, wipe_length] at e
      omega
    rw [if_pos ⟨q, hj⟩] at h1
    cases h1
    rw [h j q]
    exact .no
  · refine E.at_ j sl o h1 ?_
    rw [wipe_at, if_neg (fun w => q w.1), ← h' j q]
    exact h2
/-- without one place -/
def wo (H : Hp) (D : Addr) : Hp := fun a => if a = D then none else H a
theorem wo_some {H : Hp} {D a : Addr} {o : HO} (h : wo H D a = some o) : a ≠ D ∧ H a = some o := by
  unfold wo at h
  split at h
  · cases h
  · next e => exact ⟨e, h⟩
theorem wo_mk {H : Hp} {D a : Addr} {o : HO} (e : a ≠ D) (h : H a = some o) : wo H D a = some o := (if_neg e).trans h
def Jv.hide {n : Nat} (J : Jv n) (D : Addr) : Jv n := ⟨fun as H => J.P as (wo H D), fun as as' H H' p x => J.cl _ _ _ _ p ⟨fun a o na e => wo_mk (wo_some e).1 (x.fr a o na (wo_some e).2), fun a h => (x.new a h).imp id fun z => by
  unfold wo
  split
  · rfl
  · exact z, x.fix⟩, J.Q, J.up⟩
theorem Jv.hide_le {n : Nat} {J : Jv n} {D : Addr} : (J.hide D).le J := ⟨fun _ _ h => J.fr h fun _ _ _ e => (wo_some e).2, fun _ h => h⟩
theorem Jv.hide_new {n : Nat} {J : Jv n} {D : Addr} {as : Nat → Option Addr} {H : Hp} {o : HO} (h : J.P as H) (e : H D = none) : (J.hide D).P as (upd H D o) := J.fr h fun a o' _ e' => by
  have ne : a ≠ D := ne_of_none e' e
  exact wo_mk ne (by rw [upd_ne ne]; exact e')
theorem Jv.hide_put {n : Nat} {J : Jv n} {D : Addr} {as : Nat → Option Addr} {H : Hp} {o : HO} (h : (J.hide D).P as H) : (J.hide D).P as (upd H D o) := J.fr h fun a o' _ e' => wo_mk (wo_some e').1 (by rw [upd_ne (wo_some e').1]; exact (wo_some e').2)
def lcW (ds : List PyData) (g : FG) (ft : FT) (fe : FE) (vs : List Nat) (ρ : En) (P : List PyData → En → Prop) : Prop := vs.all (slotF ρ) = true ∧ ∃ W : Nat → List PyData → En → Prop, W 0 [] (wipeF ρ vs) ∧
  (∀ i d acc ρ2, ds[i]? = some d → W i acc ρ2 → g d ρ2 fun ρ3 => ft ρ3 fun b ρ4 => if b = true then fe ρ4 fun y ρ5 => acc.length < sizeLine ∧ vs.all (slotF ρ5) = true ∧ W (i + 1) (acc ++ [y]) (wipeF ρ5 vs) else vs.all (slotF ρ4) = true ∧ W (i + 1) acc (wipeF ρ4 vs)) ∧
  ∀ acc ρ2, W ds.length acc (wipeF ρ2 vs) → P acc (wipeF ρ2 vs)
def fLc (fi : FA) (g : FG) (ft : FT) (fe : FE) (vs : List Nat) : FA := fun ρ P => fi ρ fun ds ρ1 => lcW ds g ft fe vs ρ1 P
theorem rn_lc {ws vs : List Nat} {wi : TI} {g : TG} {tt : TT} {te : TE} {fi : FA} {fg : FG} {ft : FT} {fe : FE} (hw : ∀ j ∈ ws, j ∈ vs) (hi : RI K J wi fi) (hg : ∀ J' : Jv n, J'.le J → RG K J' ws g fg) (ht : ∀ J' : Jv n, J'.le J → RT K J' tt ft) (he : ∀ J' : Jv n, J'.le J → RE K J' te fe) : RN K J (tLc wi g tt te vs) (fLc fi fg ft fe vs) := by
  intro O as σ H Q ρ P E q k
  refine hi O as σ H _ ρ _ E q fun ds ρ1 I H1 q1 f1 E1 it => ?_
  obtain ⟨hv, W, w0, ws', we⟩ := q1
  obtain ⟨G, Y, wk, hG, hY⟩ := it
  intro D hD
  have hvn : ∀ j, j ∈ vs → as j = none := fun j hj => E1.none_of (List.all_eq_true.mp hv j hj)
  have sO : ∀ {H2 : Hp}, FrA (Own as) H1 H2 → Same (hp (Hid O as) H1) (hp (Hid (plus O D) as) H2) := fun f a o e => by
    obtain ⟨na, e⟩ := hp_some e
    refine hp_mk (fun z => ?_) (f a o (fun z => na (.inr z)) e)
    rcases z with (z | z) | z
    · exact na (.inl z)
    · rw [z, hD] at e; cases e
    · exact na (.inr z)
  have hD0 : H D = none := by
    cases e : H D with
    | none => rfl
    | some o =>
      by_cases w : Own as D
      · exact absurd (.inr w) (E1.fresh hD)
      · rw [f1 _ _ w e] at hD; cases hD
  have nD : ¬ Own as D := fun w => E1.fresh hD (.inr w)
  refine lc_it wk (fun i H2 => ∃ acc ρ2 xs, FrA (Own as) H1 H2 ∧ EnR K (J.hide D) (plus O D) as H2 (wipeF ρ2 vs) (wipe σ vs) ∧ H2 D = some (.lst xs) ∧ DqAll K (hp (Hid (plus O D) as) H2) xs acc ∧ W i acc (wipeF ρ2 vs)) ?_ (fun i H2 _ ⟨acc, ρ2, xs, f2, _⟩ => hG _ _ (sO f2)) ?_ ?_
  · exact ⟨[], ρ1, [], FrA.of (Same.new hD), (((E1.addO (o := .lst []) hD).1.reJ (Jv.hide_new E1.inv hD) (J.up _ _ (fun _ z => .inl z) E1.inq)).wipes vs hv).1, upd_same, .nil, w0⟩
  · rintro i x H2 H3 hi' ⟨acc, ρ2, xs, f2, E2, hx, dx, w⟩ y
    obtain ⟨s3, d3⟩ := hY i _ (Hid (plus O D) as) H2 x H3 (List.getElem?_eq_getElem hi') (sO f2) (fun c h => E2.full h) y
    have E3 := E2.grow s3
    refine hg _ Jv.hide_le (plus O D) as _ H3 _ _ _ x _ E3 d3 (ws' i _ acc _ (List.getElem?_eq_getElem hi') w) fun ρ4 σ4 H4 p4 f4 E4 z4 => ?_
    have len4 : σ4.length = σ.length := by rw [z4.1, wipe_length]
    have z4' : ∀ j, j ∉ vs → σ4[j]? = σ[j]? := fun j hj => by
      rw [z4.2 j (fun z => hj (hw j z)), wipe_at, if_neg (fun w => hj w.1)]
    refine ⟨wipe_eq len4 z4', ?_⟩
    refine ht _ Jv.hide_le (plus O D) as σ4 H4 _ ρ4 _ E4 p4 fun b ρ5 H5 q5 f5 E5 => ?_
    cases b
    · obtain ⟨v5, w5⟩ := q5
      have E6 := ((E5.wipes vs v5).1)
      rw [wipe_eq len4 z4'] at E6
      have f35 := (FrA.of s3).trans (f4.trans f5)
      exact ⟨acc, ρ5, xs, f2.trans f35, E6, f35 _ _ nD hx, dx.fr f35, w5⟩
    · refine he _ Jv.hide_le (plus O D) as σ4 H5 _ ρ5 _ E5 q5 fun d ρ6 v H6 q6 f6 E6 d6 => ?_
      obtain ⟨l6, v6, w6⟩ := q6
      have f36 := (FrA.of (A := Own as) s3).trans ((f4.trans f5).trans f6)
      have hx6 := f36 _ _ nD hx
      have dx6 := dx.fr f36
      obtain ⟨E7, s7⟩ := E6.putO (p := D) (ys := xs ++ [v]) (.inr rfl) hx6 (Jv.hide_put E6.inv)
      have E8 := ((E7.wipes vs v6).1)
      rw [wipe_eq len4 z4'] at E8
      refine ⟨xs, hx6, by rw [dx.length]; exact l6, acc ++ [d], ρ6, xs ++ [v], fun a o na e => ?_, E8, upd_same, (dx6.mono s7).append (.cons (d6.mono s7) .nil), w6⟩
      by_cases z : a = D
      · rw [z, hD] at e; cases e
      · rw [upd_ne z]; exact f36 a o na (f2 a o na e)
  · rintro H2 ⟨acc, ρ2, xs, f2, E2, hx, dx, w⟩
    have E3 := (E2.unwipe hvn (σ' := σ) rfl fun j hj => rfl).reJ (Jv.hide_le.1 _ _ E2.inv) (Jv.hide_le.2 _ E2.inq)
    exact k _ _ _ _ _ (we acc ρ2 w) (f1.trans f2) hD0 E3 hx dx
end
end DL
/-! calls of defs, own lists, the def itself -/
namespace DL
open PySem L2 Z PySem.Spec PyProof.Rows
variable [Tbs]
section
variable {K : PySem.W.Frag} {n : Nat} {J : Jv n}
def spF (K : PySem.W.Frag) (n : Nat) (F : FN) : Sp := fun vs H Q _ => vs.length = n ∧ ∃ (O : Addr → Prop) (as : Nat → Option Addr) (ρ : En) (P : PyData → List Sl → Prop), EnR K (J0 : Jv 0) O as H ρ (vs.map some) ∧ F ρ P ∧
  ∀ d out v H', P d out → FrA (Own as) H H' → TabsOk H' → (∀ i a, as i = some a → ∃ ds xs, out[i]? = some (.own ds) ∧ H' a = some (.lst xs) ∧ DqAll K (hp (Hid O as) H') xs ds) → Dq K (hp (Hid O as) H') v d → Q v H'
/-! arguments -/
def cNil : FC := fun ρ P => P [] ρ
def cDat (a : FE) (b : FC) : FC := fun ρ P => a ρ fun d ρ1 => b ρ1 fun xs ρ2 => P (.dat d :: xs) ρ2
def cOwn (i : Nat) (b : FC) : FC := fun ρ P => match ρ[i]? with
  | some (.own _) => b ρ fun xs ρ1 => P (.own i :: xs) ρ1
  | _ => False
theorem ArsR.fr {O : Addr → Prop} {as : Nat → Option Addr} {H H' : Hp} (f : FrA (Own as) H H') : ∀ {vs : List V} {xs : List Ar}, ArsR K (hp (Hid O as) H) as vs xs → ArsR K (hp (Hid O as) H') as vs xs
  | _, _, .nil => .nil
  | _, _, .cons (.dat q) r => .cons (.dat (q.fr f)) (ArsR.fr f r)
  | _, _, .cons (.own q) r => .cons (.own q) (ArsR.fr f r)
theorem rc_nil : RC K J tNil cNil := fun O as σ H Q ρ P E f k => k [] ρ [] H f (FrA.refl _ _) E .nil
theorem rc_dat {ta : TE} {t : TA} {fa : FE} {f : FC} (ha : RE K J ta fa) (h : RC K J t f) : RC K J (tCons ta t) (cDat fa f) := by
  intro O as σ H Q ρ P E q k
  refine ha O as σ H _ ρ _ E q fun d ρ1 v H1 q1 f1 E1 d1 => ?_
  refine h O as σ H1 _ ρ1 _ E1 q1 fun ds ρ2 vs H2 q2 f2 E2 d2 => ?_
  exact k _ _ _ _ q2 (f1.trans f2) E2 (.cons (.dat (d1.fr f2)) d2)
theorem rc_own {i : Nat} {t : TA} {f : FC} (h : RC K J t f) : RC K J (tCons (tVar i) t) (cOwn i f) := by
  intro O as σ H Q ρ P E q k
  unfold cOwn at q
  split at q
  · next ds hs =>
    obtain ⟨a, xs, e1, e2, e3, e4⟩ := E.own_at hs
    refine ⟨_, e1, ?_⟩
    exact h O as σ H _ ρ _ E q fun ds ρ2 vs H2 q2 f2 E2 d2 => k _ _ _ _ q2 f2 E2 (.cons (.own e2) d2)
  · exact q.elim
def argF (ρ : En) : List Ar → (List Sl → Prop) → Prop
  | [], k => k []
  | .dat d :: xs, k => argF ρ xs fun r => k (.fz d :: r)
  | .own i :: xs, k => match ρ[i]? with
    | some (.own ds) => argF ρ xs fun r => k (.own ds :: r)
    | _ => False
def ownIx : List Ar → List Nat
  | [] => []
  | .dat _ :: xs => ownIx xs
  | .own i :: xs => i :: ownIx xs
/-- what comes back -/
def wb (ρ : En) : List Ar → List Sl → En
  | [], _ => ρ
  | .own i :: xs, r => (wb ρ xs r.tail).set i (r.headD .no)
  | .dat _ :: xs, r => wb ρ xs r.tail
def adrs (as : Nat → Option Addr) (xs : List Ar) : Nat → Option Addr := fun j => match xs[j]? with
  | some (.own i) => as i
  | _ => none
theorem adrs_own {as : Nat → Option Addr} {xs : List Ar} {j : Nat} {a : Addr} (h : adrs as xs j = some a) : ∃ i, xs[j]? = some (.own i) ∧ as i = some a := by
  unfold adrs at h
  split at h
  · next i e => exact ⟨i, e, h⟩
  · cases h
theorem ownIx_mem {i : Nat} : ∀ {xs : List Ar}, i ∈ ownIx xs → ∃ j : Nat, xs[j]? = some (Ar.own i)
  | .dat _ :: xs, h => by
    obtain ⟨j, e⟩ := ownIx_mem (xs := xs) h
    exact ⟨j + 1, e⟩
  | .own k :: xs, h => by
    rcases List.mem_cons.mp h with rfl | h
    · exact ⟨0, rfl⟩
    · obtain ⟨j, e⟩ := ownIx_mem (xs := xs) h
      exact ⟨j + 1, e⟩
theorem mem_ownIx {i : Nat} : ∀ {xs : List Ar} {j : Nat}, xs[j]? = some (.own i) → i ∈ ownIx xs
  | .dat _ :: xs, 0, h => by cases h
  | .dat _ :: xs, j + 1, h => mem_ownIx (xs := xs) (j := j) h
  | .own k :: xs, 0, h => by cases h; exact List.mem_cons_self ..
  | .own k :: xs, j + 1, h => List.mem_cons_of_mem _ (mem_ownIx (xs := xs) (j := j) h)
theorem ownIx_inj {i : Nat} : ∀ {xs : List Ar} {j k : Nat}, (ownIx xs).Nodup → xs[j]? = some (.own i) → xs[k]? = some (.own i) → j = k
  | [], _, _, _, h, _ => by cases h
  | .dat _ :: xs, 0, _, _, h, _ => by cases h
  | .dat _ :: xs, _ + 1, 0, _, _, h => by cases h
  | .dat _ :: xs, j + 1, k + 1, nd, h, h' => by rw [ownIx_inj (xs := xs) nd h h']
  | .own m :: xs, 0, 0, _, _, _ => rfl
  | .own m :: xs, 0, k + 1, nd, h, h' => by cases h; exact absurd (mem_ownIx (xs := xs) (j := k) h') (List.nodup_cons.mp nd).1
  | .own m :: xs, j + 1, 0, nd, h', h => by cases h; exact absurd (mem_ownIx (xs := xs) (j := j) h') (List.nodup_cons.mp nd).1
  | .own m :: xs, j + 1, k + 1, nd, h, h' => by rw [ownIx_inj (xs := xs) (List.nodup_cons.mp nd).2 h h']
theorem wb_len (ρ : En) : ∀ (xs : List Ar) (r : List Sl), (wb ρ xs r).length = ρ.length
  | [], _ => rfl
  | .own i :: xs, r => by rw [wb, List.length_set, wb_len ρ xs r.tail]
  | .dat _ :: xs, r => by rw [wb, wb_len ρ xs r.tail]
theorem wb_other (ρ : En) {i : Nat} : ∀ (xs : List Ar) (r : List Sl), i ∉ ownIx xs → (wb ρ xs r)[i]? = ρ[i]?
  | [], _, _ => rfl
  | .own k :: xs, r, h => by
    have h' := not_or.mp (fun q => h (List.mem_cons.mpr q))
    rw [wb, List.getElem?_set, if_neg (fun z => h'.1 z.symm), wb_other ρ xs r.tail h'.2]
  | .dat _ :: xs, r, h => by rw [wb, wb_other ρ xs r.tail h]
theorem wb_own (ρ : En) {i : Nat} {sl : Sl} (hi : i < ρ.length) : ∀ {xs : List Ar} {r : List Sl} {j : Nat}, (ownIx xs).Nodup → xs[j]? = some (.own i) → r[j]? = some sl → (wb ρ xs r)[i]? = some sl
  | [], _, _, _, h, _ => by cases h
  | _, [], _, _, _, h => by cases h
  | .dat _ :: xs, _, 0, _, h, _ => by cases h
  | .dat _ :: xs, _ :: r, j + 1, nd, h, h' => by rw [wb]; exact wb_own ρ hi (xs := xs) (r := r) (j := j) nd h h'
  | .own k :: xs, s :: r, 0, nd, h, h' => by
    cases h; cases h'
    rw [wb, List.getElem?_set, if_pos rfl, wb_len, if_pos hi]
    rfl
  | .own k :: xs, _ :: r, j + 1, nd, h, h' => by
    have nd' := List.nodup_cons.mp nd
    have hk : k ≠ i := fun z => nd'.1 (by rw [z]; exact mem_ownIx (xs := xs) (j := j) h)
    rw [wb, List.getElem?_set, if_neg hk]
    exact wb_own ρ hi (xs := xs) (r := r) (j := j) nd'.2 h h'
inductive Fits (ρ : En) : List Ar → List Sl → Prop
  | nil : Fits ρ [] []
  | dat {d : PyData} {xs : List Ar} {r : List Sl} : Fits ρ xs r → Fits ρ (.dat d :: xs) (.fz d :: r)
  | own {i : Nat} {ds : List PyData} {xs : List Ar} {r : List Sl} : ρ[i]? = some (.own ds) → Fits ρ xs r → Fits ρ (.own i :: xs) (.own ds :: r)
theorem argF_of {ρ : En} : ∀ {xs : List Ar} {k : List Sl → Prop}, argF ρ xs k → ∃ r, Fits ρ xs r ∧ k r
  | [], k, h => ⟨_, .nil, h⟩
  | .dat d :: xs, k, h => by
    obtain ⟨r, f, q⟩ := argF_of (xs := xs) h
    exact ⟨_, .dat f, q⟩
  | .own i :: xs, k, h => by
    unfold argF at h
    split at h
    · next ds e =>
      obtain ⟨r, f, q⟩ := argF_of (xs := xs) h
      exact ⟨_, .own e f, q⟩
    · exact h.elim
/-- one argument's slot -/
theorem fits_at {O : Addr → Prop} {as : Nat → Option Addr} {H G : Hp} {ρ : En} {σ : L2.St} (E : EnR K J O as H ρ σ) (s : Same (hp (Hid O as) H) G) : ∀ {xs : List Ar} {r : List Sl} {vs : List V} {j : Nat} {sl : Sl} {o : Option V}, Fits ρ xs r → ArsR K (hp (Hid O as) H) as vs xs →
    r[j]? = some sl → (vs.map some)[j]? = some o → SlR K G H (adrs as xs j) sl o
  | _, _, _, _, _, _, .nil, _, h, _ => by cases h
  | _, _, _, 0, _, _, .dat f, .cons (.dat q) _, h, h' => by cases h; cases h'; exact .fz (q.mono s)
  | _, _, _, 0, _, _, .own e f, .cons (.own q) _, h, h' => by
    cases h; cases h'
    obtain ⟨a, xs, e1, e2, e3, e4⟩ := E.own_at e
    rw [q] at e2
    cases e2
    show SlR K G H (as _) _ _
    rw [q]
    exact .own e3 (e4.mono s)
  | _, _, _, j + 1, _, _, .dat f, .cons _ r', h, h' => fits_at E s (j := j) f r' h h'
  | _, _, _, j + 1, _, _, .own _ f, .cons _ r', h, h' => fits_at E s (j := j) f r' h h'
theorem Fits.len {ρ : En} : ∀ {xs : List Ar} {r : List Sl}, Fits ρ xs r → r.length = xs.length
  | _, _, .nil => rfl
  | _, _, .dat f => by rw [List.length_cons, List.length_cons, Fits.len f]
  | _, _, .own _ f => by rw [List.length_cons, List.length_cons, Fits.len f]
theorem ArsR.len {G : Hp} {as : Nat → Option Addr} : ∀ {vs : List V} {xs : List Ar}, ArsR K G as vs xs → vs.length = xs.length
  | _, _, .nil => rfl
  | _, _, .cons _ r => by rw [List.length_cons, List.length_cons, ArsR.len r]
def fCall (m : Nat) (F : FN) (dv : List PyData) (a : FC) : FE := fun ρ P => a ρ fun xs ρ1 => xs.length + dv.length = m ∧ (ownIx xs).Nodup ∧ argF ρ1 xs fun r => F (r ++ dv.map .fz) fun d out => P d (wb ρ1 xs out)
theorem dat_ars {G : Hp} {as : Nat → Option Addr} : ∀ {vs : List V} {ds : List PyData}, DqAll K G vs ds → ArsR K G as vs (ds.map .dat)
  | _, _, .nil => .nil
  | _, _, .cons a b => .cons (.dat a) (dat_ars b)
theorem fits_dat {ρ : En} : ∀ ds : List PyData, Fits ρ (ds.map .dat) (ds.map .fz)
  | [] => .nil
  | d :: r => .dat (fits_dat r)
theorem ArsR.app {G : Hp} {as : Nat → Option Addr} : ∀ {vs ws : List V} {xs ys : List Ar}, ArsR K G as vs xs → ArsR K G as ws ys → ArsR K G as (vs ++ ws) (xs ++ ys)
  | _, _, _, _, .nil, h => h
  | _, _, _, _, .cons a b, h => .cons a (ArsR.app b h)
theorem Fits.app {ρ : En} : ∀ {xs ys : List Ar} {r s : List Sl}, Fits ρ xs r → Fits ρ ys s → Fits ρ (xs ++ ys) (r ++ s)
  | _, _, _, _, .nil, h => h
  | _, _, _, _, .dat f, h => .dat (Fits.app f h)
  | _, _, _, _, .own e f, h => .own e (Fits.app f h)
theorem ownIx_app : ∀ (xs : List Ar) (ds : List PyData), ownIx (xs ++ ds.map .dat) = ownIx xs
  | [], [] => rfl
  | [], d :: r => ownIx_app [] r
  | .dat _ :: xs, ds => ownIx_app xs ds
  | .own i :: xs, ds => by show i :: ownIx (xs ++ _) = _; rw [ownIx_app xs ds]; rfl
theorem wb_app (ρ : En) : ∀ (xs : List Ar) (ds : List PyData) (r : List Sl), wb ρ (xs ++ ds.map .dat) r = wb ρ xs r
  | [], [], r => rfl
  | [], d :: ds, r => by
    show wb ρ (ds.map .dat) r.tail = _
    have := wb_app ρ [] ds r.tail
    rw [List.nil_append] at this
    rw [this]
    rfl
  | .dat _ :: xs, ds, r => wb_app ρ xs ds r.tail
  | .own i :: xs, ds, r => by show (wb ρ (xs ++ _) r.tail).set i _ = _; rw [wb_app ρ xs ds r.tail]; rfl
theorem ArsR.own_at {G : Hp} {as : Nat → Option Addr} {i : Nat} : ∀ {vs : List V} {xs : List Ar} {j : Nat}, ArsR K G as vs xs → xs[j]? = some (Ar.own i) → ∃ a, as i = some a
  | _, _, _, .nil, h => by cases h
  | _, _, 0, .cons (.dat _) _, h => by cases h
  | _, _, 0, .cons (.own q) _, h => by cases h; exact ⟨_, q⟩
  | _, _, j + 1, .cons _ r, h => ArsR.own_at (j := j) r h
/-- the callee's view of the state, and back -/
theorem call_core {O : Addr → Prop} {as : Nat → Option Addr} {H : Hp} {ρ : En} {σ : L2.St} {xs : List Ar} {r : List Sl} {vs : List V} {m : Nat} {F : FN} {P : PyData → En → Prop} {Q : VK} {E0 : XK} (E : EnR K J O as H ρ σ) (fit : Fits ρ xs r) (ar : ArsR K (hp (Hid O as) H) as vs xs) (hm : xs.length = m) (nd : (ownIx xs).Nodup)
    (f : F r fun d out => P d (wb ρ xs out)) (k : ∀ d ρ' v H', P d ρ' → FrA (Own as) H H' → EnR K J O as H' ρ' σ → Dq K (hp (Hid O as) H') v d → Q v H') : spF K m F vs H Q E0 := by
  have sub : ∀ a, Own (adrs as xs) a → Own as a := fun a h => by
    rcases h with ⟨j, h⟩ | h
    · obtain ⟨i, _, h⟩ := adrs_own h
      exact .inl ⟨i, h⟩
    · exact .inr h
  have hid : ∀ a, Hid (fun a => Hid O as a ∧ ¬ Own (adrs as xs) a) (adrs as xs) a ↔ Hid O as a := fun a => by
    constructor
    · rintro (h | h)
      · exact h.1
      · exact .inr (sub a h)
    · intro h
      by_cases q : Own (adrs as xs) a
      · exact .inr q
      · exact .inl ⟨h, q⟩
  have s1 : ∀ H', Same (hp (Hid O as) H') (hp (Hid (fun a => Hid O as a ∧ ¬ Own (adrs as xs) a) (adrs as xs)) H') := fun H' => hp_less fun a h => (hid a).mp h
  have s2 : ∀ H', Same (hp (Hid (fun a => Hid O as a ∧ ¬ Own (adrs as xs) a) (adrs as xs)) H') (hp (Hid O as) H') := fun H' => hp_less fun a h => (hid a).mpr h
  refine ⟨by rw [ar.len, hm], fun a => Hid O as a ∧ ¬ Own (adrs as xs) a, adrs as xs, r, _, ⟨by rw [List.length_map, fit.len, ar.len], fun j sl o h1 h2 => fits_at E (s1 H) fit ar h1 h2, fun j1 j2 a h1 h2 => ?_, fun j a h q => q.2 (.inl ⟨j, h⟩), fun j a h => ?_, fun a h => E.full h.1, trivial, trivial, E.tab⟩, f, fun d out v H' p fr tb ow dv => ?_⟩
  · obtain ⟨i1, e1, h1⟩ := adrs_own h1
    obtain ⟨i2, e2, h2⟩ := adrs_own h2
    rw [E.inj i1 i2 a h1 h2] at e1
    exact ownIx_inj nd e1 e2
  · obtain ⟨i, e, _⟩ := adrs_own h
    rw [fit.len]
    exact (List.getElem?_eq_some_iff.mp e).1
  · have fr' : FrA (Own as) H H' := fr.up sub
    refine k d _ v H' p fr' ⟨by rw [wb_len]; exact E.len, fun i sl o h1 h2 => ?_, E.inj, E.out, fun i a h => by rw [wb_len]; exact E.bnd i a h, fun a h => ?_, J.fr E.inv fr', E.inq, tb⟩ (dv.mono (s2 H'))
    · by_cases q : i ∈ ownIx xs
      · obtain ⟨j, e⟩ := ownIx_mem q
        have hi : i < ρ.length := by
          have := (List.getElem?_eq_some_iff.mp h1).1
          rw [wb_len] at this
          exact this
        have hown : ∃ a, as i = some a := ar.own_at e
        obtain ⟨a, ha⟩ := hown
        have hadr : adrs as xs j = some a := by unfold adrs; rw [e]; exact ha
        obtain ⟨ds, ys, e1, e2, e3⟩ := ow j a hadr
        rw [wb_own ρ hi nd e e1] at h1
        cases h1
        obtain ⟨_, _, _, e4, _⟩ := E.is_own ha
        rw [e4] at h2
        cases h2
        rw [ha]
        exact .own e2 (e3.mono (s2 H'))
      · rw [wb_other ρ xs out q] at h1
        refine (E.at_ i sl o h1 h2).mono (hp_fr fr' own_hid) fun b hb => ?_
        obtain ⟨_, _, _, _, e, _⟩ := E.is_own hb
        rw [e]
        refine fr _ _ (fun z => ?_) e
        rcases z with ⟨j, z⟩ | z
        rotate_left
        · exact E.tab.no e z
        obtain ⟨i', e', h'⟩ := adrs_own z
        rw [E.inj i' i b h' hb] at e'
        exact q (mem_ownIx e')
    · exact E.occ' fr' tb h
theorem re_call {m : Nat} {F : FN} {dvs : List V} {dv : List PyData} {E0 : XK} {t : TA} {f : FC} (hd : ∀ H, DqAll K H dvs dv) (ha : RC K J t f) : RE K J (tCall (spF K m F) dvs E0 t) (fCall m F dv f) := by
  intro O as σ H Q ρ P E q k
  refine ha O as σ H _ ρ _ E q fun xs ρ1 vs H1 q1 f1 E1 d1 => ?_
  obtain ⟨hm, nd, q1⟩ := q1
  obtain ⟨r, fit, q1⟩ := argF_of q1
  refine call_core (xs := xs ++ dv.map .dat) E1 (fit.app (fits_dat dv)) (d1.app (dat_ars (hd _))) (by rw [List.length_append, List.length_map]; exact hm) (by rw [ownIx_app]; exact nd) ?_ fun d ρ' v H' p fr E' q' => k d ρ' v H' p (f1.trans fr) E' q'
  · simp only [wb_app]
    exact q1
/-! own lists -/
def ownF (ρ : En) (i : Nat) (k : List PyData → Prop) : Prop := match ρ[i]? with
  | some (.own ds) => k ds
  | _ => False
theorem ownF_of {ρ : En} {i : Nat} {k : List PyData → Prop} (h : ownF ρ i k) : ∃ ds, ρ[i]? = some (.own ds) ∧ k ds := by
  unfold ownF at h
  split at h
  · next ds e => exact ⟨ds, e, h⟩
  · exact h.elim
theorem DqAll.atI {G : Hp} {xs : List V} {ds : List PyData} {k : Int} {d : PyData} (r : DqAll K G xs ds) (h : L2.atI ds k = some d) : ∃ v, L2.atI xs k = some v ∧ Dq K G v d := by
  unfold L2.atI at h ⊢
  rw [r.length]
  cases e : ixN ds.length k with
  | none => rw [e] at h; cases h
  | some j =>
    rw [e] at h
    exact r.got h
def fIxO (i : Nat) (b : FE) : FE := fun ρ P => ownF ρ i fun _ => b ρ fun x ρ1 => intF x fun k => ownF ρ1 i fun ds => ∃ d, atI ds k = some d ∧ P d ρ1
theorem re_ixO {i : Nat} {tb : TE} {b : FE} (hb : RE K J tb b) : RE K J (tOp (rIxL K) (tVar i) tb) (fIxO i b) := by
  intro O as σ H Q ρ P E q k
  obtain ⟨ds0, h0, q⟩ := ownF_of q
  obtain ⟨a, xs0, e1, e2, _, _⟩ := E.own_at h0
  refine ⟨_, e1, ?_⟩
  refine hb O as σ H _ ρ _ E q fun x ρ1 v H1 q1 f1 E1 d1 => ?_
  unfold intF at q1
  split at q1
  · next z =>
    cases d1
    obtain ⟨ds, hds, d, hd, p⟩ := ownF_of q1
    obtain ⟨a', xs, e1', e2', e3, e4⟩ := E1.own_at hds
    rw [e2] at e2'
    cases e2'
    obtain ⟨v, hv, dv⟩ := e4.atI hd
    exact ⟨a, xs, z, v, rfl, rfl, SqL.of e3, hv, k d ρ1 v H1 p f1 E1 dv⟩
  · exact q1.elim
/-- len of an own list -/
def fLenO (i : Nat) : FE := fun ρ P => ownF ρ i fun ds => P (.int ds.length) ρ
theorem re_lenO {i : Nat} : RE K J (tCB (fun xs H Q => ∃ p ys, xs = [.ref p] ∧ (SqL K H p ys ∨ SqT K H p ys) ∧ Q (.int ys.length) H) (tCons (tVar i) tNil)) (fLenO i) := by
  intro O as σ H Q ρ P E q k
  obtain ⟨ds, h0, q⟩ := ownF_of q
  obtain ⟨a, xs, e1, e2, e3, e4⟩ := E.own_at h0
  refine ⟨_, e1, a, xs, rfl, .inl (SqL.of e3), ?_⟩
  rw [e4.length]
  exact k _ _ _ _ q (FrA.refl _ _) E (.int _)
def fLenOK (i : Nat) : FE := fLenO i
theorem re_lenOK {i : Nat} : RE K J (tCB (rLenK K) (tCons (tVar i) tNil)) (fLenO i) := re_lenO
/-- own.append(e) -/
def fAppend (i : Nat) (a : FE) : FS := fun E ρ => ownF ρ i fun _ => a ρ fun d ρ1 => ownF ρ1 i fun ds => ds.length < sizeLine ∧ E.nx (ρ1.set i (.own (ds ++ [d])))
theorem rs_append {i : Nat} {te : TE} {a : FE} (ha : RE K J te a) : RS K J (tDrop (tBM K "list" rAppend (tVar i) (tCons te tNil))) (fAppend i a) := by
  intro O as σ H D ρ E R f C
  obtain ⟨ds0, h0, f⟩ := ownF_of f
  obtain ⟨p, xs0, e1, e2, e3, _⟩ := R.own_at h0
  refine ⟨_, e1, .inl ⟨rfl, _, SqL.of e3⟩, ?_⟩
  refine ha O as σ H _ ρ _ R f fun d ρ1 v H1 q1 f1 E1 d1 => ?_
  obtain ⟨ds, hds, hl, q1⟩ := ownF_of q1
  obtain ⟨p', xs, e1', e2', e3', e4'⟩ := E1.own_at hds
  rw [e2] at e2'
  cases e2'
  refine ⟨p, xs, v, rfl, rfl, e3', by rw [e4'.length]; exact hl, ?_⟩
  refine C.nx _ _ _ _ q1 (.of (f1.trans fun b o nb e => ?_)) (E1.put e2 (e4'.append (.cons d1 .nil)))
  rw [upd_ne (fun z : b = p => nb (by rw [z]; exact .inl ⟨i, e2⟩))]
  exact e
/-- own[k] = e -/
def gSubO (i : Nat) (b : FE) : FG := fun d ρ P => ownF ρ i fun _ => b ρ fun x ρ1 => intF x fun k => ownF ρ1 i fun ds => ∃ j, ixN ds.length k = some j ∧ P (ρ1.set i (.own (ds.set j d)))
theorem rg_subO {i : Nat} {ti : TE} {b : FE} (hb : RE K J ti b) : RG K J [] (gSub (tVar i) ti rSetL) (gSubO i b) := by
  intro O as σ H R ρ P v d E q f k
  obtain ⟨ds0, h0, f⟩ := ownF_of f
  obtain ⟨p, xs0, e1, e2, e3, _⟩ := E.own_at h0
  refine ⟨_, e1, ?_⟩
  refine hb O as σ H _ ρ _ E f fun x ρ1 w H1 q1 f1 E1 d1 => ?_
  unfold intF at q1
  split at q1
  · next z =>
    cases d1
    obtain ⟨ds, hds, j, hj, q1⟩ := ownF_of q1
    obtain ⟨p', xs, e1', e2', e3', e4'⟩ := E1.own_at hds
    rw [e2] at e2'
    cases e2'
    refine ⟨p, xs, z, j, rfl, rfl, e3', by rw [e4'.length]; exact hj, ?_⟩
    refine k _ _ _ q1 (f1.trans fun b o nb e => ?_) (E1.put e2 (e4'.set (q.fr f1) j)) ⟨rfl, fun _ _ => rfl⟩
    rw [upd_ne (fun z : b = p => nb (by rw [z]; exact .inl ⟨i, e2⟩))]
    exact e
  · exact q1.elim
/-! the def -/
def fnF (n m : Nat) (b : FS) : FN := fun sls P => b { nx := fun ρ' => P .none (ρ'.take n), rt := fun d ρ' => P d (ρ'.take n) } (sls ++ List.replicate (m - n) .no)
theorem EnR.start {n : Nat} {n' : Nat} {J : Jv n'} {O : Addr → Prop} {as : Nat → Option Addr} {H : Hp} {ρ : En} {vs : List V} (N : List Str) (E : EnR K J O as H ρ (vs.map some)) (hv : vs.length = n) : EnR K J O as H (ρ ++ List.replicate (N.length - n) .no) (L2.start N vs) := by
  have hl : ρ.length = n := by have := E.len; rw [List.length_map] at this; omega
  refine ⟨by rw [L2.start, List.length_append, List.length_append, List.length_replicate, List.length_replicate, E.len, hv], fun i sl o h1 h2 => ?_, E.inj, E.out, fun i a h => by have := E.bnd i a h; rw [List.length_append]; omega, E.occ, E.inv, E.inq, E.tab⟩
  by_cases q : i < n
  · rw [List.getElem?_append_left (by omega)] at h1
    rw [L2.start, List.getElem?_append_left (by rw [List.length_map]; omega)] at h2
    exact E.at_ i sl o h1 h2
  · rw [List.getElem?_append_right (by omega), List.getElem?_replicate] at h1
    split at h1
    · cases h1
      have : as i = none := by
        cases e : as i with
        | none => rfl
        | some a => have := E.bnd i a e; omega
      rw [this]
      exact .no
    · cases h1
theorem fn_core {ps : List Str} {N : List Str} {b : FS} {t : TS} (rs : ∀ J : Jv ps.length, RS K J t b) {vs : List V} {H : Hp} {Q : VK} {E : XK} (h : spF K ps.length (fnF ps.length N.length b) vs H Q E) : t { nx := fun _ H' => Q .non H', rt := Q } (L2.start N vs) H := by
  obtain ⟨hv, O, as, ρ, P, R, hF, q⟩ := h
  have own : ∀ {ρ' : En} {as' : Nat → Option Addr} {σ' : L2.St} {H' : Hp}, Ext ps.length as as' H H' → EnR K (J0 : Jv ps.length) O as' H' ρ' σ' → ∀ i a, as i = some a → ∃ ds xs, (ρ'.take ps.length)[i]? = some (.own ds) ∧ H' a = some (.lst xs) ∧ DqAll K (hp (Hid O as) H') xs ds := by
    intro ρ' as' σ' H' x R' i a h
    have hi : i < ps.length := by have := R.bnd i a h; have := R.len; rw [List.length_map] at this; omega
    have h' : as' i = some a := by rw [x.fix i hi]; exact h
    obtain ⟨ds, xs, e1, _, e3, e4⟩ := R'.is_own h'
    refine ⟨ds, xs, by rw [List.getElem?_take, if_pos hi]; exact e1, e3, e4.mono ?_⟩
    refine hp_less fun c hc => ?_
    rcases hc with hc | ⟨j, hc⟩ | hc
    · exact .inl hc
    rotate_left
    · exact .inr (.inr hc)
    · have hj : j < ps.length := by have := R.bnd j c hc; have := R.len; rw [List.length_map] at this; omega
      exact .inr (.inl ⟨j, by rw [x.fix j hj]; exact hc⟩)
  have less : ∀ {as' : Nat → Option Addr} {H' : Hp}, Ext ps.length as as' H H' → (∀ i a, as i = some a → i < ps.length) → Same (hp (Hid O as') H') (hp (Hid O as) H') := by
    intro as' H' x hb
    refine hp_less fun c hc => ?_
    rcases hc with hc | ⟨j, hc⟩ | hc
    · exact .inl hc
    · exact .inr (.inl ⟨j, by rw [x.fix j (hb j c hc)]; exact hc⟩)
    · exact .inr (.inr hc)
  have hb : ∀ i a, as i = some a → i < ps.length := fun i a h => by have := R.bnd i a h; have := R.len; rw [List.length_map] at this; omega
  refine rs J0 O as _ H _ _ _ ((R.start N hv).reJ trivial trivial) hF ⟨fun ρ' as' σ' H' p x R' => ?_, fun d ρ' v as' σ' H' p x R' dv => ?_, fun _ _ _ _ p => p.elim, fun _ _ _ _ p => p.elim, fun _ _ _ _ _ _ _ p => p.elim⟩
  · exact q _ _ _ _ p x.fr R'.tab (own x R') .non
  · exact q _ _ _ _ p x.fr R'.tab (own x R') (dv.mono (less x hb))
section
variable {P : Program} {w : World} {mg : Str → Option Value} {base : Heap} {k : Nat} {f : Addr} {fd : FuncData} {ps : List Str} {x qual : Str} {st : Stmt} {N : List Str} {b : FS}
theorem okF (F : Fun K x qual st f fd) (S : FnScope N ps (defScope st))
    (body : ∀ (cdv : Value) (A : Around) (outer : List Env) (s : Shared) (H : Hp) (E : XK), Room k (A.deeper (envOfC qual (defScope st) s.heap.objs.size f cdv)) →
      (A.deeper (envOfC qual (defScope st) s.heap.objs.size f cdv)).guards = some [] →
      ∃ t, PSs (cxOf CX0 P w K mg base N qual (defScope st) f cdv A outer s H E).nox (defBody st) t ∧ ∀ J : Jv ps.length, RS K J t b) :
    FnG P w K mg base (k + 1) f fd ps (spF K ps.length (fnF ps.length N.length b)) := by
  refine okG F S (fun vs H Q E h => h.1) (fun cdv A outer s H vs Q E hr hg h => ?_)
  obtain ⟨t, pt, rs⟩ := body cdv A outer s H E hr hg
  exact ⟨t, pt, fn_core rs h⟩
/-- without repr -/
theorem okF0 (F : Fun K x qual st f fd) (S : FnScope N ps (defScope st))
    (body : ∀ (cdv : Value) (A : Around) (outer : List Env) (s : Shared) (H : Hp) (E : XK), Room k (A.deeper (envOfC qual (defScope st) s.heap.objs.size f cdv)) →
      ∃ t, PSs (cxOf CX0 P w K mg base N qual (defScope st) f cdv A outer s H E).nox (defBody st) t ∧ ∀ J : Jv ps.length, RS K J t b) :
    FnOk P w K mg base CX0 (k + 1) f fd ps (spF K ps.length (fnF ps.length N.length b)) := by
  refine F.ok S (fun vs H Q E h => h.1) (fun cdv A outer s H vs Q E hr h => ?_)
  obtain ⟨t, pt, rs⟩ := body cdv A outer s H E hr
  exact ⟨t, pt, fn_core rs h⟩
/-- with defaults -/
theorem okFD {params : Arguments} {bd : List Stmt} {scope : Scope} {dvs : List V} {kws : List (Str × V)} (F : FunD K x qual params bd scope dvs kws f fd) (S : FnScope N ps scope)
    (body : ∀ (cdv : Value) (A : Around) (outer : List Env) (s : Shared) (H : Hp) (E : XK), Room k (A.deeper (envOfC qual scope s.heap.objs.size f cdv)) →
      ∃ t, PSs (cxOf CX0 P w K mg base N qual scope f cdv A outer s H E).nox bd t ∧ ∀ J : Jv ps.length, RS K J t b) :
    FnOk P w K mg base CX0 (k + 1) f fd ps (spF K ps.length (fnF ps.length N.length b)) := by
  refine okD F S (fun vs H Q E h => h.1) (fun cdv A outer s H vs Q E hr h => ?_)
  obtain ⟨t, pt, rs⟩ := body cdv A outer s H E hr
  exact ⟨t, pt, fn_core rs h⟩
end
end
end DL
/-! operators and built-in calls over data -/
namespace DL
open PySem L2 Z PySem.Spec PyProof.Rows
variable [Tbs]
abbrev G2 := PyData → PyData → (PyData → Prop) → Prop
section
variable {K : PySem.W.Frag} {n : Nat} {J : Jv n}
def o2 (h : Int → Int → PyData) : G2 := fun a b P => match a, b with
  | .int i, .int j => P (h i j)
  | _, _ => False
def o2c (C : Int → Int → Prop) (h : Int → Int → PyData) : G2 := fun a b P => match a, b with
  | .int i, .int j => C i j ∧ P (h i j)
  | _, _ => False
theorem rr_i0 {h : Int → Int → V} {h' : Int → Int → PyData} (e : ∀ i j H, Dq K H (h i j) (h' i j)) : RR K (rI0 h) (o2 h') := by
  intro A H Q x y a b P oc da db g k
  unfold o2 at g
  split at g
  · cases da; cases db; exact ⟨_, _, rfl, rfl, k _ _ _ g (Same.refl _) (e _ _ _)⟩
  · exact g.elim
theorem rr_ic {C : Int → Int → Prop} {h : Int → Int → V} {h' : Int → Int → PyData} (e : ∀ i j H, Dq K H (h i j) (h' i j)) : RR K (rI C h) (o2c C h') := by
  intro A H Q x y a b P oc da db g k
  unfold o2c at g
  split at g
  · cases da; cases db; exact ⟨_, _, rfl, rfl, g.1, k _ _ _ g.2 (Same.refl _) (e _ _ _)⟩
  · exact g.elim
abbrev oAdd : G2 := o2 fun i j => .int (i + j)
abbrev oSub : G2 := o2 fun i j => .int (i - j)
abbrev oMul : G2 := o2c CMul fun i j => .int (i * j)
abbrev oDiv : G2 := o2c CDiv fun i j => .int (i / j)
abbrev oMod : G2 := o2c (fun _ j => 0 < j) fun i j => .int (i % j)
abbrev oPow : G2 := o2c CPow fun i j => .int (i ^ j.toNat)
abbrev oShl : G2 := o2c CPow fun i j => .int (i * 2 ^ j.toNat)
abbrev oShr : G2 := o2c (fun _ j => 0 ≤ j) fun i j => .int (i / 2 ^ j.toNat)
abbrev oBAnd : G2 := o2 fun i j => .int (Builtin.bitAnd i j)
abbrev oBOr : G2 := o2 fun i j => .int (Builtin.bitOr i j)
abbrev oLt : G2 := o2 fun i j => .bool (decide (i < j))
abbrev oLe : G2 := o2 fun i j => .bool (decide (i ≤ j))
abbrev oGt : G2 := o2 fun i j => .bool (decide (j < i))
abbrev oGe : G2 := o2 fun i j => .bool (decide (j ≤ i))
theorem rr_add : RR K (rI0 fun i j => .int (i + j)) oAdd := rr_i0 fun _ _ _ => .int _
theorem rr_sub : RR K (rI0 fun i j => .int (i - j)) oSub := rr_i0 fun _ _ _ => .int _
theorem rr_mul : RR K (rI CMul fun i j => .int (i * j)) oMul := rr_ic fun _ _ _ => .int _
theorem rr_fdiv : RR K (rI CDiv fun i j => .int (i / j)) oDiv := rr_ic fun _ _ _ => .int _
theorem rr_mod : RR K (rI (fun _ j => 0 < j) fun i j => .int (i % j)) oMod := rr_ic fun _ _ _ => .int _
theorem rr_pow : RR K (rI CPow fun i j => .int (i ^ j.toNat)) oPow := rr_ic fun _ _ _ => .int _
theorem rr_shl : RR K (rI CPow fun i j => .int (i * 2 ^ j.toNat)) oShl := rr_ic fun _ _ _ => .int _
theorem rr_shr : RR K (rI (fun _ j => 0 ≤ j) fun i j => .int (i / 2 ^ j.toNat)) oShr := rr_ic fun _ _ _ => .int _
theorem rr_and : RR K (rI0 fun i j => .int (Builtin.bitAnd i j)) oBAnd := rr_i0 fun _ _ _ => .int _
theorem rr_or : RR K (rI0 fun i j => .int (Builtin.bitOr i j)) oBOr := rr_i0 fun _ _ _ => .int _
theorem rr_lt : RR K (rI0 fun i j => .bl (decide (i < j))) oLt := rr_i0 fun _ _ _ => .bl _
theorem rr_le : RR K (rI0 fun i j => .bl (decide (i ≤ j))) oLe := rr_i0 fun _ _ _ => .bl _
theorem rr_gt : RR K (rI0 fun i j => .bl (decide (j < i))) oGt := rr_i0 fun _ _ _ => .bl _
theorem rr_ge : RR K (rI0 fun i j => .bl (decide (j ≤ i))) oGe := rr_i0 fun _ _ _ => .bl _
def oStr (C : Str → Str → Prop) (h : Str → Str → PyData) : G2 := fun a b P => match a, b with
  | .str i, .str j => C i j ∧ P (h i j)
  | _, _ => False
abbrev oAddS : G2 := oStr (fun i j => i.length + j.length ≤ sizeLine) fun i j => .str (i ++ j)
theorem rr_add_str : RR K (fun x y H Q => ∃ i j, x = .str i ∧ y = .str j ∧ i.length + j.length ≤ sizeLine ∧ Q (.str (i ++ j)) H) oAddS := by
  intro A H Q x y a b P oc da db g k
  unfold oAddS oStr at g
  split at g
  · cases da; cases db; exact ⟨_, _, rfl, rfl, g.1, k _ _ _ g.2 (Same.refl _) (.str _)⟩
  · exact g.elim
abbrev oLtS : G2 := oStr (fun _ _ => True) fun i j => .bool (decide (i.cps.toList < j.cps.toList))
theorem rr_lt_str : RR K (fun x y H Q => ∃ i j, x = .str i ∧ y = .str j ∧ Q (.bl (decide (i.cps.toList < j.cps.toList))) H) oLtS := by
  intro A H Q x y a b P oc da db g k
  unfold oLtS oStr at g
  split at g
  · cases da; cases db; exact ⟨_, _, rfl, rfl, k _ _ _ g.2 (Same.refl _) (.bl _)⟩
  · exact g.elim
/-- == of plain things -/
def oEqB (h : Bool → Bool) : G2 := fun a b P => match a, b with
  | .int i, .int j => P (.bool (h (decide (i = j))))
  | .str i, .str j => P (.bool (h (decide (i = j))))
  | .bool i, .bool j => P (.bool (h (decide (i = j))))
  | .none, .none => P (.bool (h true))
  | .none, .int _ => P (.bool (h false))
  | .int _, .none => P (.bool (h false))
  | .none, .str _ => P (.bool (h false))
  | .str _, .none => P (.bool (h false))
  | .none, .bool _ => P (.bool (h false))
  | .bool _, .none => P (.bool (h false))
  | .int _, .str _ => P (.bool (h false))
  | .str _, .int _ => P (.bool (h false))
  | _, _ => False
abbrev oEq : G2 := oEqB id
abbrev oNe : G2 := oEqB not
theorem dec_int {i j : Int} : decide (V.int i = V.int j) = decide (i = j) := by by_cases h : i = j <;> simp [h]
theorem dec_str {i j : Str} : decide (V.str i = V.str j) = decide (i = j) := by by_cases h : i = j <;> simp [h]
theorem dec_bl {i j : Bool} : decide (V.bl i = V.bl j) = decide (i = j) := by by_cases h : i = j <;> simp [h]
theorem rr_eq : RR K rEq oEq := by
  intro A H Q x y a b P oc da db g k
  unfold oEq oEqB at g
  split at g
  · cases da; cases db; refine ⟨rfl, ?_⟩; rw [dec_int]; exact k _ _ _ g (Same.refl _) (.bl _)
  · cases da; cases db; refine ⟨rfl, ?_⟩; rw [dec_str]; exact k _ _ _ g (Same.refl _) (.bl _)
  · cases da; cases db; refine ⟨rfl, ?_⟩; rw [dec_bl]; exact k _ _ _ g (Same.refl _) (.bl _)
  all_goals first | (exact g.elim) | (cases da; cases db; exact ⟨rfl, k _ _ _ g (Same.refl _) (.bl _)⟩)
theorem rr_ne : RR K rNe oNe := by
  intro A H Q x y a b P oc da db g k
  unfold oNe oEqB at g
  split at g
  · cases da; cases db; refine ⟨rfl, ?_⟩; rw [dec_int]; exact k _ _ _ g (Same.refl _) (.bl _)
  · cases da; cases db; refine ⟨rfl, ?_⟩; rw [dec_str]; exact k _ _ _ g (Same.refl _) (.bl _)
  · cases da; cases db; refine ⟨rfl, ?_⟩; rw [dec_bl]; exact k _ _ _ g (Same.refl _) (.bl _)
  all_goals first | (exact g.elim) | (cases da; cases db; exact ⟨rfl, k _ _ _ g (Same.refl _) (.bl _)⟩)
/-- == of data -/
def oEqD : G2 := fun a b P => SeqAt.shaped a = true ∧ SeqAt.shaped b = true ∧ P (.bool (PyData.eqv a b))
def oNeD : G2 := fun a b P => SeqAt.shaped a = true ∧ SeqAt.shaped b = true ∧ P (.bool (!PyData.eqv a b))
theorem rr_eqD : RR K (rEqD K) oEqD := fun A H Q x y a b P oc da db g k => ⟨a, b, Dp.mono hp_same (da.dp (plain_of g.1)), Dp.mono hp_same (db.dp (plain_of g.2.1)), g.1, g.2.1, k _ _ _ g.2.2 (Same.refl _) (.bl _)⟩
theorem rr_neD : RR K (rNeD K) oNeD := fun A H Q x y a b P oc da db g k => ⟨a, b, Dp.mono hp_same (da.dp (plain_of g.1)), Dp.mono hp_same (db.dp (plain_of g.2.1)), g.1, g.2.1, k _ _ _ g.2.2 (Same.refl _) (.bl _)⟩
def isNone : PyData → Bool
  | .none => true
  | _ => false
def oIsB (h : Bool → Bool) : G2 := fun a b P => match b with
  | .none => P (.bool (h (isNone a)))
  | _ => False
abbrev oIs : G2 := oIsB id
abbrev oIsnt : G2 := oIsB not
theorem isNone_of {H : Hp} {x : V} {a : PyData} (d : Dq K H x a) : decide (x = .non) = isNone a := by cases d <;> rfl
theorem rr_isN : RR K (fun x y H Q => y = .non ∧ Q (.bl (decide (x = .non))) H) oIs := by
  intro A H Q x y a b P oc da db g k
  unfold oIs oIsB at g
  split at g
  · cases db; refine ⟨rfl, ?_⟩; rw [isNone_of da]; exact k _ _ _ g (Same.refl _) (.bl _)
  · exact g.elim
theorem rr_notN : RR K (fun x y H Q => y = .non ∧ Q (.bl (!decide (x = .non))) H) oIsnt := by
  intro A H Q x y a b P oc da db g k
  unfold oIsnt oIsB at g
  split at g
  · cases db; refine ⟨rfl, ?_⟩; rw [isNone_of da]; exact k _ _ _ g (Same.refl _) (.bl _)
  · exact g.elim
/-- a sign in a text -/
def oInSB (h : Bool → Bool) : G2 := fun a b P => match a, b with
  | .str s, .str z => ∃ c, s = ⟨#[c]⟩ ∧ P (.bool (h (decide (c ∈ z.cps.toList))))
  | _, _ => False
abbrev oInS : G2 := oInSB id
abbrev oNinS : G2 := oInSB not
theorem rr_in_sign : RR K (fun x y H Q => ∃ (c : Nat) (z : Str), x = .str ⟨#[c]⟩ ∧ y = .str z ∧ Q (.bl (decide (c ∈ z.cps.toList))) H) oInS := by
  intro A H Q x y a b P oc da db g k
  unfold oInS oInSB at g
  split at g
  · cases da; cases db; obtain ⟨c, rfl, g⟩ := g; exact ⟨_, _, rfl, rfl, k _ _ _ g (Same.refl _) (.bl _)⟩
  · exact g.elim
theorem rr_notIn_sign : RR K (fun x y H Q => ∃ (c : Nat) (z : Str), x = .str ⟨#[c]⟩ ∧ y = .str z ∧ Q (.bl (!decide (c ∈ z.cps.toList))) H) oNinS := by
  intro A H Q x y a b P oc da db g k
  unfold oNinS oInSB at g
  split at g
  · cases da; cases db; obtain ⟨c, rfl, g⟩ := g; exact ⟨_, _, rfl, rfl, k _ _ _ g (Same.refl _) (.bl _)⟩
  · exact g.elim
def flatD : PyData → Bool
  | .none => true
  | .bool _ => true
  | .int _ => true
  | .str _ => true
  | _ => false
theorem flat_of {H : Hp} {x : V} {a : PyData} (d : Dq K H x a) (h : flatD a = true) : flatV x = true := by
  cases d <;> first | rfl | cases h
theorem eqV_of {H : Hp} {x y : V} {a b : PyData} (d : Dq K H x a) (e : Dq K H y b) (h : flatD a = true) (h' : flatD b = true) : eqV x y = PyData.eqv a b := by
  cases d <;> first | (cases h; done) | (cases e <;> first | (cases h'; done) | (unfold PyData.eqv; rfl))
theorem flats_of {H : Hp} : ∀ {xs : List V} {ds : List PyData}, DqAll K H xs ds → ds.all flatD = true → xs.all flatV = true
  | _, _, .nil, _ => rfl
  | _, _, .cons a b, h => by
    have h' := Bool.and_eq_true_iff.mp h
    exact Bool.and_eq_true_iff.mpr ⟨flat_of a h'.1, flats_of b h'.2⟩
def inD (a : PyData) (ds : List PyData) : Bool := ds.any fun y => PyData.eqv y a
theorem in_of {H : Hp} {x : V} {a : PyData} (d : Dq K H x a) (h : flatD a = true) : ∀ {xs : List V} {ds : List PyData}, DqAll K H xs ds → ds.all flatD = true → inV x xs = inD a ds
  | _, _, .nil, _ => rfl
  | _, _, .cons e b, h' => by
    have h' := Bool.and_eq_true_iff.mp h'
    show (eqV _ x || inV x _) = (PyData.eqv _ a || inD a _)
    rw [eqV_of e d h'.1 h, in_of d h b h'.2]
def seqF (a : PyData) (k : List PyData → Prop) : Prop := match a with
  | .list ds => k ds
  | .tuple ds => k ds
  | _ => False
def oIn (neg : Bool) : G2 := fun a b P => seqF b fun ds => flatD a = true ∧ ds.all flatD = true ∧ P (.bool (if neg then !inD a ds else inD a ds))
theorem seqF_of {A : Addr → Prop} {H : Hp} {x : V} {a : PyData} {k : List PyData → Prop} (d : Dq K (hp A H) x a) (h : seqF a k) : ∃ p xs ds, x = .ref p ∧ (SqL K H p xs ∨ SqT K H p xs) ∧ DqAll K (hp A H) xs ds ∧ k ds := by
  unfold seqF at h
  split at h
  · obtain ⟨p, xs, rfl, s, r⟩ := d.list_of
    exact ⟨p, xs, _, rfl, .inl (SqL.mono hp_same s), r, h⟩
  · obtain ⟨p, xs, rfl, s, r⟩ := d.tuple_of
    exact ⟨p, xs, _, rfl, .inr (SqT.mono hp_same s), r, h⟩
  · exact h.elim
theorem rr_in {neg : Bool} : RR K (rIn K neg) (oIn neg) := by
  intro A H Q x y a b P oc da db g k
  obtain ⟨p, xs, ds, rfl, s, r, h1, h2, g⟩ := seqF_of db g
  refine ⟨p, xs, rfl, s, flat_of da h1, flats_of r h2, ?_⟩
  rw [in_of da h1 r h2]
  exact k _ _ _ g (Same.refl _) (.bl _)
/-- x in own -/
def fInO (neg : Bool) (i : Nat) (a : FE) : FE := fun ρ P => a ρ fun x ρ1 => ownF ρ1 i fun ds => flatD x = true ∧ ds.all flatD = true ∧ P (.bool (if neg then !inD x ds else inD x ds)) ρ1
theorem re_inO {neg : Bool} {i : Nat} {ta : TE} {a : FE} (ha : RE K J ta a) : RE K J (tOp (rIn K neg) ta (tVar i)) (fInO neg i a) := by
  intro O as σ H Q ρ P E q k
  refine ha O as σ H _ ρ _ E q fun x ρ1 v H1 q1 f1 E1 d1 => ?_
  obtain ⟨ds, hds, h1, h2, q1⟩ := ownF_of q1
  obtain ⟨p, xs, e1, e2, e3, e4⟩ := E1.own_at hds
  refine ⟨_, e1, p, xs, rfl, .inl (SqL.of e3), flat_of d1 h1, flats_of e4 h2, ?_⟩
  rw [in_of d1 h1 e4 h2]
  exact k _ _ _ _ q1 f1 E1 (.bl _)
/-! places -/
def oIxL : G2 := fun a b P => match a, b with
  | .list ds, .int k => ∃ d, atI ds k = some d ∧ P d
  | _, _ => False
def oIxT : G2 := fun a b P => match a, b with
  | .tuple ds, .int k => ∃ d, atI ds k = some d ∧ P d
  | _, _ => False
def oIxS : G2 := fun a b P => match a, b with
  | .str z, .int k => z.length ≤ sizeLine ∧ ∃ c, atI z.cps.toList k = some c ∧ P (.str ⟨#[c]⟩)
  | _, _ => False
theorem rr_ixL : RR K (rIxL K) oIxL := by
  intro A H Q x y a b P oc da db g k
  unfold oIxL at g
  split at g
  · cases db
    obtain ⟨p, xs, rfl, s, r⟩ := da.list_of
    obtain ⟨d, hd, g⟩ := g
    obtain ⟨v, hv, dv⟩ := r.atI hd
    exact ⟨p, xs, _, v, rfl, rfl, SqL.mono hp_same s, hv, k _ _ _ g (Same.refl _) dv⟩
  · exact g.elim
theorem rr_ixT : RR K (rIxT K) oIxT := by
  intro A H Q x y a b P oc da db g k
  unfold oIxT at g
  split at g
  · cases db
    obtain ⟨p, xs, rfl, s, r⟩ := da.tuple_of
    obtain ⟨d, hd, g⟩ := g
    obtain ⟨v, hv, dv⟩ := r.atI hd
    exact ⟨p, xs, _, v, rfl, rfl, SqT.mono hp_same s, hv, k _ _ _ g (Same.refl _) dv⟩
  · exact g.elim
theorem rr_ixS : RR K rIxS oIxS := by
  intro A H Q x y a b P oc da db g k
  unfold oIxS at g
  split at g
  · cases da; cases db
    obtain ⟨hz, c, hc, g⟩ := g
    exact ⟨_, _, c, rfl, rfl, hz, hc, k _ _ _ g (Same.refl _) (.str _)⟩
  · exact g.elim
def oIx : G2 := fun a b P => match a, b with
  | .list ds, .int k => ∃ d, atI ds k = some d ∧ P d
  | .tuple ds, .int k => ∃ d, atI ds k = some d ∧ P d
  | .str z, .int k => z.length ≤ sizeLine ∧ ∃ c, atI z.cps.toList k = some c ∧ P (.str ⟨#[c]⟩)
  | _, _ => False
theorem rr_ix : RR K (rIx K) oIx := by
  intro A H Q x y a b P oc da db g k
  unfold oIx at g
  split at g
  · exact .inl (rr_ixL A H Q x y _ _ P oc da db g k)
  · exact .inr (.inl (rr_ixT A H Q x y _ _ P oc da db g k))
  · exact .inr (.inr (rr_ixS A H Q x y _ _ P oc da db g k))
  · exact g.elim
/-! slices -/
abbrev FO := En → (Option Int → En → Prop) → Prop
def RO (K : PySem.W.Frag) {n : Nat} (J : Jv n) (t : TO) (f : FO) : Prop := ∀ (O : Addr → Prop) (as : Nat → Option Addr) (σ : L2.St) (H : Hp) (Q : Option Int → Hp → Prop) (ρ : En) (P : Option Int → En → Prop), EnR K J O as H ρ σ → f ρ P →
  (∀ o ρ' H', P o ρ' → FrA (Own as) H H' → EnR K J O as H' ρ' σ → Q o H') → t σ H Q
def pNo : FO := fun ρ P => P none ρ
def pSo (a : FE) : FO := fun ρ P => a ρ fun d ρ1 => intF d fun i => P (some i) ρ1
theorem ro_no : RO K J tNoPart pNo := fun O as σ H Q ρ P E f k => k none ρ H f (FrA.refl _ _) E
theorem ro_so {t : TE} {a : FE} (ha : RE K J t a) : RO K J (tPart t) (pSo a) := by
  intro O as σ H Q ρ P E q k
  refine ha O as σ H _ ρ _ E q fun d ρ1 v H1 q1 f1 E1 d1 => ?_
  unfold intF at q1
  split at q1
  · cases d1; exact ⟨_, rfl, k _ _ _ q1 f1 E1⟩
  · exact q1.elim
def RL (K : PySem.W.Frag) (r : V → Option Int → Option Int → Hp → VK → Prop) (g : PyData → Option Int → Option Int → (PyData → Prop) → Prop) : Prop := ∀ (A : Addr → Prop) (H : Hp) (Q : VK) (x : V) (a : PyData) (lo hi : Option Int) (P : PyData → Prop), (∀ c, A c → H c ≠ none) →
  Dq K (hp A H) x a → g a lo hi P → (∀ d v H', P d → Same H H' → Dq K (hp A H') v d → Q v H') → r x lo hi H Q
def fSl (g : PyData → Option Int → Option Int → (PyData → Prop) → Prop) (a : FE) (lo hi : FO) : FE := fun ρ P => a ρ fun x ρ1 => lo ρ1 fun l ρ2 => hi ρ2 fun u ρ3 => g x l u fun d => P d ρ3
theorem re_sl {r : V → Option Int → Option Int → Hp → VK → Prop} {g : PyData → Option Int → Option Int → (PyData → Prop) → Prop} {te : TE} {tl th : TO} {a : FE} {lo hi : FO} (hr : RL K r g) (ha : RE K J te a) (hl : RO K J tl lo) (hh : RO K J th hi) : RE K J (tSl r te tl th) (fSl g a lo hi) := by
  intro O as σ H Q ρ P E q k
  refine ha O as σ H _ ρ _ E q fun x ρ1 v H1 q1 f1 E1 d1 => ?_
  refine hl O as σ H1 _ ρ1 _ E1 q1 fun l ρ2 H2 q2 f2 E2 => ?_
  refine hh O as σ H2 _ ρ2 _ E2 q2 fun u ρ3 H3 q3 f3 E3 => ?_
  refine hr (Hid O as) H3 _ v x l u _ (fun c h => E3.full h) ((d1.fr f2).fr f3) q3 fun d w H4 p s4 d4 => ?_
  exact k _ _ _ _ p (((f1.trans f2).trans f3).trans (FrA.of s4)) (E3.grow s4) d4
def cutD (xs : List PyData) (lo hi : Option Int) : List PyData := (xs.drop (HT.sIx xs.length 0 lo)).take (HT.sIx xs.length xs.length hi - HT.sIx xs.length 0 lo)
theorem DqAll.cut {G : Hp} {xs : List V} {ds : List PyData} (r : DqAll K G xs ds) (lo hi : Option Int) : DqAll K G (cutV xs lo hi) (cutD ds lo hi) := by
  unfold cutV cutD
  rw [r.length]
  exact (r.drop _).take _
def sL : PyData → Option Int → Option Int → (PyData → Prop) → Prop := fun a lo hi P => listF a fun ds => P (.list (cutD ds lo hi))
def sT : PyData → Option Int → Option Int → (PyData → Prop) → Prop := fun a lo hi P => tupleF a fun ds => P (.tuple (cutD ds lo hi))
def sS : PyData → Option Int → Option Int → (PyData → Prop) → Prop := fun a lo hi P => strF a fun z => z.length ≤ sizeLine ∧ P (.str (cutS z lo hi))
theorem rl_list : RL K (rSlL K) sL := by
  intro A H Q x a lo hi P oc da g k
  unfold sL listF at g
  split at g
  · obtain ⟨p, xs, rfl, s, r⟩ := da.list_of
    refine ⟨p, xs, rfl, SqL.mono hp_same s, fun l hl => ?_⟩
    have sm := Same.new (o := .lst (cutV xs lo hi)) hl
    exact k _ _ _ g sm (.lst (SqL.of (hp_mk (fun q => oc _ q hl) upd_same)) ((r.mono (hp_grow sm)).cut lo hi))
  · exact g.elim
theorem rl_tupA : RL K (rSlA K) sT := by
  intro A H Q x a lo hi P oc da g k
  unfold sT tupleF at g
  split at g
  · obtain ⟨p, xs, rfl, s, r⟩ := da.tuple_of
    refine ⟨p, xs, rfl, SqT.mono hp_same s, fun e => ?_, fun _ l hl => ?_⟩
    · refine k _ _ _ g (Same.refl _) (.tup (xs := cutV xs lo hi) ?_ (r.cut lo hi))
      unfold cutV
      rw [e.1, e.2, List.drop_zero, Nat.sub_zero, List.take_length]
      exact s
    · have sm := Same.new (o := .tup (cutV xs lo hi)) hl
      exact k _ _ _ g sm (.tup (SqT.of (hp_mk (fun q => oc _ q hl) upd_same)) ((r.mono (hp_grow sm)).cut lo hi))
  · exact g.elim
theorem rl_str : RL K rSlS sS := by
  intro A H Q x a lo hi P oc da g k
  unfold sS strF at g
  split at g
  · cases da; exact ⟨_, rfl, g.1, k _ _ _ g.2 (Same.refl _) (.str _)⟩
  · exact g.elim
end
end DL
namespace DL
open PySem L2 Z PySem.Spec PyProof.Rows
variable [Tbs]
section
variable {K : PySem.W.Frag} {n : Nat} {J : Jv n}
/-- list + list, each tracked, frozen or of the module -/
def rCatK (K : PySem.W.Frag) : R2 := fun x y H Q => ∃ l b xs zs, x = .ref l ∧ y = .ref b ∧ SqL K H l xs ∧ SqL K H b zs ∧ xs.length + zs.length ≤ sizeLine ∧ ∀ p, H p = none → Q (.ref p) (upd H p (.lst (xs ++ zs)))
theorem op_catK {X : Cx} : OpR X (binaryOp .Add) (rCatK X.K) := by
  intro pins s σ H x y v u Q I rx ry h
  obtain ⟨l, b, xs, zs, rfl, rfl, hH, hB, hz, q⟩ := h
  cases rx
  cases ry
  obtain ⟨its, r, ⟨⟨c1, d1, e1, sl1⟩, n1, ho1, hc1, hd1, hs1⟩, z1⟩ := I.list hH
  obtain ⟨its2, r2, ⟨⟨c2, d2, e2, sl2⟩, n2, ho2, hc2, hd2, hs2⟩, z2⟩ := I.list hB
  simp only at hc1 hd1 hs1 hc2 hd2 hs2
  subst hc1 hd1 hs1 hc2 hd2 hs2
  have ea : its.toArray ++ its2.toArray = (its ++ its2).toArray := by simp
  have l1 := r.length
  have l2 := r2.length
  refine concat_meets ⟨_, ho1, rfl⟩ ⟨_, ho2, rfl⟩ noFill_list_add seq_list_add PySem.F.slot_list_add PySem.F.entry_list_add (PySem.F.args_list_add_2 _ _) (list_addW l b its.toArray its2.toArray n1 n2 none none sl1 sl2 (by simp; omega)) ⟨ho1, ho2, ?_⟩
  rw [ea]
  exact ⟨.ref _, _, I.lnew (t' := s.toks) (r.append r2) (by rw [List.length_append]; omega), rfl, q _ I.fresh⟩
def oCatL : G2 := fun a b P => match a, b with
  | .list xs, .list ys => xs.length + ys.length ≤ sizeLine ∧ P (.list (xs ++ ys))
  | _, _ => False
theorem rr_cat : RR K (rCatK K) oCatL := by
  intro A H Q x y a b P oc da db g k
  unfold oCatL at g
  split at g
  · obtain ⟨p, xs, rfl, s, r⟩ := da.list_of
    obtain ⟨p', xs', rfl, s', r'⟩ := db.list_of
    refine ⟨p, p', xs, xs', rfl, rfl, SqL.mono hp_same s, SqL.mono hp_same s', by rw [r.length, r'.length]; exact g.1, fun l hl => ?_⟩
    have sm := Same.new (o := .lst (xs ++ xs')) hl
    exact k _ _ _ g.2 sm (.lst (SqL.of (hp_mk (fun q => oc _ q hl) upd_same)) ((r.mono (hp_grow sm)).append (r'.mono (hp_grow sm))))
  · exact g.elim
def oCatT : G2 := fun a b P => match a, b with
  | .tuple xs, .tuple ys => xs.length + ys.length ≤ sizeLine ∧ P (.tuple (xs ++ ys))
  | _, _ => False
theorem rr_catA : RR K (rCatA K) oCatT := by
  intro A H Q x y a b P oc da db g k
  unfold oCatT at g
  split at g
  · obtain ⟨p, xs, rfl, s, r⟩ := da.tuple_of
    obtain ⟨p', xs', rfl, s', r'⟩ := db.tuple_of
    have rr := r.append r'
    refine ⟨p, p', xs, xs', rfl, rfl, SqT.mono hp_same s, SqT.mono hp_same s', by rw [r.length, r'.length]; exact g.1, fun e => ?_, fun _ e => ?_, fun _ _ l hl => ?_⟩
    · subst e
      exact k _ _ _ g.2 (Same.refl _) (.tup s' rr)
    · subst e
      rw [List.append_nil] at rr
      exact k _ _ _ g.2 (Same.refl _) (.tup s rr)
    · have sm := Same.new (o := .tup (xs ++ xs')) hl
      exact k _ _ _ g.2 sm (.tup (SqT.of (hp_mk (fun q => oc _ q hl) upd_same)) (rr.mono (hp_grow sm)))
  · exact g.elim
def uNeg (a : PyData) (P : PyData → Prop) : Prop := intF a fun i => P (.int (-i))
theorem ru_neg : RU K (rU fun i => .int (-i)) uNeg := by
  intro A H Q x a P oc da g k
  unfold uNeg intF at g
  split at g
  · cases da; exact ⟨_, rfl, k _ _ _ g (Same.refl _) (.int _)⟩
  · exact g.elim
/-! built-in calls -/
def one (ds : List PyData) (k : PyData → Prop) : Prop := match ds with
  | [d] => k d
  | _ => False
theorem one_of {G : Hp} {vs : List V} {ds : List PyData} {k : PyData → Prop} (r : DqAll K G vs ds) (h : one ds k) : ∃ v d, vs = [v] ∧ Dq K G v d ∧ k d := by
  unfold one at h
  split at h
  · cases r with
    | cons a b => cases b; exact ⟨_, _, rfl, a, h⟩
  · exact h.elim
def bLenS (ds : List PyData) (P : PyData → Prop) : Prop := one ds fun d => strF d fun z => z.length ≤ sizeLine ∧ P (.int z.length)
theorem rb_len_str : RB K (fun xs H Q => ∃ z, xs = [.str z] ∧ z.length ≤ sizeLine ∧ Q (.int z.length) H) bLenS := by
  intro A H Q xs ds P oc r g k
  obtain ⟨v, d, rfl, q, g⟩ := one_of r g
  unfold strF at g
  split at g
  · cases q; exact ⟨_, rfl, g.1, k _ _ _ g.2 (Same.refl _) (.int _)⟩
  · exact g.elim
def bLen (ds : List PyData) (P : PyData → Prop) : Prop := one ds fun d => seqF d fun es => P (.int es.length)
theorem rb_len : RB K (fun xs H Q => ∃ p ys, xs = [.ref p] ∧ (SqL K H p ys ∨ SqT K H p ys) ∧ Q (.int ys.length) H) bLen := by
  intro A H Q xs ds P oc r g k
  obtain ⟨v, d, rfl, q, g⟩ := one_of r g
  obtain ⟨p, xs, ds, rfl, s, r, g⟩ := seqF_of q g
  refine ⟨p, xs, rfl, s, ?_⟩
  rw [r.length]
  exact k _ _ _ g (Same.refl _) (.int _)
theorem rb_lenK : RB K (rLenK K) bLen := rb_len
def bAbs (ds : List PyData) (P : PyData → Prop) : Prop := one ds fun d => intF d fun i => P (.int (if i < 0 then -i else i))
theorem rb_abs : RB K (fun xs H Q => ∃ i, xs = [.int i] ∧ Q (.int (if i < 0 then -i else i)) H) bAbs := by
  intro A H Q xs ds P oc r g k
  obtain ⟨v, d, rfl, q, g⟩ := one_of r g
  unfold intF at g
  split at g
  · cases q; exact ⟨_, rfl, k _ _ _ g (Same.refl _) (.int _)⟩
  · exact g.elim
def two (ds : List PyData) (k : Int → Int → Prop) : Prop := match ds with
  | [.int i, .int j] => k i j
  | _ => False
theorem two_of {G : Hp} {vs : List V} {ds : List PyData} {k : Int → Int → Prop} (r : DqAll K G vs ds) (h : two ds k) : ∃ i j, vs = [.int i, .int j] ∧ k i j := by
  unfold two at h
  split at h
  · cases r with
    | cons a b => cases b with
      | cons c d => cases a; cases c; cases d; exact ⟨_, _, rfl, h⟩
  · exact h.elim
def bMin (ds : List PyData) (P : PyData → Prop) : Prop := two ds fun i j => P (.int (if j < i then j else i))
def bMax (ds : List PyData) (P : PyData → Prop) : Prop := two ds fun i j => P (.int (if j > i then j else i))
theorem rb_min2 : RB K (fun xs H Q => ∃ i j, xs = [.int i, .int j] ∧ Q (.int (if j < i then j else i)) H) bMin := by
  intro A H Q xs ds P oc r g k
  obtain ⟨i, j, rfl, g⟩ := two_of r g
  exact ⟨_, _, rfl, k _ _ _ g (Same.refl _) (.int _)⟩
theorem rb_max2 : RB K (fun xs H Q => ∃ i j, xs = [.int i, .int j] ∧ Q (.int (if j > i then j else i)) H) bMax := by
  intro A H Q xs ds P oc r g k
  obtain ⟨i, j, rfl, g⟩ := two_of r g
  exact ⟨_, _, rfl, k _ _ _ g (Same.refl _) (.int _)⟩
def bDivmod (ds : List PyData) (P : PyData → Prop) : Prop := two ds fun i j => CDiv i j ∧ P (.tuple [.int (i / j), .int (i % j)])
theorem rb_divmod : RB K (fun xs H Q => ∃ i j, xs = [.int i, .int j] ∧ CDiv i j ∧ ∀ p, H p = none → Q (.ref p) (upd H p (.tup [.int (i / j), .int (i % j)]))) bDivmod := by
  intro A H Q xs ds P oc r g k
  obtain ⟨i, j, rfl, g⟩ := two_of r g
  refine ⟨_, _, rfl, g.1, fun p hp1 => ?_⟩
  exact k _ _ _ g.2 (Same.new hp1) (.tup (SqT.of (hp_mk (fun q => oc _ q hp1) upd_same)) (.cons (.int _) (.cons (.int _) .nil)))
def boolsF : List PyData → (List Bool → Prop) → Prop
  | [], k => k []
  | .bool b :: r, k => boolsF r fun bs => k (b :: bs)
  | _ :: _, _ => False
theorem boolsF_of : ∀ {ds : List PyData} {k : List Bool → Prop}, boolsF ds k → ∃ bs : List Bool, ds = bs.map .bool ∧ k bs
  | [], k, h => ⟨[], rfl, h⟩
  | .bool b :: r, k, h => by
    obtain ⟨bs, e, h'⟩ := boolsF_of (ds := r) h
    exact ⟨b :: bs, by rw [e]; rfl, h'⟩
theorem boolsF_map {bs : List Bool} : ∀ {k : List Bool → Prop}, k bs → boolsF (bs.map .bool) k := by
  induction bs with
  | nil => exact fun h => h
  | cons b r ih => exact fun {k} h => ih (k := fun bs => k (b :: bs)) h
def intsF : List PyData → (List Int → Prop) → Prop
  | [], k => k []
  | .int b :: r, k => intsF r fun bs => k (b :: bs)
  | _ :: _, _ => False
theorem intsF_of : ∀ {ds : List PyData} {k : List Int → Prop}, intsF ds k → ∃ bs : List Int, ds = bs.map .int ∧ k bs
  | [], k, h => ⟨[], rfl, h⟩
  | .int b :: r, k, h => by
    obtain ⟨bs, e, h'⟩ := intsF_of (ds := r) h
    exact ⟨b :: bs, by rw [e]; rfl, h'⟩
theorem intsF_map {bs : List Int} : ∀ {k : List Int → Prop}, k bs → intsF (bs.map .int) k := by
  induction bs with
  | nil => exact fun h => h
  | cons b r ih => exact fun {k} h => ih (k := fun bs => k (b :: bs)) h
def strsF : List PyData → (List Str → Prop) → Prop
  | [], k => k []
  | .str b :: r, k => strsF r fun bs => k (b :: bs)
  | _ :: _, _ => False
theorem strsF_of : ∀ {ds : List PyData} {k : List Str → Prop}, strsF ds k → ∃ bs : List Str, ds = bs.map .str ∧ k bs
  | [], k, h => ⟨[], rfl, h⟩
  | .str b :: r, k, h => by
    obtain ⟨bs, e, h'⟩ := strsF_of (ds := r) h
    exact ⟨b :: bs, by rw [e]; rfl, h'⟩
theorem strsF_map {bs : List Str} : ∀ {k : List Str → Prop}, k bs → strsF (bs.map .str) k := by
  induction bs with
  | nil => exact fun h => h
  | cons b r ih => exact fun {k} h => ih (k := fun bs => k (b :: bs)) h
def bAll (ds : List PyData) (P : PyData → Prop) : Prop := one ds fun d => listF d fun es => boolsF es fun bs => P (.bool (bs.all id))
def bAny (ds : List PyData) (P : PyData → Prop) : Prop := one ds fun d => listF d fun es => boolsF es fun bs => P (.bool (bs.any id))
def bSum (ds : List PyData) (P : PyData → Prop) : Prop := one ds fun d => listF d fun es => intsF es fun ns => P (.int ns.sum)
theorem rb_all : RB K (rAll K) bAll := by
  intro A H Q xs ds P oc r g k
  obtain ⟨v, d, rfl, q, g⟩ := one_of r g
  unfold listF at g
  split at g
  · obtain ⟨bs, e, g'⟩ := boolsF_of g
    subst e
    obtain ⟨a, ys, rfl, s, r⟩ := q.list_of
    cases r.bools_of
    exact ⟨a, bs, rfl, SqL.mono hp_same s, k _ _ _ g' (Same.refl _) (.bl _)⟩
  · exact g.elim
theorem rb_any : RB K (rAny K) bAny := by
  intro A H Q xs ds P oc r g k
  obtain ⟨v, d, rfl, q, g⟩ := one_of r g
  unfold listF at g
  split at g
  · obtain ⟨bs, e, g'⟩ := boolsF_of g
    subst e
    obtain ⟨a, ys, rfl, s, r⟩ := q.list_of
    cases r.bools_of
    exact ⟨a, bs, rfl, SqL.mono hp_same s, k _ _ _ g' (Same.refl _) (.bl _)⟩
  · exact g.elim
theorem rb_sum : RB K (rSum K) bSum := by
  intro A H Q xs ds P oc r g k
  obtain ⟨v, d, rfl, q, g⟩ := one_of r g
  unfold listF at g
  split at g
  · obtain ⟨bs, e, g'⟩ := intsF_of g
    subst e
    obtain ⟨a, ys, rfl, s, r⟩ := q.list_of
    cases r.ints_of
    exact ⟨a, bs, rfl, SqL.mono hp_same s, k _ _ _ g' (Same.refl _) (.int _)⟩
  · exact g.elim
def bMinL (ds : List PyData) (P : PyData → Prop) : Prop := one ds fun d => listF d fun es => intsF es fun ns => 0 < ns.length ∧ ∀ m, m ∈ ns → (∀ y, y ∈ ns → m ≤ y) → P (.int m)
def bMaxL (ds : List PyData) (P : PyData → Prop) : Prop := one ds fun d => listF d fun es => intsF es fun ns => 0 < ns.length ∧ ∀ m, m ∈ ns → (∀ y, y ∈ ns → y ≤ m) → P (.int m)
theorem rb_min : RB K (rMin K) bMinL := by
  intro A H Q xs ds P oc r g k
  obtain ⟨v, d, rfl, q, g⟩ := one_of r g
  unfold listF at g
  split at g
  · obtain ⟨bs, e, g'⟩ := intsF_of g
    subst e
    obtain ⟨a, ys, rfl, s, r⟩ := q.list_of
    cases r.ints_of
    exact ⟨a, bs, rfl, SqL.mono hp_same s, g'.1, fun m h1 h2 => k _ _ _ (g'.2 m h1 h2) (Same.refl _) (.int _)⟩
  · exact g.elim
theorem rb_max : RB K (rMax K) bMaxL := by
  intro A H Q xs ds P oc r g k
  obtain ⟨v, d, rfl, q, g⟩ := one_of r g
  unfold listF at g
  split at g
  · obtain ⟨bs, e, g'⟩ := intsF_of g
    subst e
    obtain ⟨a, ys, rfl, s, r⟩ := q.list_of
    cases r.ints_of
    exact ⟨a, bs, rfl, SqL.mono hp_same s, g'.1, fun m h1 h2 => k _ _ _ (g'.2 m h1 h2) (Same.refl _) (.int _)⟩
  · exact g.elim
def bSortI (ds : List PyData) (P : PyData → Prop) : Prop := one ds fun d => listF d fun es => intsF es fun ns => ∀ ms : List Int, ms.Perm ns → ms.Pairwise (· ≤ ·) → P (.list (ms.map .int))
theorem rb_sortI : RB K (rSortedI K) bSortI := by
  intro A H Q xs ds P oc r g k
  obtain ⟨v, d, rfl, q, g⟩ := one_of r g
  unfold listF at g
  split at g
  · obtain ⟨bs, e, g'⟩ := intsF_of g
    subst e
    obtain ⟨a, ys, rfl, s, r⟩ := q.list_of
    cases r.ints_of
    refine ⟨a, bs, rfl, SqL.mono hp_same s, fun ms p h1 h2 hp1 => ?_⟩
    exact k _ _ _ (g' ms h1 h2) (Same.new hp1) (.lst (SqL.of (hp_mk (fun q => oc _ q hp1) upd_same)) (DqAll.ints _))
  · exact g.elim
def bInt (ds : List PyData) (P : PyData → Prop) : Prop := one ds fun d => match d with
  | .int i => P (.int i)
  | .bool b => P (.int (if b then 1 else 0))
  | _ => False
theorem rb_int : RB K (fun xs H Q => (∃ i, xs = [.int i] ∧ Q (.int i) H) ∨ ∃ k, xs = [.bl k] ∧ Q (.int (if k then 1 else 0)) H) bInt := by
  intro A H Q xs ds P oc r g k
  obtain ⟨v, d, rfl, q, g⟩ := one_of r g
  split at g
  · cases q; exact .inl ⟨_, rfl, k _ _ _ g (Same.refl _) (.int _)⟩
  · cases q; exact .inr ⟨_, rfl, k _ _ _ g (Same.refl _) (.int _)⟩
  · exact g.elim
def bIntS (ds : List PyData) (P : PyData → Prop) : Prop := one ds fun d => strF d fun a => ∃ m, PySem.intText? a = some m ∧ a.length ≤ 640 ∧ P (.int m)
theorem rb_int_str : RB K (fun xs H Q => ∃ a n, xs = [.str a] ∧ PySem.intText? a = some n ∧ a.length ≤ 640 ∧ Q (.int n) H) bIntS := by
  intro A H Q xs ds P oc r g k
  obtain ⟨v, d, rfl, q, g⟩ := one_of r g
  unfold strF at g
  split at g
  · cases q; obtain ⟨m, h1, h2, g⟩ := g; exact ⟨_, _, rfl, h1, h2, k _ _ _ g (Same.refl _) (.int _)⟩
  · exact g.elim
def bStrI (ds : List PyData) (P : PyData → Prop) : Prop := one ds fun d => intF d fun i => i.natAbs.log2 < 1920 ∧ P (.str (toString i))
theorem rb_str_int : RB K (fun xs H Q => ∃ i, xs = [.int i] ∧ i.natAbs.log2 < 1920 ∧ Q (.str (toString i)) H) bStrI := by
  intro A H Q xs ds P oc r g k
  obtain ⟨v, d, rfl, q, g⟩ := one_of r g
  unfold intF at g
  split at g
  · cases q; exact ⟨_, rfl, g.1, k _ _ _ g.2 (Same.refl _) (.str _)⟩
  · exact g.elim
def bBool (ds : List PyData) (P : PyData → Prop) : Prop := one ds fun d => match d with
  | .int i => P (.bool (i != 0))
  | .bool b => P (.bool b)
  | _ => False
theorem rb_bool : RB K (fun xs H Q => (∃ i, xs = [.int i] ∧ Q (.bl (i != 0)) H) ∨ ∃ k, xs = [.bl k] ∧ Q (.bl k) H) bBool := by
  intro A H Q xs ds P oc r g k
  obtain ⟨v, d, rfl, q, g⟩ := one_of r g
  split at g
  · cases q; exact .inl ⟨_, rfl, k _ _ _ g (Same.refl _) (.bl _)⟩
  · cases q; exact .inr ⟨_, rfl, k _ _ _ g (Same.refl _) (.bl _)⟩
  · exact g.elim
def bList (ds : List PyData) (P : PyData → Prop) : Prop := one ds fun d => seqF d fun es => P (.list es)
theorem rb_list : RB K (fun xs H Q => ∃ p ys, xs = [.ref p] ∧ (SqL K H p ys ∨ SqT K H p ys) ∧ ∀ l, H l = none → Q (.ref l) (upd H l (.lst ys))) bList := by
  intro A H Q xs ds P oc r g k
  obtain ⟨v, d, rfl, q, g⟩ := one_of r g
  obtain ⟨p, xs, ds, rfl, s, r, g⟩ := seqF_of q g
  refine ⟨p, xs, rfl, s, fun l hl => ?_⟩
  have sm := Same.new (o := .lst xs) hl
  exact k _ _ _ g sm (.lst (SqL.of (hp_mk (fun q => oc _ q hl) upd_same)) (r.mono (hp_grow sm)))
def bTuple (ds : List PyData) (P : PyData → Prop) : Prop := one ds fun d => seqF d fun es => P (.tuple es)
theorem rb_tuple : RB K (fun xs H Q => ∃ p ys, xs = [.ref p] ∧ ((SqL K H p ys ∧ ∀ l, H l = none → Q (.ref l) (upd H l (.tup ys))) ∨ (SqT K H p ys ∧ Q (.ref p) H))) bTuple := by
  intro A H Q xs ds P oc r g k
  obtain ⟨v, d, rfl, q, g⟩ := one_of r g
  unfold seqF at g
  split at g
  · obtain ⟨p, xs, rfl, s, r⟩ := q.list_of
    refine ⟨p, xs, rfl, .inl ⟨SqL.mono hp_same s, fun l hl => ?_⟩⟩
    have sm := Same.new (o := .tup xs) hl
    exact k _ _ _ g sm (.tup (SqT.of (hp_mk (fun q => oc _ q hl) upd_same)) (r.mono (hp_grow sm)))
  · obtain ⟨p, xs, rfl, s, r⟩ := q.tuple_of
    exact ⟨p, xs, rfl, .inr ⟨SqT.mono hp_same s, k _ _ _ g (Same.refl _) (.tup s r)⟩⟩
  · exact g.elim
def bRepr (ds : List PyData) (P : PyData → Prop) : Prop := one ds fun d => seqF d fun _ => d.hasDict = false ∧ d.showable = true ∧ d.depth ≤ 60 ∧ d.shown.length ≤ sizeLine ∧ P (.str d.shown)
theorem rb_repr : RB K (fun xs H Q => ∃ (a : Addr) (d : PyData), xs = [.ref a] ∧ Dp K H (.ref a) d ∧ d.showable = true ∧ d.depth ≤ 60 ∧ d.shown.length ≤ sizeLine ∧ Q (.str d.shown) H) bRepr := by
  intro A H Q xs ds P oc r g k
  obtain ⟨v, d, rfl, q, g⟩ := one_of r g
  obtain ⟨p, xs, es, rfl, s, r, h0, h1, h2, h3, g⟩ := seqF_of q g
  exact ⟨p, d, rfl, Dp.mono hp_same (q.dp h0), h1, h2, h3, k _ _ _ g (Same.refl _) (.str _)⟩
/-! isinstance -/
def isObjD : PyData → Bool
  | .dict _ => true
  | _ => false
def fIsi (b : String) (a : FE) : FE := fun ρ P => a ρ fun d ρ1 => isObjD d = false ∧ ∃ c, kitB (kindD d) b = some c ∧ P (.bool c) ρ1
theorem Dq.ty {A : Addr → Prop} {H : Hp} {v : V} {d : PyData} (q : Dq K (hp A H) v d) (h : isObjD d = false) : TyX K H v (.type (kindD d)) := by
  cases q with
  | non => exact .base .non
  | bl b => exact .base (.bl b)
  | int i => exact .base (.int i)
  | str x => exact .base (.str x)
  | lst s _ => exact SqL.ty (SqL.mono hp_same s)
  | tup s _ => exact SqT.ty (SqT.mono hp_same s)
  | obj _ _ _ => cases h
  | exc _ _ _ _ => cases h
  | fnc _ => cases h
theorem re_isi {b : String} {ta : TE} {a : FE} (ha : RE K J ta a) : RE K J (tCB (rIsi K) (tCons ta (tCons (tC (.ty b)) tNil))) (fIsi b a) := by
  intro O as σ H Q ρ P E q k
  refine ha O as σ H _ ρ _ E q fun d ρ1 v H1 q1 f1 E1 d1 => ?_
  obtain ⟨ho, c, hc, q1⟩ := q1
  exact ⟨_, _, _, _, c, rfl, .ty _, d1.ty ho, kit_ty hc, k _ _ _ _ q1 f1 E1 (.bl _)⟩
/-! methods of texts -/
def mStr1 (C : Str → Str → Prop) (h : Str → Str → PyData) : Str → List PyData → (PyData → Prop) → Prop := fun z ds P => one ds fun d => strF d fun b => C z b ∧ P (h z b)
theorem strs1_of {G : Hp} {vs : List V} {ds : List PyData} {k : Str → Prop} (r : DqAll K G vs ds) (h : one ds fun d => strF d k) : ∃ b, vs = [.str b] ∧ k b := by
  obtain ⟨v, d, rfl, q, g⟩ := one_of r h
  unfold strF at g
  split at g
  · cases q; exact ⟨_, rfl, g⟩
  · exact g.elim
abbrev mFind := mStr1 (fun _ _ => True) fun a b => .int (Txt.find a b)
theorem rm_find : RM K (fun x xs H Q => ∃ a b, x = .str a ∧ xs = [.str b] ∧ Q (.int (Txt.find a b)) H) mFind := by
  intro A H Q z xs ds P oc r g k
  obtain ⟨b, rfl, g⟩ := strs1_of r g
  exact ⟨_, _, rfl, rfl, k _ _ _ g.2 (Same.refl _) (.int _)⟩
abbrev mCount := mStr1 (fun _ _ => True) fun a b => .int (Txt.count a b)
theorem rm_count : RM K (fun x xs H Q => ∃ a b, x = .str a ∧ xs = [.str b] ∧ Q (.int (Txt.count a b)) H) mCount := by
  intro A H Q z xs ds P oc r g k
  obtain ⟨b, rfl, g⟩ := strs1_of r g
  exact ⟨_, _, rfl, rfl, k _ _ _ g.2 (Same.refl _) (.int _)⟩
abbrev mSplit := mStr1 (fun a b => (b.length == 0) = false ∧ a.length + 2 ≤ sizeLine) fun a b => .list ((Txt.split a b).map .str)
theorem rm_split : RM K (fun x xs H Q => ∃ a b, x = .str a ∧ xs = [.str b] ∧ (b.length == 0) = false ∧ a.length + 2 ≤ sizeLine ∧ rNewStrs (Txt.split a b) H Q) mSplit := by
  intro A H Q z xs ds P oc r g k
  obtain ⟨b, rfl, g⟩ := strs1_of r g
  refine ⟨_, _, rfl, rfl, g.1.1, g.1.2, fun p hp1 => ?_⟩
  exact k _ _ _ g.2 (Same.new hp1) (.lst (SqL.of (hp_mk (fun q => oc _ q hp1) upd_same)) (DqAll.strs _))
abbrev mPart := mStr1 (fun a b => (b.length == 0) = false ∧ a.length ≤ sizeLine) fun a b => .tuple [.str (Txt.partition a b).1, .str (Txt.partition a b).2.1, .str (Txt.partition a b).2.2]
theorem rm_partition : RM K (fun x xs H Q => ∃ a b, x = .str a ∧ xs = [.str b] ∧ (b.length == 0) = false ∧ a.length ≤ sizeLine ∧ ∀ p, H p = none → Q (.ref p) (upd H p (.tup [.str (Txt.partition a b).1, .str (Txt.partition a b).2.1, .str (Txt.partition a b).2.2]))) mPart := by
  intro A H Q z xs ds P oc r g k
  obtain ⟨b, rfl, g⟩ := strs1_of r g
  refine ⟨_, _, rfl, rfl, g.1.1, g.1.2, fun p hp1 => ?_⟩
  exact k _ _ _ g.2 (Same.new hp1) (.tup (SqT.of (hp_mk (fun q => oc _ q hp1) upd_same)) (.cons (.str _) (.cons (.str _) (.cons (.str _) .nil))))
abbrev mRpart := mStr1 (fun a b => (b.length == 0) = false ∧ a.length ≤ sizeLine) fun a b => .tuple [.str (Txt.rpartition a b).1, .str (Txt.rpartition a b).2.1, .str (Txt.rpartition a b).2.2]
theorem rm_rpartition : RM K (fun x xs H Q => ∃ a b, x = .str a ∧ xs = [.str b] ∧ (b.length == 0) = false ∧ a.length ≤ sizeLine ∧ ∀ p, H p = none → Q (.ref p) (upd H p (.tup [.str (Txt.rpartition a b).1, .str (Txt.rpartition a b).2.1, .str (Txt.rpartition a b).2.2]))) mRpart := by
  intro A H Q z xs ds P oc r g k
  obtain ⟨b, rfl, g⟩ := strs1_of r g
  refine ⟨_, _, rfl, rfl, g.1.1, g.1.2, fun p hp1 => ?_⟩
  exact k _ _ _ g.2 (Same.new hp1) (.tup (SqT.of (hp_mk (fun q => oc _ q hp1) upd_same)) (.cons (.str _) (.cons (.str _) (.cons (.str _) .nil))))
def mZfill : Str → List PyData → (PyData → Prop) → Prop := fun z ds P => one ds fun d => intF d fun i => PadOk i = true ∧ P (.str (Txt.zfill z i))
theorem rm_zfill : RM K (fun x xs H Q => ∃ (a : Str) (i : Int), x = .str a ∧ xs = [.int i] ∧ PadOk i = true ∧ Q (.str (Txt.zfill a i)) H) mZfill := by
  intro A H Q z xs ds P oc r g k
  obtain ⟨v, d, rfl, q, g⟩ := one_of r g
  unfold intF at g
  split at g
  · cases q; exact ⟨_, _, rfl, rfl, g.1, k _ _ _ g.2 (Same.refl _) (.str _)⟩
  · exact g.elim
def mJoin : Str → List PyData → (PyData → Prop) → Prop := fun z ds P => one ds fun d => seqF d fun es => strsF es fun ys => (ys.map (·.length)).sum + ys.length * z.length ≤ 16777216 ∧ P (.str (Txt.join z ys))
theorem rm_join : RM K (fun x xs H Q => ∃ a p, ∃ ys : List Str, x = .str a ∧ xs = [.ref p] ∧ (SqL K H p (ys.map V.str) ∨ SqT K H p (ys.map V.str)) ∧ (ys.map (·.length)).sum + ys.length * a.length ≤ 16777216 ∧ Q (.str (Txt.join a ys)) H) mJoin := by
  intro A H Q z xs ds P oc r g k
  obtain ⟨v, d, rfl, q, g⟩ := one_of r g
  obtain ⟨p, xs, es, rfl, s, r, g⟩ := seqF_of q g
  obtain ⟨ys, e, h, g'⟩ := strsF_of g
  subst e
  cases r.strs_of
  exact ⟨_, p, ys, rfl, rfl, s, h, k _ _ _ g' (Same.refl _) (.str _)⟩
/-! x += e -/
def fAug (i : Nat) (a : FE) (h : Int → Int → Int) : FS := fun E ρ => match ρ[i]? with
  | some (.fz (.int x)) => a ρ fun y ρ1 => intF y fun j => gN i (.int (h x j)) ρ1 E.nx
  | _ => False
theorem rs_aug {i : Nat} {te : TE} {a : FE} {h : Int → Int → Int} (ha : RE K J te a) : RS K J (tAug i te (ipI h)) (fAug i a h) := by
  intro O as σ H D ρ E R f C
  unfold fAug at f
  split at f
  · next x hx =>
    obtain ⟨v, e, _, q⟩ := R.fz_at hx
    cases q
    refine ⟨_, e, ?_⟩
    refine ha O as σ H _ ρ _ R f fun d ρ1 v H1 q1 f1 E1 d1 => ?_
    unfold intF at q1
    split at q1
    · cases d1
      exact ⟨_, _, rfl, rfl, C.nx _ _ _ _ q1.2 (.of f1) (E1.setFz q1.1 (.int _))⟩
    · exact q1.elim
  · exact f.elim
def fPar3 (i j l : Nat) (a : FA) : FS := fun E ρ => a ρ fun ds ρ1 => match ds with
  | [x, y, z] => gN i x ρ1 fun ρ2 => gN j y ρ2 fun ρ3 => gN l z ρ3 E.nx
  | _ => False
theorem rs_par3 {i j l : Nat} {t : TA} {a : FA} (ha : RA K J t a) : RS K J (tPar3 i j l t) (fPar3 i j l a) := by
  intro O as σ H D ρ E R f C
  refine ha O as σ H _ ρ _ R f fun ds ρ1 vs H1 q1 f1 E1 d1 => ?_
  split at q1
  · cases d1 with
    | cons d1 r => cases r with
      | cons d2 r => cases r with
        | cons d3 r =>
          cases r
          exact ⟨_, _, _, rfl, C.nx _ _ _ _ q1.2.2.2 (.of f1) (((E1.setFz q1.1 d1).setFz q1.2.1 d2).setFz q1.2.2.1 d3)⟩
  · exact q1.elim
/-! truth -/
theorem DqAll.empty {G : Hp} {xs : List V} {ds : List PyData} (r : DqAll K G xs ds) : xs.isEmpty = ds.isEmpty := by cases r <;> rfl
def truF (d : PyData) (k : Bool → Prop) : Prop := match d with
  | .none => k false
  | .bool b => k b
  | .int i => k (i != 0)
  | .str z => z.length ≤ sizeLine ∧ k ((z.length : Int) != 0)
  | .list ds => k (!ds.isEmpty)
  | .tuple ds => k (!ds.isEmpty)
  | _ => False
def fTru (f : FE) : FT := fun ρ P => f ρ fun d ρ1 => truF d fun b => P b ρ1
theorem rt_tru {t : TE} {f : FE} (h : RE K J t f) : RT K J (fun σ H Q => t σ H fun x H' => ∃ k, TruV K x H' k ∧ Q k H') (fTru f) := by
  intro O as σ H Q ρ P E q k
  refine h O as σ H _ ρ _ E q fun d ρ1 v H1 q1 f1 E1 d1 => ?_
  unfold truF at q1
  split at q1
  · cases d1; exact ⟨_, rfl, k _ _ _ q1 f1 E1⟩
  · cases d1; exact ⟨_, rfl, k _ _ _ q1 f1 E1⟩
  · cases d1; exact ⟨_, rfl, k _ _ _ q1 f1 E1⟩
  · cases d1; exact ⟨_, ⟨q1.1, rfl⟩, k _ _ _ q1.2 f1 E1⟩
  · obtain ⟨p, xs, rfl, s, r⟩ := d1.list_of
    refine ⟨_, .inl ⟨xs, SqL.mono hp_same s, rfl⟩, ?_⟩
    rw [r.empty]
    exact k _ _ _ q1 f1 E1
  · obtain ⟨p, xs, rfl, s, r⟩ := d1.tuple_of
    refine ⟨_, .inr (.inl ⟨xs, SqT.mono hp_same s, rfl⟩), ?_⟩
    rw [r.empty]
    exact k _ _ _ q1 f1 E1
  · exact q1.elim
def fYes : FT := fun ρ P => P true ρ
theorem rt_yes : RT K J tYes fYes := fun O as σ H Q ρ P E f k => k true ρ H f (FrA.refl _ _) E
end
end DL
/-! the box of draws as data; promises weakened -/
namespace DL
open PySem L2 Z PySem.Spec PyProof.Rows
variable [Tbs]
def BoxD (ds : List PyData) (n : Nat) : Prop := ∃ b0 b1 b2 : Int, ds = [.int b0, .int b1, .int b2] ∧ 0 ≤ b0 ∧ 0 ≤ b1 ∧ b1 < 2147483647 ∧ 0 ≤ b2 ∧ b2 ≤ (n : Int)
theorem BoxD.mono {ds : List PyData} {n m : Nat} (b : BoxD ds n) (h : n ≤ m) : BoxD ds m := by
  obtain ⟨b0, b1, b2, e, h0, h1, h2, h3, h4⟩ := b
  exact ⟨b0, b1, b2, e, h0, h1, h2, h3, by omega⟩
/-- a draw: any number below m -/
def takeF (ds : List PyData) (m : Int) (P : Int → List PyData → Prop) : Prop := ∃ n, BoxD ds n ∧ 0 < m ∧ m < 1073741824 ∧ n < 1000000000 ∧ ∀ r ds', 0 ≤ r → r < m → BoxD ds' (n + 1) → P r ds'
def F__law_take : FN := fun sls P => match sls with
  | [.own ds, .fz (.int m)] => takeF ds m fun r ds' => P (.int r) [.own ds', .no]
  | _ => False
section
variable {P : Program} {w : World} {K : PySem.W.Frag} {mg : Str → Option Value} {base : Heap} {k : Nat} {f : Addr} {fd : FuncData} {ps : List Str} {sp sp' : Sp}
theorem _root_.Z.FnG.weak (F : FnG P w K mg base k f fd ps sp) (h : ∀ vs H Q E, sp' vs H Q E → sp vs H Q E) : FnG P w K mg base k f fd ps sp' :=
  ⟨fun vs H Q E q => F.size vs H Q E (h vs H Q E q), fun A outer s H args us vs Q E hr hg e b r q => F.goes A outer s H args us vs Q E hr hg e b r (h vs H Q E q)⟩
theorem _root_.L2.FnOk.guarded (F : FnOk P w K mg base CX0 k f fd ps sp) (h : ∀ vs H Q E, sp' vs H Q E → sp vs H Q E) : FnG P w K mg base k f fd ps sp' := (FnG.of F).weak h
def spTake : Sp := fun vs H Q _ => ∃ (B : Addr) (m : Int) (n : Nat), vs = [.ref B, .int m] ∧ Box H B n ∧ 0 < m ∧ m < 1073741824 ∧ n < 1000000000 ∧ ∀ (r : Int) H', 0 ≤ r → r < m → Fr [B] H H' → Box H' B (n + 1) → Q (.int r) H'
theorem boxD_ints {G : Hp} {xs : List V} {b0 b1 b2 : Int} (h : DqAll K G xs [.int b0, .int b1, .int b2]) : xs = [.int b0, .int b1, .int b2] := by
  cases h with
  | cons a r => cases r with
    | cons b r => cases r with
      | cons c r => cases r; cases a; cases b; cases c; rfl
theorem TabsOk.frB {H H' : Hp} {B : Addr} {xs : List V} (t : TabsOk H) (f : Fr [B] H H') (h : H B = some (.lst xs)) : TabsOk H' := fun p hp => by
  obtain ⟨ps, h1, h2, h3⟩ := t p hp
  have ne : ∀ b o, H b = some o → o ≠ .lst xs → b ∉ [B] := fun b o e n z => n (Option.some.inj (e.symm.trans (by rw [List.mem_singleton.mp z]; exact h)))
  refine ⟨ps, f _ _ (ne _ _ h1 (fun z => by cases z)) h1, h2, fun pos cv hc => ?_⟩
  obtain ⟨c, e1, e2⟩ := h3 pos cv hc
  exact ⟨c, e1, f _ _ (ne _ _ e2 (fun z => by unfold LamX.CodeO at z; cases z)) e2⟩
theorem take_of {vs : List V} {H : Hp} {Q : VK} {E : XK} (h : spF K 2 F__law_take vs H Q E) : spTake vs H Q E := by
  obtain ⟨hv, O, as, ρ, P, R, hF, q⟩ := h
  match vs, hv with
  | [v0, v1], _ =>
    have hl : ρ.length = 2 := R.len
    match ρ, hl with
    | [s0, s1], _ =>
      unfold F__law_take at hF
      split at hF
      · next ds m e =>
        injection e with e1 e2
        injection e2 with e2 _
        subst e1
        subst e2
        obtain ⟨n, hb, m0, m1, hn, st⟩ := hF
        obtain ⟨b0, b1, b2, rfl, h0, h1, h2, h3, h4⟩ := hb
        obtain ⟨B, xs, z1, z2, z3, z4⟩ := R.own_at (i := 0) rfl
        obtain ⟨v, y1, y2, y3⟩ := R.fz_at (i := 1) rfl
        cases boxD_ints z4
        cases z1
        cases y1
        cases y3
        refine ⟨B, m, n, rfl, ⟨b0, b1, b2, z3, h0, h1, h2, h3, h4⟩, m0, m1, hn, fun r H' r0 r1 fr hB => ?_⟩
        obtain ⟨c0, c1, c2, ec, k0, k1, k2, k3, k4⟩ := hB
        have hfr : FrA (Own as) H H' := fun a o na e => fr a o (fun z => na (.inl ⟨0, by rw [z2]; simpa using (List.mem_singleton.mp z).symm⟩)) e
        refine q _ _ _ _ (st r [.int c0, .int c1, .int c2] r0 r1 ⟨c0, c1, c2, rfl, k0, k1, k2, k3, k4⟩) hfr (R.tab.frB fr z3) (fun i a ha => ?_) (.int _)
        have hi := R.bnd i a ha
        match i, hi, ha with
        | 0, _, ha =>
          rw [z2] at ha
          cases ha
          exact ⟨_, _, rfl, ec, .cons (.int _) (.cons (.int _) (.cons (.int _) .nil))⟩
        | 1, _, ha => rw [y2] at ha; cases ha
      · exact hF.elim
def spBox : Sp := fun vs H Q _ => ∃ (B : Addr), vs = [.ref B] ∧ Box H B 0 ∧ TabsOk H ∧ ∀ H', FrA (fun a => a = B ∨ ∃ p ∈ Tbs.T, p.1 = a) H H' → Q (.bl true) H'
/-- a law's def over the box alone -/
theorem box_of {F : FN} (hF : ∀ ds, BoxD ds 0 → F [.own ds] fun d _ => d = .bool true) {vs : List V} {H : Hp} {Q : VK} {E : XK} (h : spBox vs H Q E) : spF K 1 F vs H Q E := by
  obtain ⟨B, rfl, ⟨b0, b1, b2, e, h0, h1, h2, h3, h4⟩, tb, q⟩ := h
  refine ⟨rfl, fun _ => False, fun i => if i = 0 then some B else none, [.own [.int b0, .int b1, .int b2]], _, ⟨rfl, fun i sl o e1 e2 => ?_, fun i j a h1 h2 => ?_, fun _ _ _ z => z, fun i a h => ?_, fun a z => z.elim, trivial, trivial, tb⟩, hF _ ⟨b0, b1, b2, rfl, h0, h1, h2, h3, h4⟩, fun d out v H' hd fr _ _ dv => ?_⟩
  · match i, e1, e2 with
    | 0, e1, e2 =>
      cases e1; cases e2
      exact .own e (.cons (.int _) (.cons (.int _) (.cons (.int _) .nil)))
  · split at h1
    · split at h2
      · omega
      · cases h2
    · cases h1
  · split at h
    · next z => rw [z]; exact Nat.one_pos
    · cases h
  · subst hd
    cases dv
    refine q H' fun a o na e => fr a o (fun z => ?_) e
    rcases z with ⟨i, z⟩ | z
    · dsimp only at z
      split at z
      · cases z; exact na (.inl rfl)
      · cases z
    · exact na (.inr z)
end
end DL
/-! going through data -/
namespace DL
open PySem L2 Z PySem.Spec PyProof.Rows
variable [Tbs]
theorem kit_none_int : kitB (kindD .none) "int" = some false := by show kitB "NoneType" "int" = _; decide +kernel
theorem kit_none_bool : kitB (kindD .none) "bool" = some false := by show kitB "NoneType" "bool" = _; decide +kernel
theorem kit_none_str : kitB (kindD .none) "str" = some false := by show kitB "NoneType" "str" = _; decide +kernel
theorem kit_none_list : kitB (kindD .none) "list" = some false := by show kitB "NoneType" "list" = _; decide +kernel
theorem kit_none_tuple : kitB (kindD .none) "tuple" = some false := by show kitB "NoneType" "tuple" = _; decide +kernel
theorem kit_bool_int {b : Bool} : kitB (kindD (.bool b)) "int" = some true := by show kitB "bool" "int" = _; decide +kernel
theorem kit_bool_bool {b : Bool} : kitB (kindD (.bool b)) "bool" = some true := by show kitB "bool" "bool" = _; decide +kernel
theorem kit_bool_str {b : Bool} : kitB (kindD (.bool b)) "str" = some false := by show kitB "bool" "str" = _; decide +kernel
theorem kit_bool_list {b : Bool} : kitB (kindD (.bool b)) "list" = some false := by show kitB "bool" "list" = _; decide +kernel
theorem kit_bool_tuple {b : Bool} : kitB (kindD (.bool b)) "tuple" = some false := by show kitB "bool" "tuple" = _; decide +kernel
theorem kit_int_int {i : Int} : kitB (kindD (.int i)) "int" = some true := by show kitB "int" "int" = _; decide +kernel
theorem kit_int_bool {i : Int} : kitB (kindD (.int i)) "bool" = some false := by show kitB "int" "bool" = _; decide +kernel
theorem kit_int_str {i : Int} : kitB (kindD (.int i)) "str" = some false := by show kitB "int" "str" = _; decide +kernel
theorem kit_int_list {i : Int} : kitB (kindD (.int i)) "list" = some false := by show kitB "int" "list" = _; decide +kernel
theorem kit_int_tuple {i : Int} : kitB (kindD (.int i)) "tuple" = some false := by show kitB "int" "tuple" = _; decide +kernel
theorem kit_str_int {s : Str} : kitB (kindD (.str s)) "int" = some false := by show kitB "str" "int" = _; decide +kernel
theorem kit_str_bool {s : Str} : kitB (kindD (.str s)) "bool" = some false := by show kitB "str" "bool" = _; decide +kernel
theorem kit_str_str {s : Str} : kitB (kindD (.str s)) "str" = some true := by show kitB "str" "str" = _; decide +kernel
theorem kit_str_list {s : Str} : kitB (kindD (.str s)) "list" = some false := by show kitB "str" "list" = _; decide +kernel
theorem kit_str_tuple {s : Str} : kitB (kindD (.str s)) "tuple" = some false := by show kitB "str" "tuple" = _; decide +kernel
theorem kit_list_int {l : List PyData} : kitB (kindD (.list l)) "int" = some false := by show kitB "list" "int" = _; decide +kernel
theorem kit_list_bool {l : List PyData} : kitB (kindD (.list l)) "bool" = some false := by show kitB "list" "bool" = _; decide +kernel
theorem kit_list_str {l : List PyData} : kitB (kindD (.list l)) "str" = some false := by show kitB "list" "str" = _; decide +kernel
theorem kit_list_list {l : List PyData} : kitB (kindD (.list l)) "list" = some true := by show kitB "list" "list" = _; decide +kernel
theorem kit_list_tuple {l : List PyData} : kitB (kindD (.list l)) "tuple" = some false := by show kitB "list" "tuple" = _; decide +kernel
theorem kit_tuple_int {l : List PyData} : kitB (kindD (.tuple l)) "int" = some false := by show kitB "tuple" "int" = _; decide +kernel
theorem kit_tuple_bool {l : List PyData} : kitB (kindD (.tuple l)) "bool" = some false := by show kitB "tuple" "bool" = _; decide +kernel
theorem kit_tuple_str {l : List PyData} : kitB (kindD (.tuple l)) "str" = some false := by show kitB "tuple" "str" = _; decide +kernel
theorem kit_tuple_list {l : List PyData} : kitB (kindD (.tuple l)) "list" = some false := by show kitB "tuple" "list" = _; decide +kernel
theorem kit_tuple_tuple {l : List PyData} : kitB (kindD (.tuple l)) "tuple" = some true := by show kitB "tuple" "tuple" = _; decide +kernel
/-- a comprehension that draws nothing: of xs those of which k tells something -/
theorem lc_map {α : Type} {g : FG} {ft : FT} {fe : FE} {vs : List Nat} {ρ : En} {P : List PyData → En → Prop} {ds : List PyData} (xs : List α) (e : α → PyData) (k : α → Option PyData) (hd : ds = xs.map e) (hv : vs.all (slotF ρ) = true) (hl : xs.length ≤ sizeLine)
    (st : ∀ (x : α) (R : List PyData → En → Prop) (acc : List PyData), x ∈ xs → acc.length < sizeLine → R (acc ++ (k x).toList) (wipeF ρ vs) →
      g (e x) (wipeF ρ vs) fun ρ3 => ft ρ3 fun b ρ4 => if b = true then fe ρ4 fun y ρ5 => acc.length < sizeLine ∧ vs.all (slotF ρ5) = true ∧ R (acc ++ [y]) (wipeF ρ5 vs) else vs.all (slotF ρ4) = true ∧ R acc (wipeF ρ4 vs))
    (q : P (xs.filterMap k) (wipeF ρ vs)) : lcW ds g ft fe vs ρ P := by
  subst hd
  refine ⟨hv, fun i acc ρ2 => acc = (xs.take i).filterMap k ∧ ρ2 = wipeF ρ vs, ⟨rfl, rfl⟩, ?_, ?_⟩
  · rintro i d acc ρ2 hd ⟨rfl, rfl⟩
    rw [List.getElem?_map] at hd
    cases ex : xs[i]? with
    | none => rw [ex] at hd; cases hd
    | some x =>
      rw [ex] at hd
      cases hd
      have hi := (List.getElem?_eq_some_iff.mp ex).1
      refine st x (fun acc ρ2 => acc = (xs.take (i + 1)).filterMap k ∧ ρ2 = wipeF ρ vs) _ (List.mem_of_getElem? ex) ?_ ⟨?_, rfl⟩
      · refine Nat.lt_of_le_of_lt (List.length_filterMap_le _ _) ?_
        rw [List.length_take]
        omega
      · rw [List.take_add_one, ex, List.filterMap_append]
        cases h : k x <;> simp [h]
  · rintro acc ρ2 ⟨rfl, h⟩
    rw [h, List.length_map, List.take_length]
    exact q
/-- a comprehension by its state: W of the turn, what is laid, the slots -/
theorem lc_inv {α : Type} {g : FG} {ft : FT} {fe : FE} {vs : List Nat} {ρ : En} {P : List PyData → En → Prop} {ds : List PyData} (xs : List α) (e : α → PyData) (W : Nat → List PyData → En → Prop) (hd : ds = xs.map e) (hv : vs.all (slotF ρ) = true) (h0 : W 0 [] (wipeF ρ vs))
    (st : ∀ (i : Nat) (x : α) (acc : List PyData) (ρ2 : En), xs[i]? = some x → i < xs.length → W i acc ρ2 →
      g (e x) ρ2 fun ρ3 => ft ρ3 fun b ρ4 => if b = true then fe ρ4 fun y ρ5 => acc.length < sizeLine ∧ vs.all (slotF ρ5) = true ∧ W (i + 1) (acc ++ [y]) (wipeF ρ5 vs) else vs.all (slotF ρ4) = true ∧ W (i + 1) acc (wipeF ρ4 vs))
    (q : ∀ acc ρ2, W xs.length acc (wipeF ρ2 vs) → P acc (wipeF ρ2 vs)) : lcW ds g ft fe vs ρ P := by
  subst hd
  refine ⟨hv, W, h0, ?_, by rw [List.length_map]; exact q⟩
  intro i d acc ρ2 hd w
  rw [List.getElem?_map] at hd
  cases ex : xs[i]? with
  | none => rw [ex] at hd; cases hd
  | some x =>
    rw [ex] at hd
    cases hd
    exact st i x acc ρ2 ex (List.getElem?_eq_some_iff.mp ex).1 w
theorem boolsF_f {α : Type} {f : α → Bool} {xs : List α} {k : List Bool → Prop} (h : k (xs.map f)) : boolsF (xs.map fun x => .bool (f x)) k := by
  have := boolsF_map (bs := xs.map f) (k := k) h
  rw [List.map_map] at this
  exact this
theorem intsF_f {α : Type} {f : α → Int} {xs : List α} {k : List Int → Prop} (h : k (xs.map f)) : intsF (xs.map fun x => .int (f x)) k := by
  have := intsF_map (bs := xs.map f) (k := k) h
  rw [List.map_map] at this
  exact this
theorem strsF_f {α : Type} {f : α → Str} {xs : List α} {k : List Str → Prop} (h : k (xs.map f)) : strsF (xs.map fun x => .str (f x)) k := by
  have := strsF_map (bs := xs.map f) (k := k) h
  rw [List.map_map] at this
  exact this
theorem filterMap_if {α β : Type} (k : α → Bool) (f : α → β) (xs : List α) : xs.filterMap (fun x => if k x = true then some (f x) else none) = (xs.filter k).map f := by
  induction xs with
  | nil => rfl
  | cons x r ih =>
    rw [List.filterMap_cons, List.filter_cons, ih]
    cases h : k x <;> simp
theorem filterMap_some {α β : Type} (f : α → β) (xs : List α) : xs.filterMap (fun x => some (f x)) = xs.map f := by
  induction xs with
  | nil => rfl
  | cons x r ih => rw [List.filterMap_cons, ih]; rfl
/-- a loop by its state -/
theorem for_map {α : Type} {us : List Nat} {g : FG} {b : FS} {E : FEnds} {ρ : En} {ds : List PyData} (xs : List α) (e : α → PyData) (W : Nat → En → Prop) (hd : ds = xs.map e) (h0 : W 0 (fgt ρ us))
    (st : ∀ (i : Nat) (x : α) (ρ2 : En), xs[i]? = some x → i < xs.length → W i ρ2 → g (e x) ρ2 fun ρ3 => b { E with nx := fun ρ4 => W (i + 1) (fgt ρ4 us), ct := fun ρ4 => W (i + 1) (fgt ρ4 us), bk := E.nx } ρ3) (q : ∀ ρ2, W xs.length ρ2 → E.nx ρ2) : forW us ds g b E ρ := by
  subst hd
  refine ⟨W, h0, ?_, by rw [List.length_map]; exact q⟩
  intro i d ρ2 hd w
  rw [List.getElem?_map] at hd
  cases ex : xs[i]? with
  | none => rw [ex] at hd; cases hd
  | some x =>
    rw [ex] at hd
    cases hd
    exact st i x ρ2 ex (List.getElem?_eq_some_iff.mp ex).1 w
/-- a loop over range(m) -/
theorem for_range {us : List Nat} {g : FG} {b : FS} {E : FEnds} {ρ : En} {lo : Int} {m : Nat} (W : Nat → En → Prop) (h0 : W 0 (fgt ρ us))
    (st : ∀ (i : Nat) (ρ2 : En), i < m → W i ρ2 → g (.int (lo + (i : Int))) ρ2 fun ρ3 => b { E with nx := fun ρ4 => W (i + 1) (fgt ρ4 us), ct := fun ρ4 => W (i + 1) (fgt ρ4 us), bk := E.nx } ρ3) (q : ∀ ρ2, W m ρ2 → E.nx ρ2) : forW us (rangeD lo m) g b E ρ := by
  refine for_map (List.range m) (fun k : Nat => .int (lo + (k : Int))) W rfl h0 (fun i x ρ2 hx hi w => ?_) (by rw [List.length_range]; exact q)
  rw [List.length_range] at hi
  rw [List.getElem?_range hi] at hx
  cases hx
  exact st i ρ2 hi w
/-- a draw -/
theorem take_step {ds : List PyData} {m : Int} {n : Nat} {P : Int → List PyData → Prop} (hb : BoxD ds n) (h0 : 0 < m) (h1 : m < 1073741824) (h2 : n < 1000000000) (k : ∀ r ds', 0 ≤ r → r < m → BoxD ds' (n + 1) → P r ds') : takeF ds m P := ⟨n, hb, h0, h1, h2, k⟩
theorem sz0 : (0 ≤ sizeLine) = True := eq_true (by decide)
theorem sz1 : (1 ≤ sizeLine) = True := eq_true (by decide)
theorem sz2 : (2 ≤ sizeLine) = True := eq_true (by decide)
theorem sz3 : (3 ≤ sizeLine) = True := eq_true (by decide)
theorem sz4 : (4 ≤ sizeLine) = True := eq_true (by decide)
theorem sz5 : (5 ≤ sizeLine) = True := eq_true (by decide)
theorem sz6 : (6 ≤ sizeLine) = True := eq_true (by decide)
theorem sz7 : (7 ≤ sizeLine) = True := eq_true (by decide)
theorem sz8 : (8 ≤ sizeLine) = True := eq_true (by decide)
theorem sz9 : (9 ≤ sizeLine) = True := eq_true (by decide)
theorem sz10 : (10 ≤ sizeLine) = True := eq_true (by decide)
theorem sz11 : (11 ≤ sizeLine) = True := eq_true (by decide)
theorem sz12 : (12 ≤ sizeLine) = True := eq_true (by decide)
theorem sz13 : (13 ≤ sizeLine) = True := eq_true (by decide)
theorem sz14 : (14 ≤ sizeLine) = True := eq_true (by decide)
theorem sz15 : (15 ≤ sizeLine) = True := eq_true (by decide)
theorem sz16 : (16 ≤ sizeLine) = True := eq_true (by decide)
theorem sz17 : (17 ≤ sizeLine) = True := eq_true (by decide)
theorem sz18 : (18 ≤ sizeLine) = True := eq_true (by decide)
theorem sz19 : (19 ≤ sizeLine) = True := eq_true (by decide)
theorem sz20 : (20 ≤ sizeLine) = True := eq_true (by decide)
theorem at0 {α : Type} {x : α} {xs : List α} : L2.atI (x :: xs) 0 = some x := by simp [L2.atI, ixN]
theorem at1 {α : Type} {x y : α} {xs : List α} : L2.atI (x :: y :: xs) 1 = some y := by
  unfold L2.atI ixN
  rw [if_pos (by decide), if_pos (by simp only [List.length_cons]; omega)]
  rfl
theorem at2 {α : Type} {x y z : α} {xs : List α} : L2.atI (x :: y :: z :: xs) 2 = some z := by
  unfold L2.atI ixN
  rw [if_pos (by decide), if_pos (by simp only [List.length_cons]; omega)]
  rfl
theorem at3 {α : Type} {x y z w : α} {xs : List α} : L2.atI (x :: y :: z :: w :: xs) 3 = some w := by
  unfold L2.atI ixN
  rw [if_pos (by decide), if_pos (by simp only [List.length_cons]; omega)]
  rfl
theorem at4 {α : Type} {x y z w v : α} {xs : List α} : L2.atI (x :: y :: z :: w :: v :: xs) 4 = some v := by
  unfold L2.atI ixN
  rw [if_pos (by decide), if_pos (by simp only [List.length_cons]; omega)]
  rfl
theorem at_last {α : Type} {xs : List α} {x : α} (h : xs[xs.length - 1]? = some x) : L2.atI xs (-1) = some x := by
  have hl : xs.length - 1 < xs.length := (List.getElem?_eq_some_iff.mp h).1
  unfold L2.atI
  rw [ixN_last (by omega)]
  exact h
/-- a drawn one of a written list -/
theorem at_mem {α : Type} {xs : List α} {r : Int} (h0 : 0 ≤ r) (h1 : r < xs.length) : ∃ v, L2.atI xs r = some v ∧ v ∈ xs := by
  obtain ⟨j, rfl⟩ := Int.eq_ofNat_of_zero_le h0
  have hj : j < xs.length := by omega
  refine ⟨xs[j], ?_, List.getElem_mem hj⟩
  unfold L2.atI
  rw [ixN_nat hj]
  exact List.getElem?_eq_getElem hj
theorem rangeD_eq (lo : Int) (m : Nat) : rangeD lo m = (List.range m).map fun k : Nat => .int (lo + (k : Int)) := rfl
theorem range_at {m i x : Nat} (h : (List.range m)[i]? = some x) : x = i ∧ i < m := by
  have hi := (List.getElem?_eq_some_iff.mp h).1
  rw [List.length_range] at hi
  rw [List.getElem?_range hi] at h
  exact ⟨(Option.some.inj h).symm, hi⟩
theorem zipD_map {α β : Type} (xs : List α) (ys : List β) (e : α → PyData) (f : β → PyData) : zipD (xs.map e) (ys.map f) = (xs.zip ys).map fun z => .tuple [e z.1, f z.2] := by
  unfold zipD
  rw [List.zip_map, List.map_map]
  rfl
theorem cutD_tail {α : Type} (xs : List α) (e : α → PyData) : cutD (xs.map e) (some 1) none = xs.tail.map e := by
  unfold cutD
  have h : HT.sIx (xs.map e).length 0 (some 1) = min 1 (xs.map e).length := HT.sIx_nat _ _ 1
  rw [h, HT.sIx_none, List.length_map]
  cases xs with
  | nil => rfl
  | cons x r =>
    rw [List.length_cons, Nat.min_eq_left (by omega), List.map_cons, List.drop_succ_cons, List.drop_zero, List.take_of_length_le (by rw [List.length_map]; omega)]
    rfl
theorem cutD_take {α : Type} (xs : List α) (e : α → PyData) (k : Nat) : cutD (xs.map e) none (some (k : Int)) = (xs.take k).map e := by
  unfold cutD
  rw [HT.sIx_nat, HT.sIx_none, List.drop_zero, Nat.sub_zero, List.length_map]
  by_cases h : k ≤ xs.length
  · rw [Nat.min_eq_left h, List.map_take]
  · rw [Nat.min_eq_right (by omega), List.take_of_length_le (by rw [List.length_map]; omega), List.take_of_length_le (by omega)]
theorem cutD_drop {α : Type} (xs : List α) (e : α → PyData) (k : Nat) : cutD (xs.map e) (some (k : Int)) none = (xs.drop k).map e := by
  unfold cutD
  rw [HT.sIx_nat, HT.sIx_none, List.length_map]
  by_cases h : k ≤ xs.length
  · rw [Nat.min_eq_left h, List.take_of_length_le (by rw [List.length_drop, List.length_map]; omega), List.map_drop]
  · rw [Nat.min_eq_right (by omega), List.drop_of_length_le (by rw [List.length_map]; omega), List.take_nil, List.drop_of_length_le (by omega)]
    rfl
theorem atI_nat' {α : Type} {xs : List α} {k : Nat} {x : α} (h : xs[k]? = some x) : L2.atI xs (k : Int) = some x := by
  unfold L2.atI
  rw [ixN_nat (List.getElem?_eq_some_iff.mp h).1]
  exact h
theorem atI_map {α β : Type} (f : α → β) (xs : List α) (k : Int) : L2.atI (xs.map f) k = (L2.atI xs k).map f := by
  unfold L2.atI
  rw [List.length_map]
  cases ixN xs.length k with
  | none => rfl
  | some j => exact List.getElem?_map ..
end DL
/-! objects that stay, keywords, own lists in a parallel assignment, more of own lists -/
namespace DL
open PySem L2 Z PySem.Spec PyProof.Rows
variable [Tbs]
section
variable {K : PySem.W.Frag} {n : Nat} {J : Jv n}
def objF (c : Str) (d : PyData) (k : List (PyData × PyData) → Prop) : Prop := match d with
  | .dict ((.str c', .none) :: fs) => c' = c ∧ k fs
  | _ => False
theorem objF_of {H : Hp} {c : Str} {C : Addr} {v : V} {d : PyData} {k : List (PyData × PyData) → Prop} (hc : PySem.W.nsIn K mainGlobals c = some (some (.ref C))) (q : Dq K H v d) (h : objF c d k) : ∃ a dx fv fs, v = .ref a ∧ H a = some (.ins C dx fv) ∧ DqFs K H fv fs ∧ k fs := by
  unfold objF at h
  split at h
  · obtain ⟨rfl, h⟩ := h
    cases q with
    | obj e1 e2 r =>
      rw [hc] at e1
      cases e1
      exact ⟨_, _, _, _, rfl, e2, r, h⟩
  · exact h.elim
/-- e.f -/
def fFld (c f : Str) (a : FE) : FE := fun ρ P => a ρ fun d ρ1 => objF c d fun fs => ∃ v, fldD f fs = some v ∧ P v ρ1
theorem re_fld {C : Addr} {c f : Str} {ta : TE} {a : FE} (hc : PySem.W.nsIn K mainGlobals c = some (some (.ref C))) (cl : Cls K C) (na : NoAttr K C f) (ha : RE K J ta a) : RE K J (tFld K ta f) (fFld c f a) := by
  intro O as σ H Q ρ P E q k
  refine ha O as σ H _ ρ _ E q fun d ρ1 v H1 q1 f1 E1 d1 => ?_
  obtain ⟨x, dx, fv, fs, rfl, e, r, u, hu, p⟩ := objF_of hc d1 q1
  obtain ⟨w, hw, dw⟩ := r.get hu
  exact ⟨x, C, dx, fv, w, rfl, (hp_some e).2, cl, na, hw, k _ _ _ _ p f1 E1 dw⟩
/-- how __init__ lays the fields -/
def RMk (K : PySem.W.Frag) (C : Addr) (sp : Sp) (G : List PyData → (List (PyData × PyData) → Prop) → Prop) : Prop := ∀ (A : Addr → Prop) (H : Hp) (x dx : Addr) (vs : List V) (ds : List PyData) (Q : VK) (E : XK) (P : List (PyData × PyData) → Prop),
  DqAll K (hp A H) vs ds → G ds P → H x = some (.ins C dx []) → (∀ fs fv H', P fs → (∀ a o, a ≠ x → H a = some o → H' a = some o) → H' x = some (.ins C dx fv) → DqFs K (hp A H') fv fs → Q .non H') → sp (.ref x :: vs) H Q E
theorem mk_core {O : Addr → Prop} {as : Nat → Option Addr} {H : Hp} {ρ : En} {σ : L2.St} {C x dx : Addr} {c : Str} {sp : Sp} {G : List PyData → (List (PyData × PyData) → Prop) → Prop} {vs : List V} {ds : List PyData} {Q : VK} {E0 : XK} {P : PyData → En → Prop}
    (hc : PySem.W.nsIn K mainGlobals c = some (some (.ref C))) (h : RMk K C sp G) (E : EnR K J O as H ρ σ) (dv : DqAll K (hp (Hid O as) H) vs ds) (g : G ds fun fs => P (.dict ((.str c, .none) :: fs)) ρ) (hx : H x = none) (hd : H dx = none) (ne : dx ≠ x)
    (k : ∀ d ρ' v H', P d ρ' → FrA (Own as) H H' → EnR K J O as H' ρ' σ → Dq K (hp (Hid O as) H') v d → Q v H') :
    sp (.ref x :: vs) (upd (upd H dx (.own x)) x (.ins C dx [])) (fun v H2 => v = .non ∧ Q (.ref x) H2) E0 := by
  have s1 : Same H (upd (upd H dx (.own x)) x (.ins C dx [])) := fun a o e => by
    rw [upd_ne (ne_of_none e hx), upd_ne (ne_of_none e hd)]
    exact e
  refine h (Hid O as) _ x dx vs ds _ _ _ (dv.mono (hp_grow s1)) g upd_same fun fs fv H' p fr e r => ⟨rfl, ?_⟩
  have s2 : Same H H' := fun a o e => fr a o (ne_of_none e hx) (s1 a o e)
  exact k _ _ _ _ p (FrA.of s2) (E.grow s2) (.obj hc (hp_mk (E.fresh hx) e) r)
def fMk (c : Str) (G : List PyData → (List (PyData × PyData) → Prop) → Prop) (dv : List PyData) (f : FA) : FE := fun ρ P => f ρ fun ds ρ1 => G (ds ++ dv) fun fs => P (.dict ((.str c, .none) :: fs)) ρ1
theorem re_mk {C : Addr} {c : Str} {sp : Sp} {G : List PyData → (List (PyData × PyData) → Prop) → Prop} {dvs : List V} {dv : List PyData} {E0 : XK} {t : TA} {f : FA} (hc : PySem.W.nsIn K mainGlobals c = some (some (.ref C))) (h : RMk K C sp G) (hd : ∀ H, DqAll K H dvs dv) (ha : RA K J t f) : RE K J (tMake C sp dvs E0 t) (fMk c G dv f) := by
  intro O as σ H Q ρ P E q k
  refine ha O as σ H _ ρ _ E q fun ds ρ1 vs H1 q1 f1 E1 d1 => ?_
  intro x dx hx hdx ne
  exact mk_core hc h E1 (d1.append (hd _)) q1 hx hdx ne fun d ρ' v H' p fr E' q' => k d ρ' v H' p (f1.trans fr) E' q'
def fMkN (c : Str) (G : List PyData → (List (PyData × PyData) → Prop) → Prop) (n m : Nat) (gD : List PyData → List PyData → List PyData) (f fk : FA) : FE := fun ρ P => f ρ fun ds ρ1 => fk ρ1 fun es ρ2 => ds.length = n ∧ es.length = m ∧ G (gD ds es) fun fs => P (.dict ((.str c, .none) :: fs)) ρ2
theorem re_mkN {C : Addr} {c : Str} {sp : Sp} {G : List PyData → (List (PyData × PyData) → Prop) → Prop} {n m : Nat} {gV : List V → List V → List V} {gD : List PyData → List PyData → List PyData} {E0 : XK} {t tk : TA} {f fk : FA} (hc : PySem.W.nsIn K mainGlobals c = some (some (.ref C))) (h : RMk K C sp G)
    (hg : ∀ (x : Addr) (vs zs : List V) (ds es : List PyData) (H : Hp), DqAll K H vs ds → DqAll K H zs es → ∃ ws, gV (.ref x :: vs) zs = .ref x :: ws ∧ DqAll K H ws (gD ds es)) (ha : RA K J t f) (hk : RA K J tk fk) : RE K J (tMakeN C n m sp gV E0 t tk) (fMkN c G n m gD f fk) := by
  intro O as σ H Q ρ P E q k
  refine ha O as σ H _ ρ _ E q fun ds ρ1 vs H1 q1 f1 E1 d1 => ?_
  refine hk O as σ H1 _ ρ1 _ E1 q1 fun es ρ2 zs H2 q2 f2 E2 d2 => ?_
  obtain ⟨l1, l2, q2⟩ := q2
  refine ⟨by rw [d1.length]; exact l1, by rw [d2.length]; exact l2, fun x dx hx hdx ne => ?_⟩
  obtain ⟨ws, e, r⟩ := hg x vs zs ds es _ (d1.fr f2) d2
  rw [e]
  exact mk_core hc h E2 r q2 hx hdx ne fun d ρ' v H' p fr E' q' => k d ρ' v H' p ((f1.trans f2).trans fr) E' q'
/-- a call with keywords, data alone -/
def fCallN (F : FN) (n m : Nat) (gD : List PyData → List PyData → List PyData) (f fk : FA) : FE := fun ρ P => f ρ fun ds ρ1 => fk ρ1 fun es ρ2 => ds.length = n ∧ es.length = m ∧ F ((gD ds es).map .fz) fun d _ => P d ρ2
theorem ownIx_dat : ∀ ds : List PyData, ownIx (ds.map .dat) = []
  | [] => rfl
  | _ :: r => ownIx_dat r
theorem wb_dat (ρ : En) : ∀ (ds : List PyData) (r : List Sl), wb ρ (ds.map .dat) r = ρ
  | [], _ => rfl
  | _ :: ds, r => wb_dat ρ ds r.tail
theorem re_callN {l n m : Nat} {F : FN} {gV : List V → List V → List V} {gD : List PyData → List PyData → List PyData} {E0 : XK} {t tk : TA} {f fk : FA}
    (hl : ∀ ds es : List PyData, ds.length = n → es.length = m → (gD ds es).length = l)
    (hg : ∀ (vs zs : List V) (ds es : List PyData) (H : Hp), DqAll K H vs ds → DqAll K H zs es → DqAll K H (gV vs zs) (gD ds es)) (ha : RA K J t f) (hk : RA K J tk fk) : RE K J (tCallN n m (spF K l F) gV E0 t tk) (fCallN F n m gD f fk) := by
  intro O as σ H Q ρ P E q k
  refine ha O as σ H _ ρ _ E q fun ds ρ1 vs H1 q1 f1 E1 d1 => ?_
  refine hk O as σ H1 _ ρ1 _ E1 q1 fun es ρ2 zs H2 q2 f2 E2 d2 => ?_
  obtain ⟨l1, l2, q2⟩ := q2
  refine ⟨by rw [d1.length]; exact l1, by rw [d2.length]; exact l2, ?_⟩
  refine call_core (xs := (gD ds es).map .dat) E2 (fits_dat _) (dat_ars (hg _ _ _ _ _ (d1.fr f2) d2)) (by rw [List.length_map]; exact hl _ _ l1 l2) (by rw [ownIx_dat]; exact .nil) ?_ fun d ρ' v H' p fr E' q' => k d ρ' v H' p ((f1.trans f2).trans fr) E' q'
  simp only [wb_dat]
  exact q2
/-! own lists in a parallel assignment -/
theorem EnR.ownNew {O : Addr → Prop} {as : Nat → Option Addr} {H : Hp} {ρ : En} {σ : L2.St} {p : Addr} {xs : List V} {ds : List PyData} {i : Nat} (E : EnR K J (plus O p) as H ρ σ) (hi : i < ρ.length) (hJ : J.P (upA as i (some p)) H) (hQ : J.Q O) (np : ¬ Hid O as p) (h : H p = some (.lst xs)) (d : DqAll K (hp (Hid (plus O p) as) H) xs ds) :
    EnR K J O (upA as i (some p)) H (ρ.set i (.own ds)) (σ.set i (some (.ref p))) := by
  have hS : Same (hp (Hid (plus O p) as) H) (hp (fun a => Hid O as a ∨ a = p) H) := hp_less fun a q => by
    rcases q with (q | q) | q
    · exact .inl (.inl q)
    · exact .inr q
    · exact .inl (.inr q)
  exact (E.lessO hQ).setOwn hi hJ np h (fun j sl o h1 h2 _ => (E.at_ j sl o h1 h2).mono hS fun b hb => rfl) (d.mono hS)
theorem same_plus {O : Addr → Prop} {as : Nat → Option Addr} {H H' : Hp} {p : Addr} (f : FrA (Own as) H H') (h : H p = none) : Same (hp (Hid O as) H) (hp (Hid (plus O p) as) H') := fun a o e => by
  obtain ⟨na, e⟩ := hp_some e
  refine hp_mk (fun z => ?_) (f a o (fun z => na (.inr z)) e)
  rcases z with (z | z) | z
  · exact na (.inl z)
  · rw [z, h] at e; cases e
  · exact na (.inr z)
theorem ext_own {as : Nat → Option Addr} {H H' : Hp} {p : Addr} {i : Nat} (f : FrA (Own as) H H') (hi : n ≤ i) (h : H p = none) : Ext n as (upA as i (some p)) H H' := by
  refine ⟨f, fun a q => ?_, fun j hj => upA_ne (by omega)⟩
  rcases q.up with q | q
  · rw [← Option.some.inj q]; exact .inr h
  · exact .inl q
/-- i, j = e, [..] -/
def fParO2 (i j : Nat) (a : FE) (b : FA) : FS := fun E ρ => a ρ fun d ρ1 => b ρ1 fun ds ρ2 => gN i d ρ2 fun ρ3 => j < ρ3.length ∧ E.nx (ρ3.set j (.own ds))
theorem none_back {as : Nat → Option Addr} {O : Addr → Prop} {H H1 : Hp} {ρ : En} {σ : L2.St} {p : Addr} (E1 : EnR K J O as H1 ρ σ) (f : FrA (Own as) H H1) (h : H1 p = none) : H p = none := by
  cases e : H p with
  | none => rfl
  | some o =>
    by_cases w : Own as p
    · exact absurd (.inr w) (E1.fresh h)
    · rw [f _ _ w e] at h; cases h
theorem rs_parO2 {i j : Nat} {ta tn : TE} {a : FE} {b : FA} (hj : n ≤ j) (ha : RE K J ta a) (hb : RN K J tn b) : RS K J (tPar i j (tCons ta (tCons tn tNil))) (fParO2 i j a b) := by
  intro O as σ H D ρ E R f C
  refine ha O as σ H _ ρ _ R f fun d ρ1 v H1 q1 f1 E1 d1 => ?_
  refine hb O as σ H1 _ ρ1 _ E1 q1 fun ds ρ2 p xs H2 q2 f2 hp1 E2 hp2 d2 => ?_
  refine ⟨_, _, rfl, ?_⟩
  have x := ext_own (f1.trans f2) hj (none_back E1 f1 hp1)
  exact C.nx _ _ _ _ q2.2.2 x ((E2.setFz q2.1 (d1.mono (same_plus f2 hp1))).ownNew q2.2.1 (J.cl _ _ _ _ R.inv x) R.inq (fun z => E1.fresh hp1 z) hp2 d2)
/-- i, j = [..], e -/
def fParO1 (i j : Nat) (b : FA) (a : FE) : FS := fun E ρ => b ρ fun ds ρ1 => a ρ1 fun d ρ2 => i < ρ2.length ∧ slotF (ρ2.set i (.own ds)) j = true ∧ E.nx ((ρ2.set i (.own ds)).set j (.fz d))
theorem rs_parO1 {i j : Nat} {ta tn : TE} {a : FE} {b : FA} (hi : n ≤ i) (hb : RN K J tn b) (ha : RE K J ta a) : RS K J (tPar i j (tCons tn (tCons ta tNil))) (fParO1 i j b a) := by
  intro O as σ H D ρ E R f C
  refine hb O as σ H _ ρ _ R f fun ds ρ1 p xs H1 q1 f1 hp1 E1 hp2 d1 => ?_
  refine ha (plus O p) as σ H1 _ ρ1 _ E1 q1 fun d ρ2 v H2 q2 f2 E2 d2 => ?_
  refine ⟨_, _, rfl, ?_⟩
  have np := R.fresh hp1
  have hp3 : H2 p = some (.lst xs) := f2 _ _ (fun z => np (.inr z)) hp2
  have x := ext_own (f1.trans f2) hi hp1
  have E3 := E2.ownNew (i := i) q2.1 (J.cl _ _ _ _ R.inv x) R.inq np hp3 (d1.fr f2)
  have E4 := E3.setFz (v := v) q2.2.1 (d2.mono (hp_less fun a z => by
    rcases z with z | z
    · exact .inl (.inl z)
    · rcases z.up with z | z
      · exact .inl (.inr (Option.some.inj z).symm)
      · exact .inr z))
  exact C.nx _ _ _ _ q2.2.2 x E4
/-- i, j = [..], [..] -/
def fParOO (i j : Nat) (a b : FA) : FS := fun E ρ => a ρ fun ds ρ1 => b ρ1 fun es ρ2 => i < ρ2.length ∧ j < ρ2.length ∧ E.nx ((ρ2.set i (.own ds)).set j (.own es))
theorem EnR.ownTwo {O : Addr → Prop} {as : Nat → Option Addr} {H0 H : Hp} {ρ : En} {σ : L2.St} {p q : Addr} {xs ys : List V} {ds es : List PyData} {i j : Nat} (E : EnR K J (plus (plus O p) q) as H ρ σ) (hij : i ≠ j) (hi : i < ρ.length) (hj : j < ρ.length) (ni : n ≤ i) (nj : n ≤ j) (h0 : J.P as H0) (hq0 : J.Q O) (f : FrA (Own as) H0 H)
    (hp : H0 p = none) (hq : H0 q = none) (np : ¬ Hid O as p) (nq : ¬ Hid (plus O p) as q) (h1 : H p = some (.lst xs)) (h2 : H q = some (.lst ys)) (d1 : DqAll K (DL.hp (Hid (plus (plus O p) q) as) H) xs ds) (d2 : DqAll K (DL.hp (Hid (plus (plus O p) q) as) H) ys es) :
    ∃ as', Ext n as as' H0 H ∧ EnR K J O as' H ((ρ.set i (.own ds)).set j (.own es)) ((σ.set i (some (.ref p))).set j (some (.ref q))) := by
  have x1 : Ext n as (upA as j (some q)) H0 H := ext_own f nj hq
  have E1 := E.ownNew (i := j) hj (J.cl _ _ _ _ h0 x1) (J.up _ _ (fun _ z => .inl z) hq0) nq h2 d2
  have x2 : Ext n as (upA (upA as j (some q)) i (some p)) H0 H := ⟨f, fun a z => by
    rcases z.up with z | z
    · rw [← Option.some.inj z]; exact .inr hp
    · exact x1.new a z, fun k hk => by rw [upA_ne (by omega)]; exact x1.fix k hk⟩
  have hne : p ≠ q := fun z => nq (.inl (.inr z.symm))
  have E2 := E1.ownNew (i := i) (by rw [List.length_set]; exact hi) (J.cl _ _ _ _ h0 x2) hq0 (fun z => by
    rcases z with z | z
    · exact np (.inl z)
    · rcases z.up with z | z
      · exact hne (Option.some.inj z).symm
      · exact np (.inr z)) h1 (d1.mono (hp_less fun a z => by
    rcases z with z | z
    · exact .inl (.inl z)
    · rcases z.up with z | z
      · exact .inl (.inr (Option.some.inj z).symm)
      · exact .inr z))
  refine ⟨_, x2, ?_⟩
  rw [List.set_comm _ _ hij, List.set_comm _ _ hij]
  exact E2
theorem rs_parOO {i j : Nat} {ta tb : TE} {a b : FA} (hij : i ≠ j) (hi : n ≤ i) (hj : n ≤ j) (ha : RN K J ta a) (hb : RN K J tb b) : RS K J (tPar i j (tCons ta (tCons tb tNil))) (fParOO i j a b) := by
  intro O as σ H D ρ E R f C
  refine ha O as σ H _ ρ _ R f fun ds ρ1 p xs H1 q1 f1 hp1 E1 hp2 d1 => ?_
  refine hb (plus O p) as σ H1 _ ρ1 _ E1 q1 fun es ρ2 q ys H2 q2 f2 hq1 E2 hq2 d2 => ?_
  refine ⟨_, _, rfl, ?_⟩
  obtain ⟨as', x, E3⟩ := E2.ownTwo hij q2.1 q2.2.1 hi hj R.inv R.inq (f1.trans f2) hp1 (none_back E1 f1 hq1) (fun z => R.fresh hp1 z) (fun z => E1.fresh hq1 z) (f2 _ _ (fun z => R.fresh hp1 (.inr z)) hp2) hq2 (d1.mono (same_plus f2 hq1)) d2
  exact C.nx _ _ _ _ q2.2.2 x E3
/-- i, j, l = e, e', [..] -/
def fPar3O3 (i j l : Nat) (a a' : FE) (b : FA) : FS := fun E ρ => a ρ fun d ρ1 => a' ρ1 fun d' ρ2 => b ρ2 fun ds ρ3 => gN i d ρ3 fun ρ4 => gN j d' ρ4 fun ρ5 => l < ρ5.length ∧ E.nx (ρ5.set l (.own ds))
theorem rs_par3O3 {i j l : Nat} {ta ta' tn : TE} {a a' : FE} {b : FA} (hl : n ≤ l) (ha : RE K J ta a) (ha' : RE K J ta' a') (hb : RN K J tn b) : RS K J (tPar3 i j l (tCons ta (tCons ta' (tCons tn tNil)))) (fPar3O3 i j l a a' b) := by
  intro O as σ H D ρ E R f C
  refine ha O as σ H _ ρ _ R f fun d ρ1 v H1 q1 f1 E1 d1 => ?_
  refine ha' O as σ H1 _ ρ1 _ E1 q1 fun d' ρ2 v' H2 q2 f2 E2 d2 => ?_
  refine hb O as σ H2 _ ρ2 _ E2 q2 fun ds ρ3 p xs H3 q3 f3 hp1 E3 hp2 d3 => ?_
  refine ⟨_, _, _, rfl, ?_⟩
  have x := ext_own ((f1.trans f2).trans f3) hl (none_back E1 f1 (none_back E2 f2 hp1))
  exact C.nx _ _ _ _ q3.2.2.2 x (((E3.setFz q3.1 ((d1.fr f2).mono (same_plus f3 hp1))).setFz q3.2.1 (d2.mono (same_plus f3 hp1))).ownNew q3.2.2.1 (J.cl _ _ _ _ R.inv x) R.inq (fun z => E2.fresh hp1 z) hp2 d3)
/-- own[k] += e -/
def fAugO (i : Nat) (b a : FE) (h : Int → Int → Int) : FS := fun E ρ => ownF ρ i fun _ => b ρ fun x ρ1 => intF x fun k => ownF ρ1 i fun ds => ∃ c, atI ds k = some (.int c) ∧ a ρ1 fun y ρ2 => intF y fun y => ownF ρ2 i fun es => ∃ j, ixN es.length k = some j ∧ E.nx (ρ2.set i (.own (es.set j (.int (h c y)))))
theorem rs_augO {i : Nat} {ti te : TE} {b a : FE} {h : Int → Int → Int} (hb : RE K J ti b) (ha : RE K J te a) : RS K J (tAugS (tVar i) ti te (rIxL K) (ipI h) rSetL) (fAugO i b a h) := by
  intro O as σ H D ρ E R f C
  obtain ⟨ds0, h0, f⟩ := ownF_of f
  obtain ⟨p, xs0, e1, e2, e3, _⟩ := R.own_at h0
  refine ⟨_, e1, ?_⟩
  refine hb O as σ H _ ρ _ R f fun x ρ1 v H1 q1 f1 E1 d1 => ?_
  unfold intF at q1
  split at q1
  · next z =>
    cases d1
    obtain ⟨ds, hds, c, hc, q1⟩ := ownF_of q1
    obtain ⟨p', xs, e1', e2', e3', e4'⟩ := E1.own_at hds
    rw [e2] at e2'
    cases e2'
    obtain ⟨u, hu, du⟩ := e4'.atI hc
    cases du
    refine ⟨p, xs, z, _, rfl, rfl, SqL.of e3', hu, ?_⟩
    refine ha O as σ H1 _ ρ1 _ E1 q1 fun y ρ2 w H2 q2 f2 E2 d2 => ?_
    unfold intF at q2
    split at q2
    · cases d2
      obtain ⟨es, hes, j, hj, q2⟩ := ownF_of q2
      obtain ⟨p'', ys, e1'', e2'', e3'', e4''⟩ := E2.own_at hes
      rw [e2] at e2''
      cases e2''
      refine ⟨_, _, rfl, rfl, p, ys, z, j, rfl, rfl, e3'', by rw [e4''.length]; exact hj, ?_⟩
      refine C.nx _ _ _ _ q2 (.of ((f1.trans f2).trans fun b o nb e => ?_)) (E2.put e2 (e4''.set (.int _) j))
      rw [upd_ne (fun z : b = p => nb (by rw [z]; exact .inl ⟨i, e2⟩))]
      exact e
    · exact q2.elim
  · exact q1.elim
/-- i, j = e, [..] by way of the tuple -/
theorem rs_asgO2 {i j : Nat} {ta tn : TE} {a : FE} {b : FA} (hj : n ≤ j) (ha : RE K J ta a) (hb : RN K J tn b) : RS K J (tAsg (tTup (tCons ta (tCons tn tNil))) (gTup K 2 (gCons (gName i) (gCons (gName j) gNil)))) (fParO2 i j a b) := by
  intro O as σ H D ρ E R f C
  refine ha O as σ H _ ρ _ R f fun d ρ1 v H1 q1 f1 E1 d1 => ?_
  refine hb O as σ H1 _ ρ1 _ E1 q1 fun ds ρ2 p xs H2 q2 f2 hp1 E2 hp2 d2 => ?_
  refine ⟨by show 2 ≤ sizeLine; decide, fun T hT => ?_⟩
  have s3 := Same.new (o := .tup [v, .ref p]) hT
  refine ⟨T, _, rfl, SqT.of upd_same, rfl, _, _, rfl, _, _, rfl, rfl, ?_⟩
  have E3 := E2.grow s3
  have x := ext_own ((f1.trans f2).trans (FrA.of s3)) hj (none_back E1 f1 hp1)
  exact C.nx _ _ _ _ q2.2.2 x ((E3.setFz q2.1 ((d1.mono (same_plus f2 hp1)).mono (hp_grow s3))).ownNew q2.2.1 (J.cl _ _ _ _ R.inv x) R.inq (fun z => E1.fresh hp1 z) (s3 _ _ hp2) (d2.mono (hp_grow s3)))
/-- own == e, own != e -/
def fEqO (h : Bool → Bool) (i : Nat) (b : FE) : FE := fun ρ P => ownF ρ i fun _ => b ρ fun y ρ1 => ownF ρ1 i fun ds => SeqAt.shaped (.list ds) = true ∧ SeqAt.shaped y = true ∧ P (.bool (h (PyData.eqv (.list ds) y))) ρ1
theorem own_dp {O : Addr → Prop} {as : Nat → Option Addr} {H : Hp} {ρ : En} {σ : L2.St} {i : Nat} {ds : List PyData} (E : EnR K J O as H ρ σ) (h : ρ[i]? = some (.own ds)) (sh : SeqAt.shaped (.list ds) = true) : ∃ a, as i = some a ∧ σ[i]? = some (some (.ref a)) ∧ Dp K H (.ref a) (.list ds) := by
  obtain ⟨a, xs, e1, e2, e3, e4⟩ := E.own_at h
  exact ⟨a, e2, e1, .lst (SqL.of e3) (DpAll.mono hp_same (e4.dp (plain_of sh)))⟩
theorem re_eqO {i : Nat} {tb : TE} {b : FE} (hb : RE K J tb b) : RE K J (tOp (rEqD K) (tVar i) tb) (fEqO id i b) := by
  intro O as σ H Q ρ P E q k
  obtain ⟨ds0, h0, q⟩ := ownF_of q
  obtain ⟨a, xs0, e1, e2, _, _⟩ := E.own_at h0
  refine ⟨_, e1, ?_⟩
  refine hb O as σ H _ ρ _ E q fun x ρ1 v H1 q1 f1 E1 d1 => ?_
  obtain ⟨ds, hds, s1, s2, p⟩ := ownF_of q1
  obtain ⟨a', e2', _, dp⟩ := own_dp E1 hds s1
  rw [e2] at e2'
  cases e2'
  exact ⟨_, _, dp, Dp.mono hp_same (d1.dp (plain_of s2)), s1, s2, k _ _ _ _ p f1 E1 (.bl _)⟩
theorem re_neO {i : Nat} {tb : TE} {b : FE} (hb : RE K J tb b) : RE K J (tOp (rNeD K) (tVar i) tb) (fEqO not i b) := by
  intro O as σ H Q ρ P E q k
  obtain ⟨ds0, h0, q⟩ := ownF_of q
  obtain ⟨a, xs0, e1, e2, _, _⟩ := E.own_at h0
  refine ⟨_, e1, ?_⟩
  refine hb O as σ H _ ρ _ E q fun x ρ1 v H1 q1 f1 E1 d1 => ?_
  obtain ⟨ds, hds, s1, s2, p⟩ := ownF_of q1
  obtain ⟨a', e2', _, dp⟩ := own_dp E1 hds s1
  rw [e2] at e2'
  cases e2'
  exact ⟨_, _, dp, Dp.mono hp_same (d1.dp (plain_of s2)), s1, s2, k _ _ _ _ p f1 E1 (.bl _)⟩
end
end DL
/-! new lists handed back; own lists changed by methods; more built-in calls -/
namespace DL
open PySem L2 Z PySem.Spec PyProof.Rows
variable [Tbs]
section
variable {K : PySem.W.Frag} {n : Nat} {J : Jv n}
theorem EnR.release {O : Addr → Prop} {as : Nat → Option Addr} {H : Hp} {ρ : En} {σ : L2.St} {i : Nat} {ds : List PyData} (E : EnR K J O as H ρ σ) (hn : n ≤ i) (h : ρ[i]? = some (.own ds)) :
    ∃ p xs, as i = some p ∧ H p = some (.lst xs) ∧ EnR K J (plus O p) (upA as i none) H (ρ.set i .no) σ ∧ DqAll K (hp (Hid (plus O p) (upA as i none)) H) xs ds := by
  obtain ⟨p, xs, e1, e2, e3, e4⟩ := E.own_at h
  have hS : Same (hp (Hid O as) H) (hp (Hid (plus O p) (upA as i none)) H) := hp_less fun a q => by
    rcases q with (q | q) | q
    · exact .inl q
    · rw [q]; exact .inr (.inl ⟨i, e2⟩)
    · rcases q.up with q | q
      · cases q
      · exact .inr q
  refine ⟨p, xs, e2, e3, ⟨by rw [List.length_set]; exact E.len, fun j sl o h1 h2 => ?_, fun j k b h1 h2 => ?_, fun j b h => ?_, fun j b h => ?_, fun a q => ?_, J.cl _ _ _ _ E.inv ⟨FrA.refl _ _, fun a q => by
    rcases q.up with q | q
    · cases q
    · exact .inl q, fun j hj => upA_ne (by omega)⟩, J.up _ _ (fun _ z => .inl z) E.inq, E.tab⟩, e4.mono hS⟩
  · rw [List.getElem?_set] at h1
    by_cases e : i = j
    · subst e
      rw [if_pos rfl] at h1
      split at h1
      · cases h1
        rw [upA_at]
        exact .no
      · cases h1
    · rw [if_neg e] at h1
      rw [upA_ne (fun z => e z.symm)]
      exact (E.at_ j sl o h1 h2).mono hS fun _ _ => rfl
  · by_cases q : j = i
    · rw [q, upA_at] at h1; cases h1
    · by_cases q2 : k = i
      · rw [q2, upA_at] at h2; cases h2
      · rw [upA_ne q] at h1; rw [upA_ne q2] at h2
        exact E.inj j k b h1 h2
  · by_cases q : j = i
    · rw [q, upA_at] at h; cases h
    · rw [upA_ne q] at h
      rintro (z | z)
      · exact E.out j b h z
      · rw [z] at h
        exact q (E.inj j i p h e2)
  · by_cases q : j = i
    · rw [q, upA_at] at h; cases h
    · rw [upA_ne q] at h; rw [List.length_set]; exact E.bnd j b h
  · rcases q with q | q
    · exact E.occ a q
    · rw [q, e3]; exact Option.some_ne_none _
/-- return own -/
def fRetO (i : Nat) : FS := fun E ρ => ownF ρ i fun ds => E.ro ds (ρ.set i .no)
theorem rs_retO {i : Nat} (hi : n ≤ i) : RS K J (tRet (tVar i)) (fRetO i) := by
  intro O as σ H D ρ E R f C
  obtain ⟨ds, h, f⟩ := ownF_of f
  obtain ⟨p, xs, e2, e3, R', d⟩ := R.release hi h
  obtain ⟨a, ys, e1, e2', _, _⟩ := R.own_at h
  rw [e2] at e2'
  cases e2'
  refine ⟨_, e1, C.ro _ _ _ _ _ _ _ f ⟨FrA.refl _ _, fun a q => ?_, fun j hj => upA_ne (by omega)⟩ (.inr (.inl ⟨i, e2⟩)) R' e3 d⟩
  rcases q.up with q | q
  · cases q
  · exact .inl q
/-- return of a new list -/
def fRetW (f : FA) : FS := fun E ρ => f ρ fun ds ρ1 => E.ro ds ρ1
theorem rs_retW {te : TE} {f : FA} (h : RN K J te f) : RS K J (tRet te) (fRetW f) := by
  intro O as σ H D ρ E R q C
  exact h O as σ H _ ρ _ R q fun ds ρ1 p xs H2 q1 f1 hp1 E1 hp2 d1 => C.ro _ _ _ _ _ _ _ q1 (.of f1) (.inl hp1) E1 hp2 d1
abbrev FM := List Sl → (List PyData → List Sl → Prop) → Prop
/-- a def that hands back a new list -/
def spN (K : PySem.W.Frag) (n : Nat) (F : FM) : Sp := fun vs H Q _ => vs.length = n ∧ ∃ (O : Addr → Prop) (as : Nat → Option Addr) (ρ : En) (P : List PyData → List Sl → Prop), EnR K (J0 : Jv 0) O as H ρ (vs.map some) ∧ F ρ P ∧
  ∀ ds out p xs H', P ds out → FrA (Own as) H H' → TabsOk H' → H p = none → (∀ i a, as i = some a → ∃ ds xs, out[i]? = some (.own ds) ∧ H' a = some (.lst xs) ∧ DqAll K (hp (Hid (plus O p) as) H') xs ds) → H' p = some (.lst xs) → DqAll K (hp (Hid (plus O p) as) H') xs ds → Q (.ref p) H'
def fnM (n m : Nat) (b : FS) : FM := fun sls P => b { nx := fun _ => False, rt := fun _ _ => False, ro := fun ds ρ' => P ds (ρ'.take n) } (sls ++ List.replicate (m - n) .no)
theorem fn_coreN {ps : List Str} {N : List Str} {b : FS} {t : TS} (rs : ∀ J : Jv ps.length, RS K J t b) {vs : List V} {H : Hp} {Q : VK} {E : XK} (h : spN K ps.length (fnM ps.length N.length b) vs H Q E) : t { nx := fun _ H' => Q .non H', rt := Q } (L2.start N vs) H := by
  obtain ⟨hv, O, as, ρ, P, R, hF, q⟩ := h
  have few : ∀ i a, as i = some a → i < ps.length := fun i a h => by have := R.bnd i a h; have := R.len; rw [List.length_map] at this; omega
  refine rs J0 O as _ H _ _ _ ((R.start N hv).reJ trivial trivial) hF ⟨fun _ _ _ _ p => p.elim, fun _ _ _ _ _ _ p => p.elim, fun _ _ _ _ p => p.elim, fun _ _ _ _ p => p.elim, fun ds ρ' p xs as' σ' H' pr x o R' e d => ?_⟩
  have less : Same (hp (Hid (plus O p) as') H') (hp (Hid (plus O p) as) H') := hp_less fun c hc => by
    rcases hc with hc | ⟨j, hc⟩ | hc
    · exact .inl hc
    · exact .inr (.inl ⟨j, by rw [x.fix j (few j c hc)]; exact hc⟩)
    · exact .inr (.inr hc)
  have new : H p = none := by
    rcases o with o | ⟨j, o⟩ | o
    · exact o
    rotate_left
    · exact absurd o (R'.tab.no e)
    · have h' : as' j = some p := by rw [x.fix j (few j p o)]; exact o
      exact absurd (.inr rfl) (R'.out j p h')
  refine q _ _ _ _ _ pr x.fr R'.tab new (fun i a h => ?_) e (d.mono less)
  have h' : as' i = some a := by rw [x.fix i (few i a h)]; exact h
  obtain ⟨es, ys, e1, _, e3, e4⟩ := R'.is_own h'
  exact ⟨es, ys, by rw [List.getElem?_take, if_pos (few i a h)]; exact e1, e3, e4.mono less⟩
section
variable {P : Program} {w : World} {mg : Str → Option Value} {base : Heap} {k : Nat} {f : Addr} {fd : FuncData} {ps : List Str} {x qual : Str} {st : Stmt} {N : List Str} {b : FS}
theorem okN (F : Fun K x qual st f fd) (S : FnScope N ps (defScope st))
    (body : ∀ (cdv : Value) (A : Around) (outer : List Env) (s : Shared) (H : Hp) (E : XK), Room k (A.deeper (envOfC qual (defScope st) s.heap.objs.size f cdv)) →
      (A.deeper (envOfC qual (defScope st) s.heap.objs.size f cdv)).guards = some [] →
      ∃ t, PSs (cxOf CX0 P w K mg base N qual (defScope st) f cdv A outer s H E).nox (defBody st) t ∧ ∀ J : Jv ps.length, RS K J t b) :
    FnG P w K mg base (k + 1) f fd ps (spN K ps.length (fnM ps.length N.length b)) := by
  refine okG F S (fun vs H Q E h => h.1) (fun cdv A outer s H vs Q E hr hg h => ?_)
  obtain ⟨t, pt, rs⟩ := body cdv A outer s H E hr hg
  exact ⟨t, pt, fn_coreN rs h⟩
theorem okN0 (F : Fun K x qual st f fd) (S : FnScope N ps (defScope st))
    (body : ∀ (cdv : Value) (A : Around) (outer : List Env) (s : Shared) (H : Hp) (E : XK), Room k (A.deeper (envOfC qual (defScope st) s.heap.objs.size f cdv)) →
      ∃ t, PSs (cxOf CX0 P w K mg base N qual (defScope st) f cdv A outer s H E).nox (defBody st) t ∧ ∀ J : Jv ps.length, RS K J t b) :
    FnOk P w K mg base CX0 (k + 1) f fd ps (spN K ps.length (fnM ps.length N.length b)) := by
  refine F.ok S (fun vs H Q E h => h.1) (fun cdv A outer s H vs Q E hr h => ?_)
  obtain ⟨t, pt, rs⟩ := body cdv A outer s H E hr
  exact ⟨t, pt, fn_coreN rs h⟩
theorem okND {params : Arguments} {bd : List Stmt} {scope : Scope} {dvs : List V} {kws : List (Str × V)} (F : FunD K x qual params bd scope dvs kws f fd) (S : FnScope N ps scope)
    (body : ∀ (cdv : Value) (A : Around) (outer : List Env) (s : Shared) (H : Hp) (E : XK), Room k (A.deeper (envOfC qual scope s.heap.objs.size f cdv)) →
      ∃ t, PSs (cxOf CX0 P w K mg base N qual scope f cdv A outer s H E).nox bd t ∧ ∀ J : Jv ps.length, RS K J t b) :
    FnOk P w K mg base CX0 (k + 1) f fd ps (spN K ps.length (fnM ps.length N.length b)) := by
  refine okD F S (fun vs H Q E h => h.1) (fun cdv A outer s H vs Q E hr h => ?_)
  obtain ⟨t, pt, rs⟩ := body cdv A outer s H E hr
  exact ⟨t, pt, fn_coreN rs h⟩
end
theorem call_coreN {O : Addr → Prop} {as : Nat → Option Addr} {H : Hp} {ρ : En} {σ : L2.St} {xs : List Ar} {r : List Sl} {vs : List V} {m : Nat} {F : FM} {P : List PyData → En → Prop} {Q : VK} {E0 : XK} (E : EnR K J O as H ρ σ) (fit : Fits ρ xs r) (ar : ArsR K (hp (Hid O as) H) as vs xs) (hm : xs.length = m) (nd : (ownIx xs).Nodup)
    (f : F r fun d out => P d (wb ρ xs out)) (k : ∀ ds ρ' p ys H', P ds ρ' → FrA (Own as) H H' → H p = none → EnR K J (plus O p) as H' ρ' σ → H' p = some (.lst ys) → DqAll K (hp (Hid (plus O p) as) H') ys ds → Q (.ref p) H') : spN K m F vs H Q E0 := by
  have sub : ∀ a, Own (adrs as xs) a → Own as a := fun a h => by
    rcases h with ⟨j, h⟩ | h
    · obtain ⟨i, _, h⟩ := adrs_own h
      exact .inl ⟨i, h⟩
    · exact .inr h
  have hid : ∀ a, Hid (fun a => Hid O as a ∧ ¬ Own (adrs as xs) a) (adrs as xs) a → Hid O as a := fun a => by
    rintro (h | h)
    · exact h.1
    · exact .inr (sub a h)
  have s1 : Same (hp (Hid O as) H) (hp (Hid (fun a => Hid O as a ∧ ¬ Own (adrs as xs) a) (adrs as xs)) H) := hp_less fun a h => hid a h
  have s2 : ∀ p H', Same (hp (Hid (plus (fun a => Hid O as a ∧ ¬ Own (adrs as xs) a) p) (adrs as xs)) H') (hp (Hid (plus O p) as) H') := fun p H' => hp_less fun a h => by
    by_cases z : a = p
    · exact .inl (.inr z)
    · by_cases q : Own (adrs as xs) a
      · exact .inr q
      · rcases h with (h | h) | h
        · exact .inl (.inl ⟨.inl h, q⟩)
        · exact absurd h z
        · exact .inl (.inl ⟨.inr h, q⟩)
  refine ⟨by rw [ar.len, hm], fun a => Hid O as a ∧ ¬ Own (adrs as xs) a, adrs as xs, r, _, ⟨by rw [List.length_map, fit.len, ar.len], fun j sl o h1 h2 => fits_at E s1 fit ar h1 h2, fun j1 j2 a h1 h2 => ?_, fun j a h q => q.2 (.inl ⟨j, h⟩), fun j a h => ?_, fun a h => E.full h.1, trivial, trivial, E.tab⟩, f, fun d out p ys H' pr fr tb hp1 ow hp2 dv => ?_⟩
  · obtain ⟨i1, e1, h1⟩ := adrs_own h1
    obtain ⟨i2, e2, h2⟩ := adrs_own h2
    rw [E.inj i1 i2 a h1 h2] at e1
    exact ownIx_inj nd e1 e2
  · obtain ⟨i, e, _⟩ := adrs_own h
    rw [fit.len]
    exact (List.getElem?_eq_some_iff.mp e).1
  · have fr' : FrA (Own as) H H' := fr.up sub
    refine k d _ p ys H' pr fr' hp1 ⟨by rw [wb_len]; exact E.len, fun i sl o h1 h2 => ?_, E.inj, fun i a h => ?_, fun i a h => by rw [wb_len]; exact E.bnd i a h, fun a h => ?_, J.fr E.inv fr', J.up _ _ (fun _ z => .inl z) E.inq, tb⟩ hp2 (dv.mono (s2 p H'))
    · by_cases q : i ∈ ownIx xs
      · obtain ⟨j, e⟩ := ownIx_mem q
        have hi : i < ρ.length := by
          have := (List.getElem?_eq_some_iff.mp h1).1
          rw [wb_len] at this
          exact this
        obtain ⟨a, ha⟩ := ar.own_at e
        have hadr : adrs as xs j = some a := by unfold adrs; rw [e]; exact ha
        obtain ⟨ds, zs, e1, e2, e3⟩ := ow j a hadr
        rw [wb_own ρ hi nd e e1] at h1
        cases h1
        obtain ⟨_, _, _, e4, _⟩ := E.is_own ha
        rw [e4] at h2
        cases h2
        rw [ha]
        exact .own e2 (e3.mono (s2 p H'))
      · rw [wb_other ρ xs out q] at h1
        refine (E.at_ i sl o h1 h2).mono (same_plus fr' hp1) fun b hb => ?_
        obtain ⟨_, _, _, _, e, _⟩ := E.is_own hb
        rw [e]
        refine fr _ _ (fun z => ?_) e
        rcases z with ⟨j, z⟩ | z
        rotate_left
        · exact E.tab.no e z
        obtain ⟨i', e', h'⟩ := adrs_own z
        rw [E.inj i' i b h' hb] at e'
        exact q (mem_ownIx e')
    · rintro (z | z)
      · exact E.out i a h z
      · obtain ⟨_, _, _, _, e, _⟩ := E.is_own h
        rw [z, hp1] at e
        cases e
    · rcases h with h | h
      · exact E.occ' fr' tb h
      · rw [h, hp2]; exact Option.some_ne_none _
def fCallW (m : Nat) (F : FM) (dv : List PyData) (a : FC) : FA := fun ρ P => a ρ fun xs ρ1 => xs.length + dv.length = m ∧ (ownIx xs).Nodup ∧ argF ρ1 xs fun r => F (r ++ dv.map .fz) fun d out => P d (wb ρ1 xs out)
theorem rn_call {m : Nat} {F : FM} {dvs : List V} {dv : List PyData} {E0 : XK} {t : TA} {f : FC} (hd : ∀ H, DqAll K H dvs dv) (ha : RC K J t f) : RN K J (tCall (spN K m F) dvs E0 t) (fCallW m F dv f) := by
  intro O as σ H Q ρ P E q k
  refine ha O as σ H _ ρ _ E q fun xs ρ1 vs H1 q1 f1 E1 d1 => ?_
  obtain ⟨hm, nd, q1⟩ := q1
  obtain ⟨r, fit, q1⟩ := argF_of q1
  refine call_coreN (xs := xs ++ dv.map .dat) E1 (fit.app (fits_dat dv)) (d1.app (dat_ars (hd _))) (by rw [List.length_append, List.length_map]; exact hm) (by rw [ownIx_app]; exact nd) ?_ fun ds ρ' p ys H' pr fr hp1 E' hp2 q' => k ds ρ' p ys H' pr (f1.trans fr) (none_back E1 f1 hp1) E' hp2 q'
  simp only [wb_app]
  exact q1
def fCallNW (F : FM) (n m : Nat) (gD : List PyData → List PyData → List PyData) (f fk : FA) : FA := fun ρ P => f ρ fun ds ρ1 => fk ρ1 fun es ρ2 => ds.length = n ∧ es.length = m ∧ F ((gD ds es).map .fz) fun d _ => P d ρ2
theorem rn_callN {l n m : Nat} {F : FM} {gV : List V → List V → List V} {gD : List PyData → List PyData → List PyData} {E0 : XK} {t tk : TA} {f fk : FA}
    (hl : ∀ ds es : List PyData, ds.length = n → es.length = m → (gD ds es).length = l)
    (hg : ∀ (vs zs : List V) (ds es : List PyData) (H : Hp), DqAll K H vs ds → DqAll K H zs es → DqAll K H (gV vs zs) (gD ds es)) (ha : RA K J t f) (hk : RA K J tk fk) : RN K J (tCallN n m (spN K l F) gV E0 t tk) (fCallNW F n m gD f fk) := by
  intro O as σ H Q ρ P E q k
  refine ha O as σ H _ ρ _ E q fun ds ρ1 vs H1 q1 f1 E1 d1 => ?_
  refine hk O as σ H1 _ ρ1 _ E1 q1 fun es ρ2 zs H2 q2 f2 E2 d2 => ?_
  obtain ⟨l1, l2, q2⟩ := q2
  refine ⟨by rw [d1.length]; exact l1, by rw [d2.length]; exact l2, ?_⟩
  refine call_coreN (xs := (gD ds es).map .dat) E2 (fits_dat _) (dat_ars (hg _ _ _ _ _ (d1.fr f2) d2)) (by rw [List.length_map]; exact hl _ _ l1 l2) (by rw [ownIx_dat]; exact .nil) ?_ fun ds ρ' p ys H' pr fr hp1 E' hp2 q' => k ds ρ' p ys H' pr ((f1.trans f2).trans fr) (none_back E1 f1 (none_back E2 f2 hp1)) E' hp2 q'
  simp only [wb_dat]
  exact q2
/-! built-in calls and operators that make a new list -/
def RBN (K : PySem.W.Frag) (r : List V → Hp → VK → Prop) (g : List PyData → (List PyData → Prop) → Prop) : Prop := ∀ (A : Addr → Prop) (H : Hp) (Q : VK) (xs : List V) (ds : List PyData) (P : List PyData → Prop),
  DqAll K (hp A H) xs ds → g ds P → (∀ es p ys, P es → H p = none → DqAll K (hp A H) ys es → Q (.ref p) (upd H p (.lst ys))) → r xs H Q
theorem new_step {O : Addr → Prop} {as : Nat → Option Addr} {H H1 : Hp} {ρ1 : En} {σ : L2.St} {p : Addr} {ys : List V} {es : List PyData} {P : List PyData → En → Prop} {Q : VK} (f1 : FrA (Own as) H H1) (E1 : EnR K J O as H1 ρ1 σ) (q : P es ρ1) (hp1 : H1 p = none) (d : DqAll K (hp (Hid O as) H1) ys es)
    (k : ∀ ds ρ' p xs H', P ds ρ' → FrA (Own as) H H' → H p = none → EnR K J (plus O p) as H' ρ' σ → H' p = some (.lst xs) → DqAll K (hp (Hid (plus O p) as) H') xs ds → Q (.ref p) H') : Q (.ref p) (upd H1 p (.lst ys)) := by
  obtain ⟨E2, s2⟩ := E1.addO (o := .lst ys) hp1
  exact k _ _ _ _ _ q (f1.trans (FrA.of (Same.new hp1))) (none_back E1 f1 hp1) E2 upd_same (d.mono s2)
def fCBN (g : List PyData → (List PyData → Prop) → Prop) (a : FA) : FA := fun ρ P => a ρ fun ds ρ1 => g ds fun es => P es ρ1
theorem rn_cb {r : List V → Hp → VK → Prop} {g : List PyData → (List PyData → Prop) → Prop} {t : TA} {f : FA} (hr : RBN K r g) (ha : RA K J t f) : RN K J (tCB r t) (fCBN g f) := by
  intro O as σ H Q ρ P E q k
  refine ha O as σ H _ ρ _ E q fun ds ρ1 vs H1 q1 f1 E1 d1 => ?_
  exact hr (Hid O as) H1 _ vs ds _ d1 q1 fun es p ys pr hp1 d => new_step f1 E1 pr hp1 d k
def nList (ds : List PyData) (P : List PyData → Prop) : Prop := one ds fun d => seqF d P
theorem rbn_list : RBN K (fun xs H Q => ∃ p ys, xs = [.ref p] ∧ (SqL K H p ys ∨ SqT K H p ys) ∧ ∀ l, H l = none → Q (.ref l) (upd H l (.lst ys))) nList := by
  intro A H Q xs ds P r g k
  obtain ⟨v, d, rfl, q, g⟩ := one_of r g
  obtain ⟨p, ys, es, rfl, s, r, g⟩ := seqF_of q g
  exact ⟨p, ys, rfl, s, fun l hl => k _ _ _ g hl r⟩
def nSortI (ds : List PyData) (P : List PyData → Prop) : Prop := one ds fun d => listF d fun es => intsF es fun ns => ∀ ms : List Int, ms.Perm ns → ms.Pairwise (· ≤ ·) → P (ms.map .int)
theorem rbn_sortI : RBN K (rSortedI K) nSortI := by
  intro A H Q xs ds P r g k
  obtain ⟨v, d, rfl, q, g⟩ := one_of r g
  unfold listF at g
  split at g
  · obtain ⟨ns, e, g'⟩ := intsF_of g
    subst e
    obtain ⟨a, ys, rfl, s, r⟩ := q.list_of
    cases r.ints_of
    exact ⟨a, ns, rfl, SqL.mono hp_same s, fun ms p h1 h2 hp1 => k _ _ _ (g' ms h1 h2) hp1 (DqAll.ints _)⟩
  · exact g.elim
def nSortS (ds : List PyData) (P : List PyData → Prop) : Prop := one ds fun d => listF d fun es => strsF es fun ns => ns.length < 64 ∧ ∀ ms : List Str, ms.Perm ns → sortedS ms = true → P (ms.map .str)
theorem rbn_sortS : RBN K (rSortedS K) nSortS := by
  intro A H Q xs ds P r g k
  obtain ⟨v, d, rfl, q, g⟩ := one_of r g
  unfold listF at g
  split at g
  · obtain ⟨ns, e, hl, g'⟩ := strsF_of g
    subst e
    obtain ⟨a, ys, rfl, s, r⟩ := q.list_of
    cases r.strs_of
    exact ⟨a, ns, rfl, SqL.mono hp_same s, hl, fun ms p h1 h2 hp1 => k _ _ _ (g' ms h1 h2) hp1 (DqAll.strs _)⟩
  · exact g.elim
def RRN (K : PySem.W.Frag) (r : R2) (g : PyData → PyData → (List PyData → Prop) → Prop) : Prop := ∀ (A : Addr → Prop) (H : Hp) (Q : VK) (x y : V) (a b : PyData) (P : List PyData → Prop),
  Dq K (hp A H) x a → Dq K (hp A H) y b → g a b P → (∀ es p ys, P es → H p = none → DqAll K (hp A H) ys es → Q (.ref p) (upd H p (.lst ys))) → r x y H Q
def fOpN (g : PyData → PyData → (List PyData → Prop) → Prop) (a b : FE) : FA := fun ρ P => a ρ fun x ρ1 => b ρ1 fun y ρ2 => g x y fun es => P es ρ2
theorem rn_op {r : R2} {g : PyData → PyData → (List PyData → Prop) → Prop} {ta tb : TE} {fa fb : FE} (hr : RRN K r g) (ha : RE K J ta fa) (hb : RE K J tb fb) : RN K J (tOp r ta tb) (fOpN g fa fb) := by
  intro O as σ H Q ρ P E q k
  refine ha O as σ H _ ρ _ E q fun a ρ1 x H1 q1 f1 E1 d1 => ?_
  refine hb O as σ H1 _ ρ1 _ E1 q1 fun b ρ2 y H2 q2 f2 E2 d2 => ?_
  exact hr (Hid O as) H2 _ x y a b _ (d1.fr f2) d2 q2 fun es p ys pr hp1 d => new_step (f1.trans f2) E2 pr hp1 d k
def nCat : PyData → PyData → (List PyData → Prop) → Prop := fun a b P => match a, b with
  | .list xs, .list ys => xs.length + ys.length ≤ sizeLine ∧ P (xs ++ ys)
  | _, _ => False
theorem rrn_cat : RRN K (rCatK K) nCat := by
  intro A H Q x y a b P da db g k
  unfold nCat at g
  split at g
  · obtain ⟨p, xs, rfl, s, r⟩ := da.list_of
    obtain ⟨p', xs', rfl, s', r'⟩ := db.list_of
    exact ⟨p, p', xs, xs', rfl, rfl, SqL.mono hp_same s, SqL.mono hp_same s', by rw [r.length, r'.length]; exact g.1, fun l hl => k _ _ _ g.2 hl (r.append r')⟩
  · exact g.elim
theorem own_out {O : Addr → Prop} {as : Nat → Option Addr} {H : Hp} {ρ : En} {σ : L2.St} {p : Addr} {xs : List V} (E : EnR K J (plus O p) as H ρ σ) (e : H p = some (.lst xs)) : ¬ Own as p := fun h => h.elim (fun ⟨i, h⟩ => E.out i p h (.inr rfl)) (E.tab.no e)
theorem plus_sub {O : Addr → Prop} {p : Addr} : ∀ a, O a → plus O p a := fun _ h => .inl h
/-- [..] * k, the list being written there -/
def fRep (a : FA) (b : FE) : FA := fun ρ P => a ρ fun ds ρ1 => b ρ1 fun y ρ2 => intF y fun k => -(2 ^ 63) ≤ k ∧ k < 2 ^ 63 ∧ ds.length * k.toNat ≤ sizeLine ∧ P (List.replicate k.toNat ds).flatten ρ2
theorem rn_rep {ta tb : TE} {a : FA} {b : FE} (ha : RN K J ta a) (hb : RE K J tb b) : RN K J (tOp rRep ta tb) (fRep a b) := by
  intro O as σ H Q ρ P E q k
  refine ha O as σ H _ ρ _ E q fun ds ρ1 p xs H1 q1 f1 hp1 E1 hp2 d1 => ?_
  refine hb (plus O p) as σ H1 _ ρ1 _ E1 q1 fun y ρ2 v H2 q2 f2 E2 d2 => ?_
  unfold intF at q2
  split at q2
  · cases d2
    refine ⟨p, _, xs, rfl, rfl, f2 _ _ (own_out E1 hp2) hp2, q2.1, q2.2.1, by rw [d1.length]; exact q2.2.2.1, fun l hl => ?_⟩
    have E3 := E2.lessO E.inq
    exact new_step (f1.trans f2) E3 q2.2.2.2 hl (((d1.fr f2).mono (hp_less fun _ => hid_plus)).rep _) k
  · exact q2.elim
def fSlN (a : FE) (lo hi : FO) : FA := fun ρ P => a ρ fun x ρ1 => lo ρ1 fun l ρ2 => hi ρ2 fun u ρ3 => listF x fun ds => P (cutD ds l u) ρ3
theorem rn_sl {te : TE} {tl th : TO} {a : FE} {lo hi : FO} (ha : RE K J te a) (hl : RO K J tl lo) (hh : RO K J th hi) : RN K J (tSl (rSlL K) te tl th) (fSlN a lo hi) := by
  intro O as σ H Q ρ P E q k
  refine ha O as σ H _ ρ _ E q fun x ρ1 v H1 q1 f1 E1 d1 => ?_
  refine hl O as σ H1 _ ρ1 _ E1 q1 fun l ρ2 H2 q2 f2 E2 => ?_
  refine hh O as σ H2 _ ρ2 _ E2 q2 fun u ρ3 H3 q3 f3 E3 => ?_
  unfold listF at q3
  split at q3
  · obtain ⟨p, xs, rfl, s, r⟩ := ((d1.fr f2).fr f3).list_of
    exact ⟨p, xs, rfl, SqL.mono hp_same s, fun l hl => new_step ((f1.trans f2).trans f3) E3 q3 hl (r.cut _ _) k⟩
  · exact q3.elim
/-- xs[::-1] -/
def fRev (a : FE) : FA := fun ρ P => a ρ fun x ρ1 => listF x fun ds => P ds.reverse ρ1
theorem rn_rev {te : TE} {a : FE} (ha : RE K J te a) : RN K J (tRevL K te) (fRev a) := by
  intro O as σ H Q ρ P E q k
  refine ha O as σ H _ ρ _ E q fun x ρ1 v H1 q1 f1 E1 d1 => ?_
  unfold listF at q1
  split at q1
  · obtain ⟨p, xs, rfl, s, r⟩ := d1.list_of
    exact ⟨p, xs, rfl, SqL.mono hp_same s, fun l hl => new_step f1 E1 q1 hl r.rev k⟩
  · exact q1.elim
/-! own lists changed by methods -/
theorem put_fr {as : Nat → Option Addr} {H H1 : Hp} {p : Addr} {i : Nat} {o : HO} (f : FrA (Own as) H H1) (e : as i = some p) : FrA (Own as) H (upd H1 p o) := fun b u nb h => by
  rw [upd_ne (fun z : b = p => nb (by rw [z]; exact .inl ⟨i, e⟩))]
  exact f b u nb h
/-- own.pop(k), its value -/
def fPopAt (i : Nat) (a : FE) : FE := fun ρ P => ownF ρ i fun _ => a ρ fun x ρ1 => intF x fun k => ownF ρ1 i fun ds => -(2 ^ 63) ≤ k ∧ k < 2 ^ 63 ∧ ∃ j d, seqIndex? k ds.length = some j ∧ ds[j]? = some d ∧ P d (ρ1.set i (.own (ds.eraseIdx j)))
theorem DqAll.erase {G : Hp} : ∀ {v : List V} {d : List PyData} (m : Nat), DqAll K G v d → DqAll K G (v.eraseIdx m) (d.eraseIdx m)
  | _, _, _, .nil => .nil
  | _, _, 0, .cons _ b => b
  | _, _, m + 1, .cons a b => .cons a (DqAll.erase m b)
theorem re_popAt {i : Nat} {te : TE} {a : FE} (ha : RE K J te a) : RE K J (tBM K "list" rPopAt (tVar i) (tCons te tNil)) (fPopAt i a) := by
  intro O as σ H Q ρ P E q kk
  obtain ⟨ds0, h0, q⟩ := ownF_of q
  obtain ⟨p, xs0, e1, e2, e3, _⟩ := E.own_at h0
  refine ⟨_, e1, .inl ⟨rfl, _, SqL.of e3⟩, ?_⟩
  refine ha O as σ H _ ρ _ E q fun x ρ1 v H1 q1 f1 E1 d1 => ?_
  unfold intF at q1
  split at q1
  · cases d1
    obtain ⟨ds, hds, b1, b2, j, d, hj, hd, pr⟩ := ownF_of q1
    obtain ⟨p', xs, e1', e2', e3', e4'⟩ := E1.own_at hds
    rw [e2] at e2'
    cases e2'
    obtain ⟨y, hy, dy⟩ := e4'.got hd
    have E2 := E1.put (i := i) e2 (e4'.erase j)
    refine ⟨p, xs, _, j, y, rfl, rfl, e3', b1, b2, by rw [e4'.length]; exact hj, hy, kk _ _ _ _ pr (put_fr f1 e2) E2 (dy.mono ?_)⟩
    exact hp_fr (put_fr (FrA.refl _ _) e2) own_hid
  · exact q1.elim
/-- own.pop(), its value -/
def fPop (i : Nat) : FE := fun ρ P => ownF ρ i fun ds => ∃ d, ds[ds.length - 1]? = some d ∧ P d (ρ.set i (.own ds.dropLast))
theorem DqAll.last {G : Hp} {v : List V} {d : List PyData} (h : DqAll K G v d) : DqAll K G v.dropLast d.dropLast := by
  rw [List.dropLast_eq_take, List.dropLast_eq_take, h.length]
  exact h.take _
theorem re_pop {i : Nat} : RE K J (tBM0 K "list" rPop (tVar i)) (fPop i) := by
  intro O as σ H Q ρ P E q k
  obtain ⟨ds, h0, d, hd, q⟩ := ownF_of q
  obtain ⟨p, xs, e1, e2, e3, e4⟩ := E.own_at h0
  obtain ⟨y, hy, dy⟩ := e4.got hd
  refine ⟨_, e1, .inl ⟨rfl, _, SqL.of e3⟩, p, xs, y, rfl, rfl, e3, by rw [e4.length]; exact hy, k _ _ _ _ q (put_fr (FrA.refl _ _) e2) (E.put e2 e4.last) (dy.mono (hp_fr (put_fr (FrA.refl _ _) e2) own_hid))⟩
/-- own.insert(k, e) -/
def fInsert (i : Nat) (a b : FE) : FS := fun E ρ => ownF ρ i fun _ => a ρ fun x ρ1 => intF x fun k => b ρ1 fun d ρ2 => ownF ρ2 i fun ds => ds.length < sizeLine ∧ 0 ≤ k ∧ k < 2 ^ 63 ∧ E.nx (ρ2.set i (.own (ds.take k.toNat ++ [d] ++ ds.drop k.toNat)))
theorem rs_insert {i : Nat} {ta tb : TE} {a b : FE} (ha : RE K J ta a) (hb : RE K J tb b) : RS K J (tDrop (tBM K "list" (fun x vs H Q => ∃ (l : Addr) (xs : List V) (i : Int) (y : V), x = .ref l ∧ vs = [.int i, y] ∧ H l = some (.lst xs) ∧ xs.length < sizeLine ∧ 0 ≤ i ∧ i < 2 ^ 63 ∧ Q .non (upd H l (.lst (xs.take i.toNat ++ [y] ++ xs.drop i.toNat)))) (tVar i) (tCons ta (tCons tb tNil)))) (fInsert i a b) := by
  intro O as σ H D ρ E R f C
  obtain ⟨ds0, h0, f⟩ := ownF_of f
  obtain ⟨p, xs0, e1, e2, e3, _⟩ := R.own_at h0
  refine ⟨_, e1, .inl ⟨rfl, _, SqL.of e3⟩, ?_⟩
  refine ha O as σ H _ ρ _ R f fun x ρ1 v H1 q1 f1 E1 d1 => ?_
  unfold intF at q1
  split at q1
  · cases d1
    refine hb O as σ H1 _ ρ1 _ E1 q1 fun d ρ2 w H2 q2 f2 E2 d2 => ?_
    obtain ⟨ds, hds, hl, k0, k1, q2⟩ := ownF_of q2
    obtain ⟨p', xs, e1', e2', e3', e4'⟩ := E2.own_at hds
    rw [e2] at e2'
    cases e2'
    exact ⟨p, xs, _, w, rfl, rfl, e3', by rw [e4'.length]; exact hl, k0, k1, C.nx _ _ _ _ q2 (.of (put_fr (f1.trans f2) e2)) (E2.put e2 (((e4'.take _).append (.cons d2 .nil)).append (e4'.drop _)))⟩
  · exact q1.elim
/-- own.extend(e), e being a list that is made there -/
def fExtend (i : Nat) (a : FA) : FS := fun E ρ => ownF ρ i fun _ => a ρ fun es ρ1 => ownF ρ1 i fun ds => ds.length + es.length ≤ sizeLine ∧ E.nx (ρ1.set i (.own (ds ++ es)))
theorem rs_extend {i : Nat} {te : TE} {a : FA} (ha : RN K J te a) : RS K J (tDrop (tBM K "list" rExtend (tVar i) (tCons te tNil))) (fExtend i a) := by
  intro O as σ H D ρ E R f C
  obtain ⟨ds0, h0, f⟩ := ownF_of f
  obtain ⟨p, xs0, e1, e2, e3, _⟩ := R.own_at h0
  refine ⟨_, e1, .inl ⟨rfl, _, SqL.of e3⟩, ?_⟩
  refine ha O as σ H _ ρ _ R f fun es ρ1 b zs H1 q1 f1 hb0 E1' hb1 r => ?_
  have E1 := E1'.lessO R.inq
  obtain ⟨ds, hds, hl, q1⟩ := ownF_of q1
  obtain ⟨p', xs, e1', e2', e3', e4'⟩ := E1.own_at hds
  rw [e2] at e2'
  cases e2'
  exact ⟨p, b, xs, zs, rfl, rfl, e3', hb1, by rw [e4'.length, r.length]; exact hl, C.nx _ _ _ _ q1 (.of (put_fr f1 e2)) (E1.put e2 (e4'.append (r.mono (hp_less fun _ => hid_plus))))⟩
/-- own.reverse() -/
def fReverse (i : Nat) : FS := fun E ρ => ownF ρ i fun ds => E.nx (ρ.set i (.own ds.reverse))
theorem rs_reverse {i : Nat} : RS K J (tDrop (tBM0 K "list" rReverse (tVar i))) (fReverse i) := by
  intro O as σ H D ρ E R f C
  obtain ⟨ds, h0, f⟩ := ownF_of f
  obtain ⟨p, xs, e1, e2, e3, e4⟩ := R.own_at h0
  exact ⟨_, e1, .inl ⟨rfl, _, SqL.of e3⟩, p, xs, rfl, rfl, e3, C.nx _ _ _ _ f (.of (put_fr (FrA.refl _ _) e2)) (R.put e2 e4.rev)⟩
/-! isinstance(x, (list, tuple)) -/
def fIsiLT (a : FE) : FE := fun ρ P => a ρ fun d ρ1 => isObjD d = false ∧ ∃ b c, kitB (kindD d) "list" = some b ∧ kitB (kindD d) "tuple" = some c ∧ P (.bool (b || c)) ρ1
theorem re_isiLT {ta : TE} {a : FE} (ha : RE K J ta a) : RE K J (tCB (rIsiT K) (tCons ta (tCons (tTup (tCons (tC (.ty "list")) (tCons (tC (.ty "tuple")) tNil))) tNil))) (fIsiLT a) := by
  intro O as σ H Q ρ P E q k
  refine ha O as σ H _ ρ _ E q fun d ρ1 v H1 q1 f1 E1 d1 => ?_
  obtain ⟨ho, b, c, hb, hc, q1⟩ := q1
  refine ⟨by show 2 ≤ sizeLine; decide, fun T hT => ?_⟩
  have s := Same.new (o := .tup [.ty "list", .ty "tuple"]) hT
  exact ⟨v, T, _, _, _, _, rfl, upd_same, ltC, (d1.mono (hp_grow s)).ty ho, kitLT _ b c hb hc, k _ _ _ _ q1 (f1.trans (FrA.of s)) (E1.grow s) (.bl _)⟩
/-! the greatest of three -/
def bMax3 (ds : List PyData) (P : PyData → Prop) : Prop := match ds with
  | [.int i, .int j, .int k] => P (.int (max3 i j k))
  | _ => False
theorem rb_max3 : RB K (fun xs H Q => ∃ i j k, xs = [.int i, .int j, .int k] ∧ Q (.int (max3 i j k)) H) bMax3 := by
  intro A H Q xs ds P oc r g k
  unfold bMax3 at g
  split at g
  · cases r with
    | cons a r => cases r with
      | cons b r => cases r with
        | cons c r => cases r; cases a; cases b; cases c; exact ⟨_, _, _, rfl, k _ _ _ g (Same.refl _) (.int _)⟩
  · exact g.elim
/-! the law's own likeness -/
def F__law_same : FN := fun sls P => match sls with
  | [.fz a, .fz b] => a = b ∧ SeqAt.shaped a = true ∧ a.depth < 8 ∧ nodes a ≤ 1000000 ∧ ∀ sl, P (.bool true) sl
  | _ => False
def spSame (K : PySem.W.Frag) (n : Nat) : Sp := fun vs H Q _ => ∃ (v1 v2 : V) (d : PyData), vs = [v1, v2] ∧ Dp K H v1 d ∧ Dp K H v2 d ∧ SeqAt.shaped d = true ∧ d.depth < n ∧ nodes d ≤ 1000000 ∧ ∀ H', Same H H' → Q (.bl true) H'
theorem same_of {vs : List V} {H : Hp} {Q : VK} {E : XK} (h : spF K 2 F__law_same vs H Q E) : spSame K 8 vs H Q E := by
  obtain ⟨hv, O, as, ρ, P, R, hF, q⟩ := h
  match vs, hv with
  | [v0, v1], _ =>
    have hl : ρ.length = 2 := R.len
    match ρ, hl with
    | [s0, s1], _ =>
      unfold F__law_same at hF
      split at hF
      · next a b e =>
        injection e with e1 e2
        injection e2 with e2 _
        subst e1
        subst e2
        obtain ⟨rfl, sh, dp, nd, hP⟩ := hF
        obtain ⟨v, y1, y2, y3⟩ := R.fz_at (i := 0) rfl
        obtain ⟨w, z1, z2, z3⟩ := R.fz_at (i := 1) rfl
        cases y1
        cases z1
        have no : ∀ i a, as i = some a → False := fun i a ha => by
          have hi := R.bnd i a ha
          match i, hi, ha with
          | 0, _, ha => rw [y2] at ha; cases ha
          | 1, _, ha => rw [z2] at ha; cases ha
        refine ⟨_, _, a, rfl, Dp.mono hp_same (y3.dp (plain_of sh)), Dp.mono hp_same (z3.dp (plain_of sh)), sh, dp, nd, fun H' s => ?_⟩
        exact q _ _ _ _ (hP []) (FrA.of s) (R.tab.ext s) (fun i a ha => (no i a ha).elim) (.bl _)
      · exact hF.elim
end
end DL
/-! exceptions of own classes over any built-in one: made, raised, called for; those of __init__ -/
namespace DL
open PySem L2 Z PySem.Spec PyProof.Rows
variable [Tbs]
section
open Builtin Builtin.ObjectAttr
variable {prog : Program} {w : World} {A : Around} {E : Value → Shared → Prop} {R : Result → Shared → Prop} {hh : Heap} {g : Array GenState} {d : Drawn} {t : Nat} {os : OsState}
/-- what is known of an own exception's class C over B -/
structure OxB (K : PySem.W.Frag) (C : Addr) (B nI iI : String) (bm : List Value) : Prop where
  fb : ExcBaseFacts B nI iI bm
  st : StoreFacts B bm "object.__setattr__" "object"
  ci : PySem.W.excInitIn K C bm nI = true
  co : PySem.W.excOver K C bm = true
  hd : PySem.W.hasDictIn K C = true
  sa : PySem.W.findIn K (.ref C) "__setattr__" = some (some (.builtin "object.__setattr__"))
  exC : PySem.W.subIn K (.ref C) (.type "BaseException") = some true
  tyC : PySem.W.typeIn K (.ref C) = some (.type "type")
  kC : PySem.W.keepIn K (.ref C) = true
  nw : PySem.W.findIn K (.ref C) "what" = some none
/-- the first field of an exception -/
theorem ox_set {K : PySem.W.Frag} {tk : Tok} {v : Value} {x C : Addr} {fv : Array Value} {B nI iI : String} {bm : List Value} (T : OxB K C B nI iI bm) (X : K.In hh) (hx : hh.get? x = some ({ cls := .ref C, data := .fields fv } : Obj))
    (hq : ∀ h' tk' dx, (∀ b o, b ≠ x → hh.get? b = some o → h'.get? b = some o) → hh.objs.size ≤ dx → dx ≠ x → h'.get? x = some ({ cls := .ref C, dict := some dx, data := .fields fv } : Obj) →
      h'.Ns1 dx (fun y => if y = "what" then some v else none) → R (.ok (.ret .none)) ⟨h', g, d, tk', os⟩) :
    codeAny (model prog w) A (.call (.builtin "object.__setattr__") ⟨[.ref x, .str "what" tk, v], []⟩) R ⟨hh, g, d, t, os⟩ := by
  have lx : x ≠ hh.objs.size := Nat.ne_of_lt (Heap.lt_size hx)
  refine PySem.W.osa_openX (od := none) T.st X ⟨hx, rfl, rfl, trivial⟩ T.co (by unfold PySem.W.takerIn; rw [T.nw]; rfl) fun b => ?_
  obtain ⟨cd, hcd, hdc⟩ := PySem.W.any_some T.hd
  have lk : PySem.W.Looks (model prog w) hh (classData C) cd := PySem.W.looks_clsIn X hcd
  obtain ⟨nm, bs, mro, ns, qn, hd, sn, sb, ab, col, del⟩ := cd
  have hdc' : hd = true := hdc
  subst hdc'
  unfold storeInOwnDict ownDictForStores
  repeat (first
    | with_reducible refine HandSPX.store_in_new ?_ ?_
    | with_reducible refine wpAny_loadPart_at hx ?_
    | with_reducible refine lk.at ?_
    | wp_step)
  · refine ⟨_, #[], _, (Heap.get?_update_ne _ _ _ _ lx.symm).trans (Heap.get?_push_at rfl rfl), rfl, fun e he => ?_, fun _ => rfl⟩
    simp at he
  · intro h' tk' hn' hs
    have e1 : (hh.push ({ cls := .type "dict", data := .dict #[] } : Obj)).get? x = some ({ cls := .ref C, data := .fields fv } : Obj) := Heap.get?_push_of_some _ hx
    refine hq h' tk' _ (fun b o nb ho => ?_) (Nat.le_refl _) lx.symm ?_ hn'
    · rw [hs.2 b (Nat.ne_of_lt (Heap.lt_size ho)), Heap.get?_update_ne _ _ _ _ nb]
      exact Heap.get?_push_of_some _ ho
    · rw [hs.2 x lx]
      exact Heap.get?_update_self _ e1 rfl
end
section
variable {X : Cx} {pins : List (Addr × Obj)} {σ : L2.St} {H : Hp} {s : Shared} {a C : Addr} {y : V} {u : Value} {E : Value → Shared → Prop} {A : Around} {B nI iI : String} {bm : List Value}
/-- self.what = y -/
theorem ox_put {Q : Unit → Shared → Prop} (T : OxB X.K C B nI iI bm) (I : Inv X pins σ H s) (e : H a = some (exo a C none)) (ry : RelV y u)
    (h : ∀ dx s', H dx = none → dx ≠ a → Inv X pins σ (upd (upd H dx (exd dx [("what", y)])) a (exo a C (some dx))) s' → Q () s') : wpAny (model X.prog X.w) A (setAttr (.ref a) "what" u) Q E s := by
  obtain ⟨t1, ho⟩ := exo_at I.hok e
  obtain ⟨hh, g, d, t, os⟩ := s
  refine PySem.W.set_plain I.kIn (ox := ({ cls := .ref C, data := .fields #[.ref t1, .none, .none, .none, .bool false, .none] } : Obj)) (od := none) ⟨ho, rfl, rfl, trivial⟩ T.sa (ox_set T I.kIn ho fun h' tk' dx k dn dne hx hn => ?_)
  have fresh : H dx = none := I.hok.fresh dn
  have old : ∀ {b : Addr} {o : Obj}, hh.get? b = some o → b ≠ dx := fun q => Nat.ne_of_lt (Nat.lt_of_lt_of_le (Heap.lt_size q) dn)
  have noa : ∀ {b : Addr}, H b = none → b ≠ a := fun n z => by rw [z, e] at n; cases n
  refine h dx _ fresh dne (I.un (t' := tk') ⟨fun b o q n _ _ => k b o (noa n) q, fun b o q n _ _ => ⟨o.slots, k b o (noa n) q⟩, fun b o q n _ => (upd_ne (noa n)).trans ((upd_ne (old q)).trans n), fun b o q _ => ?_,
    fun b xs q => (upd_ne (at_ne e q exo_tup)).trans ((upd_ne (ne_of_none q fresh)).trans q), fun b o v q => (upd_ne (at_ne e q exo_frz)).trans ((upd_ne (ne_of_none q fresh)).trans q),
    fun b ps q => ⟨#[], (upd_ne (at_ne e q exo_tbl)).trans ((upd_ne (ne_of_none q fresh)).trans (by rw [q, Array.append_empty]))⟩⟩ fun b o q => ?_)
  · by_cases hb : b = a
    · exact ⟨_, by rw [hb]; exact hx⟩
    · exact ⟨o, k b o hb q⟩
  · by_cases hb : b = a
    · subst hb
      rw [upd_same] at q
      cases q
      exact exo_ok hx
    · rw [upd_ne hb] at q
      by_cases hd : b = dx
      · subst hd
        rw [upd_same] at q
        cases q
        exact exd_ok hn (relO_put (fs := []) ry fun _ => True.intro)
      · rw [upd_ne hd] at q
        refine (I.hok b o q).stay (fun c v hc z => k c v ?_ z) (fun c hc => (upd_ne (at_ne e hc exo_own)).trans ((upd_ne (ne_of_none hc fresh)).trans hc)) fun c xs hc => (upd_ne (at_ne e hc exo_tup)).trans ((upd_ne (ne_of_none hc fresh)).trans hc)
        rcases hc with rfl | hc
        · exact hb
        · exact at_ne e hc exo_own
/-- B.__init__(self, ..): nothing of it is told -/
theorem ox_init {us : List Value} {Q : Value → Shared → Prop} (T : OxB X.K C B nI iI bm) (I : Inv X pins σ H s) (e : H a = some (exo a C none)) (hl : us.length ≤ sizeLine) (h : ∀ s', Inv X pins σ H s' → Q .none s') :
    wpAny (model X.prog X.w) A (call (.builtin iI) (.ref a :: us)) Q E s := by
  obtain ⟨nm, N, qn, bs, bm', hdct, sn, sub, ab, col, dd, k0, k1, k2, k3, k5, hC, hT⟩ := PySem.W.excInit_of I.kIn T.ci
  obtain ⟨t1, ho⟩ := exo_at I.hok e
  obtain ⟨hh, g, d, t, os⟩ := s
  refine wpAny_call (HandSPX.init_base T.fb hT hC ho hl fun h' t2 k hx => h _ ?_)
  have z : upd H a (exo a C none) = H := funext fun b => by
    by_cases q : b = a
    · rw [q, upd_same, e]
    · exact upd_ne q
  have W := I.write (t' := t) (x := a) (e := a) (o := exo a C none) (by rw [e]; trivial) (.inl rfl) k ⟨_, hx⟩ (exo_ok hx)
  rwa [z] at W
end
def tBi (K : PySem.W.Frag) (B nI iI : String) (bm : List Value) (ta : TA) : TE := fun σ H Q => ta σ H fun vs H1 => ∃ (a C : Addr) (ws : List V), vs = .ref a :: ws ∧ ws.length ≤ 1000 ∧ OxB K C B nI iI bm ∧ H1 a = some (exo a C none) ∧ Q .non H1
def tOw (K : PySem.W.Frag) (to te : TE) : TS := fun D σ H => te σ H fun y H1 => to σ H1 fun x H2 => ∃ (a C : Addr) (B nI iI : String) (bm : List Value), x = .ref a ∧ OxB K C B nI iI bm ∧ H2 a = some (exo a C none) ∧
  ∀ dx, H2 dx = none → dx ≠ a → D.nx σ (upd (upd H2 dx (exd dx [("what", y)])) a (exo a C (some dx)))
section
variable {X : Cx} {o e : Expr} {es : List Expr} {to te : TE} {ta : TA} {p p' p1 p2 pos : Pos} {B nI iI : String} {bm : List Value} {b : Str}
theorem pe_bi {pl : Sem Bool} (hg : Gl X b) (hm : X.mg b = none) (hv : bootBuiltins b = some (.type B)) (hty : typeOf (.type B) = pure (.type "type")) (hf : PySem.W.findCls X.K (.type B) (.type "type") "__init__" = some (.val (.builtin iI))) (ha : PA X (e :: es) ta)
    (z1 : b ≠ "__name__" := by decide) (z2 : (b == ("__debug__" : Str)) = false := by decide) (hB : Manifest.isStub B = false := by decide +kernel) (hi : PySem.W.handedIn (.builtin iI) = true := by decide +kernel)
    (hc : eval (.Call (.Attribute (.Name b p1) "__init__" p2) (e :: es) [] pos) X.env = (do
      let ov ← eval (.Name b p1) X.env
      standAt p2.atName
      let (f, first) ← holding [ov] (getMethod ov "__init__" pl)
      callWith pos f first (backTo pos (starEach (e :: es) X.env)) (backToKw pos (keywordEach [] X.env))) := by rfl)
    (he : starEach (e :: es) X.env = (false, eval e X.env) :: starEach es X.env := by rfl) (hpl : (backTo pos (starEach es X.env)).any (·.1) = false := by rfl) :
    PE X (.Call (.Attribute (.Name b p1) "__init__" p2) (e :: es) [] pos) (tBi X.K B nI iI bm ta) := by
  refine ⟨fun pins s σ H Q I h => ?_⟩
  refine PySem.W.methodCall_KW (ld_blt I hg hm hv ?_ z1 z2) hc
  obtain ⟨m, fr⟩ := I.fr
  refine PySem.W.method_type fr I.ok.mod.kin hty hB hf hi ?_
  refine PyProof.Rows.callWith_method1 (thn (ha.run pos pins _ σ H _ (I.tok _) h) fun us s1 hh => ?_) he hpl
  obtain ⟨vs, H1, J, rs, a, C, ws, rfl, hz, T, ea, q⟩ := hh
  cases rs with
  | @cons _ u _ ur ra rr =>
    have eu : u = Value.ref a := ra
    subst eu
    exact ox_init T J ea (by rw [← Paired.length rr, sizeLine_eq]; omega) fun s' J' => ⟨.non, H1, J', rfl, q⟩
theorem ps_ow (ho : PE X o to) (he : PE X e te) (hs : swapsWith e (some (.Attribute o "what" p')) pos.line X.env = pure false := by rfl) : PS X (.Assign [.Attribute o "what" p'] e pos) (tOw X.K to te) := by
  refine ⟨fun pins s σ H D I h => plainObj_wpAny_Assign_Attribute (thn (he.run pins s σ H _ I h) fun v s1 q1 => ?_) hs⟩
  obtain ⟨y, H1, I1, r1, q1⟩ := q1
  refine thn (ho.run pins s1 σ H1 _ I1 q1) fun u s2 q2 => ?_
  obtain ⟨x, H2, I2, r2, a, C, B, nI, iI, bm, rfl, T, ea, q⟩ := q2
  have eu : u = Value.ref a := r2
  subst eu
  exact ox_put T I2 ea r1 fun dx s' n ne J => ⟨σ, _, J, q dx n ne⟩
/-- C(e), its __init__ keeping what it is told -/
def tMkB (C : Addr) (te : TE) : L2.St → Hp → XK → Prop := fun σ H Q => te σ H fun y H1 => ∀ d, H1 d = none → Q (.ref C) (some d) (upd H1 d (.xd [("what", y)]))
/-- what __init__ of such a class does -/
def spIn (K : PySem.W.Frag) (C : Addr) : Sp := fun vs H Q _ => ∃ (a : Addr) (y : V), vs = [.ref a, y] ∧ H a = some (exo a C none) ∧ ∀ dx, H dx = none → dx ≠ a → Q .non (upd (upd H dx (exd dx [("what", y)])) a (exo a C (some dx)))
theorem ox_call {C fI : Addr} {k : Nat} {fd : FuncData} {ps : List Str} {pins : List (Addr × Obj)} {σ : L2.St} {H : Hp} {s : Shared} {Q : XK} {y : V} {u : Value} (T : OxB X.K C B nI iI bm) (iC : PySem.W.findIn X.K (.ref C) "__init__" = some (some (.ref fI))) (tI : PySem.W.typeIn X.K (.ref fI) = some (.type "function"))
    (F1 : FnOk X.prog X.w X.K X.mg X.base CX0 k fI fd ps (spIn X.K C)) (hr : Room (k + 1) X.A) (hb : Binds X.K fd ps []) (I : Inv X pins σ H s) (ry : RelV y u) (q1 : ∀ d, H d = none → Q (.ref C) (some d) (upd H d (.xd [("what", y)]))) :
    wpAny (model X.prog X.w) X.A (call (.ref C) [u]) (MkP X pins σ Q) X.xe s := by
  obtain ⟨nm, N, qn, bs, bm', hdct, sn, sub, ab, col, dd, k0, k1, k2, k3, k5, hC, hT⟩ := PySem.W.excInit_of I.kIn T.ci
  obtain ⟨g0, g1, g2, g3, g4⟩ := s
  obtain ⟨z, ez⟩ : ∃ z, z = g0.objs.size + 1 := ⟨_, rfl⟩
  obtain ⟨h1, eh⟩ : ∃ h1, h1 = (g0.push (PySem.W.kdv_tup [u])).push (HandSPX.excO C g0.objs.size) := ⟨_, rfl⟩
  have big : g0.objs.size ≤ z := by rw [ez]; exact Nat.le_succ _
  have fresh : H z = none := I.hok.fresh big
  have kk : ∀ b o, g0.get? b = some o → h1.get? b = some o := fun b o q => by rw [eh]; exact Heap.get?_push_of_some _ (Heap.get?_push_of_some _ q)
  have hx : h1.get? z = some (HandSPX.excO C g0.objs.size) := by rw [ez, eh]; heap_get
  have I2 : Inv X pins σ (upd H z (exo z C none)) ⟨h1, g1, g2, g3, g4⟩ := I.laid (t' := g3) (a := z) (o := exo z C none) (h' := h1) kk big (exo_ok hx)
  have r2 : Vals [V.ref z, y] [Value.ref z, u] := .cons rfl (.cons ry .nil)
  have sp : spIn X.K C [.ref z, y] (upd H z (exo z C none)) (fun v H2 => v = .non ∧ ∃ dx, H2 z = some (exo z C (some dx)) ∧ H2 dx = some (exd dx [("what", y)]) ∧ H dx = none ∧ Q (.ref C) (some dx) (upd (del H2 z) dx (.xd [("what", y)]))) (fun _ _ _ => False) := by
    refine ⟨_, y, rfl, upd_same, fun dx n ne => ⟨rfl, dx, upd_same, (upd_ne ne).trans upd_same, (upd_ne ne).symm.trans n, ?_⟩⟩
    have w := q1 dx ((upd_ne ne).symm.trans n)
    have eq : upd (del (upd (upd (upd H z (exo z C none)) dx (exd dx [("what", y)])) z (exo z C (some dx))) z) dx (.xd [("what", y)]) = upd H dx (.xd [("what", y)]) := funext fun b => by
      by_cases h1 : b = dx
      · rw [h1, upd_same, upd_same]
      · rw [upd_ne h1, upd_ne h1]
        by_cases h2 : b = z
        · rw [h2, del_same, fresh]
        · rw [del_ne h2, upd_ne h2, upd_ne h1, upd_ne h2]
    rw [eq]
    exact w
  have hl : ([Value.ref z, u] ++ []).length = ps.length := by
    rw [List.append_nil, ← r2.length]
    exact F1.len _ _ _ _ sp
  have bd := hb _ [Value.ref z, u] I2.kIn hl
  have run := F1.run _ X.stack _ _ ⟨[Value.ref z, u], []⟩ [Value.ref z, u] _ _ (fun _ _ _ => False) (hr.make C [u] []) (I2.env0.make C [u] []) bd r2 sp
  subst eh
  subst ez
  refine wpAny_call (HandSPX.call_own T.fb hT hC (PySem.W.looks_findIn I.kIn iC) (fun self => PySem.W.bind_fn I.kIn self tI) (by show 1 ≤ sizeLine; rw [sizeLine_eq]; omega) (codeAny_mono run fun r s' hq' => ?_))
  cases r with
  | error er => exact False.elim hq'
  | ok fl =>
    cases fl with
    | ret z =>
      obtain ⟨v, H2, os2, bare2, un2, hok2, rv, rfl, dx, ea, ed, hd1, q2⟩ := hq'
      obtain ⟨f0, f1, f2, f3, f4⟩ := s'
      exact ⟨rv, mk_end (raises_own T.exC T.tyC) I big kk un2 hok2 os2 bare2 ea ed hd1 q2⟩
    | _ => exact False.elim hq'
def one1 : List V → (V → Prop) → Prop
  | [y], k => k y
  | _, _ => False
theorem one1_of {vs : List V} {k : V → Prop} (h : one1 vs k) : ∃ y, vs = [y] ∧ k y := by
  unfold one1 at h
  split at h
  · exact ⟨_, rfl, h⟩
  · exact h.elim
theorem pmk_b {x : Str} {C fI : Addr} {k : Nat} {fd : FuncData} {ps : List Str} (T : OxB X.K C B nI iI bm) (iC : PySem.W.findIn X.K (.ref C) "__init__" = some (some (.ref fI))) (tI : PySem.W.typeIn X.K (.ref fI) = some (.type "function"))
    (F1 : FnOk X.prog X.w X.K X.mg X.base CX0 k fI fd ps (spIn X.K C)) (hr : Room (k + 1) X.A) (hb : Binds X.K fd ps []) (hg : Gl X x) (hm : X.mg x = some (.ref C)) (ha : PE X e te)
    (hdb : (x == ("__debug__" : Str)) = false := by decide) (he : starEach [e] X.env = (false, eval e X.env) :: starEach [] X.env := by rfl) :
    PMk X (.Call (.Name x p) [e] [] pos) (tMkB C te) := by
  intro pins s σ H Q I h
  refine wpAny_Call_Name_kw (ld_glob I hg hm ?_ hdb)
  have pa : PA X [e] (tCons te tNil) := pa_cons ha pa_nil he
  have h' : tCons te tNil σ H fun vs H1 => one1 vs fun y => ∀ d, H1 d = none → Q (.ref C) (some d) (upd H1 d (.xd [("what", y)])) := h
  refine PySem.W.callWith_K (h₀ := X.base) I.ok.mod.kin T.kC (thn (pa.run pos pins s σ H _ I h') fun us s1 hh => ?_) he
  obtain ⟨vs, H1, I1, r1, q1⟩ := hh
  obtain ⟨y, rfl, q1⟩ := one1_of q1
  cases r1 with
  | cons ry rr =>
    cases rr
    exact ⟨I1.kIn, ox_call T iC tI F1 hr hb I1 ry q1⟩
end
end DL
/-! try .. except (C, ..) as e: what is caught is kept -/
namespace DL
open PySem PySem.W
variable [Tbs]
/-- a loop that looks at each and goes on -/
theorem loop_all {M : Model} {A : Around} {E : Value → Shared → Prop} {f : Value → PUnit → Sem (ForInStep PUnit)} {s : Shared} {Q : PUnit → Shared → Prop} : ∀ {cs : List Value}, (∀ c ∈ cs, ∀ Q' : ForInStep PUnit → Shared → Prop, Q' (.yield ⟨⟩) s → wpAny M A (f c ⟨⟩) Q' E s) → Q ⟨⟩ s → wpAny M A (forIn cs ⟨⟩ f) Q E s
  | [], _, q => by rw [List.forIn_nil]; exact wpAny_pure q
  | c :: r, h, q => by
    rw [List.forIn_cons]
    exact wpAny_bind (h c List.mem_cons_self _ (loop_all (fun x hx => h x (List.mem_cons_of_mem _ hx)) q))
/-- a loop that ends at the first one -/
theorem loop_any {M : Model} {A : Around} {E : Value → Shared → Prop} {K : Frag} {cls : Value} {f : Value → Option Bool × Unit → Sem (ForInStep (Option Bool × Unit))} {s : Shared} {Q : Option Bool × Unit → Shared → Prop}
    (hf : ∀ c b, exmOne K cls c = some b → ∀ Q' : ForInStep (Option Bool × Unit) → Shared → Prop, Q' (if b = true then .done (some true, ()) else .yield (none, ())) s → wpAny M A (f c (none, ())) Q' E s) : ∀ {cs : List Value} {b : Bool}, exmAny K cls cs = some b → Q (if b = true then some true else none, ()) s → wpAny M A (forIn cs (none, ()) f) Q E s
  | [], b, e, q => by
    cases (Option.some.inj (show some false = some b from e))
    rw [List.forIn_nil]; exact wpAny_pure q
  | c :: r, b, e, q => by
    obtain ⟨b1, d1, e1, e2, rfl⟩ := exmAny_cons e
    rw [List.forIn_cons]
    refine wpAny_bind (hf c b1 e1 _ ?_)
    cases b1
    · exact loop_any hf e2 (by simpa using q)
    · exact wpAny_pure (by simpa using q)
theorem exm_mem {K : Frag} {cls : Value} : ∀ {cs : List Value} {b : Bool}, exmAny K cls cs = some b → ∀ c ∈ cs, ∃ b1, exmOne K cls c = some b1
  | [], _, _, _, h => by cases h
  | c :: r, b, e, x, h => by
    obtain ⟨b1, d1, e1, e2, _⟩ := exmAny_cons e
    rcases List.mem_cons.mp h with rfl | h
    · exact ⟨b1, e1⟩
    · exact exm_mem e2 x h
theorem exm_all {K : Frag} {M : Model} {cls : Value} {tp e : Addr} {b : Bool} {h : Heap} {cs : List Value} (X : K.In h) (LT : Looks M h (typeOf (.ref e)) cls) (hp : h.get? tp = some { cls := .type "tuple", data := .seq cs.toArray }) (hx : exmAny K cls cs = some b) :
    Looks M h (excMatches (.ref e) (.ref tp)) b := by
  intro A Q E s kk q
  have L0 : Looks M h (isInstance (.ref tp) (.type "tuple")) true := ((Looks.ld hp).andThen .now).andThen (Looks.of_pure isSubtype_tuple_tuple)
  have hp' := kk _ _ hp
  unfold excMatches
  refine wpAny_bind ((L0.keeps kk).here ?_)
  dsimp only
  rw [if_pos rfl]
  refine wpAny_bind (wpAny_seqItems hp' rfl (wpAny_bind (wpAny_pure ?_)))
  dsimp only [Option.getD_some, Option.getD]
  refine wpAny_bind (loop_all (fun c hc Q' q' => ?_) ?_)
  · obtain ⟨b1, e1⟩ := exm_mem hx c hc
    refine wpAny_bind (((exm_cls (M := M) X e1).1.keeps kk).here ?_)
    rw [if_neg (by decide)]
    exact wpAny_pure q'
  · refine wpAny_bind ((LT.keeps kk).here ?_)
    refine wpAny_bind (loop_any (K := K) (cls := cls) (fun c b1 e1 Q' q' => ?_) hx ?_)
    · refine wpAny_bind (((exm_cls (M := M) X e1).2.keeps kk).here ?_)
      cases b1
      · exact wpAny_pure q'
      · exact wpAny_pure q'
    · cases b <;> exact wpAny_pure q
end DL
namespace DL
open PySem L2 Z PySem.Spec PyProof.Rows
variable [Tbs]
/-- the classes that an except clause names -/
inductive ExT (X : Cx) : Expr → List Value → Prop
  | one {x : Str} {c : Value} {p : Pos} : Names X x c → ExT X (.Name x p) [c]
  | many {xs : List (Str × Pos × Value)} {k : Nat} {p : Pos} : (∀ q ∈ xs, Names X q.1 q.2.2) → xs.length ≤ 1000 → ExT X (.Tuple (xs.map fun q => .Name q.1 q.2.1) k p) (xs.map (·.2.2))
section
variable {X : Cx} {pins : List (Addr × Obj)} {σ : L2.St} {H : Hp} {s : Shared} {E : Value → Shared → Prop}
theorem name_run {x : Str} {c : Value} {p : Pos} {Q : Value → Shared → Prop} (I : Inv X pins σ H s) (n : Names X x c) (q : Q c s) : wpAny (model X.prog X.w) X.A (eval (.Name x p) X.env) Q E s := by
  obtain ⟨g, db, m | ⟨m, v, nn⟩⟩ := n
  · exact ld_glob I g m q db
  · exact ld_blt I g m v q nn db
theorem names_run {pos : Pos} (I : Inv X pins σ H s) : ∀ {xs : List (Str × Pos × Value)} {Q : List Value → Shared → Prop}, (∀ q ∈ xs, Names X q.1 q.2.2) → Q (xs.map (·.2.2)) s → wpAny (model X.prog X.w) X.A (spliced (backTo pos (starEach (xs.map fun q => Expr.Name q.1 q.2.1) X.env))) Q E s
  | [], Q, _, q => wpAny_items_nil q
  | z :: r, Q, h, q => wpAny_items_cons (name_run I (h z List.mem_cons_self) (names_run I (fun y hy => h y (List.mem_cons_of_mem _ hy)) q))
/-- the test of an except clause -/
theorem ExT.run {T : Expr} {cs : List Value} {a : Addr} {cls : Value} {b : Bool} {Q : Bool → Shared → Prop} (t : ExT X T cs) (I : Inv X pins σ H s) (LT : PySem.W.Looks (model X.prog X.w) s.heap (typeOf (.ref a)) cls) (e : PySem.W.exmAny X.K cls cs = some b)
    (q : ∀ h', (∀ b o, s.heap.get? b = some o → h'.get? b = some o) → Q b { s with heap := h' }) : wpAny (model X.prog X.w) X.A (eval T X.env) (fun c s₁ => wpAny (model X.prog X.w) X.A (excMatches (.ref a) c) Q E s₁) E s := by
  cases t with
  | one n =>
    obtain ⟨b1, d1, e1, e2, rfl⟩ := PySem.W.exmAny_cons e
    cases (Option.some.inj (show some false = some d1 from e2))
    rw [Bool.or_false] at q
    exact name_run I n ((PySem.W.exm_one I.kIn LT e1).here (q s.heap fun _ _ z => z))
  | @many xs kk pp n l =>
    refine wpAny_Tuple (names_run I n ⟨by rw [List.length_map, sizeLine_eq]; omega, ?_⟩)
    have kp : ∀ b o, s.heap.get? b = some o → (s.heap.push ({ cls := .type "tuple", data := .seq (xs.map (·.2.2)).toArray } : Obj)).get? b = some o := fun _ _ z => Heap.get?_push_of_some _ z
    exact (exm_all (I.kIn.keeps kp) (LT.keeps kp) (Heap.get?_push_size s.heap rfl) e).here (q _ kp)
theorem fly_keeps {B : Heap} {l : List Env} {a : Addr} {Z : Obj → Prop} {h h' : Heap} (f : HandSPX.FlyingZ B l a Z h) (k : ∀ b o, h.get? b = some o → h'.get? b = some o) : HandSPX.FlyingZ B l a Z h' := by
  obtain ⟨z1, z2, z3, oe, vs, T, oT, ts, y1, y2, y3, y4, y5, y6, y7, y8⟩ := f
  exact ⟨fun b o e => k b o (z1 b o e), z2, Heap.FunFrames.of_keeps (fun b o e _ => ⟨o, k b o e, rfl⟩) z3, oe, vs, T, oT, ts, k _ _ y1, y2, y3, y4, y5, y6, k _ _ y7, y8⟩
/-- the pinned exception, tracked from now on -/
theorem absorb {a C dx : Addr} {oe : Obj} {vs : Array Value} (I : Inv X ((a, oe) :: pins) σ H s) (ne : ∀ p ∈ X.pn ++ pins, p.1 ≠ a) (new : X.s_0.heap.get? a = none) (hz : Zc (.ref C) (some dx) oe) (hd : oe.data = .fields vs) : Inv X pins σ (upd H a (exk a C dx)) s := by
  obtain ⟨g, n, nL, nF, nc⟩ := I.pin (a, oe) (List.mem_append.mpr (.inr List.mem_cons_self))
  have na : ∀ {b : Addr} {u : HO}, H b = some u → b ≠ a := fun e => ne_of_none e n
  refine ⟨I.ok, I.os, I.bare, ⟨I.base.keep, I.base.slot, fun b o e n' x => ?_, I.base.there, fun b xs e => ?_, fun b o u e => ?_, fun b ps e => ?_⟩, I.loc, I.cell, ?_, fun x c e => ?_, fun p hp => ?_, fun b u e => ?_, I.len⟩
  · rw [upd_ne (fun z => by rw [z, new] at e; cases e)]
    exact I.base.free b o e n' x
  · have := I.base.tups b xs e
    rw [upd_ne (na this)]; exact this
  · have := I.base.frzs b o u e
    rw [upd_ne (na this)]; exact this
  · obtain ⟨more, this⟩ := I.base.tbls b ps e
    exact ⟨more, by rw [upd_ne (na this)]; exact this⟩
  · rw [upd_ne (Ne.symm nL)]; exact I.free
  · rw [upd_ne]
    · exact I.freeC x c e
    · rintro rfl
      obtain ⟨v, o, e1, e2⟩ := I.cell x _ e
      rw [g] at e1
      cases e1
      exact nc v e2
  · obtain ⟨z1, z2, z3⟩ := I.pin p (by
      rcases List.mem_append.mp hp with h | h
      · exact List.mem_append.mpr (.inl h)
      · exact List.mem_append.mpr (.inr (List.mem_cons_of_mem _ h)))
    exact ⟨z1, by rw [upd_ne (ne p hp)]; exact z2, z3⟩
  · by_cases hb : b = a
    · subst hb
      rw [upd_same] at e
      cases e
      exact ⟨⟨oe, vs, g, hz.1, hz.2, hd⟩, ⟨oe, g⟩, fun h1 h2 ⟨o, v, e1, e2⟩ k => ⟨o, v, k _ e1, e2⟩⟩
    · rw [upd_ne hb] at e
      exact (I.hok b u e).stay (fun c v _ z => z) (fun c z => by rw [upd_ne (na z)]; exact z) fun c xs z => by rw [upd_ne (na z)]; exact z
/-- what the clause 'except T as n' wishes of an exception of the body: what is caught stays -/
def wKeep (K : PySem.W.Frag) (cs : List Value) (i : Nat) (ts : Addr → TS) (Wout : WX) (D : Ends) : WX := fun cls d σ H =>
  ∃ b, PySem.W.exmAny K cls cs = some b ∧ (b = true → ∃ C dx, cls = .ref C ∧ d = some dx ∧ ∀ a, H a = none → ts a { nx := fun σ' H' => D.nx (σ'.set i none) (upd H' a (exk a C dx)), rt := fun v H' => D.rt v (upd H' a (exk a C dx)), bk := fun σ' H' => D.bk (σ'.set i none) (upd H' a (exk a C dx)), ct := fun σ' H' => D.ct (σ'.set i none) (upd H' a (exk a C dx)) } (σ.set i (some (.ref a))) H) ∧
    (b = false → Wout cls d σ H)
theorem keepSuite {a : Addr} {q : Addr × Obj} (I : Inv (X.suite a (q :: (X.pn ++ pins))) [] σ H s) (ok : X.Ok) : Inv X (q :: pins) σ H s :=
  ⟨ok, I.os, I.bare, I.base, I.loc, I.cell, I.free, I.freeC, fun p hp => I.pin p (by
    rw [List.append_nil]
    rcases List.mem_append.mp hp with h | h
    · exact List.mem_cons_of_mem _ (List.mem_append.mpr (.inl h))
    · rcases List.mem_cons.mp h with h | h
      · rw [h]; exact List.mem_cons_self
      · exact List.mem_cons_of_mem _ (List.mem_append.mpr (.inr h))), I.hok, I.len⟩
end
section
variable {X : Cx} {n : Str} {T : Expr} {cs : List Value} {i : Nat} {body suite : List Stmt} {b₀ : Stmt} {pos pos' : Pos} {tb : WX → TS} {ts : Addr → TS} {Wout : WX}
theorem ps_try_keep (hs : X.stack = X.env :: X.outer) (hf : X.env.frame = some X.env.locals) (hex : X.ex = []) (hN : X.N.Nodup) (hi : X.N[i]? = some n) (hln : X.env.kindOf n = some .local) (ht : ExT X T cs) (tk : Takes X Wout)
    (hb : ∀ (W : WX) (pn : List (Addr × Obj)) (xe : Value → Shared → Prop), Takes (X.tr pn xe) W → PassesOwn (model X.prog X.w) X.A X.env xe → PSs (X.tr pn xe) body (tb W))
    (hsu : ∀ (a : Addr) (pn : List (Addr × Obj)), PSs (X.suite a pn) (b₀ :: suite) (ts a)) :
    PS X (.Try body [.ExceptHandler (some T) (some n) (b₀ :: suite) pos'] [] [] pos) (fun D σ H => tb (wKeep X.K cs i ts Wout D) D σ H) := by
  refine ⟨fun pins s σ H D I h => wpAny_Try_except ?_⟩
  have ok := I.ok
  have hfr : X.A.frames = some (X.env :: X.outer) := hs ▸ ok.frames
  refine wpAny_mono ((hb _ (X.pn ++ pins) _ (fun u s' xx => ?_) PassesOwn.looking).run [] s σ H D (I.toTry _) h) (fun f s1 hsp => ?_) (fun e s1 he => he)
  · obtain ⟨a, B, sI, pins', σ', H', cls, d, rfl, J', nb, up, sky, na, os, ag, b, hb1, hyes, hno⟩ := xx
    have J : Inv X pins σ' H' sI := J'.ofTry ok
    rw [show (X.tr (X.pn ++ pins) _).stack = X.env :: X.outer from hs] at sky
    refine Sky.land Zc.steady hfr hf sky fun h3 fl3 up3 => ?_
    have J3 : Inv X pins σ' H' { s' with heap := h3 } := J.landed nb fl3.1 (up.trans up3) os ag
    obtain ⟨o3, v3, g3, z3, d3⟩ := fl3.there
    have out : a ∉ frs (X.env :: X.outer) := fun hm => by
      obtain ⟨_, o', e', hnf⟩ := fl3.2.2.1.mem hm
      rw [g3] at e'
      cases e'
      exact hnf _ d3
    have nL : a ≠ X.env.locals := fun z => out (List.mem_filterMap.mpr ⟨X.env, List.mem_cons_self, by rw [hf, z]⟩)
    have nF : a ∉ X.fs := fun hm => by
      obtain ⟨e, he, q⟩ := List.mem_filterMap.mp hm
      exact out (List.mem_filterMap.mpr ⟨e, List.mem_cons_of_mem _ he, q⟩)
    have inB : ∀ b o, sI.heap.get? b = some o → b ∉ frs (X.env :: X.outer) → b ≠ a := fun b o e hb z => by
      have y := nb b o e (by show b ∉ frs X.stack; rw [hs]; exact hb)
      rw [z, fl3.2.1] at y
      cases y
    have new : X.s_0.heap.get? a = none := by
      cases e : X.s_0.heap.get? a with
      | none => rfl
      | some o =>
        obtain ⟨o', e'⟩ := J.base.there a o e (by rw [hex]; exact List.not_mem_nil)
        exact absurd rfl (inB a o' e' out)
    have pne : ∀ p ∈ X.pn ++ pins, p.1 ≠ a := fun p hp => by
      obtain ⟨z1, _, z3, z4, _⟩ := J.pin p hp
      refine inB _ _ z1 fun hm => ?_
      obtain ⟨e, he, q⟩ := List.mem_filterMap.mp hm
      rcases List.mem_cons.mp he with he | he
      · rw [he, hf] at q
        exact z3 (Option.some.inj q).symm
      · exact z4 (List.mem_filterMap.mpr ⟨e, he, q⟩)
    have S3 := J3.suite g3 d3 na nL nF
    refine wpAny_handleBy_cons (codeAny_handlers_test ?_) (by intro q; cases q)
    refine ExT.run (X := X.suite a _) (by cases ht with | one n => exact .one n | many n l => exact .many n l) S3 (fun A Q E s k q => wpAny_typeOf_ref (k _ _ g3) (by rw [z3.1]; exact q)) hb1 fun h5 k5 => ?_
    have fl5 := fly_keeps fl3 k5
    have up5 : sI.heap.UpToSlots h5 := (up.trans up3).trans (Heap.UpToSlots.of_keeps k5)
    cases b with
    | true =>
      refine codeAny_handlers_suite_as (HandSPX.lands_againZ fl5 fun h4 fl4 up4 => ?_)
      obtain ⟨o4, v4, g4, z4, d4⟩ := fl4.there
      have J4 : Inv X pins σ' H' { s' with heap := h4 } := J.landed nb fl4.1 (up5.trans up4) os ag
      obtain ⟨C, dx, rfl, rfl, hy⟩ := hyes rfl
      refine store_ok (X := X.suite a ((a, o4) :: (X.pn ++ pins))) (v := .ref a) (J4.suite g4 d4 na nL nF) hN hi (.inl hln) rfl (fun s5 S5 => ?_) (.inr hln)
      refine wpAny_mono ((hsu a _).run [] s5 _ H' _ S5 (hy a na)) (fun f s6 hsp => ?_) (fun _ _ z => False.elim z)
      have fin : ∀ {σ6 : L2.St} {H6 : Hp} {Q : Shared → Prop}, Inv (X.suite a ((a, o4) :: (X.pn ++ pins))) [] σ6 H6 s6 → (∀ s7, Inv X pins (σ6.set i none) (upd H6 a (exk a C dx)) s7 → Q s7) →
          wpAny (model X.prog X.w) X.A (do bindName X.env n .none; unbindBehindTheSuite X.env n pos') (fun _ s7 => Q s7) X.xe s6 := fun S6 hq => gone_ok (keepSuite S6 ok) hN hi hln fun s7 J7 => hq s7 (absorb J7 pne new z4 d4)
      cases f with
      | ret u =>
        obtain ⟨v6, σ6, H6, S6, r6, q6⟩ := hsp
        exact fin S6 fun s7 J7 => ⟨_, _, _, J7, r6, q6⟩
      | _ =>
        obtain ⟨σ6, H6, S6, q6⟩ := hsp
        exact fin S6 fun s7 J7 => ⟨_, _, J7, q6⟩
    | false =>
      refine wpAny_handleBy_nil ?_
      obtain ⟨_, _, _, oe, vs, T0, oT, ts', he, hz, hd, h1, _⟩ := id fl5
      unfold PySem.passOn
      refine wpAny_bind (wpAny_field he hd h1 ?_)
      rw [if_neg (show ¬ ((Value.ref T0 == Value.none) = true) from by simp)]
      refine wpAny_bind ?_
      rw [hf]
      refine HandSPX.setFlight_upZ fl5 fun h4 hh4 up4 => wpAny_throw (tk _ _ ⟨a, B, sI, pins, σ', H', cls, d, rfl, J, nb, up5.trans up4, .inr (.inr ?_), na, os, ag, hno rfl⟩)
      rw [hs]
      exact hh4
  · cases f with
    | next =>
      obtain ⟨σ', H', J', q⟩ := hsp
      exact wpAny_execs_nil ⟨σ', H', J'.ofTry ok, q⟩
    | ret u =>
      obtain ⟨v, σ', H', J', r, q⟩ := hsp
      exact ⟨v, σ', H', J'.ofTry ok, r, q⟩
    | _ =>
      obtain ⟨σ', H', J', q⟩ := hsp
      exact ⟨σ', H', J'.ofTry ok, q⟩
end
end DL
/-! kept exceptions asked; what is raised, over data -/
namespace DL
open PySem L2 Z PySem.Spec PyProof.Rows
variable [Tbs]
/-- what is known of the class of a kept exception -/
structure ExK (K : PySem.W.Frag) (C : Addr) : Prop where
  cl : (PySem.W.clsIn K C).isSome = true
  ga : PySem.W.findIn K (.ref C) "__getattribute__" = some (some (.builtin "BaseException.__getattribute__"))
  gt : PySem.W.findIn K (.ref C) "__getattr__" = some none
  ex : PySem.W.subIn K (.ref C) (.type "BaseException") = some true
  ca : PySem.W.findIn K (.ref C) "__class__" = some (some (.builtin "object.__class__"))
  dg : PySem.W.specialIn K (.builtin "object.__class__") "__get__" = some (some (.builtin "getset_descriptor.__get__"))
  tk : PySem.W.takesIn K (.builtin "object.__class__") = some true
  ob : PySem.W.mroIn K C (.type "object") = some true
  hd : PySem.W.hasDictIn K C = true
  nw : PySem.W.findIn K (.ref C) "what" = some none
section
variable {X : Cx} {pins : List (Addr × Obj)} {σ : L2.St} {H : Hp} {s : Shared} {a C dx : Addr} {fv : List (Str × V)}
theorem exk_at (I : Inv X pins σ H s) (ea : H a = some (exk a C dx)) (ed : H dx = some (.xd fv)) : ∃ ox od mA, PySem.W.InstAt s.heap a ox C (some od) ∧ s.heap.Ns1 dx mA ∧ (∀ f, RelO (fv.lookup f) (mA f)) ∧ s.heap.get? dx = some od := by
  obtain ⟨⟨o, vs, e1, e2, e3, e4⟩, _⟩ := (show ObjOk X.prog X.w H s.heap a (exk a C dx) from I.hok a _ ea)
  obtain ⟨mA, hn, hr⟩ := (show ObjOk X.prog X.w H s.heap dx (.xd fv) from I.hok dx _ ed)
  obtain ⟨od, es, ep, e5, e6⟩ := id hn
  refine ⟨o, od, mA, ⟨e1, e2, ?_, ?_⟩, hn, hr, e5⟩
  · unfold PySem.W.notCls
    rw [e4] <;> rfl
  · rw [e3]
    exact e5
/-- isinstance(e, c) of a kept exception -/
def rIsX (K : PySem.W.Frag) : List V → Hp → VK → Prop := fun xs H Q => ∃ (a C dx : Addr) (fv : List (Str × V)) (c : V) (u : Value) (b : Bool), xs = [.ref a, c] ∧ ClsV c u ∧ ExK K C ∧ H a = some (exk a C dx) ∧ H dx = some (.xd fv) ∧ PySem.W.kitOne K (.ref C) u = some b ∧ Q (.bl b) H
theorem call_isX : CallR X (.builtin "isinstance") (rIsX X.K) := by
  intro pins s σ H xs us Q I r h
  obtain ⟨a, C, dx, fv, c, u, b, rfl, k, T, ea, ed, e, q⟩ := h
  obtain ⟨u1, u2, rfl, r1, r2⟩ := vals2 r
  have := k.eq r2
  subst this
  cases (show u1 = Value.ref a from r1)
  obtain ⟨ox, od, mA, J, _⟩ := exk_at I ea ed
  exact PySem.W.kia_one (PySem.W.kitx_exc T.cl T.ga T.gt T.ex T.ca T.dg T.tk T.ob) I.kIn J e (fun z => nomatch z) fun tk => ⟨.bl b, H, I.tok tk, rfl, q⟩
def rIsXT (K : PySem.W.Frag) : List V → Hp → VK → Prop := fun xs H Q => ∃ (a C dx tp : Addr) (fv : List (Str × V)) (cs : List V) (us : List Value) (b : Bool), xs = [.ref a, .ref tp] ∧ H tp = some (.tup cs) ∧ Paired ClsV cs us ∧ ExK K C ∧ H a = some (exk a C dx) ∧ H dx = some (.xd fv) ∧ PySem.W.kitAny K (.ref C) us = some b ∧ Q (.bl b) H
theorem call_isXT : CallR X (.builtin "isinstance") (rIsXT X.K) := by
  intro pins s σ H xs us Q I r h
  obtain ⟨a, C, dx, tp, fv, cs, ws, b, rfl, hT, k, T, ea, ed, e, q⟩ := h
  obtain ⟨u1, u2, rfl, r1, r2⟩ := vals2 r
  cases (show u1 = Value.ref a from r1)
  cases (show u2 = Value.ref tp from r2)
  obtain ⟨ox, od, mA, J, _⟩ := exk_at I ea ed
  obtain ⟨_, its, rv, o, h1, h2, n, h3⟩ := (show ObjOk X.prog X.w H s.heap tp (.tup cs) from I.hok tp _ hT)
  have := ClsV.all k rv
  subst this
  obtain ⟨oc, od', dt, sl⟩ := o
  cases h2
  cases h3
  exact PySem.W.kia_tup (PySem.W.kitx_exc T.cl T.ga T.gt T.ex T.ca T.dg T.tk T.ob) I.kIn J h1 e (fun z => nomatch z) fun tk => ⟨.bl b, H, I.tok tk, rfl, q⟩
/-- e.what -/
def tWhat (K : PySem.W.Frag) (te : TE) : TE := fun σ H Q => te σ H fun x H1 => ∃ (a C dx : Addr) (fv : List (Str × V)) (v : V), x = .ref a ∧ ExK K C ∧ H1 a = some (exk a C dx) ∧ H1 dx = some (.xd fv) ∧ fv.lookup ("what" : Str) = some v ∧ Q v H1
theorem pe_what {e : Expr} {te : TE} {pos : Pos} (he : PE X e te) (hb : attributeBase e "what" X.env (eval e X.env) = eval e X.env := by rfl) : PE X (.Attribute e "what" pos) (tWhat X.K te) := by
  refine ⟨fun pins s σ H Q I h => attr_of hb (thn (he.run pins s σ H _ I h) fun u s1 hh => ?_)⟩
  obtain ⟨x, H1, I1, rx, a, C, dx, fv, v, rfl, T, ea, ed, l, q⟩ := hh
  cases (show u = Value.ref a from rx)
  obtain ⟨ox, od, mA, J, hn, hr, e5⟩ := exk_at I1 ea ed
  obtain ⟨od', e6, hl⟩ := lookIn_ns hn
  rw [e5] at e6
  cases e6
  obtain ⟨w, hw, rw'⟩ := RelO.some_of (v := v) (o := mA "what") (by rw [← l]; exact hr "what")
  exact HandSPX.exc_get I1.kIn J T.ga T.gt T.ex (PySem.W.findObj_own T.hd T.nw rfl (by rw [hl, hw])) (handed_of rw') ⟨v, H1, I1.tok _, rw', q⟩
end
/-! over data -/
section
variable {K : PySem.W.Frag} {n : Nat} {J : Jv n}
def excF (d : PyData) (k : Str → List (PyData × PyData) → Prop) : Prop := match d with
  | .dict ((.str c, .bool true) :: fs) => k c fs
  | _ => False
theorem excF_of {G : Hp} {v : V} {d : PyData} {k : Str → List (PyData × PyData) → Prop} (q : Dq K G v d) (h : excF d k) : ∃ a C dx c fv fs, v = .ref a ∧ PySem.W.nsIn K mainGlobals c = some (some (.ref C)) ∧ G a = some (exk a C dx) ∧ G dx = some (.xd fv) ∧ DqFs K G fv fs ∧ k c fs := by
  unfold excF at h
  split at h
  · cases q with
    | exc c h1 h2 r => exact ⟨_, _, _, _, _, _, rfl, c, h1, h2, r, h⟩
  · exact h.elim
def fIsX (tab : Str → Option Bool) (a : FE) : FE := fun ρ P => a ρ fun d ρ1 => excF d fun c _ => ∃ b, tab c = some b ∧ P (.bool b) ρ1
theorem re_isX {tab : Str → Option Bool} {cv : V} {u : Value} {ta : TE} {a : FE} (hc : ClsV cv u) (ht : ∀ c C b, tab c = some b → PySem.W.nsIn K mainGlobals c = some (some (.ref C)) → ExK K C ∧ PySem.W.kitOne K (.ref C) u = some b) (ha : RE K J ta a) :
    RE K J (tCB (rIsX K) (tCons ta (tCons (tC cv) tNil))) (fIsX tab a) := by
  intro O as σ H Q ρ P E q k
  refine ha O as σ H _ ρ _ E q fun d ρ1 v H1 q1 f1 E1 d1 => ?_
  obtain ⟨p, C, dx, c, fv, fs, rfl, hn, h1, h2, _, b, e, q1⟩ := excF_of d1 q1
  obtain ⟨T, e'⟩ := ht c C b e hn
  exact ⟨p, C, dx, fv, cv, u, b, rfl, hc, T, (hp_some h1).2, (hp_some h2).2, e', k _ _ _ _ q1 f1 E1 (.bl _)⟩
@[reducible] def taC : List V → TA
  | [] => tNil
  | c :: r => tCons (tC c) (taC r)
theorem taC_run {σ : L2.St} {H : Hp} : ∀ {cs : List V} {Q : List V → Hp → Prop}, Q cs H → taC cs σ H Q
  | [], _, q => q
  | _ :: r, Q, q => taC_run (cs := r) (Q := fun xs H2 => Q (_ :: xs) H2) q
theorem re_isXT {tab : Str → Option Bool} {cs : List V} {us : List Value} {ta : TE} {a : FE} (hc : Paired ClsV cs us) (hl : cs.length ≤ sizeLine) (ht : ∀ c C b, tab c = some b → PySem.W.nsIn K mainGlobals c = some (some (.ref C)) → ExK K C ∧ PySem.W.kitAny K (.ref C) us = some b) (ha : RE K J ta a) :
    RE K J (tCB (rIsXT K) (tCons ta (tCons (tTup (taC cs)) tNil))) (fIsX tab a) := by
  intro O as σ H Q ρ P E q k
  refine ha O as σ H _ ρ _ E q fun d ρ1 v H1 q1 f1 E1 d1 => ?_
  refine taC_run ⟨hl, fun T hT => ?_⟩
  have s := Same.new (o := .tup cs) hT
  obtain ⟨p, C, dx, c, fv, fs, rfl, hn, h1, h2, _, b, e, q1⟩ := excF_of (d1.mono (hp_grow s)) q1
  obtain ⟨T', e'⟩ := ht c C b e hn
  exact ⟨p, C, dx, T, fv, cs, us, b, rfl, upd_same, hc, T', (hp_some h1).2, (hp_some h2).2, e', k _ _ _ _ q1 (f1.trans (FrA.of s)) (E1.grow s) (.bl _)⟩
def fWhat (L : List Str) (a : FE) : FE := fun ρ P => a ρ fun d ρ1 => excF d fun c fs => c ∈ L ∧ ∃ w, fldD "what" fs = some w ∧ P w ρ1
theorem re_what {L : List Str} {ta : TE} {a : FE} (ht : ∀ c C, c ∈ L → PySem.W.nsIn K mainGlobals c = some (some (.ref C)) → ExK K C) (ha : RE K J ta a) : RE K J (tWhat K ta) (fWhat L a) := by
  intro O as σ H Q ρ P E q k
  refine ha O as σ H _ ρ _ E q fun d ρ1 v H1 q1 f1 E1 d1 => ?_
  obtain ⟨p, C, dx, c, fv, fs, rfl, hn, h1, h2, r, hL, w, e, q1⟩ := excF_of d1 q1
  obtain ⟨x, hx, dq⟩ := r.get e
  exact ⟨p, C, dx, fv, x, rfl, ht c C hL hn, (hp_some h1).2, (hp_some h2).2, hx, k _ _ _ _ q1 f1 E1 dq⟩
/-- an exception, raised: its class, its dict, as data -/
def XcAt (K : PySem.W.Frag) (G : Hp) (cls : Value) (dd : Option Addr) (d : PyData) : Prop := ∃ (c : Str) (C dx : Addr) (fv : List (Str × V)) (fs : List (PyData × PyData)), d = .dict ((.str c, .bool true) :: fs) ∧ cls = .ref C ∧ dd = some dx ∧ PySem.W.nsIn K mainGlobals c = some (some (.ref C)) ∧ G dx = some (.xd fv) ∧ DqFs K G fv fs
theorem XcAt.mono {G G' : Hp} {cls : Value} {dd : Option Addr} {d : PyData} (x : XcAt K G cls dd d) (s : Same G G') : XcAt K G' cls dd d := by
  obtain ⟨c, C, dx, fv, fs, e1, e2, e3, e4, e5, r⟩ := x
  exact ⟨c, C, dx, fv, fs, e1, e2, e3, e4, s _ _ e5, DqFs.mono s r⟩
/-- a wish over data carries the wish -/
def Lk (K : PySem.W.Frag) {n : Nat} (J : Jv n) (X : PyData → En → Prop) (W : WX) : Prop := ∀ (O : Addr → Prop) (as : Nat → Option Addr) (σ : L2.St) (H : Hp) (ρ : En) (cls : Value) (dd : Option Addr) (d : PyData), EnR K J O as H ρ σ → XcAt K (hp (Hid O as) H) cls dd d → X d ρ → W cls dd σ H
theorem Lk.le {J' : Jv n} {X : PyData → En → Prop} {W : WX} (l : Lk K J X W) (h : J'.le J) : Lk K J' X W := fun O as σ H ρ cls dd d E => l O as σ H ρ cls dd d (E.reJ (h.1 _ _ E.inv) (h.2 _ E.inq))
def excD (c : Str) (w : PyData) : PyData := .dict [(.str c, .bool true), (.str "what", w)]
def fRaise (c : Str) (a : FE) (X : PyData → En → Prop) : FS := fun _ ρ => a ρ fun d ρ1 => X (excD c d) ρ1
theorem rs_raise {c : Str} {C : Addr} {te : TE} {a : FE} {X : PyData → En → Prop} {W : WX} (hn : PySem.W.nsIn K mainGlobals c = some (some (.ref C))) (l : Lk K J X W) (ha : RE K J te a) : RS K J (fun _ σ H => tMkB C te σ H fun cls d H' => W cls d σ H') (fRaise c a X) := by
  intro O as σ H D ρ E R q C'
  refine ha O as σ H _ ρ _ R q fun d ρ1 v H1 q1 f1 E1 d1 => fun dx hdx => ?_
  have s := Same.new (o := .xd [("what", v)]) hdx
  exact l O as σ _ ρ1 _ _ _ (E1.grow s) ⟨c, C, dx, _, _, rfl, rfl, rfl, hn, hp_mk (E1.fresh hdx) upd_same, .cons (d1.mono (hp_grow s)) .nil⟩ q1
end
end DL
/-! defs that raise, over data; try -/
namespace DL
open PySem L2 Z PySem.Spec PyProof.Rows
variable [Tbs]
abbrev FX := List Sl → (PyData → List Sl → Prop) → (PyData → List Sl → Prop) → Prop
def spX (K : PySem.W.Frag) (n : Nat) (F : FX) : Sp := fun vs H Q E => vs.length = n ∧ ∃ (O : Addr → Prop) (as : Nat → Option Addr) (ρ : En) (P X : PyData → List Sl → Prop), EnR K (J0 : Jv 0) O as H ρ (vs.map some) ∧ F ρ P X ∧
  (∀ d out v H', P d out → FrA (Own as) H H' → TabsOk H' → (∀ i a, as i = some a → ∃ ds xs, out[i]? = some (.own ds) ∧ H' a = some (.lst xs) ∧ DqAll K (hp (Hid O as) H') xs ds) → Dq K (hp (Hid O as) H') v d → Q v H') ∧
  ∀ d out cls dd H', X d out → FrA (Own as) H H' → TabsOk H' → (∀ i a, as i = some a → ∃ ds xs, out[i]? = some (.own ds) ∧ H' a = some (.lst xs) ∧ DqAll K (hp (Hid O as) H') xs ds) → XcAt K (hp (Hid O as) H') cls dd d → E cls dd H'
def fnX (n m : Nat) (b : (PyData → En → Prop) → FS) : FX := fun sls P X => b (fun d ρ' => X d (ρ'.take n)) { nx := fun ρ' => P .none (ρ'.take n), rt := fun d ρ' => P d (ρ'.take n) } (sls ++ List.replicate (m - n) .no)
section
variable {K : PySem.W.Frag} {n : Nat} {J : Jv n}
theorem EnR.sub {O O2 : Addr → Prop} {as : Nat → Option Addr} {H : Hp} {ρ : En} {σ : L2.St} (E : EnR K J O2 as H ρ σ) (h : ∀ a, O a → O2 a) (hq : J.Q O) : EnR K J O as H ρ σ :=
  ⟨E.len, fun i sl o h1 h2 => (E.at_ i sl o h1 h2).mono (hp_less fun a z => z.imp (h a) id) fun _ _ => rfl, E.inj, fun i a e q => E.out i a e (h a q), E.bnd, fun a q => E.occ a (h a q), E.inv, hq, E.tab⟩
theorem Car.le {J' : Jv n} {O : Addr → Prop} {as : Nat → Option Addr} {H : Hp} {E : FEnds} {D : Ends} (C : Car K J O as H E D) (h : J'.le J) : Car K J' O as H E D :=
  ⟨fun ρ' as' σ' H' p x R => C.nx ρ' as' σ' H' p x (R.reJ (h.1 _ _ R.inv) (h.2 _ R.inq)), fun d ρ' v as' σ' H' p x R => C.rt d ρ' v as' σ' H' p x (R.reJ (h.1 _ _ R.inv) (h.2 _ R.inq)), fun ρ' as' σ' H' p x R => C.bk ρ' as' σ' H' p x (R.reJ (h.1 _ _ R.inv) (h.2 _ R.inq)),
    fun ρ' as' σ' H' p x R => C.ct ρ' as' σ' H' p x (R.reJ (h.1 _ _ R.inv) (h.2 _ R.inq)), fun ds ρ' p xs as' σ' H' q x o R => C.ro ds ρ' p xs as' σ' H' q x o (R.reJ (h.1 _ _ R.inv) (h.2 _ R.inq))⟩
theorem lkF {W : WX} : Lk K J (fun _ _ => False) W := fun _ _ _ _ _ _ _ _ _ _ h => h.elim
/-- the body of a def that raises -/
theorem fn_coreX {ps : List Str} {N : List Str} {b : (PyData → En → Prop) → FS} {t : WX → TS} (rs : ∀ (J : Jv ps.length) (X : PyData → En → Prop) (W : WX), Lk K J X W → RS K J (t W) (b X)) {vs : List V} {H : Hp} {Q : VK} {E : XK} (h : spX K ps.length (fnX ps.length N.length b) vs H Q E) :
    t (fun cls d _ H => E cls d H) { nx := fun _ H' => Q .non H', rt := Q } (L2.start N vs) H := by
  obtain ⟨hv, O, as, ρ, P, X, R, hF, q, qx⟩ := h
  have few : ∀ i a, as i = some a → i < ps.length := fun i a h => by have := R.bnd i a h; have := R.len; rw [List.length_map] at this; omega
  have less : ∀ {O' : Addr → Prop} {as' : Nat → Option Addr} {H' : Hp}, (∀ a, O a → O' a) → Ext ps.length as as' H H' → Same (hp (Hid O' as') H') (hp (Hid O as) H') := fun hO x => hp_less fun c hc => by
    rcases hc with hc | ⟨j, hc⟩ | hc
    · exact .inl (hO c hc)
    · exact .inr (.inl ⟨j, by rw [x.fix j (few j c hc)]; exact hc⟩)
    · exact .inr (.inr hc)
  have own : ∀ {O' : Addr → Prop} {ρ' : En} {as' : Nat → Option Addr} {σ' : L2.St} {H' : Hp}, (∀ a, O a → O' a) → Ext ps.length as as' H H' → EnR K (Jst ps.length O as H) O' as' H' ρ' σ' → ∀ i a, as i = some a → ∃ ds xs, (ρ'.take ps.length)[i]? = some (.own ds) ∧ H' a = some (.lst xs) ∧ DqAll K (hp (Hid O as) H') xs ds := by
    intro O' ρ' as' σ' H' hO x R' i a h
    have h' : as' i = some a := by rw [x.fix i (few i a h)]; exact h
    obtain ⟨ds, xs, e1, _, e3, e4⟩ := R'.is_own h'
    exact ⟨ds, xs, by rw [List.getElem?_take, if_pos (few i a h)]; exact e1, e3, e4.mono (less hO x)⟩
  refine rs (Jst ps.length O as H) (fun d ρ' => X d (ρ'.take ps.length)) _ (fun O' as' σ' H' ρ' cls dd d R' xc hx => ?_) O as _ H _ _ _ ((R.start N hv).reJ Ext.refl fun _ h => h) hF ⟨fun ρ' as' σ' H' p x R' => ?_, fun d ρ' v as' σ' H' p x R' dv => ?_, fun _ _ _ _ p => p.elim, fun _ _ _ _ p => p.elim, fun _ _ _ _ _ _ _ p => p.elim⟩
  · exact qx d _ cls dd H' hx R'.inv.fr R'.tab (own R'.inq R'.inv R') (xc.mono (less R'.inq R'.inv))
  · exact q _ _ _ _ p x.fr R'.tab (own (fun _ h => h) x R') .non
  · exact q _ _ _ _ p x.fr R'.tab (own (fun _ h => h) x R') (dv.mono (less (fun _ h => h) x))
/-- a call that may raise -/
theorem call_coreX {O : Addr → Prop} {as : Nat → Option Addr} {H : Hp} {ρ : En} {σ : L2.St} {xs : List Ar} {r : List Sl} {vs : List V} {m : Nat} {F : FX} {P X : PyData → En → Prop} {Q : VK} {W : WX} (E : EnR K J O as H ρ σ) (fit : Fits ρ xs r) (ar : ArsR K (hp (Hid O as) H) as vs xs) (hm : xs.length = m) (nd : (ownIx xs).Nodup)
    (f : F r (fun d out => P d (wb ρ xs out)) fun d out => X d (wb ρ xs out)) (l : Lk K J X W) (k : ∀ d ρ' v H', P d ρ' → FrA (Own as) H H' → EnR K J O as H' ρ' σ → Dq K (hp (Hid O as) H') v d → Q v H') : spX K m F vs H Q (WE W σ) := by
  have sub : ∀ a, Own (adrs as xs) a → Own as a := fun a h => by
    rcases h with ⟨j, h⟩ | h
    · obtain ⟨i, _, h⟩ := adrs_own h
      exact .inl ⟨i, h⟩
    · exact .inr h
  have hid : ∀ a, Hid (fun a => Hid O as a ∧ ¬ Own (adrs as xs) a) (adrs as xs) a ↔ Hid O as a := fun a => by
    constructor
    · rintro (h | h)
      · exact h.1
      · exact .inr (sub a h)
    · intro h
      by_cases q : Own (adrs as xs) a
      · exact .inr q
      · exact .inl ⟨h, q⟩
  have s1 : ∀ H', Same (hp (Hid O as) H') (hp (Hid (fun a => Hid O as a ∧ ¬ Own (adrs as xs) a) (adrs as xs)) H') := fun H' => hp_less fun a h => (hid a).mp h
  have s2 : ∀ H', Same (hp (Hid (fun a => Hid O as a ∧ ¬ Own (adrs as xs) a) (adrs as xs)) H') (hp (Hid O as) H') := fun H' => hp_less fun a h => (hid a).mpr h
  have back : ∀ {out : List Sl} {H' : Hp}, FrA (Own (adrs as xs)) H H' → TabsOk H' → (∀ i a, adrs as xs i = some a → ∃ ds ys, out[i]? = some (.own ds) ∧ H' a = some (.lst ys) ∧ DqAll K (hp (Hid (fun a => Hid O as a ∧ ¬ Own (adrs as xs) a) (adrs as xs)) H') ys ds) → EnR K J O as H' (wb ρ xs out) σ := by
    intro out H' fr tb ow
    have fr' : FrA (Own as) H H' := fr.up sub
    refine ⟨by rw [wb_len]; exact E.len, fun i sl o h1 h2 => ?_, E.inj, E.out, fun i a h => by rw [wb_len]; exact E.bnd i a h, fun a h => ?_, J.fr E.inv fr', E.inq, tb⟩
    · by_cases q : i ∈ ownIx xs
      · obtain ⟨j, e⟩ := ownIx_mem q
        have hi : i < ρ.length := by
          have := (List.getElem?_eq_some_iff.mp h1).1
          rw [wb_len] at this
          exact this
        obtain ⟨a, ha⟩ := ar.own_at e
        have hadr : adrs as xs j = some a := by unfold adrs; rw [e]; exact ha
        obtain ⟨ds, ys, e1, e2, e3⟩ := ow j a hadr
        rw [wb_own ρ hi nd e e1] at h1
        cases h1
        obtain ⟨_, _, _, e4, _⟩ := E.is_own ha
        rw [e4] at h2
        cases h2
        rw [ha]
        exact .own e2 (e3.mono (s2 H'))
      · rw [wb_other ρ xs out q] at h1
        refine (E.at_ i sl o h1 h2).mono (hp_fr fr' own_hid) fun b hb => ?_
        obtain ⟨_, _, _, _, e, _⟩ := E.is_own hb
        rw [e]
        refine fr _ _ (fun z => ?_) e
        rcases z with ⟨j, z⟩ | z
        rotate_left
        · exact E.tab.no e z
        obtain ⟨i', e', h'⟩ := adrs_own z
        rw [E.inj i' i b h' hb] at e'
        exact q (mem_ownIx e')
    · exact E.occ' fr' tb h
  refine ⟨by rw [ar.len, hm], fun a => Hid O as a ∧ ¬ Own (adrs as xs) a, adrs as xs, r, _, _, ⟨by rw [List.length_map, fit.len, ar.len], fun j sl o h1 h2 => fits_at E (s1 H) fit ar h1 h2, fun j1 j2 a h1 h2 => ?_, fun j a h q => q.2 (.inl ⟨j, h⟩), fun j a h => ?_, fun a h => E.full h.1, trivial, trivial, E.tab⟩, f, fun d out v H' p fr tb ow dv => ?_, fun d out cls dd H' p fr tb ow xc => ?_⟩
  · obtain ⟨i1, e1, h1⟩ := adrs_own h1
    obtain ⟨i2, e2, h2⟩ := adrs_own h2
    rw [E.inj i1 i2 a h1 h2] at e1
    exact ownIx_inj nd e1 e2
  · obtain ⟨i, e, _⟩ := adrs_own h
    rw [fit.len]
    exact (List.getElem?_eq_some_iff.mp e).1
  · exact k d _ v H' p (fr.up sub) (back fr tb ow) (dv.mono (s2 H'))
  · exact l O as σ H' _ cls dd d (back fr tb ow) (xc.mono (s2 H')) p
def fCallX (m : Nat) (F : FX) (dv : List PyData) (X : PyData → En → Prop) (a : FC) : FE := fun ρ P => a ρ fun xs ρ1 => xs.length + dv.length = m ∧ (ownIx xs).Nodup ∧ argF ρ1 xs fun r => F (r ++ dv.map .fz) (fun d out => P d (wb ρ1 xs out)) fun d out => X d (wb ρ1 xs out)
theorem re_callX {m : Nat} {F : FX} {dvs : List V} {dv : List PyData} {X : PyData → En → Prop} {W : WX} {t : TA} {f : FC} (l : Lk K J X W) (hd : ∀ H, DqAll K H dvs dv) (ha : RC K J t f) : RE K J (tCallSD (spX K m F) dvs (WE W) t) (fCallX m F dv X f) := by
  intro O as σ H Q ρ P E q k
  refine ha O as σ H _ ρ _ E q fun xs ρ1 vs H1 q1 f1 E1 d1 => ?_
  obtain ⟨hm, nd, q1⟩ := q1
  obtain ⟨r, fit, q1⟩ := argF_of q1
  refine call_coreX (xs := xs ++ dv.map .dat) E1 (fit.app (fits_dat dv)) (d1.app (dat_ars (hd _))) (by rw [List.length_append, List.length_map]; exact hm) (by rw [ownIx_app]; exact nd) ?_ l fun d ρ' v H' p fr E' q' => k d ρ' v H' p (f1.trans fr) E' q'
  simp only [wb_app]
  exact q1
/-- try: body except T as i: j = i -/
def fTryK (i j : Nat) (tab : Str → Option Bool) (X : PyData → En → Prop) (b : (PyData → En → Prop) → FS) : FS := fun E ρ => b (fun d ρ' => excF d fun c _ => ∃ k, tab c = some k ∧ if k = true then slotF ρ' i = true ∧ slotF (ρ'.set i .no) j = true ∧ E.nx ((ρ'.set i .no).set j (.fz d)) else X d ρ') E ρ
theorem rs_tryK {i j : Nat} {tab : Str → Option Bool} {cs : List Value} {X : PyData → En → Prop} {Wout : WX} {tb : WX → TS} {b : (PyData → En → Prop) → FS} (hij : i ≠ j) (l : Lk K J X Wout) (ht : ∀ c C k, tab c = some k → PySem.W.nsIn K mainGlobals c = some (some (.ref C)) → PySem.W.exmAny K (.ref C) cs = some k)
    (hb : ∀ (J' : Jv n) (X' : PyData → En → Prop) (W' : WX), J'.le J → Lk K J' X' W' → RS K J' (tb W') (b X')) : RS K J (fun D σ H => tb (wKeep K cs i (fun _ => tAsg (tVar i) (gName j)) Wout D) D σ H) (fTryK i j tab X b) := by
  intro O as σ H D ρ E R f C
  have le : (J.and (Jst n O as H)).le J := ⟨fun _ _ h => h.1, fun _ h => h.1⟩
  refine hb (J.and (Jst n O as H)) _ _ le (fun O2 as2 σ2 H2 ρ2 cls dd d E2 xc x2 => ?_) O as σ H D ρ E (R.reJ ⟨R.inv, Ext.refl⟩ ⟨R.inq, fun _ h => h⟩) f (C.le le)
  obtain ⟨c, Cc, dx, fv, fs, rfl, rfl, rfl, hn, hd, r⟩ := xc
  obtain ⟨k, ek, x2⟩ := x2
  refine ⟨k, ht c Cc k ek hn, fun hk => ?_, fun hk => ?_⟩
  · rw [if_pos hk] at x2
    obtain ⟨s1, s2, nx⟩ := x2
    refine ⟨Cc, dx, rfl, rfl, fun a ha => ?_⟩
    have s := Same.new (o := exk a Cc dx) ha
    have E3 : EnR K J O as2 H2 ρ2 σ2 := (E2.reJ (E2.inv.1) (E2.inq.1)).sub E2.inq.2 R.inq
    have nh := E3.fresh ha
    have gs : Same (hp (Hid O2 as2) H2) (hp (Hid O as2) (upd H2 a (exk a Cc dx))) := fun b o e => hp_mk (fun z => (hp_some e).1 (z.imp (E2.inq.2 b) id)) (s _ _ (hp_some e).2)
    have dq : Dq K (hp (Hid O as2) (upd H2 a (exk a Cc dx))) (.ref a) (.dict ((.str c, .bool true) :: fs)) := .exc hn (hp_mk nh upd_same) (gs _ _ hd) (DqFs.mono gs r)
    have E4 := ((E3.grow s).setNo s1 none).setFz s2 dq
    have hi : i < σ2.length := by
      obtain ⟨sl, e, _⟩ := slotF_of s1
      rw [← E3.len]
      exact (List.getElem?_eq_some_iff.mp e).1
    refine ⟨.ref a, by rw [List.getElem?_set_self hi], ?_⟩
    show D.nx (((σ2.set i (some (.ref a))).set j (some (.ref a))).set i none) _
    rw [List.set_comm _ _ (Ne.symm hij), List.set_set]
    exact C.nx _ _ _ _ nx (E2.inv.2.trans (.of (FrA.of s))) E4
  · rw [hk, if_neg (by decide)] at x2
    exact l O2 as2 σ2 H2 ρ2 _ _ _ (E2.reJ E2.inv.1 E2.inq.1) ⟨c, Cc, dx, fv, fs, rfl, rfl, rfl, hn, hd, r⟩ x2
end
end DL
/-! defs that raise: the promise; calls by keywords -/
namespace DL
open PySem L2 Z PySem.Spec PyProof.Rows
variable [Tbs]
section
variable {P : Program} {w : World} {K : PySem.W.Frag} {mg : Str → Option Value} {base : Heap} {k : Nat} {f : Addr} {fd : FuncData} {ps : List Str} {x qual : Str} {st : Stmt} {N : List Str} {b : (PyData → En → Prop) → FS}
theorem okX0 (F : Fun K x qual st f fd) (S : FnScope N ps (defScope st))
    (body : ∀ (cdv : Value) (A : Around) (outer : List Env) (s : Shared) (H : Hp) (E : XK), Room k (A.deeper (envOfC qual (defScope st) s.heap.objs.size f cdv)) →
      ∃ t : WX → TS, (∀ W, Takes (cxOf (L2.CX P w) P w K mg base N qual (defScope st) f cdv A outer s H E) W → PSs (cxOf (L2.CX P w) P w K mg base N qual (defScope st) f cdv A outer s H E) (defBody st) (t W)) ∧ ∀ (J : Jv ps.length) (X : PyData → En → Prop) (W : WX), Lk K J X W → RS K J (t W) (b X)) :
    FnOk P w K mg base (L2.CX P w) (k + 1) f fd ps (spX K ps.length (fnX ps.length N.length b)) := by
  refine F.okX S (fun vs H Q E h => h.1) (fun cdv A outer s H vs Q E hr h => ?_)
  obtain ⟨t, pt, rs⟩ := body cdv A outer s H E hr
  exact ⟨_, pt _ (takes_of (E := E) rfl rfl rfl rfl), fn_coreX rs h⟩
theorem okXD {params : Arguments} {bd : List Stmt} {scope : Scope} {dvs : List V} {kws : List (Str × V)} (F : FunD K x qual params bd scope dvs kws f fd) (S : FnScope N ps scope)
    (body : ∀ (cdv : Value) (A : Around) (outer : List Env) (s : Shared) (H : Hp) (E : XK), Room k (A.deeper (envOfC qual scope s.heap.objs.size f cdv)) →
      ∃ t : WX → TS, (∀ W, Takes (cxOf (L2.CX P w) P w K mg base N qual scope f cdv A outer s H E) W → PSs (cxOf (L2.CX P w) P w K mg base N qual scope f cdv A outer s H E) bd (t W)) ∧ ∀ (J : Jv ps.length) (X : PyData → En → Prop) (W : WX), Lk K J X W → RS K J (t W) (b X)) :
    FnOk P w K mg base (L2.CX P w) (k + 1) f fd ps (spX K ps.length (fnX ps.length N.length b)) := by
  refine F.ok S (fun vs H Q E h => h.1) (fun cdv A outer s H vs Q E hr h => ?_)
  obtain ⟨t, pt, rs⟩ := body cdv A outer s H E hr
  exact ⟨_, pt _ (takes_of (E := E) rfl rfl rfl rfl), fn_coreX rs h⟩
/-- a def that raises is passed by its own context -/
theorem passX {cdv : Value} {A : Around} {outer : List Env} {s : Shared} {H : Hp} {E : XK} {scope : Scope} : PassesOwn (model P w) (cxOf (L2.CX P w) P w K mg base N qual scope f cdv A outer s H E).A (cxOf (L2.CX P w) P w K mg base N qual scope f cdv A outer s H E).env (cxOf (L2.CX P w) P w K mg base N qual scope f cdv A outer s H E).xe :=
  passes_of (X := cxOf (L2.CX P w) P w K mg base N qual scope f cdv A outer s H E) rfl
end
/-! the call with keywords, where it may raise -/
def tCallNS (n m : Nat) (sp : Sp) (gV : List V → List V → List V) (E : L2.St → XK) (t tk : TA) : TE := fun σ H Q => t σ H fun vs H1 => tk σ H1 fun zs H2 => vs.length = n ∧ zs.length = m ∧ sp (gV vs zs) H2 Q (E σ)
section
variable {X : Cx} {CX : CXT} {k n : Nat} {f : Addr} {fd : FuncData} {ps ks : List Str} {sp : Sp} {E : L2.St → XK} {x : Str} {p pos : Pos} {e : Expr} {es : List Expr} {kws : List Keyword} {t tk : TA} {g : List Value → List Value → List Value} {gV : List V → List V → List V}
theorem pe_callNS (F : FnOk X.prog X.w X.K X.mg X.base CX k f fd ps sp) (hr : Room k X.A) (hg : Gl X x) (hm : X.mg x = some (.ref f)) (hk : PySem.W.keepIn X.K (.ref f) = true) (hb : KBn X.K fd ps n ks g gV) (hx : ∀ σ, PassesAt CX X σ (E σ))
    (ha : PA X (e :: es) t) (hkw : PK X kws tk) (hall : (backToKw pos (keywordEach kws X.env)).all (·.1.isSome) = true := by rfl) (hks : (backToKw pos (keywordEach kws X.env)).filterMap (·.1) = ks := by rfl)
    (hdb : (x == ("__debug__" : Str)) = false := by decide) (he : starEach (e :: es) X.env = (false, eval e X.env) :: starEach es X.env := by rfl)
    (hpl : ((backTo pos (starEach (e :: es) X.env)).any (·.1) || (backToKw pos (keywordEach kws X.env)).any (·.1.isNone)) = false := by rfl) :
    PE X (.Call (.Name x p) (e :: es) kws pos) (tCallNS n ks.length sp gV E t tk) := by
  refine ⟨fun pins s σ H Q I h => wpAny_Call_Name_kw (ld_glob I hg hm ?_ hdb)⟩
  refine PySem.W.callWith_KW (h₀ := X.base) I.ok.mod.kin hk hall (thn (ha.run pos pins s σ H _ I h) fun us s1 hh => ?_) hpl he
  obtain ⟨vs, H1, I1, r, q⟩ := hh
  refine thn (hkw.run pos pins s1 σ H1 _ I1 q) fun ws s2 hh => ?_
  obtain ⟨zs, H2, I2, rz, l1, l2, q2⟩ := hh
  rw [hks]
  refine ⟨I2.kIn, wpAny_call (codeAny_mono (F.run X.A X.stack s2 H2 ⟨us, ks.zip ws⟩ (g us ws) (gV vs zs) Q (E σ) hr I2.env0 (hb.to s2 us ws I2.kIn (r.length.symm.trans l1) (rz.length.symm.trans l2)) (hb.rel r rz) q2) fun y s' hq => ?_)⟩
  cases y with
  | error er => exact hx σ pins H2 s2 er s' I2 hq
  | ok fl =>
    cases fl with
    | ret u => exact I2.after hq
    | _ => exact False.elim hq
end
section
variable {K : PySem.W.Frag} {n : Nat} {J : Jv n}
def fCallNX (F : FX) (n m : Nat) (gD : List PyData → List PyData → List PyData) (X : PyData → En → Prop) (f fk : FA) : FE := fun ρ P => f ρ fun ds ρ1 => fk ρ1 fun es ρ2 => ds.length = n ∧ es.length = m ∧ F ((gD ds es).map .fz) (fun d _ => P d ρ2) fun d _ => X d ρ2
theorem re_callNX {l n m : Nat} {F : FX} {gV : List V → List V → List V} {gD : List PyData → List PyData → List PyData} {X : PyData → En → Prop} {W : WX} {t tk : TA} {f fk : FA} (lk : Lk K J X W)
    (hl : ∀ ds es : List PyData, ds.length = n → es.length = m → (gD ds es).length = l)
    (hg : ∀ (vs zs : List V) (ds es : List PyData) (H : Hp), DqAll K H vs ds → DqAll K H zs es → DqAll K H (gV vs zs) (gD ds es)) (ha : RA K J t f) (hk : RA K J tk fk) : RE K J (tCallNS n m (spX K l F) gV (WE W) t tk) (fCallNX F n m gD X f fk) := by
  intro O as σ H Q ρ P E q k
  refine ha O as σ H _ ρ _ E q fun ds ρ1 vs H1 q1 f1 E1 d1 => ?_
  refine hk O as σ H1 _ ρ1 _ E1 q1 fun es ρ2 zs H2 q2 f2 E2 d2 => ?_
  obtain ⟨l1, l2, q2⟩ := q2
  refine ⟨by rw [d1.length]; exact l1, by rw [d2.length]; exact l2, ?_⟩
  refine call_coreX (xs := (gD ds es).map .dat) E2 (fits_dat _) (dat_ars (hg _ _ _ _ _ (d1.fr f2) d2)) (by rw [List.length_map]; exact hl _ _ l1 l2) (by rw [ownIx_dat]; exact .nil) ?_ lk fun d ρ' v H' p fr E' q' => k d ρ' v H' p ((f1.trans f2).trans fr) E' q'
  simp only [wb_dat]
  exact q2
/-- a def that raises, where it doesn't -/
def noX (F : FX) : FN := fun ss P => F ss P fun _ _ => False
theorem noX_of {m : Nat} {F : FX} {vs : List V} {H : Hp} {Q : VK} {E : XK} (h : spF K m (noX F) vs H Q E) : spX K m F vs H Q E := by
  obtain ⟨hv, O, as, ρ, P, R, hF, q⟩ := h
  exact ⟨hv, O, as, ρ, P, _, R, hF, q, fun _ _ _ _ _ z => z.elim⟩
end
/-! is True, is False -/
theorem op_isB {X : Cx} : OpR X (compareOp .Is) (fun x y H Q => ∃ b, y = .bl b ∧ (∀ n, x ≠ .ty n) ∧ Q (.bl (decide (x = .bl b))) H) := by
  intro pins s σ H x y v u Q I rx ry h
  obtain ⟨b, rfl, nt, q⟩ := h
  cases ry
  have key : ∀ c : Bool, decide (x = V.bl b) = c → wpAny (model X.prog X.w) X.A (pure (.bool c)) (EP X pins σ Q) X.xe s := fun c e => wpAny_pure ⟨.bl c, H, I, rfl, by rw [← e]; exact q⟩
  cases x with
  | non => cases rx; exact key false rfl
  | bl c => cases rx; cases c <;> cases b <;> first | exact key true rfl | exact key false rfl
  | int i => obtain ⟨t, rfl⟩ := rx; exact key false rfl
  | str i => obtain ⟨t, rfl⟩ := rx; exact key false rfl
  | byt i => obtain ⟨t, rfl⟩ := rx; exact key false rfl
  | flt i => obtain ⟨t, rfl⟩ := rx; exact key false rfl
  | ref a => cases rx; exact key false rfl
  | ty n => exact absurd rfl (nt n)
def isBool (b : Bool) : PyData → Bool
  | .bool c => c == b
  | _ => false
def oIsT : G2 := fun a d P => match d with
  | .bool b => P (.bool (isBool b a))
  | _ => False
section
variable {K : PySem.W.Frag}
theorem rr_isB : RR K (fun x y H Q => ∃ b, y = .bl b ∧ (∀ n, x ≠ .ty n) ∧ Q (.bl (decide (x = .bl b))) H) oIsT := by
  intro A H Q x y a c P oc da db g k
  unfold oIsT at g
  split at g
  · next b =>
    cases db
    refine ⟨b, rfl, fun n => ?_, ?_⟩
    · cases da <;> exact fun z => nomatch z
    · have e : decide (x = V.bl b) = isBool b a := by
        cases da <;> first | rfl | (next z => cases z <;> cases b <;> rfl)
      rw [e]
      exact k _ _ _ g (Same.refl _) (.bl _)
  · exact g.elim
end
/-! what the printed texts use -/
theorem names_nil {X : Cx} : ∀ q ∈ ([] : List (Str × Pos × Value)), Names X q.1 q.2.2 := fun _ h => by cases h
theorem names_cons {X : Cx} {x : Str} {p : Pos} {c : Value} {r : List (Str × Pos × Value)} (h : Names X x c) (t : ∀ q ∈ r, Names X q.1 q.2.2) : ∀ q ∈ (x, p, c) :: r, Names X q.1 q.2.2 := fun q hq => by
  rcases List.mem_cons.mp hq with rfl | hq
  · exact h
  · exact t q hq
def tabL : List (Str × Bool) → Str → Option Bool
  | [], _ => none
  | (x, b) :: r, c => if c = x then some b else tabL r c
section
variable {K : PySem.W.Frag} {p : Addr → Bool → Prop}
theorem tab_nil : ∀ c C b, tabL [] c = some b → PySem.W.nsIn K mainGlobals c = some (some (.ref C)) → p C b := fun _ _ _ h => by cases h
theorem tab_cons {x : Str} {C0 : Addr} {b0 : Bool} {l : List (Str × Bool)} (q : PySem.W.nsIn K mainGlobals x = some (some (.ref C0))) (h : p C0 b0) (r : ∀ c C b, tabL l c = some b → PySem.W.nsIn K mainGlobals c = some (some (.ref C)) → p C b) :
    ∀ c C b, tabL ((x, b0) :: l) c = some b → PySem.W.nsIn K mainGlobals c = some (some (.ref C)) → p C b := fun c C b e n => by
  unfold tabL at e
  split at e
  · next z =>
    subst z
    cases e
    rw [q] at n
    cases n
    exact h
  · exact r c C b e n
theorem cls_nil {q : Addr → Prop} : ∀ c C, c ∈ ([] : List Str) → PySem.W.nsIn K mainGlobals c = some (some (.ref C)) → q C := fun _ _ h => by cases h
theorem cls_cons {q : Addr → Prop} {x : Str} {C0 : Addr} {l : List Str} (n0 : PySem.W.nsIn K mainGlobals x = some (some (.ref C0))) (h : q C0) (r : ∀ c C, c ∈ l → PySem.W.nsIn K mainGlobals c = some (some (.ref C)) → q C) : ∀ c C, c ∈ x :: l → PySem.W.nsIn K mainGlobals c = some (some (.ref C)) → q C := fun c C hc n => by
  rcases List.mem_cons.mp hc with rfl | hc
  · rw [n0] at n
    cases n
    exact h
  · exact r c C hc n
end
end DL
/-! the law's def over data; functions as data -/
namespace DL
open PySem L2 Z PySem.Spec PyProof.Rows
variable [Tbs]
section
variable {P : Program} {w : World} {K : PySem.W.Frag} {mg : Str → Option Value} {base : Heap} {k : Nat} {f : Addr} {fd : FuncData} {ps : List Str} {sp sp' : Sp}
theorem _root_.Z.FnG.imp (F : FnG P w K mg base k f fd ps sp) (h : ∀ vs H Q E, sp' vs H Q E → sp vs H Q E) : FnG P w K mg base k f fd ps sp' :=
  ⟨fun vs H Q E q => F.size vs H Q E (h vs H Q E q), fun A outer s H args us vs Q E hr c e b v q => F.goes A outer s H args us vs Q E hr c e b v (h vs H Q E q)⟩
def spLaw (K : PySem.W.Frag) : Sp := fun vs H Q _ => ∃ (a : Addr) (ns : List Int), vs = [.ref a] ∧ SqL K H a (ns.map V.int) ∧ ns.length ≤ 63 ∧ TabsOk H ∧ ∀ H', Q (.bl true) H'
theorem sqL_noT {H : Hp} {a : Addr} {xs : List V} (t : TabsOk H) (h : SqL K H a xs) : SqL K (hp (Hid (fun _ => False) fun _ => none) H) a xs := by
  have no : ∀ o, H a = some o → (∀ ps, o ≠ .tbl ps) → ¬ Hid (fun _ => False) (fun _ => none) a := fun o e n q => by
    rcases q with q | ⟨_, q⟩ | ⟨p, hp, q⟩
    · exact q
    · cases q
    · obtain ⟨ps, h1, _⟩ := t p hp
      rw [q, e] at h1
      exact n ps (Option.some.inj h1)
  rcases h with (h | ⟨o, h⟩) | h
  · exact .inl (.inl (hp_mk (no _ h fun _ z => by cases z) h))
  · exact .inl (.inr ⟨o, hp_mk (no _ h fun _ z => by cases z) h⟩)
  · exact .inr h
/-- the law's def -/
theorem law_of {F : FN} (hF : ∀ ns : List Int, ns.length ≤ 63 → F [.fz (.list (ns.map .int))] fun d _ => d = .bool true) {vs : List V} {H : Hp} {Q : VK} {E : XK} (h : spLaw K vs H Q E) : spF K 1 F vs H Q E := by
  obtain ⟨a, ns, rfl, hS, hl, tb, q⟩ := h
  refine ⟨rfl, fun _ => False, fun _ => none, [.fz (.list (ns.map .int))], _, ⟨rfl, fun i sl o e1 e2 => ?_, fun i j a h1 h2 => ?_, fun _ _ h _ => (by cases h), fun i a h => ?_, fun a z => z.elim, trivial, trivial, tb⟩, hF ns hl, fun d out v H' hd fr _ _ dv => ?_⟩
  · match i, e1, e2 with
    | 0, e1, e2 =>
      cases e1
      cases e2
      exact .fz (.lst (sqL_noT tb hS) (DqAll.ints _))
  · cases h1
  · cases h
  · subst hd
    cases dv
    exact q _
end
/-! a local name that holds a def which may raise -/
structure HeldX (P : Program) (w : World) (K : PySem.W.Frag) (mg : Str → Option Value) (base : Heap) (k : Nat) (f : Addr) (sp : Sp) : Prop where
  ex : ∃ (fd : FuncData) (ps : List Str), FnOk P w K mg base (L2.CX P w) k f fd ps sp ∧ PySem.W.keepIn K (.ref f) = true ∧ Binds K fd ps []
def tCallV (i : Nat) (S : Addr → Sp → Prop) (E : L2.St → XK) (t : TA) : TE := fun σ H Q => ∃ f sp, σ[i]? = some (some (.ref f)) ∧ S f sp ∧ t σ H fun vs H1 => sp vs H1 Q (E σ)
section
variable {X : Cx} {k i : Nat} {E : L2.St → XK} {x : Str} {p pos : Pos} {e : Expr} {es : List Expr} {t : TA}
theorem pe_callV {S : Addr → Sp → Prop} (A : ∀ f sp, S f sp → HeldX X.prog X.w X.K X.mg X.base k f sp) (hr : Room k X.A) (hN : X.N[i]? = some x) (hv : Vis X.env.scope x) (hx : ∀ σ, PassesAt (L2.CX X.prog X.w) X σ (E σ)) (ha : PA X (e :: es) t)
    (hdb : (x == ("__debug__" : Str)) = false := by decide) (hcd : (x == ("__classdict__" : Str)) = false := by decide)
    (he : starEach (e :: es) X.env = (false, eval e X.env) :: starEach es X.env := by rfl) (hpl : (backTo pos (starEach es X.env)).any (·.1) = false := by rfl) : PE X (.Call (.Name x p) (e :: es) [] pos) (tCallV i S E t) := by
  refine ⟨fun pins s σ H Q I h => ?_⟩
  obtain ⟨f, sp, hs, hS, ht⟩ := h
  obtain ⟨fd, ps, F, hk, hb⟩ := (A f sp hS).ex
  refine wpAny_Call_Name_kw (thn ((pe_var (pos := p) hN hv hdb hcd).run pins s σ H (fun v H1 => v = .ref f ∧ H1 = H) I ⟨.ref f, hs, rfl, rfl⟩) fun u s1 ⟨v, H1, I1, r1, q1⟩ => ?_)
  obtain ⟨rfl, rfl⟩ := q1
  cases r1
  refine PySem.W.callWith_K (h₀ := X.base) I.ok.mod.kin hk (thn (ha.run pos pins s1 σ _ _ I1 ht) fun us s2 ⟨vs, H2, I2, r, q⟩ => ⟨I2.kIn, ?_⟩) he hpl
  exact run_fnSD F hr hb .nil (hx σ) I2 r (by rw [List.append_nil]; exact q)
end
section
variable {K : PySem.W.Frag} {n : Nat} {J : Jv n}
def fnD (x : Str) : PyData := .dict [(.str x, .int 0)]
def funF (ρ : En) (i : Nat) (k : Str → Prop) : Prop := match ρ[i]? with
  | some (.fz (.dict [(.str x, .int 0)])) => k x
  | _ => False
theorem funF_of {ρ : En} {i : Nat} {k : Str → Prop} (h : funF ρ i k) : ∃ x, ρ[i]? = some (.fz (fnD x)) ∧ k x := by
  unfold funF at h
  split at h
  · next x e => exact ⟨x, e, h⟩
  · exact h.elim
def tabF : List (Str × Nat × FX) → Str → (Nat → FX → Prop) → Prop
  | [], _, _ => False
  | (y, m, F) :: l, x, k => if y = x then k m F else tabF l x k
theorem tabF_of {x : Str} {k : Nat → FX → Prop} : ∀ {l : List (Str × Nat × FX)}, tabF l x k → ∃ m F, (x, m, F) ∈ l ∧ k m F
  | [], h => h.elim
  | (y, m, F) :: l, h => by
    unfold tabF at h
    split at h
    · next e => subst e; exact ⟨m, F, List.mem_cons_self, h⟩
    · obtain ⟨m', F', hm, hk⟩ := tabF_of h
      exact ⟨m', F', List.mem_cons_of_mem _ hm, hk⟩
theorem Dq.fn_of {G : Hp} {v : V} {x : Str} (q : Dq K G v (fnD x)) : ∃ f, v = .ref f ∧ PySem.W.nsIn K mainGlobals x = some (some (.ref f)) := by
  unfold fnD at q
  cases q with
  | fnc h => exact ⟨_, rfl, h⟩
/-- the def that a slot holds, called -/
def fCallV (i : Nat) (tab : List (Str × Nat × FX)) (X : PyData → En → Prop) (a : FC) : FE := fun ρ P => funF ρ i fun x => tabF tab x fun m F => a ρ fun xs ρ1 => xs.length = m ∧ (ownIx xs).Nodup ∧ argF ρ1 xs fun r => F r (fun d out => P d (wb ρ1 xs out)) fun d out => X d (wb ρ1 xs out)
theorem re_callV {i : Nat} {S : Addr → Sp → Prop} {tab : List (Str × Nat × FX)} {X : PyData → En → Prop} {W : WX} {t : TA} {f : FC} (l : Lk K J X W) (hS : ∀ x m F a, (x, m, F) ∈ tab → PySem.W.nsIn K mainGlobals x = some (some (.ref a)) → S a (spX K m F)) (ha : RC K J t f) : RE K J (tCallV i S (WE W) t) (fCallV i tab X f) := by
  intro O as σ H Q ρ P E q k
  obtain ⟨x, hx, q⟩ := funF_of q
  obtain ⟨m, F, hm, q⟩ := tabF_of q
  obtain ⟨v, e1, _, d0⟩ := E.fz_at hx
  obtain ⟨a, rfl, hn⟩ := Dq.fn_of d0
  refine ⟨a, _, e1, hS x m F a hm hn, ?_⟩
  refine ha O as σ H _ ρ _ E q fun xs ρ1 vs H1 q1 f1 E1 d1 => ?_
  obtain ⟨hm, nd, q1⟩ := q1
  obtain ⟨r, fit, q1⟩ := argF_of q1
  exact call_coreX E1 fit d1 hm nd q1 l fun d ρ' v H' p fr E' q' => k d ρ' v H' p (f1.trans fr) E' q'
theorem held_nil {S : Addr → Sp → Prop} : ∀ x m F a, (x, m, F) ∈ ([] : List (Str × Nat × FX)) → PySem.W.nsIn K mainGlobals x = some (some (.ref a)) → S a (spX K m F) := fun _ _ _ _ h => by cases h
theorem held_cons {S : Addr → Sp → Prop} {x0 : Str} {m0 : Nat} {F0 : FX} {a0 : Addr} {l : List (Str × Nat × FX)} (q : PySem.W.nsIn K mainGlobals x0 = some (some (.ref a0))) (h : S a0 (spX K m0 F0)) (r : ∀ x m F a, (x, m, F) ∈ l → PySem.W.nsIn K mainGlobals x = some (some (.ref a)) → S a (spX K m F)) :
    ∀ x m F a, (x, m, F) ∈ (x0, m0, F0) :: l → PySem.W.nsIn K mainGlobals x = some (some (.ref a)) → S a (spX K m F) := fun x m F a hm hn => by
  rcases List.mem_cons.mp hm with e | e
  · cases e
    rw [q] at hn
    cases hn
    exact h
  · exact r x m F a e hn
end
/-! a list or a tuple, walked -/
def iAny (K : PySem.W.Frag) (tl : TE) : TI := fun σ H R => tl σ H fun x H1 => ∃ a, x = .ref a ∧ (((∃ xs, SqL K H1 a xs) ∧ R (Itl K a) H1) ∨ ((∃ xs, SqT K H1 a xs) ∧ R (Itt K a) H1))
theorem pi_any {X : Cx} {tg l : Expr} {tl : TE} (hl : PE X l tl) : PI X tg l (iAny X.K tl) := by
  refine ⟨fun pins s σ H R I h => ?_⟩
  refine thn (hl.run pins s σ H _ I h) fun v s1 ⟨x, H1, I1, r1, q1⟩ => ?_
  obtain ⟨a, e, q1⟩ := q1
  subst e
  cases r1
  rcases q1 with ⟨⟨xs, hq⟩, q⟩ | ⟨⟨xs, hq⟩, q⟩
  · obtain ⟨its, rv, p, hz⟩ := I1.list hq
    refine wpAny_pyIter_list p.isList ?_
    refine ⟨s1.heap.objs.size, [s1.heap.objs.size], _, _, H1, rfl, I1.kept (t' := s1.toks) fun b o e => Heap.get?_push_of_some _ e, turn_list a _, ⟨_, Heap.get?_push_size _ rfl, rfl, rfl⟩, fun b hb => ?_, q⟩
    have e : b = s1.heap.objs.size := by simpa using hb
    subst e
    exact I1.fpOk (Nat.le_refl _) (I1.hok.fresh (Nat.le_refl _))
  · obtain ⟨its, rv, p, hz⟩ := I1.tuple hq
    refine wpAny_pyIter_tuple (show s1.heap.IsTuple a its.toArray from p) ?_
    refine ⟨s1.heap.objs.size, [s1.heap.objs.size], _, _, H1, rfl, I1.kept (t' := s1.toks) fun b o e => Heap.get?_push_of_some _ e, turn_tuple a _, ⟨_, Heap.get?_push_size _ rfl, rfl, rfl⟩, fun b hb => ?_, q⟩
    have e : b = s1.heap.objs.size := by simpa using hb
    subst e
    exact I1.fpOk (Nat.le_refl _) (I1.hok.fresh (Nat.le_refl _))
section
variable {K : PySem.W.Frag} {n : Nat} {J : Jv n}
def iA (f : FE) : FA := fun ρ P => f ρ fun d ρ1 => seqF d fun ds => P ds ρ1
theorem ri_any {tl : TE} {f : FE} (h : RE K J tl f) : RI K J (iAny K tl) (iA f) := by
  intro O as σ H R ρ P E q k
  refine h O as σ H _ ρ _ E q fun d ρ1 v H1 q1 f1 E1 d1 => ?_
  unfold seqF at q1
  split at q1
  · next ds =>
    obtain ⟨a, xs, rfl, s, r⟩ := d1.list_of
    refine ⟨a, rfl, .inl ⟨⟨_, SqL.mono hp_same s⟩, k _ _ _ _ q1 f1 E1 ?_⟩⟩
    refine ⟨_, _, by rw [← r.length]; exact walk_list (xs := xs), fun A' H2 s2 => SqL.mono hp_same (SqL.mono s2 s), fun i d A' H2 x H3 hd s2 oc y => ?_⟩
    obtain ⟨rfl, hx⟩ := y
    obtain ⟨d', e, q⟩ := r.get hx
    rw [hd] at e
    cases e
    exact ⟨Same.refl _, q.mono s2⟩
  · next ds =>
    obtain ⟨a, xs, rfl, s, r⟩ := d1.tuple_of
    refine ⟨a, rfl, .inr ⟨⟨_, SqT.mono hp_same s⟩, k _ _ _ _ q1 f1 E1 ?_⟩⟩
    refine ⟨_, _, by rw [← r.length]; exact walk_tup (xs := xs), fun A' H2 s2 => SqT.mono hp_same (SqT.mono s2 s), fun i d A' H2 x H3 hd s2 oc y => ?_⟩
    obtain ⟨rfl, hx⟩ := y
    obtain ⟨d', e, q⟩ := r.get hx
    rw [hd] at e
    cases e
    exact ⟨Same.refl _, q.mono s2⟩
  · exact q1.elim
end
end DL
/-! texts and tuples turned about -/
namespace DL
open PySem L2 Z PySem.Spec PyProof.Rows
variable [Tbs]
section
variable {X : Cx}
def revS (z : Str) : Str := ⟨z.cps.toList.reverse.toArray⟩
theorem rev_picked (z : Str) : ((Builtin.Str.strSliceIndices none none (-1) z.length).filterMap (z.cps[·]?)) = z.cps.toList.reverse := by
  show ((sliceRange ((z.length : Int) - 1) (-1) (-1)).filterMap (z.cps[·]?)) = _
  rw [PySem.W.krv_sliceRange, PySem.W.krv_range, List.filterMap_reverse]
  exact congrArg List.reverse (PySem.W.krv_all z.cps)
def tRevS (te : TE) : TE := fun σ H Q => te σ H fun x H1 => ∃ z, x = .str z ∧ z.length ≤ sizeLine ∧ Q (.str (revS z)) H1
theorem pe_revS {e : Expr} {te : TE} {k : Nat} {p1 p2 p3 pos : Pos} (he : PE X e te) : PE X (.Subscript e (.Slice none none (some (.UnaryOp .USub (.Constant (.int 1) k p1) p2)) p3) pos) (tRevS te) := by
  refine ⟨fun pins s σ H Q I h => ?_⟩
  refine Subscript_ (thn (he.run pins s σ H _ I h) fun v s1 ⟨x, H1, I1, r1, q1⟩ => ?_)
  obtain ⟨z, ex, hz, q⟩ := q1
  subst ex
  obtain ⟨t, rfl⟩ := r1
  have hst : PO X (some (.UnaryOp .USub (.Constant (.int 1) k p1) p2)) (tPart (tUn (rU fun i => .int (-i)) (tC (.int 1)))) := po_some (pe_un un_neg pe_int)
  refine wpAny_Slice (thn (po_none.run pins s1 σ H1 (fun o H2 => o = none ∧ H2 = H1) I1 ⟨rfl, rfl⟩) fun vl s2 ⟨l, H2, I2, pl, el, e2⟩ => ?_)
  subst el e2
  refine thn (po_none.run pins s2 σ H2 (fun o H3 => o = none ∧ H3 = H2) I2 ⟨rfl, rfl⟩) fun vu s3 ⟨u, H3, I3, pu, eu, e3⟩ => ?_
  subst eu e3
  refine thn (hst.run pins s3 σ H3 (fun o H4 => o = some (-1) ∧ H4 = H3) I3 ⟨1, rfl, -1, rfl, rfl, rfl⟩) fun vs s4 ⟨o, H4, I4, ps, eo, e4⟩ => ?_
  subst eo e4
  have I5 : Inv X pins σ H4 { s4 with heap := s4.heap.push { cls := .type "slice", data := .fields #[vl, vu, vs] } } := I4.kept (t' := s4.toks) fun b ob q => Heap.get?_push_of_some _ q
  obtain ⟨l, rfl, hl⟩ := IsPart.raw pl
  obtain ⟨u, rfl, hu⟩ := IsPart.raw pu
  obtain ⟨st, rfl, hs⟩ := IsPart.raw ps
  cases l with
  | some _ => cases hl
  | none =>
  cases u with
  | some _ => cases hu
  | none =>
  cases st with
  | none => cases hs
  | some st =>
  obtain ⟨i, tk⟩ := st
  cases hs
  show wpAny (model X.prog X.w) X.A (subscriptTail e (.Slice none none (some (.UnaryOp .USub (.Constant (.int 1) k p1) p2)) p3) (.str z t) (.ref s4.heap.objs.size)) (EP X pins σ Q) X.xe _
  refine tail_any (ops := [.str z t, .ref s4.heap.objs.size]) (typeIs_str _ _ _) F.slot_str_getitem.lookup ?_ (by with_unfolding_all rfl)
  refine wpAny_getItem_str_slice (l := none) (u := none) (st := some (-1, tk)) ⟨_, Heap.get?_push_size _ rfl, rfl, rfl⟩ rfl ?_
  show Made.post (Made.str ⟨((Builtin.Str.strSliceIndices none none (-1) z.length).filterMap (z.cps[·]?)).toArray⟩) (EP X pins σ Q) _
  rw [rev_picked]
  exact ⟨by show z.cps.toList.reverse.toArray.size ≤ _; rw [List.size_toArray, List.length_reverse]; exact hz, .str _, H4, I5.tok _, ⟨_, rfl⟩, q⟩
end
section
variable {K : PySem.W.Frag} {n : Nat} {J : Jv n}
def fRevS (a : FE) : FE := fun ρ P => a ρ fun d ρ1 => strF d fun z => z.length ≤ sizeLine ∧ P (.str (revS z)) ρ1
theorem re_revS {te : TE} {a : FE} (ha : RE K J te a) : RE K J (tRevS te) (fRevS a) := by
  intro O as σ H Q ρ P E q k
  refine ha O as σ H _ ρ _ E q fun d ρ1 v H1 q1 f1 E1 d1 => ?_
  unfold strF at q1
  split at q1
  · cases d1
    exact ⟨_, rfl, q1.1, k _ _ _ _ q1.2 f1 E1 (.str _)⟩
  · exact q1.elim
end
end DL
/-! numbers and truths; repr and str of any data; tuples turned about -/
namespace DL
open PySem L2 Z PySem.Spec PyProof.Rows
variable [Tbs]
section
variable {X : Cx}
def numV : V → Option Int
  | .int i => some i
  | .bl b => some (b2i b)
  | _ => none
def rNum (f : Int → Int → Int) : R2 := fun x y H Q => ∃ i j, numV x = some i ∧ numV y = some j ∧ Q (.int (f i j)) H
theorem op_addN : OpR X (binaryOp .Add) (rNum (· + ·)) := by
  intro pins s σ H x y v u Q I rx ry h
  obtain ⟨i, j, h1, h2, q⟩ := h
  cases x with
  | bl b =>
    cases h1
    cases rx
    cases y with
    | bl c => cases h2; cases ry; exact add_bool ⟨.int _, H, I.tok _, ⟨_, rfl⟩, q⟩
    | int c => cases h2; obtain ⟨t, rfl⟩ := ry; exact PySem.IntBool.add_bool_int ⟨.int _, H, I.tok _, ⟨_, rfl⟩, q⟩
    | _ => cases h2
  | int b =>
    cases h1
    cases y with
    | bl c => cases h2; obtain ⟨t, rfl⟩ := rx; cases ry; exact add_int_bool ⟨.int _, H, I.tok _, ⟨_, rfl⟩, q⟩
    | int c => cases h2; exact op_add pins s σ H _ _ v u Q I rx ry ⟨_, _, rfl, rfl, q⟩
    | _ => cases h2
  | _ => cases h1
theorem op_subN : OpR X (binaryOp .Sub) (rNum (· - ·)) := by
  intro pins s σ H x y v u Q I rx ry h
  obtain ⟨i, j, h1, h2, q⟩ := h
  cases x with
  | bl b =>
    cases h1
    cases rx
    cases y with
    | bl c => cases h2; cases ry; exact sub_bool ⟨.int _, H, I.tok _, ⟨_, rfl⟩, q⟩
    | int c => cases h2; obtain ⟨t, rfl⟩ := ry; exact PySem.IntBool.sub_bool_int ⟨.int _, H, I.tok _, ⟨_, rfl⟩, q⟩
    | _ => cases h2
  | int b =>
    cases h1
    cases y with
    | bl c => cases h2; obtain ⟨t, rfl⟩ := rx; cases ry; exact PySem.IntBool.sub_int_bool ⟨.int _, H, I.tok _, ⟨_, rfl⟩, q⟩
    | int c => cases h2; exact op_sub pins s σ H _ _ v u Q I rx ry ⟨_, _, rfl, rfl, q⟩
    | _ => cases h2
  | _ => cases h1
/-- repr(x), x any data -/
theorem call_reprV (calm : X.A.guards = some []) (hu : X.A.units + 64 < cLine) : CallR X (.builtin "repr") (fun xs H Q => ∃ (v : V) (d : PyData), xs = [v] ∧ Dp X.K H v d ∧
    d.showable = true ∧ d.depth ≤ 60 ∧ d.shown.length ≤ sizeLine ∧ Q (.str d.shown) H) := by
  intro pins s σ H xs us Q I r h
  obtain ⟨v, d, rfl, hd, sh, dp, sz, q⟩ := h
  obtain ⟨u, rfl, rx⟩ := vals1 r
  clear r
  cases hd with
  | non => cases rx; exact PySem.P.repr_of_none ⟨.str _, H, I.tok _, ⟨_, rfl⟩, q⟩
  | bl b => cases rx; exact PySem.P.repr_of_bool ⟨.str _, H, I.tok _, ⟨_, rfl⟩, q⟩
  | int i => obtain ⟨t, rfl⟩ := rx; exact PySem.P.repr_of_int (of_decide_eq_true sh) ⟨.str _, H, I.tok _, ⟨_, rfl⟩, q⟩
  | str z => obtain ⟨t, rfl⟩ := rx; exact PySem.P.repr_of_str ⟨.str _, H, I.tok _, ⟨_, rfl⟩, q⟩ sz
  | lst h r =>
    obtain ⟨as, rd⟩ := Dp.reads I (.list _) _ u (.lst h r) rx
    cases rx
    exact repr_of_reads' rd sh (PyData.noDict_hsm (Dp.plain (.lst h r))) calm (by omega) (fun _ _ e => e) (fun h' u tk hk => ⟨.str _, H, I.kept (t' := tk) hk, ⟨u, rfl⟩, q⟩) sz
  | tup h r =>
    obtain ⟨as, rd⟩ := Dp.reads I (.tuple _) _ u (.tup h r) rx
    cases rx
    exact repr_of_reads' rd sh (PyData.noDict_hsm (Dp.plain (.tup h r))) calm (by omega) (fun _ _ e => e) (fun h' u tk hk => ⟨.str _, H, I.kept (t' := tk) hk, ⟨u, rfl⟩, q⟩) sz
/-- str(x) of what stands by itself -/
def strV : V → Option Str
  | .non => some "None"
  | .bl b => some (if b then "True" else "False")
  | .int i => if i.natAbs.log2 < 1920 then some (toString i) else none
  | .str z => some z
  | _ => none
theorem call_strV : CallR X (.type "str") (fun xs H Q => ∃ v z, xs = [v] ∧ strV v = some z ∧ Q (.str z) H) := by
  intro pins s σ H xs us Q I r h
  obtain ⟨v, z, rfl, hz, q⟩ := h
  obtain ⟨u, rfl, rx⟩ := vals1 r
  cases v with
  | non => cases hz; cases rx; exact PySem.P.str_of_none ⟨.str _, H, I.tok _, ⟨_, rfl⟩, q⟩
  | bl b => cases hz; cases rx; exact PySem.P.str_of_bool ⟨.str _, H, I.tok _, ⟨_, rfl⟩, q⟩
  | int i =>
    obtain ⟨t, rfl⟩ := rx
    have hz' : (if i.natAbs.log2 < 1920 then some (Str.ofString (toString i)) else none) = some z := hz
    split at hz'
    · next hl => cases hz'; exact PySem.P.str_of_int hl ⟨.str _, H, I.tok _, ⟨_, rfl⟩, q⟩
    · cases hz'
  | str x => cases hz; obtain ⟨t, rfl⟩ := rx; exact PySem.P.str_of_str ⟨.str _, H, I, ⟨_, rfl⟩, q⟩
  | _ => cases hz
/-! ### t[::-1] -/
theorem places_rev (n : Nat) : Builtin.Slice.sliceAdjust none none (-1) (n : Int) = ((n : Int) - 1, -1) ∧ Builtin.Slice.slicePlaces ((n : Int) - 1) (-1) (-1) = n := by
  refine ⟨rfl, ?_⟩
  unfold Builtin.Slice.slicePlaces
  have h1 : ¬ ((-1 : Int) > 0) := by decide
  rw [if_neg h1]
  split
  · rw [show (- -1 : Int) = 1 from rfl, Int.ediv_one]
    omega
  · omega
theorem pick_rev (xs : Array Value) : ((List.range xs.size).filterMap fun (m : Nat) => xs[(((xs.size : Int) - 1) + (m : Int) * (-1)).toNat]?) = xs.toList.reverse := by
  have e : ((List.range xs.size).filterMap fun (m : Nat) => xs[(((xs.size : Int) - 1) + (m : Int) * (-1)).toNat]?) = ((List.range xs.size).map fun m => xs.size - 1 - m).filterMap (xs[·]?) := by
    rw [List.filterMap_map]
    have gen : ∀ l : List Nat, (∀ m ∈ l, m < xs.size) → (l.filterMap fun (m : Nat) => xs[(((xs.size : Int) - 1) + (m : Int) * (-1)).toNat]?) = l.filterMap ((fun x => xs[x]?) ∘ fun m => xs.size - 1 - m) := by
      intro l
      induction l with
      | nil => intro _; rfl
      | cons m l ih =>
        intro h
        have hm := h m List.mem_cons_self
        have e : (((xs.size : Int) - 1) + (m : Int) * (-1)).toNat = xs.size - 1 - m := by omega
        rw [List.filterMap_cons, List.filterMap_cons, ih fun k hk => h k (List.mem_cons_of_mem _ hk), e]
        rfl
    exact gen _ fun m hm => List.mem_range.mp hm
  rw [e, PySem.W.krv_range, List.filterMap_reverse, PySem.W.krv_all]
theorem getItem_tuple_rev {prog : Program} {w : World} {A : Around} {E : Value → Shared → Prop} {s : Shared} {t sl : Addr} {items : Array Value} {vl vu vs : Value} {Q : Value → Shared → Prop} (ht : IsTup s.heap t items) (hs : s.heap.IsSliceOf sl vl vu vs) (pl : IsPart vl none) (pu : IsPart vu none) (ps : IsPart vs (some (-1)))
    (h : Q (.ref s.heap.objs.size) { s with heap := s.heap.push { cls := .type "tuple", data := .seq items.toList.reverse.toArray } })
    (hsz : items.size ≤ sizeLine) : wpAny (model prog w) A (getItem (.ref t) (.ref sl)) Q E s := by
  have htake : sizeOk (.seq items.toList.reverse.toArray) := by
    show items.toList.reverse.toArray.size ≤ sizeLine
    rw [List.size_toArray, List.length_reverse, Array.length_toList]
    exact hsz
  obtain ⟨os, hos, hcs, hds⟩ := id hs
  have hTs : s.TypeIs (.ref sl) "slice" := ⟨os, hos, hcs⟩
  unfold getItem
  try with_reducible refine wpAny_holding ?_
  first | refine wpAny_bind (wpAny_pure ?_) | skip
  refine wpAny_bind (wpAny_sequenceKey ht.typeIs (by decide) ?_)
  refine wpAny_bind (wpAny_callSpecial?_slot (name := Str.ofString "__getitem__") ht.typeIs PyProof.Rows.slot_tuple_getitem
    (wpAny_call_entry PyProof.Rows.slot_tuple_getitem ht.typeIs entry_tuple_getitem ?_ (args_tuple_getitem _ _)))
  show wpAny _ _ (Builtin.Tuple.tupleItemsOf (.ref t) >>= _) _ _ s
  refine wpAny_bind (tupleItemsOf_ ht ?_)
  refine wpAny_bind (wpAny_typeOf hTs ?_)
  rw [if_pos (by decide)]
  refine wpAny_bind ?_
  unfold Builtin.Slice.sliceApplied Builtin.Slice.sliceFields
  refine wpAny_bind (wpAny_bind (wpAny_field hos hds (x := vl) rfl (wpAny_bind (wpAny_field hos hds (x := vu) rfl (wpAny_bind (wpAny_field hos hds (x := vs) rfl (wpAny_pure ?_)))))))
  refine wpAny_bind (HT.slicePart_ ps ?_)
  show wpAny _ _ (if ((-1 : Int) == 0) = true then _ else _) _ _ s
  rw [if_neg (by decide)]
  refine wpAny_bind (HT.slicePart_ pl (wpAny_bind (HT.slicePart_ pu (wpAny_bind (wpAny_pure ?_)))))
  show wpAny _ _ (match Builtin.Slice.sliceAdjust none none (-1) (items.size : Int) with | (lo, hi) => pure (lo, (-1 : Int), Builtin.Slice.slicePlaces lo hi (-1))) _ _ s
  rw [(places_rev _).1]
  show wpAny _ _ (pure (((items.size : Int) - 1), (-1 : Int), Builtin.Slice.slicePlaces ((items.size : Int) - 1) (-1) (-1))) _ _ s
  rw [(places_rev _).2]
  refine wpAny_pure ?_
  show wpAny _ _ (if (((items.size : Int) - 1) == 0 && (-1 : Int) == 1 && items.size == items.size) = true then _ else _) _ _ s
  rw [if_neg (by rw [show ((-1 : Int) == 1) = false from rfl, Bool.and_false, Bool.false_and]; decide), pick_rev]
  first
    | exact wpAny_bind (m := Builtin.Tuple.tupleExact _) (wpAny_newObj_type (wpAny_pure ⟨_, rfl, wpAny_pure h⟩) htake)
    | exact wpAny_bind (m := Builtin.Tuple.tupleExact _) (wpAny_newObj_type (wpAny_bind (wpAny_pure (wpAny_pure ⟨_, rfl, wpAny_pure h⟩))) htake)
    | exact wpAny_bind (wpAny_bind (m := Builtin.Tuple.tupleExact _) (wpAny_newObj_type (wpAny_pure (wpAny_pure ⟨_, rfl, wpAny_pure h⟩)) htake))
    | exact wpAny_bind (wpAny_bind (m := Builtin.Tuple.tupleExact _) (wpAny_newObj_type (wpAny_pure ⟨_, rfl, wpAny_pure h⟩) htake))
def tRevT (K : PySem.W.Frag) (te : TE) : TE := fun σ H Q => te σ H fun x H1 => ∃ a xs, x = .ref a ∧ SqT K H1 a xs ∧ ∀ p, H1 p = none → Q (.ref p) (upd H1 p (.tup xs.reverse))
theorem pe_revT {e : Expr} {te : TE} {k : Nat} {p1 p2 p3 pos : Pos} (he : PE X e te) : PE X (.Subscript e (.Slice none none (some (.UnaryOp .USub (.Constant (.int 1) k p1) p2)) p3) pos) (tRevT X.K te) := by
  refine ⟨fun pins s σ H Q I h => ?_⟩
  refine Subscript_ (thn (he.run pins s σ H _ I h) fun v s1 ⟨x, H1, I1, r1, q1⟩ => ?_)
  obtain ⟨a, xs, ex, hx, q⟩ := q1
  subst ex
  cases r1
  have hst : PO X (some (.UnaryOp .USub (.Constant (.int 1) k p1) p2)) (tPart (tUn (rU fun i => .int (-i)) (tC (.int 1)))) := po_some (pe_un un_neg pe_int)
  refine wpAny_Slice (thn (po_none.run pins s1 σ H1 (fun o H2 => o = none ∧ H2 = H1) I1 ⟨rfl, rfl⟩) fun vl s2 ⟨l, H2, I2, pl, el, e2⟩ => ?_)
  subst el e2
  refine thn (po_none.run pins s2 σ H2 (fun o H3 => o = none ∧ H3 = H2) I2 ⟨rfl, rfl⟩) fun vu s3 ⟨u, H3, I3, pu, eu, e3⟩ => ?_
  subst eu e3
  refine thn (hst.run pins s3 σ H3 (fun o H4 => o = some (-1) ∧ H4 = H3) I3 ⟨1, rfl, -1, rfl, rfl, rfl⟩) fun vs s4 ⟨o, H4, I4, ps, eo, e4⟩ => ?_
  subst eo e4
  have I5 : Inv X pins σ H4 { s4 with heap := s4.heap.push { cls := .type "slice", data := .fields #[vl, vu, vs] } } := I4.kept (t' := s4.toks) fun b ob q => Heap.get?_push_of_some _ q
  obtain ⟨its, r, ht, hz⟩ := I5.tuple hx
  have hlen := r.length
  show wpAny (model X.prog X.w) X.A (subscriptTail e (.Slice none none (some (.UnaryOp .USub (.Constant (.int 1) k p1) p2)) p3) (.ref a) (.ref s4.heap.objs.size)) (EP X pins σ Q) X.xe { s4 with heap := s4.heap.push { cls := .type "slice", data := .fields #[vl, vu, vs] } }
  refine tail_any (ops := [.ref a, .ref s4.heap.objs.size]) ht.typeIs (PyProof.Rows.slot_tuple_getitem.lookup) ?_ (by with_unfolding_all rfl)
  refine getItem_tuple_rev ht (Heap.IsSliceOf.new _ vl vu vs) pl pu ps ?_ (by rw [List.size_toArray]; omega)
  refine ⟨.ref _, _, I5.laid (t' := s4.toks) (o := .tup xs.reverse) (fun b ob q => Heap.get?_push_of_some _ q) (Nat.le_refl _) ?_, rfl, q _ (I5.hok.fresh (Nat.le_refl _))⟩
  exact ⟨by rw [List.length_reverse]; exact hz, _, r.reverse, IsTup.new _ _⟩
end
section
variable {K : PySem.W.Frag} {n : Nat} {J : Jv n}
def fRevT (a : FE) : FE := fun ρ P => a ρ fun d ρ1 => tupleF d fun ds => P (.tuple ds.reverse) ρ1
theorem re_revT {te : TE} {a : FE} (ha : RE K J te a) : RE K J (tRevT K te) (fRevT a) := by
  intro O as σ H Q ρ P E q k
  refine ha O as σ H _ ρ _ E q fun d ρ1 v H1 q1 f1 E1 d1 => ?_
  unfold tupleF at q1
  split at q1
  · obtain ⟨a, xs, rfl, s, r⟩ := d1.tuple_of
    refine ⟨a, xs, rfl, SqT.mono hp_same s, fun p hp1 => ?_⟩
    have sm := Same.new (o := .tup xs.reverse) hp1
    exact k _ _ _ _ q1 (f1.trans (FrA.of sm)) (E1.grow sm) (.tup (SqT.of (hp_mk (E1.fresh hp1) upd_same)) ((r.mono (hp_grow sm)).rev))
  · exact q1.elim
def numD : PyData → Option Int
  | .int i => some i
  | .bool b => some (if b then 1 else 0)
  | _ => none
def oNumD (f : Int → Int → Int) : G2 := fun a b P => match numD a, numD b with
  | some i, some j => P (.int (f i j))
  | _, _ => False
theorem numD_of {H : Hp} {x : V} {a : PyData} (d : Dq K H x a) {i : Int} (h : numD a = some i) : numV x = some i := by
  cases d <;> first | cases h; rfl | cases h
theorem rr_num {f : Int → Int → Int} : RR K (rNum f) (oNumD f) := by
  intro A H Q x y a b P oc da db g k
  unfold oNumD at g
  split at g
  · next i j h1 h2 => exact ⟨i, j, numD_of da h1, numD_of db h2, k _ _ _ g (Same.refl _) (.int _)⟩
  · exact g.elim
abbrev oAddN : G2 := oNumD (· + ·)
abbrev oSubN : G2 := oNumD (· - ·)
def bReprV (ds : List PyData) (P : PyData → Prop) : Prop := one ds fun d => d.hasDict = false ∧ d.showable = true ∧ d.depth ≤ 60 ∧ d.shown.length ≤ sizeLine ∧ P (.str d.shown)
theorem rb_reprV : RB K (fun xs H Q => ∃ (v : V) (d : PyData), xs = [v] ∧ Dp K H v d ∧ d.showable = true ∧ d.depth ≤ 60 ∧ d.shown.length ≤ sizeLine ∧ Q (.str d.shown) H) bReprV := by
  intro A H Q xs ds P oc r g k
  obtain ⟨v, d, rfl, q, g⟩ := one_of r g
  exact ⟨v, d, rfl, Dp.mono hp_same (q.dp g.1), g.2.1, g.2.2.1, g.2.2.2.1, k _ _ _ g.2.2.2.2 (Same.refl _) (.str _)⟩
def strD : PyData → Option Str
  | .none => some "None"
  | .bool b => some (if b then "True" else "False")
  | .int i => if i.natAbs.log2 < 1920 then some (toString i) else none
  | .str z => some z
  | _ => none
def bStrV (ds : List PyData) (P : PyData → Prop) : Prop := one ds fun d => ∃ z, strD d = some z ∧ P (.str z)
theorem rb_strV : RB K (fun xs H Q => ∃ v z, xs = [v] ∧ strV v = some z ∧ Q (.str z) H) bStrV := by
  intro A H Q xs ds P oc r g k
  obtain ⟨v, d, rfl, q, z, hz, g⟩ := one_of r g
  refine ⟨v, z, rfl, ?_, k _ _ _ g (Same.refl _) (.str _)⟩
  cases q <;> first | exact hz | cases hz
end
end DL
/-! sorted(places, key=lambda place: parts[place][1], reverse=True) -/
namespace DL
open PySem L2 Z PySem.Spec PyProof.Rows
section
variable {X : Cx} {pins : List (Addr × Obj)} {σ : L2.St} {H : Hp} {s : Shared}
/-- a lambda is made: but for the table, all stays -/
theorem lam_mk {T : List (Addr × Str)} {c P : Addr} {params : Arguments} {body : Expr} {scope : Scope} {pos : Pos} {E Q : Value → Shared → Prop} (I : Inv X pins σ H s) (TB : LamX.TabB X.base X.mg c P) (hcode : X.env.code = .ref c)
    (hm : (P, X.env.qual ++ "<lambda>") ∈ T) (hu : ∀ p ∈ T, p.1 = P → p.2 = X.env.qual ++ "<lambda>") (hT : LamX.Tabs T H) (hdef : defaultsOf params X.env = ([], [])) (hfree : ∀ y ∈ scope.names, y.2 = .free → ∃ c, X.env.cells.lookup y.1 = some c)
    (h : ∀ (f c' : Addr) (pm ctv : Value) (H1 : Hp) (s' : Shared), Inv X pins σ H1 s' → (∀ b o, b ≠ P → H b = some o → H1 b = some o) → LamX.Tabs T H1 →
      s'.heap.get? f = some (PySem.W.kla_obj "<lambda>" (X.env.qual ++ "<lambda>") params body scope (cloFrom X.env.cells scope.names []) pm c' ctv) → H1 c' = some (LamX.CodeO c' (X.env.qual ++ "<lambda>")) → Q (.ref f) s') :
    wpAny (model X.prog X.w) X.A (eval (.Lambda params body scope pos) X.env) Q E s := by
  obtain ⟨ps, hP, ht, ha⟩ := hT _ hm
  refine PySem.W.kla_eval hdef ?_
  have bP : s.heap.BuiltinsAt X.mg P := TB.bm.keeps I.bk
  have hP' : s.heap.get? P = some { cls := .none, data := .fields ps } := I.hok P _ hP
  cases hc : codeAmong pos ps.toList with
  | some cv =>
    obtain ⟨c', e, hco⟩ := ha pos cv hc
    subst e
    refine PySem.W.kla_makeFunctionHit (mg := X.mg) (c := c) (P := P) (ps := ps) (closure_ok hfree) I.ok.glob (I.mod.glob.keeps I.bk) hcode (TB.code.keeps I.bk) hP' ht hc bP fun ctv h' tk hx hsz => ?_
    exact h h'.objs.size c' ((X.mg "__name__").getD .none) ctv H _ (I.kept fun b o e => Heap.get?_push_of_some _ (hx b o e)) (fun _ _ _ e => e) hT (Heap.get?_push_size _ rfl) hco
  | none =>
    refine PySem.W.kla_makeFunction (mg := X.mg) (c := c) (P := P) (ps := ps) (closure_ok hfree) I.ok.glob (I.mod.glob.keeps I.bk) hcode (TB.code.keeps I.bk) hP' ht hc TB.gP bP fun c' ctv h' tk hx hge hlt hrec htb => ?_
    obtain ⟨c2, oc, vs, t, e2, hoc, hd, hv⟩ := hrec
    cases e2
    have nC : H c' = none := I.hok.fresh hge
    have J := LamX.inv_table (t' := tk) (more := #[rawInt pos.line, rawInt pos.col, .ref c']) (h' := h'.push (PySem.W.kla_obj "<lambda>" (X.env.qual ++ "<lambda>") params body scope (cloFrom X.env.cells scope.names []) ((X.mg "__name__").getD .none) c' ctv)) I hP
      (fun b o hb e => Heap.get?_push_of_some _ (hx b o hb e)) (Heap.get?_push_of_some _ htb) hge ⟨oc, vs, t, Heap.get?_push_of_some _ hoc, hd, hv⟩
    have keep : ∀ b o, b ≠ P → H b = some o → upd (upd H P (.tbl (ps ++ #[rawInt pos.line, rawInt pos.col, .ref c']))) c' (LamX.CodeO c' (X.env.qual ++ "<lambda>")) b = some o := fun b o hb e => by
      rw [upd_ne (ne_of_none e nC), upd_ne hb]
      exact e
    have eL : (ps ++ #[rawInt pos.line, rawInt pos.col, .ref c']).toList = ps.toList ++ [rawInt pos.line, rawInt pos.col, .ref c'] := by simp
    refine h h'.objs.size c' ((X.mg "__name__").getD .none) ctv _ _ J keep (fun p hp => ?_) (Heap.get?_push_size _ rfl) upd_same
    have known : ∀ {c0 : Addr} {q : Str}, H c0 = some (LamX.CodeO c0 q) → c0 ≠ P := fun {c0 q} e z => by
      rw [z, hP] at e
      exact LamX.codeO_ne _ (Option.some.inj e).symm
    by_cases hb : p.1 = P
    · rw [hu p hp hb, hb]
      refine ⟨_, by rw [upd_ne (ne_of_none hP nC), upd_same], by rw [eL]; exact PySem.TriplesOk_snoc _ _ _ _ ht, fun p' cv hcv => ?_⟩
      rw [eL] at hcv
      rcases LamX.among_app _ ht hcv with z | z
      · obtain ⟨c0, e1, e2⟩ := ha p' cv z
        exact ⟨c0, e1, keep _ _ (known e2) e2⟩
      · exact ⟨c', z, upd_same⟩
    · obtain ⟨ps', a1, a2, a3⟩ := hT p hp
      refine ⟨ps', keep _ _ hb a1, a2, fun p' cv hcv => ?_⟩
      obtain ⟨c0, e1, e2⟩ := a3 p' cv hcv
      exact ⟨c0, e1, keep _ _ (known e2) e2⟩
/-- all that stands in a heap but at L -/
def newsOf (h : Heap) (L : Addr) : List (Addr × Obj) := (List.range h.objs.size).filterMap fun a => if a = L then none else (h.get? a).map fun o => (a, o)
theorem mem_newsOf {h : Heap} {L b : Addr} {o : Obj} (hb : b ≠ L) (e : h.get? b = some o) : (b, o) ∈ newsOf h L :=
  List.mem_filterMap.mpr ⟨b, List.mem_range.mpr (Heap.lt_size e), by rw [if_neg hb, e]; rfl⟩
theorem of_newsOf {h : Heap} {L : Addr} {p : Addr × Obj} (hp : p ∈ newsOf h L) : p.1 ≠ L ∧ h.get? p.1 = some p.2 := by
  obtain ⟨a, _, e⟩ := List.mem_filterMap.mp hp
  split at e
  · cases e
  · next n =>
    cases q : h.get? a with
    | none => rw [q] at e; cases e
    | some o => rw [q] at e; cases e; exact ⟨n, q⟩
theorem ns_one {h : Heap} {L : Addr} {m m' : Str → Option Value} (a : h.Ns L m) (b : h.Ns L m') : m' = m := by
  obtain ⟨o, es, ep, e1, e2, _, e3⟩ := a
  obtain ⟨o', es', ep', f1, f2, _, f3⟩ := b
  rw [e1] at f1
  cases f1
  rw [e2] at f2
  cases f2
  funext n
  exact (f3 n).symm.trans (e3 n)
/-- the heap read anew, but for the frame's names, with one more object -/
theorem inv_again {h' : Heap} {tk : Nat} {m : Str → Option Value} {H' : Hp} (I : Inv X pins σ H s) (hm : s.heap.Ns X.env.locals m) (hn : h'.Ns X.env.locals m) (kp : ∀ b o, b ≠ X.env.locals → s.heap.get? b = some o → h'.get? b = some o)
    (old : ∀ b o, s.heap.get? b = some o → H' b = H b) (ok : ∀ b u, H' b = some u → s.heap.get? b = none → ObjOk X.prog X.w H' h' b u) : Inv X pins σ H' { s with heap := h', toks := tk } := by
  have sm : ∀ b u, H b = some u → H' b = some u := fun b u e => by
    cases q : s.heap.get? b with
    | none => rw [I.hok.gone q] at e; cases e
    | some o => rw [old b o q]; exact e
  have nL : ∀ b u, H b = some u → b ≠ X.env.locals := fun b u e z => by
    rw [z, I.free] at e
    cases e
  refine I.step (g' := s.gens) (d' := s.drawn) (ch := []) (fun b hb => absurd hb (by simp)) (fun b o hb _ _ e _ => kp b o hb e) (fun b o hb _ _ e _ => ⟨o.slots, kp b o hb e⟩) (fun b o _ e n => by rw [old b o e]; exact n) (fun b o _ e => ?_) (fun b xs e => sm b _ e) (fun b o u e => sm b _ e)
    (fun b ps e => ⟨#[], by rw [sm b _ e]; simp⟩) (fun m' hn' => by rw [ns_one hm hn']; exact hn) (fun b u e => ?_) I.bare
  · by_cases hb : b = X.env.locals
    · obtain ⟨o', _, _, e', _⟩ := hn
      rw [hb]
      exact ⟨o', e'⟩
    · exact ⟨o, kp b o hb e⟩
  · cases q : s.heap.get? b with
    | none => exact ok b u e q
    | some o =>
      rw [old b o q] at e
      refine (I.hok b u e).stay (fun d v hd z => kp d v ?_ z) (fun d z => sm d _ z) fun d xs z => sm d _ z
      rcases hd with z' | z'
      · rw [z']; exact nL b u e
      · exact nL d _ z'
/-- what a lambda by one name asks -/
structure Lam1 (sc scope : Scope) (px x : Str) : Prop where
  kind : scope.kind = .function
  co : scope.isCoroutine = false
  gen : scope.isGenerator = false
  nocell : ∀ y ∈ scope.names, y.2 ≠ .cell
  here : scope.names.lookup x = some .local
  caught : scope.names.lookup px = some .free
  cell : sc.names.lookup px = some .cell
  free : ∀ y ∈ scope.names, y.2 = .free → sc.names.lookup y.1 = some .cell ∨ sc.names.lookup y.1 = some .free
def lam1B (sc scope : Scope) (px x : Str) : Bool :=
  decide (scope.kind = .function) && !scope.isCoroutine && !scope.isGenerator && decide (scope.names.lookup x = some .local) && decide (scope.names.lookup px = some .free) && decide (sc.names.lookup px = some .cell) &&
    scope.names.all fun y => !decide (y.2 = .cell) && (!decide (y.2 = .free) || decide (sc.names.lookup y.1 = some .cell) || decide (sc.names.lookup y.1 = some .free))
theorem lam1_by {sc scope : Scope} {px x : Str} (h : lam1B sc scope px x = true) : Lam1 sc scope px x := by
  unfold lam1B at h
  simp only [Bool.and_eq_true, Bool.or_eq_true, Bool.not_eq_true', decide_eq_true_eq, decide_eq_false_iff_not, List.all_eq_true] at h
  obtain ⟨⟨⟨⟨⟨⟨h1, h2⟩, h3⟩, h4⟩, h5⟩, h6⟩, h7⟩ := h
  refine ⟨h1, h2, h3, fun y hy => (h7 y hy).1, h4, h5, h6, fun y hy e => ?_⟩
  rcases (h7 y hy).2 with (z | z) | z
  · exact absurd e z
  · exact .inl z
  · exact .inr z
theorem Lam1.has {scope : Scope} {px x : Str} (L : Lam1 X.env.scope scope px x) (ok : X.Ok) : ∀ y ∈ scope.names, y.2 = .free → ∃ c, X.env.cells.lookup y.1 = some c := fun y hy e => by
  rcases L.free y hy e with k | k
  · exact ok.has _ (.inl k)
  · exact ok.has _ (.inr k)
/-- one asking of the key: all stays -/
theorem key_run {A : Around} {R : Result → Shared → Prop} {f c' pa : Addr} {pm ctv : Value} {params : Arguments} {scope : Scope} {px x : Str} {p1 p2 p3 p4 p5 : Pos} {j jp : Nat} {n k : Int} {t : Tok} {vps xs : List V} {q : Addr} (I : Inv X pins σ H s) (L : Lam1 X.env.scope scope px x) (hroom : A.depth < recursionLimit)
    (hbind : ∀ (q : Str) (cl : List (Str × Addr)) (pm cv ctv u : Value), bindArgs (PySem.W.kla_fn "<lambda>" q params (.Subscript (.Subscript (.Name px p1) (.Name x p2) p3) (.Constant (.int 1) j p4) p5) scope cl pm cv ctv) ⟨[u], []⟩ = pure [(x, u)])
    (hf : s.heap.get? f = some (PySem.W.kla_obj "<lambda>" (X.env.qual ++ "<lambda>") params (.Subscript (.Subscript (.Name px p1) (.Name x p2) p3) (.Constant (.int 1) j p4) p5) scope (cloFrom X.env.cells scope.names []) pm c' ctv)) (hc : H c' = some (LamX.CodeO c' (X.env.qual ++ "<lambda>")))
    (hN : X.N[jp]? = some px) (hσ : σ[jp]? = some (some (.ref pa))) (hp : SqL X.K H pa vps) (h0 : 0 ≤ n) (hv : vps[n.toNat]? = some (.ref q)) (hq : SqT X.K H q xs) (hx : xs[1]? = some (.int k))
    (h : ∀ h' tk t', (∀ b o, s.heap.get? b = some o → h'.get? b = some o) → R (.ok (.ret (.int k t'))) { s with heap := h', toks := tk })
    (hd : (px == ("__debug__" : Str)) = false := by decide) (hcd : (px == ("__classdict__" : Str)) = false := by decide) (hd2 : (x == ("__debug__" : Str)) = false := by decide) :
    codeAny (model X.prog X.w) A (.call (.ref f) ⟨[.int n t], []⟩) R s := by
  obtain ⟨⟨oc, vs, tt, hoc, hdc, hvc⟩, _, _⟩ := I.hok c' _ hc
  obtain ⟨m, hn, hl⟩ := I.loc
  obtain ⟨u, r, lk⟩ := hl jp px _ hN hσ (.inr (.inl L.cell))
  cases r
  rcases lk with ⟨hk, _⟩ | ⟨_, cc, hcc, hcell⟩
  · have hk : X.env.scope.names.lookup px = some .local := hk
    rw [L.cell] at hk
    cases hk
  obtain ⟨its, ri, pl, hz⟩ := I.list hp
  obtain ⟨w1, ew1, rw1⟩ := ri.get hv
  cases rw1
  obtain ⟨jts, rj, pt, hz2⟩ := I.tuple hq
  obtain ⟨w2, ew2, rw2⟩ := rj.get hx
  obtain ⟨t2, rfl⟩ := rw2
  have hll := ri.length
  have hjl := rj.length
  have hn63 := line63
  have hlt : n.toNat < vps.length := (List.getElem?_eq_some_iff.mp hv).1
  have hlt2 : 1 < xs.length := (List.getElem?_eq_some_iff.mp hx).1
  refine PySem.W.kla_callFunE hroom hf rfl L.co L.gen rfl ⟨c', oc, vs, tt, rfl, hoc, hdc, hvc⟩ ?_
  rw [hbind]
  refine wpAny_pure (wpAny_newFunctionEnv L.nocell (fun y hy => by rw [List.mem_singleton.mp hy]; exact L.here) (fun h₁ hns hsb => ⟨I.nolimit.fresh _ hsb, ?_⟩) L.kind)
  show codeAny _ _ (.expr _ (LamX.lamEnv X scope s.heap.objs.size f c')) _ _
  have kp : ∀ b o, s.heap.get? b = some o → h₁.get? b = some o := fun b o e => hsb.extBut b o (Nat.ne_of_lt (Heap.lt_size e)) (Heap.get?_push_of_some _ e)
  have hcl : (cloFrom X.env.cells scope.names []).lookup px = some cc := by
    obtain ⟨c1, h1⟩ := mem_lookup (cloFrom_has (cells := X.env.cells) (acc := []) (PySem.mem_of_lookup L.caught))
    rcases cloFrom_mem (PySem.mem_of_lookup h1) with z | ⟨_, z⟩
    · cases z
    · rw [h1, z, hcc]
      rfl
  have cellK : h₁.IsCell cc (some (.ref pa)) := by
    obtain ⟨o, ho, hd⟩ := hcell
    exact ⟨o, kp _ _ ho, hd⟩
  have pl1 : h₁.IsList pa its.toArray := by
    obtain ⟨o, e, r⟩ := pl.isList
    exact ⟨o, kp _ _ e, r⟩
  have pt1 : IsTup h₁ q jts.toArray := by
    obtain ⟨o, e, r⟩ := pt
    exact ⟨o, kp _ _ e, r⟩
  refine PySem.W.kla_codeExpr (Subscript_ (Subscript_ (wpAny_Name (wpAny_loadName_free L.kind L.caught hcl cellK ?_ hcd) hd)))
  refine wpAny_Name (wpAny_loadName_local L.kind L.here hns (v := .int n t) (by show ([(x, Value.int n t)].reverse.lookup x) = _; simp) ?_) hd2
  refine item_listR pl1 h0 (by omega) (x := .ref q) (by simpa using ew1) ?_ rfl
  refine wpAny_Constant_int ?_
  exact subscriptTail_builtinR (x := .int k t2) pt1.typeIs slot_tuple_getitem.lookup (getItem_tuple (j := 1) (Q := fun r s' => r = .int k t2 ∧ R (.ok (.ret r)) s') pt1 (by decide) (by decide) (by rw [List.size_toArray, ← hjl]; unfold seqIndex?; simp; omega) (by simpa using ew2) ⟨rfl, h _ _ _ kp⟩) rfl
/-- sorted(l, key=.., reverse=True) -/
theorem sorted_lam {f c' l pa : Addr} {pm ctv : Value} {params : Arguments} {scope : Scope} {px x : Str} {p1 p2 p3 p4 p5 : Pos} {j jp : Nat} {ns : List Int} {g : Int → Int} {vps : List V} {Q : VK} (I : Inv X pins σ H s) (L : Lam1 X.env.scope scope px x) (hr : Room 3 X.A)
    (hbind : ∀ (q : Str) (cl : List (Str × Addr)) (pm cv ctv u : Value), bindArgs (PySem.W.kla_fn "<lambda>" q params (.Subscript (.Subscript (.Name px p1) (.Name x p2) p3) (.Constant (.int 1) j p4) p5) scope cl pm cv ctv) ⟨[u], []⟩ = pure [(x, u)])
    (hf : s.heap.get? f = some (PySem.W.kla_obj "<lambda>" (X.env.qual ++ "<lambda>") params (.Subscript (.Subscript (.Name px p1) (.Name x p2) p3) (.Constant (.int 1) j p4) p5) scope (cloFrom X.env.cells scope.names []) pm c' ctv)) (hc : H c' = some (LamX.CodeO c' (X.env.qual ++ "<lambda>")))
    (hs : SqL X.K H l (ns.map V.int)) (hN : X.N[jp]? = some px) (hσ : σ[jp]? = some (some (.ref pa))) (hp : SqL X.K H pa vps) (hx : ∀ n ∈ ns, 0 ≤ n ∧ ∃ q xs, vps[n.toNat]? = some (.ref q) ∧ SqT X.K H q xs ∧ xs[1]? = some (.int (g n)))
    (q : ∀ (ns' : List Int) (p : Addr), ns'.Perm ns → ns'.Pairwise (fun x y => g y ≤ g x) → (∀ z, ns'.filter (fun x => g x == z) = ns.filter (fun x => g x == z)) → H p = none → Q (.ref p) (upd H p (.lst (ns'.map V.int))))
    (hd : (px == ("__debug__" : Str)) = false := by decide) (hcd : (px == ("__classdict__" : Str)) = false := by decide) (hd2 : (x == ("__debug__" : Str)) = false := by decide) :
    wpAny (model X.prog X.w) X.A (call (.builtin "sorted") [.ref l] [(Str.ofString "key", .ref f), (Str.ofString "reverse", .bool true)]) (EP X pins σ Q) X.xe s := by
  obtain ⟨its, rv, pl, hz⟩ := I.list hs
  have hi := rv.ints
  obtain ⟨m, hm, _⟩ := I.loc
  have hz' : ns.length ≤ sizeLine := by rw [List.length_map] at hz; exact hz
  have gone : ∀ b, (⟨#[], {}⟩ : Heap).get? b = none := fun b => Heap.get?_none_of_le (Nat.zero_le b)
  have kept : ∀ {h : Heap} {own : List (Addr × Obj)}, News ⟨#[], {}⟩ X.env.locals h (newsOf s.heap X.env.locals ++ own) → ∀ b o, b ≠ X.env.locals → s.heap.get? b = some o → h.get? b = some o := fun N b o hb e => (N (b, o) (List.mem_append_left _ (mem_newsOf hb e))).1
  refine ksk_letterSt (h₀ := ⟨#[], {}⟩) (L := X.env.locals) (m := m) (news := newsOf s.heap X.env.locals) (b := true) (ns := ns) (f := .ref f) (kw := [(Str.ofString "key", .ref f), (Str.ofString "reverse", .bool true)]) g
    ⟨hm, fun b o e => (by rw [gone] at e; cases e), Nat.zero_le _⟩ (fun p hp => ⟨(of_newsOf hp).2, (of_newsOf hp).1, gone _⟩) pl.isList hi hz' (ksk_s2 _ _ _) (fun _ => ksk_l2 _ _ _) (fun x => ksk_t2 f x true) (fun n t h tk own hn F N => ?_) fun D vs' ns' c h' tk F N lt hI hlen hP hO _ hS => ?_
  · have J : Inv X pins σ H { s with heap := h, toks := tk } := inv_again I hm F.ns (kept N) (fun _ _ _ => rfl) fun b u e z => by
      rw [I.hok.gone z] at e
      cases e
    have nfl : f ≠ X.env.locals := fun z => by
      obtain ⟨o, es, ep, e1, e2, _⟩ := hm
      rw [z, e1] at hf
      cases hf
      cases e2
    obtain ⟨h0, qa, xs, e1, e2, e3⟩ := hx n hn
    refine wpAny_call (codeAny_mono (key_run (R := fun r s' => ∃ v, r = .ok (.ret v) ∧ KskEnd ⟨#[], {}⟩ X.env.locals m (newsOf s.heap X.env.locals ++ own) (g n) { s with heap := h, toks := tk } v s') J L (hr.in1.in1).depth hbind (kept N f _ nfl hf) hc hN hσ hp h0 e1 e2 e3 (fun h2 tk2 t2 kp => ?_) hd hcd hd2) fun r s' hq => ?_)
    · refine ⟨_, rfl, h2, tk2, t2, rfl, rfl, ⟨?_, fun b o e => (by rw [gone] at e; cases e), Nat.zero_le _⟩, fun p hp => ⟨kp _ _ (N p hp).1, (N p hp).2⟩⟩
      obtain ⟨o, es, ep, e1, r⟩ := F.ns
      exact ⟨o, es, ep, kp _ _ e1, r⟩
    · obtain ⟨v, rfl, k⟩ := hq
      exact k
  · have nD : D ≠ X.env.locals := (N _ (.head _)).2.1
    have oldD : s.heap.get? D = none := by
      cases e : s.heap.get? D with
      | none => rfl
      | some o => exact absurd (lt (D, o) (mem_newsOf nD e)) (Nat.lt_irrefl _)
    have hD : H D = none := I.hok.gone oldD
    refine ⟨.ref D, upd H D (.lst (ns'.map V.int)), inv_again I hm F.ns (fun b o hb e => (N (b, o) (List.mem_cons_of_mem _ (mem_newsOf hb e))).1) (fun b o e => ?_) (fun b u e z => ?_), rfl, q ns' D hP hO hS hD⟩
    · rw [upd_ne]
      rintro rfl
      rw [oldD] at e
      cases e
    · by_cases hb : b = D
      · rw [hb, upd_same] at e
        cases e
        rw [hb]
        exact ⟨by rw [List.length_map, hlen]; exact hz', vs', c, vals_of_ints hI, (N _ (.head _)).1⟩
      · rw [upd_ne hb, I.hok.gone z] at e
        cases e
def SortQ (T : List (Addr × Str)) (K : PySem.W.Frag) (jp : Nat) (σ : L2.St) (Q : VK) : List V → Hp → Prop
  | [v], H1 => ∃ (l pa : Addr) (ns : List Int) (vps : List V) (g : Int → Int), v = .ref l ∧ SqL K H1 l (ns.map V.int) ∧ σ[jp]? = some (some (.ref pa)) ∧ SqL K H1 pa vps ∧
    (∀ n ∈ ns, 0 ≤ n ∧ ∃ q xs, vps[n.toNat]? = some (.ref q) ∧ SqT K H1 q xs ∧ xs[1]? = some (.int (g n))) ∧ LamX.Tabs T H1 ∧
    ∀ H2, (∀ b o, (∀ p ∈ T, p.1 ≠ b) → H1 b = some o → H2 b = some o) → LamX.Tabs T H2 → ∀ (ns' : List Int) (p : Addr), ns'.Perm ns → ns'.Pairwise (fun x y => g y ≤ g x) → (∀ z, ns'.filter (fun x => g x == z) = ns.filter (fun x => g x == z)) → H2 p = none →
      Q (.ref p) (upd H2 p (.lst (ns'.map V.int)))
  | _, _ => False
def tSortLam (T : List (Addr × Str)) (K : PySem.W.Frag) (jp : Nat) (ta : TE) : TE := fun σ H Q => ta σ H fun v H1 => SortQ T K jp σ Q [v] H1
theorem sqL_out {K : PySem.W.Frag} {H H' : Hp} {T : List (Addr × Str)} {a : Addr} {xs : List V} (t : LamX.Tabs T H) (e : ∀ b o, (∀ p ∈ T, p.1 ≠ b) → H b = some o → H' b = some o) (h : SqL K H a xs) : SqL K H' a xs := by
  have no : ∀ o, H a = some o → (∀ ps, o ≠ .tbl ps) → ∀ p ∈ T, p.1 ≠ a := fun o h n p hp z => by
    obtain ⟨ps, h1, _⟩ := t p hp
    rw [z, h] at h1
    exact n ps (Option.some.inj h1)
  rcases h with (h | ⟨o, h⟩) | h
  · exact .inl (.inl (e _ _ (no _ h fun _ z => by cases z) h))
  · exact .inl (.inr ⟨o, e _ _ (no _ h fun _ z => by cases z) h⟩)
  · exact .inr h
theorem sqT_out {K : PySem.W.Frag} {H H' : Hp} {T : List (Addr × Str)} {a : Addr} {xs : List V} (t : LamX.Tabs T H) (e : ∀ b o, (∀ p ∈ T, p.1 ≠ b) → H b = some o → H' b = some o) (h : SqT K H a xs) : SqT K H' a xs := by
  have no : ∀ o, H a = some o → (∀ ps, o ≠ .tbl ps) → ∀ p ∈ T, p.1 ≠ a := fun o h n p hp z => by
    obtain ⟨ps, h1, _⟩ := t p hp
    rw [z, h] at h1
    exact n ps (Option.some.inj h1)
  rcases h with h | h
  · first
      | exact .inl (e _ _ (no _ h fun _ z => by cases z) h)
      | (rcases h with h | ⟨o, h⟩
         · exact .inl (.inl (e _ _ (no _ h fun _ z => by cases z) h))
         · exact .inl (.inr ⟨o, e _ _ (no _ h fun _ z => by cases z) h⟩))
  · exact .inr h
theorem pe_sortLam {T : List (Addr × Str)} {c P : Addr} {params : Arguments} {scope : Scope} {px x : Str} {p p1 p2 p3 p4 p5 lpos kp1 kp2 pos cp : Pos} {j j2 jp : Nat} {a : Expr} {ta : TE} (hg : Gl X "sorted") (hmg : X.mg "sorted" = none) (TB : LamX.TabB X.base X.mg c P) (hcode : X.env.code = .ref c)
    (hm : (P, X.env.qual ++ "<lambda>") ∈ T) (hu : ∀ p ∈ T, p.1 = P → p.2 = X.env.qual ++ "<lambda>") (L : Lam1 X.env.scope scope px x) (hr : Room 3 X.A) (hdef : defaultsOf params X.env = ([], []))
    (hbind : ∀ (q : Str) (cl : List (Str × Addr)) (pm cv ctv u : Value), bindArgs (PySem.W.kla_fn "<lambda>" q params (.Subscript (.Subscript (.Name px p1) (.Name x p2) p3) (.Constant (.int 1) j p4) p5) scope cl pm cv ctv) ⟨[u], []⟩ = pure [(x, u)])
    (hN : X.N[jp]? = some px) (ha : PE X a ta) (hd : (px == ("__debug__" : Str)) = false := by decide) (hcd : (px == ("__classdict__" : Str)) = false := by decide) (hd2 : (x == ("__debug__" : Str)) = false := by decide)
    (he : backTo pos (starEach [a] X.env) = (false, eval a X.env) :: backTo pos (starEach [] X.env) := by rfl) (hst : starEach [a] X.env = (false, eval a X.env) :: starEach [] X.env := by rfl) (hpl : (backTo pos (starEach [a] X.env)).any (·.1) = false := by rfl) :
    PE X (.Call (.Name "sorted" p) [a] [⟨some "key", .Lambda params (.Subscript (.Subscript (.Name px p1) (.Name x p2) p3) (.Constant (.int 1) j p4) p5) scope lpos, kp1⟩, ⟨some "reverse", .Constant (.bool true) j2 cp, kp2⟩] pos) (tSortLam T X.K jp ta) := by
  refine ⟨fun pins s σ H Q I h => ?_⟩
  refine wpAny_Call_Name_kw (ld_blt I hg hmg (u := .builtin "sorted") rfl ?_)
  refine PyProof.Rows.callWith_kw (thn ((pa_cons ha pa_nil hst).run pos pins s σ H (SortQ T X.K jp σ Q) I h) fun us s1 ⟨vs, H1, I1, r1, q1⟩ => ?_) he hpl rfl rfl
  match vs, r1, q1 with
  | [v], r1, q1 =>
    obtain ⟨l, pa, ns, vps, g, rfl, hl, hs, hp, hx, hT, k⟩ := q1
    obtain rfl := Vals.ref1 r1
    show wpAny _ _ (evalAll [(do let v ← eval (.Lambda params (.Subscript (.Subscript (.Name px p1) (.Name x p2) p3) (.Constant (.int 1) j p4) p5) scope lpos) X.env; standAt pos; pure v), (do let v ← eval (.Constant (.bool true) j2 cp) X.env; standAt pos; pure v)]) _ _ s1
    refine wpAny_evalAll_cons (wpAny_bind (lam_mk I1 TB hcode hm hu hT hdef (L.has I1.ok) fun f c' pm ctv H2 s2 I2 keep T2 hf hc => wpAny_bind (wpAny_standAt (wpAny_pure ?_))))
    refine wpAny_evalAll_cons (wpAny_bind (Constant_bool (wpAny_bind (wpAny_standAt (wpAny_pure (wpAny_evalAll_nil ?_))))))
    have keep' : ∀ b o, (∀ p ∈ T, p.1 ≠ b) → H1 b = some o → H2 b = some o := fun b o n e => keep b o (fun z => n _ hm z.symm) e
    exact sorted_lam I2 L hr hbind hf hc (sqL_out hT keep' hl) hN hs (sqL_out hT keep' hp) (fun n hn => by
      obtain ⟨h0, q, xs, e1, e2, e3⟩ := hx n hn
      exact ⟨h0, q, xs, e1, sqT_out hT keep' e2, e3⟩) (fun ns' p h1 h2 h3 h4 => k H2 keep' T2 ns' p h1 h2 h3 h4) hd hcd hd2
end
end DL
namespace DL
open PySem L2 Z PySem.Spec PyProof.Rows
variable [Tbs]
section
variable {K : PySem.W.Frag} {n : Nat} {J : Jv n}
/-- tables alone have changed -/
theorem EnR.tabs {O : Addr → Prop} {as : Nat → Option Addr} {H H' : Hp} {ρ : En} {σ : L2.St} (E : EnR K J O as H ρ σ) (k : ∀ b o, (∀ p ∈ Tbs.T, p.1 ≠ b) → H b = some o → H' b = some o) (t : TabsOk H') : EnR K J O as H' ρ σ ∧ FrA (Own as) H H' := by
  have f : FrA (Own as) H H' := fun b o nb e => k b o (fun p hp z => nb (.inr ⟨p, hp, z⟩)) e
  refine ⟨⟨E.len, fun i sl o h1 h2 => (E.at_ i sl o h1 h2).mono (hp_fr f own_hid) fun b hb => ?_, E.inj, E.out, E.bnd, fun a h => E.occ' f t h, J.fr E.inv f, E.inq, t⟩, f⟩
  obtain ⟨_, _, _, _, e, _⟩ := E.is_own hb
  rw [e]
  exact k _ _ (fun p hp z => E.tab.no e ⟨p, hp, z⟩) e
/-- sorted(places, key=lambda place: parts[place][1], reverse=True) -/
def fSortLam (jp : Nat) (a : FE) : FA := fun ρ P => a ρ fun d ρ1 => ∃ (ns : List Int) (ds : List PyData) (g : Int → Int), d = .list (ns.map .int) ∧ ρ1[jp]? = some (.fz (.list ds)) ∧ (∀ n ∈ ns, 0 ≤ n ∧ ∃ es, ds[n.toNat]? = some (.tuple es) ∧ es[1]? = some (.int (g n))) ∧
  ∀ ns' : List Int, ns'.Perm ns → ns'.Pairwise (fun x y => g y ≤ g x) → (∀ z, ns'.filter (fun x => g x == z) = ns.filter (fun x => g x == z)) → P (ns'.map .int) ρ1
theorem rn_sortLam {jp : Nat} {ta : TE} {a : FE} (ha : RE K J ta a) : RN K J (tSortLam Tbs.T K jp ta) (fSortLam jp a) := by
  intro O as σ H Q ρ P E q k
  refine ha O as σ H _ ρ _ E q fun d ρ1 v H1 q1 f1 E1 d1 => ?_
  obtain ⟨ns, ds, g, rfl, hρ, hx, q1⟩ := q1
  obtain ⟨l, xs, rfl, sl, dl⟩ := d1.list_of
  obtain rfl := dl.ints_of
  obtain ⟨v, e1, e2, dv⟩ := E1.fz_at hρ
  obtain ⟨pa, vps, rfl, sp, dp⟩ := dv.list_of
  refine ⟨l, pa, ns, vps, g, rfl, SqL.mono hp_same sl, e1, SqL.mono hp_same sp, fun n hn => ?_, E1.tab, fun H2 keep T2 ns' p h1 h2 h3 h4 => ?_⟩
  · obtain ⟨h0, es, e3, e4⟩ := hx n hn
    obtain ⟨y, e5, dy⟩ := dp.got e3
    obtain ⟨q, ys, rfl, st, dt⟩ := dy.tuple_of
    obtain ⟨z, e6, dz⟩ := dt.got e4
    cases dz
    exact ⟨h0, q, ys, e5, SqT.mono hp_same st, e6⟩
  · obtain ⟨E2, f2⟩ := E1.tabs keep T2
    exact new_step (f1.trans f2) E2 (q1 ns' h1 h2 h3) h4 (DqAll.ints ns') k
end
end DL
namespace DL
open PySem L2 Z PySem.Spec PyProof.Rows
variable [Tbs]
section
variable {P : Program} {w : World} {K : PySem.W.Frag} {mg : Str → Option Value} {base : Heap} {k : Nat} {f : Addr} {fd : FuncData} {ps : List Str} {x qual : Str} {st : Stmt} {N : List Str}
/-- a def that raises, its code known -/
theorem okX0c {b : (PyData → En → Prop) → FS} (F : Fun K x qual st f fd) (S : FnScope N ps (defScope st))
    (body : ∀ (cdv : Value), fd.code = cdv → ∀ (A : Around) (outer : List Env) (s : Shared) (H : Hp) (E : XK), Room k (A.deeper (envOfC qual (defScope st) s.heap.objs.size f cdv)) →
      ∃ t : WX → TS, (∀ W, Takes (cxOf (L2.CX P w) P w K mg base N qual (defScope st) f cdv A outer s H E) W → PSs (cxOf (L2.CX P w) P w K mg base N qual (defScope st) f cdv A outer s H E) (defBody st) (t W)) ∧ ∀ (J : Jv ps.length) (X : PyData → En → Prop) (W : WX), Lk K J X W → RS K J (t W) (b X)) :
    FnOk P w K mg base (L2.CX P w) (k + 1) f fd ps (spX K ps.length (fnX ps.length N.length b)) := by
  obtain ⟨oc, od, kV, doc, pm, an, cdv, ct, osl, rfl, lk, hcd⟩ := F.ex
  refine fn_of lk hcd S (fun vs H Q E h => h.1) fun A outer s H vs Q E hr h => ?_
  obtain ⟨t, pt, rs⟩ := body cdv rfl A outer s H E hr
  exact ⟨_, pt _ (takes_of (E := E) rfl rfl rfl rfl), fn_coreX rs h⟩
theorem okF0c {b : FS} (F : Fun K x qual st f fd) (S : FnScope N ps (defScope st))
    (body : ∀ (cdv : Value), fd.code = cdv → ∀ (A : Around) (outer : List Env) (s : Shared) (H : Hp) (E : XK), Room k (A.deeper (envOfC qual (defScope st) s.heap.objs.size f cdv)) →
      ∃ t, PSs (cxOf CX0 P w K mg base N qual (defScope st) f cdv A outer s H E).nox (defBody st) t ∧ ∀ J : Jv ps.length, RS K J t b) :
    FnOk P w K mg base CX0 (k + 1) f fd ps (spF K ps.length (fnF ps.length N.length b)) := by
  obtain ⟨oc, od, kV, doc, pm, an, cdv, ct, osl, rfl, lk, hcd⟩ := F.ex
  refine fn_of lk hcd S (fun vs H Q E h => h.1) fun A outer s H vs Q E hr h => ?_
  obtain ⟨t, pt, rs⟩ := body cdv rfl A outer s H E hr
  exact ⟨_, pt.nox, fn_core rs h⟩
end
section
variable {K : PySem.W.Frag} {n : Nat} {J : Jv n}
/-- sum(own) -/
def fSumO (i : Nat) : FE := fun ρ P => ownF ρ i fun ds => intsF ds fun ns => P (.int ns.sum) ρ
theorem re_sumO {i : Nat} : RE K J (tCB (rSum K) (tCons (tVar i) tNil)) (fSumO i) := by
  intro O as σ H Q ρ P E q k
  obtain ⟨ds, h, q⟩ := ownF_of q
  obtain ⟨ns, e, g⟩ := intsF_of q
  subst e
  obtain ⟨p, xs, e1, e2, e3, e4⟩ := E.own_at h
  cases e4.ints_of
  exact ⟨_, e1, p, ns, rfl, SqL.of e3, k _ _ _ _ g (FrA.refl _ _) E (.int _)⟩
end
/-- xs[i] -/
theorem get_list {X : Cx} : PGet X (rIxL X.K) := by
  intro pins s σ H x y v u Q I rx ry h
  obtain ⟨p, xs, i, z, rfl, rfl, hq, he, q⟩ := h
  cases rx
  obtain ⟨t, rfl⟩ := ry
  obtain ⟨its, r, pl, hz⟩ := I.list hq
  obtain ⟨j, h1, h2, h3, h4, h5⟩ := atI_get he
  obtain ⟨w, ew, rw'⟩ := r.get h2
  have hl := r.length
  have hn := line63
  have fin : EP X pins σ Q w s := ⟨z, H, I, rw', q⟩
  by_cases h0 : 0 ≤ i
  · have hj : i.toNat = j := by
      rw [seqIndex_of h0 h5] at h1
      exact Option.some.inj h1
    exact wpAny_getItem_list pl.isList h0 (by omega) (by rw [hj]; simpa using ew) fin
  · have hj : (i + (its.toArray.size : Int)).toNat = j := by
      rw [seqIndex_neg (by omega) h4] at h1
      rw [List.size_toArray, ← hl]
      exact Option.some.inj h1
    exact wpAny_getItem_list_neg pl.isList (by omega) (by rw [List.size_toArray] <;> omega) (by omega) (by rw [hj]; simpa using ew) fin
end DL
/-! sorted of pairs; a new list handed on at once; defs that raise or hand back a new list -/
namespace DL
open PySem L2 Z PySem.Spec PyProof.Rows
variable [Tbs]
/-! pairs of numbers, sorted -/
def PrAt (K : PySem.W.Frag) (H : Hp) (x : V) (p : Int × Int) : Prop := ∃ t, x = V.ref t ∧ SqT K H t [.int p.1, .int p.2]
inductive PrsAt (K : PySem.W.Frag) (H : Hp) : List V → List (Int × Int) → Prop
  | nil : PrsAt K H [] []
  | cons {x : V} {p : Int × Int} {xs : List V} {ps : List (Int × Int)} : PrAt K H x p → PrsAt K H xs ps → PrsAt K H (x :: xs) (p :: ps)
def lexLe (p q : Int × Int) : Prop := p.1 < q.1 ∨ (p.1 = q.1 ∧ p.2 ≤ q.2)
def rSortedPD (K : PySem.W.Frag) : List V → Hp → VK → Prop := fun vs H Q => ∃ (a : Addr) (xs : List V) (ps : List (Int × Int)), vs = [V.ref a] ∧ SqL K H a xs ∧ PrsAt K H xs ps ∧
  ∀ (zs : List (V × Int × Int)) p, zs.Perm (xs.zip ps) → zs.Pairwise (fun x y => lexLe x.2 y.2) → H p = none → Q (.ref p) (upd H p (.lst (zs.map (·.1))))
theorem zip_map_self {α β : Type} (k : α → β) : ∀ xs : List α, xs.zip (xs.map k) = xs.map fun x => (x, k x)
  | [] => rfl
  | x :: xs => by show (x, k x) :: xs.zip (xs.map k) = _; rw [zip_map_self k xs]; rfl
theorem PrsAt.all {K : PySem.W.Frag} {H : Hp} {k : V → Int × Int} (u : ∀ x p, PrAt K H x p → k x = p) : ∀ {xs : List V} {ps : List (Int × Int)}, PrsAt K H xs ps → ps = xs.map k ∧ ∀ x ∈ xs, PrAt K H x (k x)
  | _, _, .nil => ⟨rfl, fun _ h => by cases h⟩
  | _, _, .cons a b => by
    obtain ⟨e, r⟩ := PrsAt.all u b
    refine ⟨by rw [List.map_cons, u _ _ a, ← e], fun y hy => ?_⟩
    rcases List.mem_cons.mp hy with rfl | hy
    · rw [u _ _ a]; exact a
    · exact r y hy
section
variable {X : Cx}
theorem cr_sortedPD : CallR X (.builtin "sorted") (rSortedPD X.K) := by
  intro pins s σ H vs us Q I r h
  obtain ⟨a, xs, ps, rfl, hs, hx, q⟩ := h
  obtain ⟨its, rv, hl, hz⟩ := I.list hs
  obtain ⟨u, rfl, ru⟩ := vals1 r
  obtain rfl : u = Value.ref a := ru
  let kr : Value → Int × Int := fun u => ((TS.intsOf s.heap u).getD 0 0, (TS.intsOf s.heap u).getD 1 0)
  let k : V → Int × Int := fun x => match x with
    | .ref t => kr (.ref t)
    | _ => (0, 0)
  have raw : ∀ {t : Addr} {p : Int × Int}, SqT X.K H t [.int p.1, .int p.2] → TS.TupInts s.heap (.ref t) [p.1, p.2] := fun {t p} h => by
    obtain ⟨its, rv, hT, _⟩ := I.tuple h
    have rv' : Vals (([p.1, p.2] : List Int).map V.int) its := rv
    exact ⟨t, its.toArray, rfl, hT, by simpa using rv'.ints⟩
  have uq : ∀ x p, PrAt X.K H x p → k x = p := fun x p ⟨t, e, h⟩ => by
    subst e
    show kr (.ref t) = p
    have := (raw h).ints
    simp only [kr, this]
    rfl
  obtain ⟨eps, hall⟩ := hx.all uq
  obtain ⟨e1, e2⟩ := refs_back rv fun x m => by
    obtain ⟨t, e, _⟩ := hall x m
    exact ⟨t, e⟩
  refine SrtO.sorted_pairsO (k := kr) hl.isList (by rw [← rv.length]; exact hz) (fun v hv => ?_) fun h' d out h1 h2 kp hd hn => ?_
  · obtain ⟨t, rfl⟩ := e2 v hv
    have hm : V.ref t ∈ xs := by rw [e1]; exact List.mem_map.mpr ⟨_, hv, rfl⟩
    obtain ⟨t', e, ht⟩ := hall _ hm
    cases e
    obtain ⟨its2, r2, ⟨o, ho, hc, n, hd⟩, _⟩ := I.tuple ht
    obtain ⟨u1, u2, rfl, ri, rj⟩ := vals2 r2
    obtain ⟨t1, rfl⟩ := ri
    obtain ⟨t2, rfl⟩ := rj
    exact ⟨t, o, t1, t2, n, rfl, ho, hc, hd⟩
  · have h3 : ∀ u ∈ out, ∃ a, u = Value.ref a := fun u hu => e2 u (h2.perm.mem_iff.mp hu)
    obtain ⟨n, hn⟩ := hn
    have kk : ∀ u ∈ out, k (backV u) = kr u := fun u hu => by
      obtain ⟨t, rfl⟩ := h3 u hu
      rfl
    have pm : (out.map backV).Perm xs := by rw [e1]; exact h2.perm.map backV
    have ez : xs.zip ps = xs.map fun x => (x, k x) := by rw [eps]; exact zip_map_self k xs
    have em : ((out.map backV).map fun x => (x, k x)).map (·.1) = out.map backV := by rw [List.map_map]; exact List.map_id _
    refine ⟨.ref d, upd H d (.lst (out.map backV)), I.laid (t' := s.toks) kp hd ⟨?_, out, n, vals_back h3, hn⟩, rfl, ?_⟩
    · rw [pm.length_eq]; exact hz
    · rw [← em]
      refine q ((out.map backV).map fun x => (x, k x)) d (by rw [ez]; exact pm.map _) ?_ (I.hok.fresh hd)
      rw [List.map_map, List.pairwise_map]
      refine List.Pairwise.imp_of_mem (fun {u v} hu hv huv => ?_) h1
      have : SrtO.lexB (kr v) (kr u) = false := huv
      show lexLe (k (backV u)) (k (backV v))
      rw [kk u hu, kk v hv]
      have := SrtO.lexB_no.mp this
      unfold lexLe
      omega
end
section
variable {K : PySem.W.Frag} {n : Nat} {J : Jv n}
abbrev prD (p : Int × Int) : PyData := .tuple [.int p.1, .int p.2]
theorem prs_of {G : Hp} : ∀ {ps : List (Int × Int)} {xs : List V}, DqAll K G xs (ps.map prD) → PrsAt K G xs ps
  | [], _, .nil => .nil
  | p :: ps, _, .cons a b => by
    obtain ⟨t, ys, rfl, s, r⟩ := a.tuple_of
    refine .cons ⟨t, rfl, ?_⟩ (prs_of b)
    cases r with
    | cons r1 r =>
      cases r with
      | cons r2 r => cases r; cases r1; cases r2; exact s
/-- data that is a list of pairs of numbers -/
def prsF (es : List PyData) (k : List (Int × Int) → Prop) : Prop := ∃ ps : List (Int × Int), es = ps.map prD ∧ k ps
theorem dq_zip {G : Hp} : ∀ {ps : List (Int × Int)} {xs : List V}, DqAll K G xs (ps.map prD) → ∀ z ∈ xs.zip ps, Dq K G z.1 (prD z.2)
  | [], _, .nil, _, h => by cases h
  | p :: ps, _, .cons a b, z, h => by
    rcases List.mem_cons.mp (show z ∈ _ :: _ from h) with rfl | h
    · exact a
    · exact dq_zip b z h
theorem dq_map {G : Hp} : ∀ {zs : List (V × Int × Int)}, (∀ z ∈ zs, Dq K G z.1 (prD z.2)) → DqAll K G (zs.map (·.1)) ((zs.map (·.2)).map prD)
  | [], _ => .nil
  | z :: zs, h => .cons (h z List.mem_cons_self) (dq_map fun y hy => h y (List.mem_cons_of_mem _ hy))
theorem prs_mono {H H' : Hp} (s : Same H H') : ∀ {xs : List V} {ps : List (Int × Int)}, PrsAt K H xs ps → PrsAt K H' xs ps
  | _, _, .nil => .nil
  | _, _, .cons ⟨t, e, h⟩ b => .cons ⟨t, e, SqT.mono s h⟩ (prs_mono s b)
def nSortP (ds : List PyData) (P : List PyData → Prop) : Prop := one ds fun d => listF d fun es => prsF es fun ps => ∀ qs : List (Int × Int), qs.Perm ps → qs.Pairwise lexLe → P (qs.map prD)
theorem rbn_sortP : RBN K (rSortedPD K) nSortP := by
  intro A H Q xs ds P r g k
  obtain ⟨v, d, rfl, q, g⟩ := one_of r g
  unfold listF at g
  split at g
  · obtain ⟨ps, e, g'⟩ := g
    subst e
    obtain ⟨a, ys, rfl, s, r⟩ := q.list_of
    have hl : ys.length = ps.length := by rw [r.length, List.length_map]
    refine ⟨a, ys, ps, rfl, SqL.mono hp_same s, prs_mono hp_same (prs_of r), fun zs p pm pw hp1 => ?_⟩
    refine k _ _ _ (g' (zs.map (·.2)) ?_ ?_) hp1 (dq_map fun z hz => dq_zip r z (pm.mem_iff.mp hz))
    · have := pm.map (·.2)
      rw [show (ys.zip ps).map (·.2) = ps from List.map_snd_zip (by omega)] at this
      exact this
    · rw [List.pairwise_map]
      exact pw
  · exact g.elim
/-! a new list handed on at once -/
theorem EnR.cut {O : Addr → Prop} {as as2 : Nat → Option Addr} {H : Hp} {ρ ρ2 : En} {σ σ2 : L2.St} (E : EnR K J O as2 H (ρ ++ ρ2) (σ ++ σ2)) (hl : ρ.length = σ.length) (h1 : ∀ i, i < ρ.length → as i = as2 i) (h2 : ∀ i, ρ.length ≤ i → as i = none) (hJ : J.P as H) : EnR K J O as H ρ σ := by
  have sub : ∀ i a, as i = some a → as2 i = some a := fun i a h => by
    rcases Nat.lt_or_ge i ρ.length with q | q
    · rw [← h1 i q]; exact h
    · rw [h2 i q] at h; cases h
  have hS : Same (hp (Hid O as2) H) (hp (Hid O as) H) := hp_less fun a q => by
    rcases q with q | ⟨i, q⟩ | q
    · exact .inl q
    · exact .inr (.inl ⟨i, sub i a q⟩)
    · exact .inr (.inr q)
  refine ⟨hl, fun i sl o e1 e2 => ?_, fun i j a q1 q2 => E.inj i j a (sub i a q1) (sub j a q2), fun i a q => E.out i a (sub i a q), fun i a q => ?_, E.occ, hJ, E.inq, E.tab⟩
  · have l1 := (List.getElem?_eq_some_iff.mp e1).1
    have l2 := (List.getElem?_eq_some_iff.mp e2).1
    rw [h1 i l1]
    exact (E.at_ i sl o (by rw [List.getElem?_append_left l1]; exact e1) (by rw [List.getElem?_append_left l2]; exact e2)).mono hS fun _ _ => rfl
  · rcases Nat.lt_or_ge i ρ.length with z | z
    · exact z
    · rw [h2 i z] at q; cases q
theorem wb_app2 (ρ τ : En) : ∀ (ys : List Ar) (r : List Sl), (∀ i ∈ ownIx ys, i < ρ.length) → wb (ρ ++ τ) ys r = wb ρ ys r ++ τ
  | [], _, _ => rfl
  | .dat _ :: ys, r, h => by rw [wb, wb]; exact wb_app2 ρ τ ys r.tail h
  | .own i :: ys, r, h => by
    rw [wb, wb, wb_app2 ρ τ ys r.tail fun j hj => h j (List.mem_cons_of_mem _ hj), List.set_append_left]
    rw [wb_len]
    exact h i List.mem_cons_self
theorem Fits.ix {ρ : En} : ∀ {ys : List Ar} {r : List Sl}, Fits ρ ys r → ∀ i ∈ ownIx ys, i < ρ.length
  | _, _, .nil, _, h => by cases h
  | _, _, .dat f, i, h => Fits.ix f i h
  | _, _, .own e f, i, h => by
    rcases List.mem_cons.mp (show i ∈ _ :: _ from h) with rfl | h
    · exact (List.getElem?_eq_some_iff.mp e).1
    · exact Fits.ix f i h
theorem Fits.ext {ρ τ : En} : ∀ {ys : List Ar} {r : List Sl}, Fits ρ ys r → Fits (ρ ++ τ) ys r
  | _, _, .nil => .nil
  | _, _, .dat f => .dat f.ext
  | _, _, .own e f => .own (by rw [List.getElem?_append_left (List.getElem?_eq_some_iff.mp e).1]; exact e) f.ext
theorem ArsR.imp {G G' : Hp} {as as' : Nat → Option Addr} (s : Same G G') (h : ∀ i a, as i = some a → as' i = some a) : ∀ {vs : List V} {ys : List Ar}, ArsR K G as vs ys → ArsR K G' as' vs ys
  | _, _, .nil => .nil
  | _, _, .cons (.dat q) r => .cons (.dat (q.mono s)) (ArsR.imp s h r)
  | _, _, .cons (.own q) r => .cons (.own (h _ _ q)) (ArsR.imp s h r)
def fCallT (m : Nat) (F : FN) (dv : List PyData) (a0 : FA) (a : FC) : FE := fun ρ P => a0 ρ fun ds ρ1 => a ρ1 fun xs ρ2 => xs.length + 1 + dv.length = m ∧ (ownIx xs).Nodup ∧ argF ρ2 xs fun r => F (.own ds :: (r ++ dv.map .fz)) fun d out => P d (wb ρ2 xs out.tail)
theorem re_callT {m : Nat} {F : FN} {dvs : List V} {dv : List PyData} {E0 : XK} {ta : TE} {t : TA} {fa : FA} {f : FC} (hd : ∀ H, DqAll K H dvs dv) (h0 : RN K J ta fa) (ha : RC K J t f) : RE K J (tCall (spF K m F) dvs E0 (tCons ta t)) (fCallT m F dv fa f) := by
  intro O as σ H Q ρ P E q k
  refine h0 O as σ H _ ρ _ E q fun ds ρ1 p xs H1 q1 f1 hp0 E1 hp1 d1 => ?_
  refine ha (plus O p) as σ H1 _ ρ1 _ E1 q1 fun ys ρ2 vs H2 q2 f2 E2 d2 => ?_
  obtain ⟨hm, nd, q2⟩ := q2
  obtain ⟨r, fit, q2⟩ := argF_of q2
  have np : ¬ Own as p := fun z => E.fresh hp0 (.inr z)
  have hp2 := f2 _ _ np hp1
  have d1' := d1.fr f2
  have fr02 := f1.trans f2
  have bd : ∀ i a, as i = some a → i < ρ2.length := E2.bnd
  have ne : ∀ i a, as i = some a → i ≠ ρ2.length + n := fun i a h => by have := bd i a h; omega
  have same1 : ∀ a, Hid O (upA as (ρ2.length + n) (some p)) a → Hid (plus O p) as a := fun a h => by
    rcases h with h | h
    · exact .inl (.inl h)
    · rcases h.up with h | h
      · exact .inl (.inr (Option.some.inj h).symm)
      · exact .inr h
  have up : ∀ i a, as i = some a → upA as (ρ2.length + n) (some p) i = some a := fun i a h => by rw [upA_ne (ne i a h)]; exact h
  have same2 : ∀ a, Hid (plus O p) as a → Hid O (upA as (ρ2.length + n) (some p)) a := fun a h => by
    rcases h with (h | h) | ⟨i, h⟩ | h
    · exact .inl h
    · exact .inr (.inl ⟨ρ2.length + n, by rw [upA_at, h]⟩)
    · exact .inr (.inl ⟨i, up i a h⟩)
    · exact .inr (.inr h)
  have s1 : ∀ H', Same (hp (Hid (plus O p) as) H') (hp (Hid O (upA as (ρ2.length + n) (some p))) H') := fun _ => hp_less same1
  have s2 : ∀ H', Same (hp (Hid O (upA as (ρ2.length + n) (some p))) H') (hp (Hid O as) H') := fun _ => hp_less fun a h => same2 a (hid_plus h)
  have E3 : EnR K J O (upA as (ρ2.length + n) (some p)) H2 (ρ2 ++ (List.replicate n .no ++ [.own ds])) (σ ++ (List.replicate n none ++ [some (.ref p)])) := by
    refine ⟨by rw [List.length_append, List.length_append, List.length_append, List.length_append, List.length_replicate, List.length_replicate, E2.len]; rfl, fun i sl o e1 e2 => ?_, fun i j a h1 h2 => ?_, fun i a h z => ?_, fun i a h => ?_, fun a h => E2.occ a (.inl h), J.cl _ _ _ _ E.inv ⟨fr02, fun a h => ?_, fun i hi => upA_ne (by omega)⟩, E.inq, E2.tab⟩
    · rcases Nat.lt_or_ge i ρ2.length with z | z
      · rw [List.getElem?_append_left z] at e1
        rw [List.getElem?_append_left (by rw [← E2.len]; exact z)] at e2
        rw [upA_ne (by omega)]
        exact (E2.at_ i sl o e1 e2).mono (s1 H2) fun _ _ => rfl
      · rw [List.getElem?_append_right z] at e1
        rw [List.getElem?_append_right (by rw [← E2.len]; exact z), ← E2.len] at e2
        rcases Nat.lt_or_ge (i - ρ2.length) n with z2 | z2
        · rw [List.getElem?_append_left (by rw [List.length_replicate]; exact z2), List.getElem?_replicate, if_pos z2] at e1
          cases e1
          rw [upA_ne (by omega)]
          cases e : as i with
          | none => exact .no
          | some a => exact absurd (bd i a e) (by omega)
        · rw [List.getElem?_append_right (by rw [List.length_replicate]; exact z2), List.length_replicate] at e1 e2
          have ei : i = ρ2.length + n := by
            have := (List.getElem?_eq_some_iff.mp e1).1
            simp only [List.length_singleton] at this
            omega
          rw [show i - ρ2.length - n = 0 from by omega] at e1 e2
          cases e1
          cases e2
          rw [ei, upA_at]
          exact .own hp2 (d1'.mono (s1 H2))
    · by_cases z1 : i = ρ2.length + n
      · by_cases z2 : j = ρ2.length + n
        · rw [z1, z2]
        · rw [z1, upA_at] at h1
          rw [upA_ne z2] at h2
          cases h1
          exact absurd (.inl ⟨j, h2⟩) np
      · rw [upA_ne z1] at h1
        by_cases z2 : j = ρ2.length + n
        · rw [z2, upA_at] at h2
          cases h2
          exact absurd (.inl ⟨i, h1⟩) np
        · rw [upA_ne z2] at h2
          exact E2.inj i j a h1 h2
    · by_cases z1 : i = ρ2.length + n
      · rw [z1, upA_at] at h
        cases h
        exact E.fresh hp0 (.inl z)
      · rw [upA_ne z1] at h
        exact E2.out i a h (.inl z)
    · rw [List.length_append, List.length_append, List.length_replicate]
      simp only [List.length_singleton]
      by_cases z1 : i = ρ2.length + n
      · omega
      · rw [upA_ne z1] at h
        have := bd i a h
        omega
    · rcases h.up with h | h
      · rw [← Option.some.inj h]; exact .inr hp0
      · exact .inl h
  have ix := fit.ix
  have ixA : ∀ i ∈ ownIx (ys ++ dv.map .dat), i < ρ2.length := fun i hi => ix i (by rw [ownIx_app] at hi; exact hi)
  have hL : (ρ2 ++ (List.replicate n Sl.no ++ [.own ds]))[ρ2.length + n]? = some (.own ds) := by
    rw [List.getElem?_append_right (by omega), List.getElem?_append_right (by rw [List.length_replicate]; omega), List.length_replicate]
    rw [show ρ2.length + n - ρ2.length - n = 0 from by omega]
    rfl
  have wbe : ∀ out : List Sl, (wb (ρ2 ++ (List.replicate n Sl.no ++ [.own ds])) (.own (ρ2.length + n) :: (ys ++ dv.map .dat)) out) = wb ρ2 ys out.tail ++ ((List.replicate n Sl.no ++ [Sl.own ds]).set n (out.headD .no)) := fun out => by
    rw [wb, wb_app2 _ _ _ _ ixA, wb_app, List.set_append_right _ _ (by rw [wb_len]; omega), wb_len, show ρ2.length + n - ρ2.length = n from by omega]
  refine call_core (P := fun d ρ' => P d (ρ'.take ρ2.length)) (xs := .own (ρ2.length + n) :: (ys ++ dv.map .dat)) (r := .own ds :: (r ++ dv.map .fz)) E3 (.own hL ((fit.app (fits_dat dv)).ext)) (.cons (.own upA_at) (((d2.imp (s1 H2) up)).app (dat_ars (hd _)))) ?_ ?_ ?_ fun d ρ' v H' pr fr E' q' => ?_
  · rw [List.length_cons, List.length_append, List.length_map]; omega
  · show (_ :: ownIx (ys ++ dv.map .dat)).Nodup
    rw [ownIx_app]
    exact List.nodup_cons.mpr ⟨fun z => by have := ix _ z; omega, nd⟩
  · have e : (fun d out => P d ((wb (ρ2 ++ (List.replicate n Sl.no ++ [.own ds])) (.own (ρ2.length + n) :: (ys ++ dv.map .dat)) out).take ρ2.length)) = fun d out => P d (wb ρ2 ys out.tail) := by
      funext d out
      rw [wbe, List.take_left' (wb_len ..)]
    show F _ (fun d out => P d ((wb (ρ2 ++ (List.replicate n Sl.no ++ [.own ds])) (.own (ρ2.length + n) :: (ys ++ dv.map .dat)) out).take ρ2.length))
    rw [e]
    exact q2
  · have lr : ρ'.length = ρ2.length + (n + 1) := by
      rw [E'.len, List.length_append, List.length_append, List.length_replicate, ← E2.len]
      rfl
    have fr' : FrA (Own as) H H' := fun a o na e => by
      have e2 := fr02 a o na e
      refine fr a o (fun z => ?_) e2
      rcases z.up with z | z
      · cases z
        rw [hp0] at e
        cases e
      · exact na z
    have E4 : EnR K J O (upA as (ρ2.length + n) (some p)) H' (ρ'.take ρ2.length ++ ρ'.drop ρ2.length) (σ ++ (List.replicate n none ++ [some (.ref p)])) := by rw [List.take_append_drop]; exact E'
    have lt : (ρ'.take ρ2.length).length = ρ2.length := by rw [List.length_take]; omega
    refine k d _ v H' pr fr' (E4.cut (as := as) (by rw [lt]; exact E2.len) (fun i hi => (upA_ne (by omega)).symm) (fun i hi => ?_) (J.fr E.inv fr')) (q'.mono (s2 H'))
    cases e : as i with
    | none => rfl
    | some a => exact absurd (bd i a e) (by omega)
/-! defs that raise or hand back a new list -/
abbrev FXM := List Sl → (List PyData → List Sl → Prop) → (PyData → List Sl → Prop) → Prop
def spXN (K : PySem.W.Frag) (n : Nat) (F : FXM) : Sp := fun vs H Q E => vs.length = n ∧ ∃ (O : Addr → Prop) (as : Nat → Option Addr) (ρ : En) (P : List PyData → List Sl → Prop) (X : PyData → List Sl → Prop), EnR K (J0 : Jv 0) O as H ρ (vs.map some) ∧ F ρ P X ∧
  (∀ ds out p xs H', P ds out → FrA (Own as) H H' → TabsOk H' → H p = none → (∀ i a, as i = some a → ∃ ds xs, out[i]? = some (.own ds) ∧ H' a = some (.lst xs) ∧ DqAll K (hp (Hid (plus O p) as) H') xs ds) → H' p = some (.lst xs) → DqAll K (hp (Hid (plus O p) as) H') xs ds → Q (.ref p) H') ∧
  ∀ d out cls dd H', X d out → FrA (Own as) H H' → TabsOk H' → (∀ i a, as i = some a → ∃ ds xs, out[i]? = some (.own ds) ∧ H' a = some (.lst xs) ∧ DqAll K (hp (Hid O as) H') xs ds) → XcAt K (hp (Hid O as) H') cls dd d → E cls dd H'
def fnXM (n m : Nat) (b : (PyData → En → Prop) → FS) : FXM := fun sls P X => b (fun d ρ' => X d (ρ'.take n)) { nx := fun _ => False, rt := fun _ _ => False, ro := fun ds ρ' => P ds (ρ'.take n) } (sls ++ List.replicate (m - n) .no)
theorem fn_coreXN {ps : List Str} {N : List Str} {b : (PyData → En → Prop) → FS} {t : WX → TS} (rs : ∀ (J : Jv ps.length) (X : PyData → En → Prop) (W : WX), Lk K J X W → RS K J (t W) (b X)) {vs : List V} {H : Hp} {Q : VK} {E : XK} (h : spXN K ps.length (fnXM ps.length N.length b) vs H Q E) :
    t (fun cls d _ H => E cls d H) { nx := fun _ H' => Q .non H', rt := Q } (L2.start N vs) H := by
  obtain ⟨hv, O, as, ρ, P, X, R, hF, q, qx⟩ := h
  have few : ∀ i a, as i = some a → i < ps.length := fun i a h => by have := R.bnd i a h; have := R.len; rw [List.length_map] at this; omega
  have less : ∀ {O O' : Addr → Prop} {as' : Nat → Option Addr} {H' : Hp}, (∀ a, O a → O' a) → Ext ps.length as as' H H' → Same (hp (Hid O' as') H') (hp (Hid O as) H') := fun hO x => hp_less fun c hc => by
    rcases hc with hc | ⟨j, hc⟩ | hc
    · exact .inl (hO c hc)
    · exact .inr (.inl ⟨j, by rw [x.fix j (few j c hc)]; exact hc⟩)
    · exact .inr (.inr hc)
  have own : ∀ {n' : Nat} {J' : Jv n'} {O O' : Addr → Prop} {ρ' : En} {as' : Nat → Option Addr} {σ' : L2.St} {H' : Hp}, (∀ a, O a → O' a) → Ext ps.length as as' H H' → EnR K J' O' as' H' ρ' σ' → ∀ i a, as i = some a → ∃ ds xs, (ρ'.take ps.length)[i]? = some (.own ds) ∧ H' a = some (.lst xs) ∧ DqAll K (hp (Hid O as) H') xs ds := by
    intro n' J' O O' ρ' as' σ' H' hO x R' i a h
    have h' : as' i = some a := by rw [x.fix i (few i a h)]; exact h
    obtain ⟨ds, xs, e1, _, e3, e4⟩ := R'.is_own h'
    exact ⟨ds, xs, by rw [List.getElem?_take, if_pos (few i a h)]; exact e1, e3, e4.mono (less hO x)⟩
  refine rs (Jst ps.length O as H) (fun d ρ' => X d (ρ'.take ps.length)) _ (fun O' as' σ' H' ρ' cls dd d R' xc hx => ?_) O as _ H _ _ _ ((R.start N hv).reJ Ext.refl fun _ h => h) hF ⟨fun _ _ _ _ p => p.elim, fun _ _ _ _ _ _ p => p.elim, fun _ _ _ _ p => p.elim, fun _ _ _ _ p => p.elim, fun ds ρ' p xs as' σ' H' pr x o R' e d => ?_⟩
  · exact qx d _ cls dd H' hx R'.inv.fr R'.tab (own R'.inq R'.inv R') (xc.mono (less R'.inq R'.inv))
  · have new : H p = none := by
      rcases o with o | ⟨j, o⟩ | o
      · exact o
      rotate_left
      · exact absurd o (R'.tab.no e)
      · have h' : as' j = some p := by rw [x.fix j (few j p o)]; exact o
        exact absurd (.inr rfl) (R'.out j p h')
    exact q _ _ _ _ _ pr x.fr R'.tab new (own (fun _ h => h) x R') e (d.mono (less (fun _ h => h) x))
section
variable {P : Program} {w : World} {mg : Str → Option Value} {base : Heap} {k : Nat} {f : Addr} {fd : FuncData} {ps : List Str} {x qual : Str} {st : Stmt} {N : List Str}
theorem okXNc {b : (PyData → En → Prop) → FS} (F : Fun K x qual st f fd) (S : FnScope N ps (defScope st))
    (body : ∀ (cdv : Value), fd.code = cdv → ∀ (A : Around) (outer : List Env) (s : Shared) (H : Hp) (E : XK), Room k (A.deeper (envOfC qual (defScope st) s.heap.objs.size f cdv)) →
      ∃ t : WX → TS, (∀ W, Takes (cxOf (L2.CX P w) P w K mg base N qual (defScope st) f cdv A outer s H E) W → PSs (cxOf (L2.CX P w) P w K mg base N qual (defScope st) f cdv A outer s H E) (defBody st) (t W)) ∧ ∀ (J : Jv ps.length) (X : PyData → En → Prop) (W : WX), Lk K J X W → RS K J (t W) (b X)) :
    FnOk P w K mg base (L2.CX P w) (k + 1) f fd ps (spXN K ps.length (fnXM ps.length N.length b)) := by
  obtain ⟨oc, od, kV, doc, pm, an, cdv, ct, osl, rfl, lk, hcd⟩ := F.ex
  refine fn_of lk hcd S (fun vs H Q E h => h.1) fun A outer s H vs Q E hr h => ?_
  obtain ⟨t, pt, rs⟩ := body cdv rfl A outer s H E hr
  exact ⟨_, pt _ (takes_of (E := E) rfl rfl rfl rfl), fn_coreXN rs h⟩
theorem okXN0 {b : (PyData → En → Prop) → FS} (F : Fun K x qual st f fd) (S : FnScope N ps (defScope st))
    (body : ∀ (cdv : Value) (A : Around) (outer : List Env) (s : Shared) (H : Hp) (E : XK), Room k (A.deeper (envOfC qual (defScope st) s.heap.objs.size f cdv)) →
      ∃ t : WX → TS, (∀ W, Takes (cxOf (L2.CX P w) P w K mg base N qual (defScope st) f cdv A outer s H E) W → PSs (cxOf (L2.CX P w) P w K mg base N qual (defScope st) f cdv A outer s H E) (defBody st) (t W)) ∧ ∀ (J : Jv ps.length) (X : PyData → En → Prop) (W : WX), Lk K J X W → RS K J (t W) (b X)) :
    FnOk P w K mg base (L2.CX P w) (k + 1) f fd ps (spXN K ps.length (fnXM ps.length N.length b)) := okXNc F S fun cdv _ => body cdv
end
/-- the same with the list as data -/
def toX (F : FXM) : FX := fun ss P X => F ss (fun ds out => P (.list ds) out) X
theorem toX_of {m : Nat} {F : FXM} {vs : List V} {H : Hp} {Q : VK} {E : XK} (h : spX K m (toX F) vs H Q E) : spXN K m F vs H Q E := by
  obtain ⟨hv, O, as, ρ, P, X, R, hF, q, qx⟩ := h
  refine ⟨hv, O, as, ρ, _, X, R, hF, fun ds out p xs H' pr fr tb hp0 ow hp1 d => ?_, qx⟩
  have np := R.fresh hp0
  have s : Same (hp (Hid (plus O p) as) H') (hp (Hid O as) H') := hp_less fun a h => hid_plus h
  refine q _ out _ H' pr fr tb (fun i a h => ?_) (.lst (SqL.of (hp_mk np hp1)) (d.mono s))
  obtain ⟨es, ys, e1, e2, e3⟩ := ow i a h
  exact ⟨es, ys, e1, e2, e3.mono s⟩
theorem call_coreXN {O : Addr → Prop} {as : Nat → Option Addr} {H : Hp} {ρ : En} {σ : L2.St} {xs : List Ar} {r : List Sl} {vs : List V} {m : Nat} {F : FXM} {P : List PyData → En → Prop} {X : PyData → En → Prop} {Q : VK} {W : WX} (E : EnR K J O as H ρ σ) (fit : Fits ρ xs r) (ar : ArsR K (hp (Hid O as) H) as vs xs) (hm : xs.length = m) (nd : (ownIx xs).Nodup)
    (f : F r (fun d out => P d (wb ρ xs out)) fun d out => X d (wb ρ xs out)) (l : Lk K J X W) (k : ∀ ds ρ' p ys H', P ds ρ' → FrA (Own as) H H' → H p = none → EnR K J (plus O p) as H' ρ' σ → H' p = some (.lst ys) → DqAll K (hp (Hid (plus O p) as) H') ys ds → Q (.ref p) H') : spXN K m F vs H Q (WE W σ) := by
  have sub : ∀ a, Own (adrs as xs) a → Own as a := fun a h => by
    rcases h with ⟨j, h⟩ | h
    · obtain ⟨i, _, h⟩ := adrs_own h
      exact .inl ⟨i, h⟩
    · exact .inr h
  have hid : ∀ a, Hid (fun a => Hid O as a ∧ ¬ Own (adrs as xs) a) (adrs as xs) a ↔ Hid O as a := fun a => by
    constructor
    · rintro (h | h)
      · exact h.1
      · exact .inr (sub a h)
    · intro h
      by_cases q : Own (adrs as xs) a
      · exact .inr q
      · exact .inl ⟨h, q⟩
  have s1 : ∀ H', Same (hp (Hid O as) H') (hp (Hid (fun a => Hid O as a ∧ ¬ Own (adrs as xs) a) (adrs as xs)) H') := fun H' => hp_less fun a h => (hid a).mp h
  have s2 : ∀ H', Same (hp (Hid (fun a => Hid O as a ∧ ¬ Own (adrs as xs) a) (adrs as xs)) H') (hp (Hid O as) H') := fun H' => hp_less fun a h => (hid a).mpr h
  have s3 : ∀ p H', Same (hp (Hid (plus (fun a => Hid O as a ∧ ¬ Own (adrs as xs) a) p) (adrs as xs)) H') (hp (Hid (plus O p) as) H') := fun p H' => hp_less fun a h => by
    by_cases z : a = p
    · exact .inl (.inr z)
    · by_cases q : Own (adrs as xs) a
      · exact .inr q
      · rcases h with (h | h) | h
        · exact .inl (.inl ⟨.inl h, q⟩)
        · exact absurd h z
        · exact .inl (.inl ⟨.inr h, q⟩)
  have back : ∀ {O2 : Addr → Prop} {out : List Sl} {H' : Hp}, (∀ a, O a → O2 a) → (∀ i a, as i = some a → ¬ O2 a) → (∀ a, O2 a → H' a ≠ none) → FrA (Own (adrs as xs)) H H' → Same (hp (Hid O as) H) (hp (Hid O2 as) H') → TabsOk H' → (∀ i a, adrs as xs i = some a → ∃ ds ys, out[i]? = some (.own ds) ∧ H' a = some (.lst ys) ∧ DqAll K (hp (Hid O2 as) H') ys ds) → EnR K J O2 as H' (wb ρ xs out) σ := by
    intro O2 out H' hO hout hocc fr sm tb ow
    have fr' : FrA (Own as) H H' := fr.up sub
    refine ⟨by rw [wb_len]; exact E.len, fun i sl o h1 h2 => ?_, E.inj, hout, fun i a h => by rw [wb_len]; exact E.bnd i a h, hocc, J.fr E.inv fr', J.up _ _ hO E.inq, tb⟩
    by_cases q : i ∈ ownIx xs
    · obtain ⟨j, e⟩ := ownIx_mem q
      have hi : i < ρ.length := by
        have := (List.getElem?_eq_some_iff.mp h1).1
        rw [wb_len] at this
        exact this
      obtain ⟨a, ha⟩ := ar.own_at e
      have hadr : adrs as xs j = some a := by unfold adrs; rw [e]; exact ha
      obtain ⟨ds, ys, e1, e2, e3⟩ := ow j a hadr
      rw [wb_own ρ hi nd e e1] at h1
      cases h1
      obtain ⟨_, _, _, e4, _⟩ := E.is_own ha
      rw [e4] at h2
      cases h2
      rw [ha]
      exact .own e2 e3
    · rw [wb_other ρ xs out q] at h1
      refine (E.at_ i sl o h1 h2).mono sm fun b hb => ?_
      obtain ⟨_, _, _, _, e, _⟩ := E.is_own hb
      rw [e]
      refine fr _ _ (fun z => ?_) e
      rcases z with ⟨j, z⟩ | z
      rotate_left
      · exact E.tab.no e z
      obtain ⟨i', e', h'⟩ := adrs_own z
      rw [E.inj i' i b h' hb] at e'
      exact q (mem_ownIx e')
  refine ⟨by rw [ar.len, hm], fun a => Hid O as a ∧ ¬ Own (adrs as xs) a, adrs as xs, r, _, _, ⟨by rw [List.length_map, fit.len, ar.len], fun j sl o h1 h2 => fits_at E (s1 H) fit ar h1 h2, fun j1 j2 a h1 h2 => ?_, fun j a h q => q.2 (.inl ⟨j, h⟩), fun j a h => ?_, fun a h => E.full h.1, trivial, trivial, E.tab⟩, f, fun d out p ys H' pr fr tb hp1 ow hp2 dv => ?_, fun d out cls dd H' p fr tb ow xc => ?_⟩
  · obtain ⟨i1, e1, h1⟩ := adrs_own h1
    obtain ⟨i2, e2, h2⟩ := adrs_own h2
    rw [E.inj i1 i2 a h1 h2] at e1
    exact ownIx_inj nd e1 e2
  · obtain ⟨i, e, _⟩ := adrs_own h
    rw [fit.len]
    exact (List.getElem?_eq_some_iff.mp e).1
  · have fr' := fr.up sub
    refine k d _ p ys H' pr fr' hp1 (back (fun a z => .inl z) (fun i a h z => ?_) (fun a h => ?_) fr (same_plus fr' hp1) tb fun i a h => ?_) hp2 (dv.mono (s3 p H'))
    · rcases z with z | z
      · exact E.out i a h z
      · obtain ⟨_, _, _, _, e, _⟩ := E.is_own h
        rw [z, hp1] at e
        cases e
    · rcases h with h | h
      · exact E.occ' fr' tb h
      · rw [h, hp2]; exact Option.some_ne_none _
    · obtain ⟨es, zs, e1, e2, e3⟩ := ow i a h
      exact ⟨es, zs, e1, e2, e3.mono (s3 p H')⟩
  · have fr' := fr.up sub
    refine l O as σ H' _ cls dd d (back (fun _ z => z) E.out (fun a h => E.occ' fr' tb h) fr (hp_fr fr' own_hid) tb fun i a h => ?_) (xc.mono (s2 H')) p
    obtain ⟨es, zs, e1, e2, e3⟩ := ow i a h
    exact ⟨es, zs, e1, e2, e3.mono (s2 H')⟩
def fCallXW (m : Nat) (F : FXM) (dv : List PyData) (X : PyData → En → Prop) (a : FC) : FA := fun ρ P => a ρ fun xs ρ1 => xs.length + dv.length = m ∧ (ownIx xs).Nodup ∧ argF ρ1 xs fun r => F (r ++ dv.map .fz) (fun d out => P d (wb ρ1 xs out)) fun d out => X d (wb ρ1 xs out)
theorem rn_callX {m : Nat} {F : FXM} {dvs : List V} {dv : List PyData} {X : PyData → En → Prop} {W : WX} {t : TA} {f : FC} (l : Lk K J X W) (hd : ∀ H, DqAll K H dvs dv) (ha : RC K J t f) : RN K J (tCallSD (spXN K m F) dvs (WE W) t) (fCallXW m F dv X f) := by
  intro O as σ H Q ρ P E q k
  refine ha O as σ H _ ρ _ E q fun xs ρ1 vs H1 q1 f1 E1 d1 => ?_
  obtain ⟨hm, nd, q1⟩ := q1
  obtain ⟨r, fit, q1⟩ := argF_of q1
  refine call_coreXN (xs := xs ++ dv.map .dat) E1 (fit.app (fits_dat dv)) (d1.app (dat_ars (hd _))) (by rw [List.length_append, List.length_map]; exact hm) (by rw [ownIx_app]; exact nd) ?_ l fun ds ρ' p ys H' pr fr hp1 E' hp2 q' => k ds ρ' p ys H' pr (f1.trans fr) (none_back E1 f1 hp1) E' hp2 q'
  simp only [wb_app]
  exact q1
end
end DL
/-! zip of a list and a tuple in any mix -/
namespace ZM
open PySem PySem.Spec PyProof.Rows L2
def SqK (K : PySem.W.Frag) (H : Hp) (k : Bool) (a : Addr) (xs : List V) : Prop := match k with
  | true => SqL K H a xs
  | false => SqT K H a xs
def itK (h : Heap) (k : Bool) (it a : Addr) (i : Nat) : Prop := match k with
  | true => h.IsListIter it a i
  | false => h.IsTupleIter it a i
def isK (h : Heap) (k : Bool) (a : Addr) (items : Array Value) : Prop := match k with
  | true => h.IsList a items
  | false => h.IsTuple a items
def objK (k : Bool) (a : Addr) : Obj := match k with
  | true => { cls := .type "list_iterator", data := .fields #[.ref a, .int 0 0] }
  | false => { cls := .type "tuple_iterator", data := .fields #[.ref a, .int 0 0] }
theorem drawsK {prog : Program} {w : World} {A : Around} (hh : A.handled = none) (k : Bool) (it a : Addr) (ne : a ≠ it) (items : Array Value) :
    Draws prog w A it [it, a] items.size (fun i v => items[i]? = some v) (fun i h => itK h k it a i ∧ isK h k a items) := by
  cases k
  · exact Draws.tuple hh it a ne items
  · exact Draws.list hh it a ne items
theorem beginsK (k : Bool) (a : Addr) (items : Array Value) : Begins (.ref a) (objK k a) fun h => isK h k a items := by
  cases k
  · exact begins_tuple a items
  · exact begins_list a items
theorem itK.at {h h' : Heap} {k : Bool} {it a : Addr} {i : Nat} (q : itK h k it a i) (e : ∀ o, h.get? it = some o → h'.get? it = some o) : itK h' k it a i := by
  cases k
  · exact Heap.IsTupleIter.at q e
  · exact Heap.IsListIter.at q e
theorem itK.obj {h : Heap} {k : Bool} {it a : Addr} {i : Nat} (q : itK h k it a i) : ∃ o, h.get? it = some o ∧ ∀ v, o.data ≠ .cell v := by
  cases k
  · obtain ⟨o, e, _, d⟩ := q
    exact ⟨o, e, fun v z => by rw [d] at z; cases z⟩
  · obtain ⟨o, e, _, d⟩ := q
    exact ⟨o, e, fun v z => by rw [d] at z; cases z⟩
section
variable {X : Cx} {pins : List (Addr × Obj)} {σ : L2.St} {H : Hp} {s : Shared}
theorem sqK (I : Inv X pins σ H s) {k : Bool} {a : Addr} {xs : List V} (h : SqK X.K H k a xs) : ∃ its : List Value, Vals xs its ∧ isK s.heap k a its.toArray ∧ a < s.heap.objs.size := by
  cases k
  · obtain ⟨its, rv, p, _⟩ := I.tuple h
    obtain ⟨o, e, _⟩ := id p
    exact ⟨its, rv, p, Heap.lt_size e⟩
  · obtain ⟨its, rv, p, _⟩ := I.list h
    exact ⟨its, rv, p.isList, p.lt⟩
theorem sqK_inj (I : Inv X pins σ H s) {k : Bool} {a : Addr} {xs ys : List V} (h : SqK X.K H k a xs) (h' : SqK X.K H k a ys) : xs = ys := by
  cases k
  · exact I.tuple_inj h h'
  · exact I.list_inj h h'
end
def ItzM (K : PySem.W.Frag) (k1 k2 : Bool) (a b : Addr) : It :=
  ⟨fun i H => ∃ (xs ys : List V) (x y : V), SqK K H k1 a xs ∧ SqK K H k2 b ys ∧ xs[i]? = some x ∧ ys[i]? = some y,
    fun i H v H' => ∃ T x y, v = .ref T ∧ H T = none ∧ H' = upd H T (.tup [x, y]) ∧ (∀ xs, SqK K H k1 a xs → xs[i]? = some x) ∧ ∀ ys, SqK K H k2 b ys → ys[i]? = some y,
    fun i H => ∃ xs ys : List V, SqK K H k1 a xs ∧ SqK K H k2 b ys ∧ i ≤ xs.length ∧ i ≤ ys.length ∧ (xs.length = i ∨ ys.length = i)⟩
theorem nn {a b : Nat} (h : a ≠ b) : @Ne Addr a b := h
theorem n2 {z a b : Nat} (h : z ≠ a) (h' : z ≠ b) : ¬ @Membership.mem Addr (List Addr) _ [a, b] z := fun q => by
  rcases List.mem_cons.mp q with q | q
  · exact h q
  · rcases List.mem_cons.mp q with q | q
    · exact h' q
    · cases q
theorem nc5 {n c : Nat} (h : ¬ (n ≤ c ∧ c ≤ n + 4)) : c ≠ n + 4 ∧ c ≠ n + 3 ∧ c ≠ n ∧ c ≠ n + 1 := by omega
theorem mem5 {n c : Nat} : c ∈ ([n + 4, n + 2, n + 3, n, n + 1] : List Nat) ↔ n ≤ c ∧ c ≤ n + 4 := by
  simp only [List.mem_cons, List.not_mem_nil, or_false]
  omega
theorem turn_zipM {P : Program} {w : World} {K : PySem.W.Frag} {elts : List Expr} {kk : Nat} {tpos : Pos} {k1 k2 : Bool} {a b n : Nat} (ha : a < n) (hb : b < n) :
    Turn P w K (.Tuple elts kk tpos) (ItzM K k1 k2 a b) [n + 4, n + 2, n + 3, n, n + 1] (n + 4) (fun i h => IsZip h (n + 4) (n + 2) (n + 3) .none ∧ IsTupOf2 h (n + 2) (.ref n) (.ref (n + 1)) ∧ (∃ x y, IsTupOf2 h (n + 3) x y) ∧ itK h k1 n a i ∧ itK h k2 (n + 1) b i) := by
  have S : ZipSep2 (n + 4) (n + 2) (n + 3) n (n + 1) [n, a] [n + 1, b] := by
    exact ⟨nn (by omega), nn (by omega), nn (by omega), nn (by omega), List.mem_cons_self, n2 (by omega) (by omega), n2 (by omega) (by omega), nn (by omega), List.mem_cons_self, n2 (by omega) (by omega), n2 (by omega) (by omega), n2 (by omega) (by omega), n2 (by omega) (by omega)⟩
  refine ⟨by simp, ?_, ?_, ?_, ?_, ?_⟩
  · rintro i h ⟨hz, hI, ⟨x, y, hO⟩, q1, q2⟩ c hc
    simp only [List.mem_cons, List.not_mem_nil, or_false] at hc
    rcases hc with rfl | rfl | rfl | rfl | rfl
    · exact ⟨_, hz, fun v q => nomatch q⟩
    · exact ⟨_, hI, fun v q => nomatch q⟩
    · exact ⟨_, hO, fun v q => nomatch q⟩
    · exact q1.obj
    · exact q2.obj
  · rintro i h h' ⟨hz, hI, ⟨x, y, hO⟩, q1, q2⟩ kp
    exact ⟨kp _ (by simp) _ hz, kp _ (by simp) _ hI, ⟨x, y, kp _ (by simp) _ hO⟩, q1.at fun o => kp _ (by simp) o, q2.at fun o => kp _ (by simp) o⟩
  · intro X hP hw hK hc i pins s σ H E I hf st hg
    subst hP hw hK
    obtain ⟨hz, hI, ⟨x0, y0, hO⟩, q1, q2⟩ := st
    obtain ⟨xs, ys, x, y, hqx, hqy, hx, hy⟩ := hg
    obtain ⟨its, rv, p1, _⟩ := sqK I hqx
    obtain ⟨jts, rv2, p2, _⟩ := sqK I hqy
    obtain ⟨u, hu, ru⟩ := rv.get hx
    obtain ⟨v, hv, rv'⟩ := rv2.get hy
    have lz : (n + 4 : Nat) < s.heap.objs.size := Heap.lt_size hz
    have l1 : i < its.toArray.size := by simpa using (List.getElem?_eq_some_iff.mp hu).1
    have l2 : i < jts.toArray.size := by simpa using (List.getElem?_eq_some_iff.mp hv).1
    have hh : X.A.in1.handled = none := I.ok.hd hc
    refine wpAny_pyNext_zipD2_item S (drawsK hh k1 n a (nn (by omega)) its.toArray) (drawsK hh k2 (n + 1) b (nn (by omega)) jts.toArray) hz hI hO ⟨q1, p1⟩ ⟨q2, p2⟩ l1 l2 fun u1 u2 h' tk e1 e2 z' _ s1 s2 hT _ kp => ?_
    have eu : u1 = u := by
      have : its.toArray[i]? = some u := by simpa using hu
      rw [this] at e1
      exact (Option.some.inj e1).symm
    have ev : u2 = v := by
      have : jts.toArray[i]? = some v := by simpa using hv
      rw [this] at e2
      exact (Option.some.inj e2).symm
    subst eu ev
    refine ⟨_, rfl, wpAny_letOwnedTupleGo_zip (s := { s with heap := h', toks := tk }) z' fun h2 z2 sb => ?_⟩
    have sb' : ∀ c, c ≠ n + 4 → h2.get? c = h'.get? c := fun c hc => sb.2 c hc
    have hT2 : h2.get? s.heap.objs.size = some { cls := .type "tuple", data := .seq #[u1, u2] } := (sb' _ (nn (by omega))).trans hT
    have new : ObjOk X.prog X.w (upd H s.heap.objs.size (.tup [x, y])) h2 s.heap.objs.size (.tup [x, y]) :=
      ⟨Nat.le_of_ble_eq_true rfl, [u1, u2], .cons ru (.cons rv' .nil), ⟨_, hT2, rfl, _, rfl⟩⟩
    have I1 : Inv X pins σ (upd H s.heap.objs.size (.tup [x, y])) { s with heap := h2, toks := tk } := by
      refine I.turnedNew (t' := tk) (ch := [n + 4, n + 2, n + 3, n, n + 1]) (fun c o hb q => ?_) hf (Nat.le_refl _) new
      obtain ⟨c1, c2, c3, c4⟩ := nc5 fun z => hb (mem5.mpr z)
      exact (sb' c c1).trans (kp c o c1 c2 c3 c4 q)
    refine ⟨.ref s.heap.objs.size, _, I1, rfl, ⟨_, x, y, rfl, I.hok.fresh (Nat.le_refl _), rfl, fun l hl => by rw [sqK_inj I hl hqx]; exact hx, fun l hl => by rw [sqK_inj I hl hqy]; exact hy⟩, ⟨z2, ?_, ?_, ?_, ?_⟩, fun c hcm => ?_⟩
    · exact (sb' _ (nn (by omega))).trans (kp _ _ (nn (by omega)) (nn (by omega)) (nn (by omega)) (nn (by omega)) hI)
    · refine ⟨u1, u2, ?_⟩
      show h2.get? (n + 3) = _
      rw [sb' _ (nn (by omega))]
      assumption
    · exact s1.1.at fun o q => (sb' _ (nn (by omega))).trans q
    · exact s2.1.at fun o q => (sb' _ (nn (by omega))).trans q
    · have := mem5.mp hcm
      rw [upd_ne (nn (a := c) (b := s.heap.objs.size) (by omega))]
      exact (hf c hcm).1
  · intro X hP hw hK hc i pins s σ H E I hf st hg
    subst hP hw hK
    obtain ⟨hz, hI, ⟨x0, y0, hO⟩, q1, q2⟩ := st
    obtain ⟨xs, ys, hqx, hqy, g1, g2, ge⟩ := hg
    obtain ⟨its, rv, p1, _⟩ := sqK I hqx
    obtain ⟨jts, rv2, p2, _⟩ := sqK I hqy
    have l1 := rv.length
    have l2 := rv2.length
    have z1 : its.toArray.size = its.length := by simp
    have z2 : jts.toArray.size = jts.length := by simp
    have hh : X.A.in1.handled = none := I.ok.hd hc
    refine wpAny_pyNext_zipD2_end S (drawsK hh k1 n a (nn (by omega)) its.toArray) (drawsK hh k2 (n + 1) b (nn (by omega)) jts.toArray) hz hI hO ⟨q1, p1⟩ ⟨q2, p2⟩ (by omega) (by omega) (by omega) fun h' tk kp => ⟨rfl, I.turnedL (t' := tk) (ch := [n + 4, n + 2, n + 3, n, n + 1]) (fun c o hb q => ?_) hf⟩
    obtain ⟨c1, c2, c3, c4⟩ := nc5 fun z => hb (mem5.mpr z)
    exact kp c o c1 c2 c3 c4 q
  · exact fun A i s Q E st h => wpAny_pyIter_zip st.1 h
def iZipM (K : PySem.W.Frag) (ta : TA) : TI := fun σ H R => ta σ H fun vs H1 => ∃ k1 k2 a b xs ys, vs = [.ref a, .ref b] ∧ SqK K H1 k1 a xs ∧ SqK K H1 k2 b ys ∧ R (ItzM K k1 k2 a b) H1
theorem pi_zipM {X : Cx} {e e2 : Expr} {ta : TA} {p pos tpos : Pos} {elts : List Expr} {kk : Nat} (hg : Gl X "zip") (hm : X.mg "zip" = none) (ha : PA X [e, e2] ta)
    (hs : starEach [e, e2] X.env = (false, eval e X.env) :: starEach [e2] X.env := by rfl) (hpl : (backTo pos (starEach [e2] X.env)).any (·.1) = false := by rfl) : PI X (.Tuple elts kk tpos) (.Call (.Name "zip" p) [e, e2] [] pos) (iZipM X.K ta) := by
  refine ⟨fun pins s σ H R I h => ?_⟩
  refine Call_ (ld_blt I hg hm PyProof.Rows.boot_zip (PyProof.Rows.callWith_type1 (thn (ha.run pos pins s σ H _ I h) fun us s1 q => ?_) hs hpl))
  obtain ⟨vs, H1, I1, r1, k1, k2, a, b, xs, ys, rfl, hqx, hqy, q⟩ := q
  obtain ⟨u1, u2, rfl, r1, r2⟩ := vals2 r1
  obtain rfl : u1 = Value.ref a := r1
  obtain rfl : u2 = Value.ref b := r2
  obtain ⟨its, rv, p1, la⟩ := sqK I1 hqx
  obtain ⟨jts, rv2, p2, lb⟩ := sqK I1 hqy
  refine zip_begins2 (beginsK k1 a its.toArray) (beginsK k2 b jts.toArray) p1 p2 fun h' hz hI hO g1 g2 _ kp => wpAny_pyIter_zip hz ?_
  have I2 : Inv X pins σ H1 { s1 with heap := h' } := I1.kept (t' := s1.toks) kp
  refine ⟨s1.heap.objs.size + 4, [s1.heap.objs.size + 4, s1.heap.objs.size + 2, s1.heap.objs.size + 3, s1.heap.objs.size, s1.heap.objs.size + 1], _, ItzM X.K k1 k2 a b, H1, rfl, I2, turn_zipM la lb, ⟨hz, hI, ⟨_, _, hO⟩, ?_, ?_⟩, fun c hc => ?_, q⟩
  · cases k1 <;> exact ⟨_, g1, rfl, rfl⟩
  · cases k2 <;> exact ⟨_, g2, rfl, rfl⟩
  · have : s1.heap.objs.size ≤ c := (mem5.mp hc).1
    exact I1.fpOk this (I1.hok.fresh this)
theorem walk_zipM {K : PySem.W.Frag} {k1 k2 : Bool} {a b : Addr} {xs ys : List V} {n : Nat} (hn : n = min xs.length ys.length) :
    Walk (ItzM K k1 k2 a b) n (fun H => SqK K H k1 a xs ∧ SqK K H k2 b ys) (YPair (fun i => xs[i]?) (fun i => ys[i]?)) := by
  refine ⟨fun i H hi q => ?_, fun H q => ⟨xs, ys, q.1, q.2, by omega, by omega, by omega⟩, fun i H v H' hi q y => ?_⟩
  · exact ⟨xs, ys, xs[i]'(by omega), ys[i]'(by omega), q.1, q.2, List.getElem?_eq_getElem (by omega), List.getElem?_eq_getElem (by omega)⟩
  · obtain ⟨t, x, z, e1, e2, e3, e4, e5⟩ := y
    exact ⟨t, x, z, e1, e2, e3, e4 xs q.1, e5 ys q.2⟩
theorem SqK.mono {K : PySem.W.Frag} {H H' : Hp} {k : Bool} {a : Addr} {xs : List V} (s : Same H H') (h : SqK K H k a xs) : SqK K H' k a xs := by
  cases k
  · exact Z.SqT.mono s h
  · exact Z.SqL.mono s h
end ZM
namespace DL
open PySem L2 Z PySem.Spec PyProof.Rows
variable [Tbs]
section
variable {K : PySem.W.Frag} {n : Nat} {J : Jv n}
theorem seqK_of {G : Hp} {v : V} {d : PyData} {P : List PyData → Prop} (q : Dq K G v d) (h : seqF d P) : ∃ k a xs ds, v = .ref a ∧ ZM.SqK K G k a xs ∧ DqAll K G xs ds ∧ P ds := by
  unfold seqF at h
  split at h
  · next ds =>
    obtain ⟨a, xs, rfl, s, r⟩ := q.list_of
    exact ⟨true, a, xs, ds, rfl, s, r, h⟩
  · next ds =>
    obtain ⟨a, xs, rfl, s, r⟩ := q.tuple_of
    exact ⟨false, a, xs, ds, rfl, s, r, h⟩
  · exact h.elim
def iZM (f : FA) : FA := fun ρ P => f ρ fun ds ρ1 => match ds with
  | [x, y] => seqF x fun es => seqF y fun gs => P (zipD es gs) ρ1
  | _ => False
theorem ri_zipM {ta : TA} {f : FA} (h : RA K J ta f) : RI K J (ZM.iZipM K ta) (iZM f) := by
  intro O as σ H R ρ P E q k
  refine h O as σ H _ ρ _ E q fun ds ρ1 vs H1 q1 f1 E1 d1 => ?_
  split at q1
  · next x y =>
    cases d1 with
    | cons d1 b => cases b with
      | cons d2 b =>
        cases b
        obtain ⟨k1, a, xs, es, rfl, s, r, q1⟩ := seqK_of d1 q1
        obtain ⟨k2, a', xs', gs, rfl, s', r', q1⟩ := seqK_of d2 q1
        refine ⟨k1, k2, a, a', xs, xs', rfl, ZM.SqK.mono hp_same s, ZM.SqK.mono hp_same s', k _ _ _ _ q1 f1 E1 ?_⟩
        refine ⟨_, _, ZM.walk_zipM (xs := xs) (ys := xs') (n := (zipD es gs).length) (by rw [zipD_len, ← r.length, ← r'.length]), fun A' H2 s2 => ⟨ZM.SqK.mono hp_same (ZM.SqK.mono s2 s), ZM.SqK.mono hp_same (ZM.SqK.mono s2 s')⟩, fun i d A' H2 x H3 hd s2 oc y => ?_⟩
        obtain ⟨T, x1, y1, rfl, hT, e, e1, e2⟩ := y
        obtain ⟨c1, g1, q1'⟩ := r.get e1
        obtain ⟨c2, g2, q2'⟩ := r'.get e2
        rw [zipD_get hd g1 g2]
        exact yPair (A := fun _ => False) (H := H) hT e oc (q1'.mono s2) (q2'.mono s2)
  · exact q1.elim
end
/-! is not True -/
theorem op_notB {X : Cx} : OpR X (compareOp .IsNot) (fun x y H Q => ∃ b, y = .bl b ∧ (∀ n, x ≠ .ty n) ∧ Q (.bl (!decide (x = .bl b))) H) := by
  intro pins s σ H x y v u Q I rx ry h
  obtain ⟨b, rfl, nt, q⟩ := h
  cases ry
  have key : ∀ c : Bool, (!decide (x = V.bl b)) = c → wpAny (model X.prog X.w) X.A (pure (.bool c)) (EP X pins σ Q) X.xe s := fun c e => wpAny_pure ⟨.bl c, H, I, rfl, by rw [← e]; exact q⟩
  cases x with
  | non => cases rx; exact key true rfl
  | bl c => cases rx; cases c <;> cases b <;> first | exact key true rfl | exact key false rfl
  | int i => obtain ⟨t, rfl⟩ := rx; exact key true rfl
  | str i => obtain ⟨t, rfl⟩ := rx; exact key true rfl
  | byt i => obtain ⟨t, rfl⟩ := rx; exact key true rfl
  | flt i => obtain ⟨t, rfl⟩ := rx; exact key true rfl
  | ref a => cases rx; exact key true rfl
  | ty n => exact absurd rfl (nt n)
def oIsntT : G2 := fun a d P => match d with
  | .bool b => P (.bool (!isBool b a))
  | _ => False
theorem rr_notB {K : PySem.W.Frag} : RR K (fun x y H Q => ∃ b, y = .bl b ∧ (∀ n, x ≠ .ty n) ∧ Q (.bl (!decide (x = .bl b))) H) oIsntT := by
  intro A H Q x y a c P oc da db g k
  unfold oIsntT at g
  split at g
  · next b =>
    cases db
    refine ⟨b, rfl, fun n => ?_, ?_⟩
    · cases da <;> exact fun z => nomatch z
    · have e : decide (x = V.bl b) = isBool b a := by
        cases da <;> first | rfl | (next z => cases z <;> cases b <;> rfl)
      rw [e]
      exact k _ _ _ g (Same.refl _) (.bl _)
  · exact g.elim
end DL
/-! own lists read as data while they stay own -/
namespace DL
open PySem L2 Z PySem.Spec PyProof.Rows
variable [Tbs]
section
variable {K : PySem.W.Frag} {n : Nat} {J : Jv n}
def frz : Sl → Sl
  | .own ds => .fz (.list ds)
  | s => s
def noA : Nat → Option Addr := fun _ => none
theorem own_no {a : Addr} {as : Nat → Option Addr} (h : Own noA a) : Own as a := by
  rcases h with ⟨_, h⟩ | h
  · cases h
  · exact .inr h
theorem EnR.view {O : Addr → Prop} {as : Nat → Option Addr} {H : Hp} {ρ : En} {σ : L2.St} (E : EnR K J O as H ρ σ) : EnR K (J0 : Jv n) O noA H (ρ.map frz) σ := by
  have hS : Same (hp (Hid O as) H) (hp (Hid O noA) H) := hp_less fun a h => by
    rcases h with h | h
    · exact .inl h
    · exact .inr (own_no h)
  refine ⟨by rw [List.length_map]; exact E.len, fun i sl o h1 h2 => ?_, fun i j a h1 => (by cases h1), fun i a h => (by cases h), fun i a h => (by cases h), E.occ, trivial, trivial, E.tab⟩
  rw [List.getElem?_map] at h1
  cases e : ρ[i]? with
  | none => rw [e] at h1; cases h1
  | some s =>
    rw [e] at h1
    cases h1
    have r := E.at_ i s o e h2
    show SlR K _ _ none _ _
    generalize as i = z at r
    cases r with
    | no => exact .no
    | fz q => exact .fz (q.mono hS)
    | @own a xs ds q z =>
      refine .fz (.lst (SqL.of (hp_mk (fun w => ?_) q)) (z.mono hS))
      obtain ⟨a', xs', e1, e2, e3, _⟩ := E.own_at e
      rw [e1] at h2
      cases h2
      rcases w with w | ⟨_, w⟩ | w
      · exact E.out i _ e2 w
      · cases w
      · exact E.tab.no q w
/-- but for tables nothing is changed -/
theorem EnR.still {O : Addr → Prop} {as : Nat → Option Addr} {H H' : Hp} {ρ : En} {σ : L2.St} (E : EnR K J O as H ρ σ) (f : FrA (Own noA) H H') (t : TabsOk H') : EnR K J O as H' ρ σ := by
  have f' : FrA (Own as) H H' := f.up fun a h => own_no h
  refine ⟨E.len, fun i sl o h1 h2 => (E.at_ i sl o h1 h2).mono (hp_fr f' own_hid) fun b hb => ?_, E.inj, E.out, E.bnd, fun a h => E.occ' f' t h, J.fr E.inv f', E.inq, t⟩
  obtain ⟨_, _, _, _, e, _⟩ := E.is_own hb
  rw [e]
  refine f _ _ (fun z => ?_) e
  rcases z with ⟨_, z⟩ | z
  · cases z
  · exact E.tab.no e z
def fBorT (f : FT) : FT := fun ρ P => f (ρ.map frz) fun b _ => P b ρ
theorem rt_bor {t : TT} {f : FT} (h : RT K (J0 : Jv n) t f) : RT K J t (fBorT f) := by
  intro O as σ H Q ρ P E q k
  refine h O noA σ H _ _ _ E.view q fun b ρ' H' p fr E' => ?_
  exact k b ρ H' p (fr.up fun a h => own_no h) (E.still fr E'.tab)
def plainD : PyData → Bool
  | .none => true
  | .bool _ => true
  | .int _ => true
  | .str _ => true
  | _ => false
theorem Dq.any {G G' : Hp} {v : V} {d : PyData} (h : plainD d = true) (q : Dq K G v d) : Dq K G' v d := by
  cases q with
  | non => exact .non
  | bl b => exact .bl b
  | int i => exact .int i
  | str x => exact .str x
  | _ => cases h
def fBorE (f : FE) : FE := fun ρ P => f (ρ.map frz) fun d _ => plainD d = true ∧ P d ρ
theorem re_bor {t : TE} {f : FE} (h : RE K (J0 : Jv n) t f) : RE K J t (fBorE f) := by
  intro O as σ H Q ρ P E q k
  refine h O noA σ H _ _ _ E.view q fun d ρ' v H' p fr E' dv => ?_
  exact k d ρ v H' p.2 (fr.up fun a h => own_no h) (E.still fr E'.tab) (dv.any p.1)
end
end DL
/-! a part of an own list replaced -/
namespace DL
open PySem L2 Z PySem.Spec PyProof.Rows
variable [Tbs]
def gSlc (to tl th : TE) : TG := fun v σ H Q => to σ H fun o H1 => tl σ H1 fun x H2 => th σ H2 fun y H3 => ∃ a b xs ys lo hi, o = .ref a ∧ v = .ref b ∧ x = .int lo ∧ y = .int hi ∧ H3 a = some (.lst xs) ∧ H3 b = some (.lst ys) ∧ a ≠ b ∧ 0 ≤ lo ∧ lo ≤ hi ∧ hi ≤ xs.length ∧ xs.length + ys.length ≤ sizeLine ∧ Q σ (upd H3 a (.lst (xs.take lo.toNat ++ ys ++ xs.drop hi.toNat)))
theorem pg_slc {X : Cx} {o l u : Expr} {p pos : Pos} {to tl th : TE} (ho : PE X o to) (hl : PE X l tl) (hu : PE X u th) : PG X (.Subscript o (.Slice (some l) (some u) none p) pos) (gSlc to tl th) := by
  refine ⟨fun pins s σ H v w Q I r h => ?_⟩
  rw [arm_assign_Subscript]
  refine wpAny_bind (wpAny_holding (thn (ho.run pins s σ H _ I h) fun ov s1 ⟨x, H1, I1, r1, q1⟩ => ?_))
  refine wpAny_bind (wpAny_holding (wpAny_Slice ?_))
  rw [evalPart_some, evalPart_some, evalPart_none]
  refine thn (hl.run pins s1 σ H1 _ I1 q1) fun vl s2 ⟨xl, H2, I2, r2, q2⟩ => ?_
  refine thn (hu.run pins s2 σ H2 _ I2 q2) fun vu s3 ⟨xu, H3, I3, r3, q3⟩ => wpAny_pure ?_
  obtain ⟨a, b, xs, ys, lo, hi, rfl, rfl, rfl, rfl, ea, eb, ne, h0, h1, h2, hz, q⟩ := q3
  cases r1
  cases r
  have I4 : Inv X pins σ H3 { s3 with heap := s3.heap.push { cls := .type "slice", data := .fields #[vl, vu, .none] } } := I3.kept (t' := s3.toks) fun _ _ z => Heap.get?_push_of_some _ z
  refine wpAny_bind (wpAny_standAt (wpAny_bind (wpAny_holding ?_)))
  exact set_slice I4 ea eb ne (Heap.IsSliceOf.new ..) r2 r3 h0 h1 h2 hz fun s' I5 => wpAny_release ⟨σ, _, I5, q⟩
section
variable {K : PySem.W.Frag} {n : Nat} {J : Jv n}
def fSetSl (i : Nat) (lo hi : FE) (f : FA) : FS := fun E ρ => f ρ fun es ρ1 => ownF ρ1 i fun _ => lo ρ1 fun x ρ2 => intF x fun a => hi ρ2 fun y ρ3 => intF y fun c => ownF ρ3 i fun ds => 0 ≤ a ∧ a ≤ c ∧ c ≤ ds.length ∧ ds.length + es.length ≤ sizeLine ∧ E.nx (ρ3.set i (.own (ds.take a.toNat ++ es ++ ds.drop c.toNat)))
theorem intF_of {v : V} {G : Hp} {d : PyData} {k : Int → Prop} (q : Dq K G v d) (h : intF d k) : ∃ i, v = .int i ∧ k i := by
  unfold intF at h
  split at h
  · cases q; exact ⟨_, rfl, h⟩
  · exact h.elim
theorem rs_setSl {i : Nat} {te tl th : TE} {f : FA} {lo hi : FE} (h : RN K J te f) (hl : RE K J tl lo) (hh : RE K J th hi) : RS K J (tAsg te (gSlc (tVar i) tl th)) (fSetSl i lo hi f) := by
  intro O as σ H D ρ E R q C
  refine h O as σ H _ ρ _ R q fun es ρ1 p ys H1 q1 f1 hp0 E1 hp1 d1 => ?_
  obtain ⟨ds0, h0, q1⟩ := ownF_of q1
  obtain ⟨a, xs0, e1, e2, _, _⟩ := E1.own_at h0
  refine ⟨_, e1, ?_⟩
  refine hl (plus O p) as σ H1 _ ρ1 _ E1 q1 fun x ρ2 v H2 q2 f2 E2 d2 => ?_
  obtain ⟨lo', rfl, q2⟩ := intF_of d2 q2
  refine hh (plus O p) as σ H2 _ ρ2 _ E2 q2 fun y ρ3 w H3 q3 f3 E3 d3 => ?_
  obtain ⟨hi', rfl, q3⟩ := intF_of d3 q3
  obtain ⟨ds, hds, c0, c1, c2, c3, q3⟩ := ownF_of q3
  obtain ⟨a', xs, e1', e2', e3, e4⟩ := E3.own_at hds
  rw [e2] at e2'
  cases e2'
  have np : ¬ Own as p := fun z => R.fresh hp0 (.inr z)
  have f23 := f2.trans f3
  have hp3 := f23 _ _ np hp1
  have d1' := d1.fr f23
  refine ⟨a, p, xs, ys, lo', hi', rfl, rfl, rfl, rfl, e3, hp3, fun z => np (by rw [← z]; exact .inl ⟨i, e2⟩), c0, c1, by rw [e4.length]; exact c2, by rw [e4.length, d1.length]; exact c3, ?_⟩
  have E4 := (E3.put e2 ((((e4.take lo'.toNat).append d1').append (e4.drop hi'.toNat)))).lessO R.inq
  refine C.nx _ _ _ _ q3 (.of ((f1.trans f23).trans fun b o nb e => ?_)) E4
  rw [upd_ne (fun z : b = a => nb (by rw [z]; exact .inl ⟨i, e2⟩))]
  exact e
end
abbrev rListOf (K : PySem.W.Frag) : List V → Hp → VK → Prop := fun xs H Q => ∃ p ys, xs = [.ref p] ∧ (SqL K H p ys ∨ SqT K H p ys) ∧ ∀ l, H l = none → Q (.ref l) (upd H l (.lst ys))
theorem call_listK {X : Cx} {K : PySem.W.Frag} (h : X.K = K) : CallR X (.type "list") (rListOf K) := by
  subst h
  exact call_list_of
end DL
/-! the end of a law whose def runs while no repr is under way, with one table of code objects -/
namespace Z
open PySem L2 PySem.Spec PyProof.Rows
theorem law_callTG {P : Program} {w : World} {K : PySem.W.Frag} {mg mb : Str → Option Value} {k : Nat} {fa a cd tb : Addr} {fd : FuncData} {x : Str} {sp : Sp} {s₁ : Shared} {vs : List Value} {ns : List Int}
    (kin : K.In s₁.heap) (ng : s₁.heap.Ns mainGlobals mg) (nb : s₁.heap.Ns builtinsNs mb) (boot : ∀ x : Str, x ≠ "__name__" → mb x = bootBuiltins x) (nolim : s₁.heap.NoLimit) (nogen : s₁.gens = #[])
    (at_t : s₁.heap.get? tb = some { cls := .none, data := .fields #[] }) (noT : K.lookup tb = none) (code : PySem.W.CodeHd s₁.heap cd tb)
    (bmod : ∃ (bm : Addr) (ob : Obj), mg "__builtins__" = some (.ref bm) ∧ bm ≠ builtinsNs ∧ s₁.heap.get? bm = some ob ∧ ob.cls = .type "module" ∧ ob.dict = some builtinsNs ∧ ob.data = .plain)
    (at_a : s₁.heap.get? a = some { cls := .type "list", data := .seq vs.toArray }) (ints_ : IntsAre vs ns) (few : ns.length ≤ sizeLine) (room : Room k callerA)
    (F : ∀ base : Heap, K.In base → base.Ns mainGlobals mg → LamX.TabB base mg cd tb → FnG P w K mg base k fa fd [x] sp) (bind : ∀ (s : Shared) (u : Value), BindsTo s fd ⟨[u], []⟩ [(x, u)])
    (want : ∀ H : Hp, H tb = some (.tbl #[]) → SqL K H a (ns.map V.int) → sp [.ref a] H (fun v _ => v = .bl true) fun _ _ _ => False) :
    codeAny (model P w) callerA (.call (.ref fa) ⟨[.ref a], []⟩) (fun r s' => r = .ok (.ret (.bool true)) ∧ OldK s₁.heap s'.heap ∧ s'.os = s₁.os ∧ AllBare s'.gens) s₁ := by
  have rel := vals_ints ints_
  have ne : a ≠ tb := fun z => by
    rw [z, at_t] at at_a
    have q : Data.fields #[] = Data.seq vs.toArray _ := congrArg Obj.data (Option.some.inj at_a)
    cases q
  have one : ∀ H : Hp, H tb = some (.tbl #[]) → (∀ b, b ≠ tb → H b = none ∨ ∃ o xs, H b = some (.frz o (.lst xs))) → SqL K H a (ns.map V.int) → HOk P w H s₁.heap → (∀ b, H b ≠ none → b = a ∨ b = tb) → (H a ≠ none → K.lookup a = none) →
      codeAny (model P w) callerA (.call (.ref fa) ⟨[.ref a], []⟩) (fun r s' => r = .ok (.ret (.bool true)) ∧ OldK s₁.heap s'.heap ∧ s'.os = s₁.os ∧ AllBare s'.gens) s₁ := by
    intro H hT only sq hok alone noK
    have out : ∀ {b : Addr} {o : Obj}, s₁.heap.get? b = some o → (∀ us m, o.data ≠ .seq us m) → o.data ≠ .fields #[] → H b = none := by
      intro b o e n1 n2
      refine Option.eq_none_iff_forall_ne_some.mpr fun u q => ?_
      rcases alone b (q ▸ Option.some_ne_none u) with hb | hb
      · rw [hb, at_a] at e
        injection e with e
        exact n1 _ _ (by rw [← e])
      · rw [hb, at_t] at e
        injection e with e
        exact n2 (by rw [← e])
    have nsIn : ∀ {b : Addr} {m : Str → Option Value}, s₁.heap.Ns b m → (hidT s₁.heap H).Ns b m := by
      rintro b m ⟨o, es, ep, e, d, r⟩
      exact ⟨o, es, ep, hidT_get e (out e (fun us m z => by rw [d] at z; cases z) fun z => by rw [d] at z; cases z), d, r⟩
    have kb : K.In (hidT s₁.heap H) := fun b o e => hidT_get (kin b o e) (Option.eq_none_iff_forall_ne_some.mpr fun u q => by
      rcases alone b (q ▸ Option.some_ne_none u) with hb | hb
      · rw [hb] at q e
        rw [noK (q ▸ Option.some_ne_none u)] at e
        cases e
      · rw [hb, noT] at e
        cases e)
    have lim' : (hidT s₁.heap H).NoLimit := by
      obtain ⟨mc, h1, h2⟩ := nolim
      exact ⟨mc, nsIn h1, h2⟩
    have gT : mainGlobals ≠ tb := fun z => by
      obtain ⟨o, es, ep, e, hd, _⟩ := ng
      rw [z, at_t] at e
      injection e with e
      rw [← e] at hd
      cases hd
    have tab : LamX.TabB (hidT s₁.heap H) mg cd tb := by
      refine ⟨?_, ?_, gT⟩
      · obtain ⟨o, us, fl, tf, flg, tg, inF, tx, tt, e1, r1, r2, r3, rest⟩ := code
        refine ⟨o, us, fl, tf, flg, tg, inF, tx, tt, hidT_get e1 (out e1 (fun us m z => by rw [r2] at z; cases z) fun z => ?_), r1, r2, r3, rest⟩
        rw [r2] at z
        injection z with z
        rw [z] at r3
        simp at r3
      · obtain ⟨bm, ob, b1, b2, b3, b4, b5, b6⟩ := bmod
        refine ⟨bm, ob, b1, b2, fun q => ?_, fun q => ?_, hidT_get b3 (out b3 (fun us m z => by rw [b6] at z; cases z) fun z => by rw [b6] at z; cases z), b4, b5, b6⟩
        · obtain ⟨o, es, ep, e, hd, _⟩ := ng
          rw [q, e] at b3
          injection b3 with b3
          rw [b3, b6] at hd
          cases hd
        · rw [q, at_t] at b3
          injection b3 with b3
          rw [← b3] at b6
          cases b6
    have start0 : Env0 P w K mg (hidT s₁.heap H) callerA [] s₁ H :=
      ⟨rfl, ⟨kb, nsIn ng, ⟨mb, nsIn nb, boot⟩, lim'⟩, fun b o e => of_hidT e, Nat.le_of_eq (hidT_size _ _), trivial, (fun b hb => (List.not_mem_nil hb).elim), hok, .of_eq nogen⟩
    refine codeAny_mono ((F _ kb (nsIn ng) tab).goes callerA [] s₁ H ⟨[.ref a], []⟩ [.ref a] [.ref a] _ _ room rfl start0 (bind s₁ (.ref a)) (.cons rfl .nil) (want H hT sq)) ?_
    intro res s' post
    match res, post with
    | .ok .next, post => exact (post : False).elim
    | .ok .brk, post => exact (post : False).elim
    | .ok .cont, post => exact (post : False).elim
    | .error _, post => exact (post : False).elim
    | .ok (.ret u), post =>
      obtain ⟨v, H', os, bare, un, hok', rv, q⟩ := post
      cases (show v = .bl true from q)
      cases (show u = Value.bool true from rv)
      have stay : ∀ b o, b ≠ tb → s₁.heap.get? b = some o → s'.heap.get? b = some o := fun b o nb e => by
        rcases only b nb with z | ⟨ob, xs, z⟩
        · exact un.keep b o e z (fun q => by cases q) (fun q => by cases q)
        · have e1 := (hok b _ z).1
          have e2 := (hok' b _ (un.frzs b ob _ z)).1
          rw [e] at e1
          injection e1 with e1
          rw [e1]
          exact e2
      obtain ⟨more, gz⟩ := un.tbls tb #[] hT
      have grown : s'.heap.get? tb = some { cls := .none, data := .fields (#[] ++ more) } := hok' tb _ gz
      refine ⟨rfl, ⟨fun b o e => ?_, fun b o e => ?_⟩, os, bare⟩
      · by_cases hb : b = tb
        · rw [hb] at e ⊢
          rw [at_t] at e
          cases e
          exact .inr (.inl ⟨(code.tab at_t).isCodeTable, rfl, #[], more, rfl, grown⟩)
        · exact .inl (stay b o hb e)
      · by_cases hb : b = tb
        · rw [hb]
          exact ⟨_, grown⟩
        · exact ⟨o, stay b o hb e⟩
  by_cases hk : K.lookup a = none
  · refine one (fun b => if b = a then some (.frz { cls := .type "list", data := .seq vs.toArray } (.lst (ns.map V.int))) else if b = tb then some (.tbl #[]) else none) ?_ (fun b nb => ?_)
      (.inl (.inr ⟨_, if_pos rfl⟩)) (fun b u z => ?_) (fun b z => ?_) fun _ => hk
    · exact (if_neg (fun z => ne z.symm)).trans (if_pos rfl)
    · exact if h : b = a then .inr ⟨_, _, if_pos h⟩ else .inl ((if_neg h).trans (if_neg nb))
    · by_cases h : b = a
      · dsimp only at z
        rw [if_pos h] at z
        cases z
        rw [h]
        exact ⟨at_a, by rw [List.length_map]; exact few, vs, _, rel, at_a⟩
      · dsimp only at z
        rw [if_neg h] at z
        by_cases h2 : b = tb
        · rw [if_pos h2] at z
          cases z
          rw [h2]
          exact at_t
        · rw [if_neg h2] at z
          cases z
    · by_cases h : b = a
      · exact .inl h
      · by_cases h2 : b = tb
        · exact .inr h2
        · exact (z ((if_neg h).trans (if_neg h2))).elim
  · obtain ⟨o, ho⟩ := Option.ne_none_iff_exists'.mp hk
    have e := kin a o ho
    rw [at_a] at e
    injection e with e
    refine one (fun b => if b = tb then some (.tbl #[]) else none) (if_pos rfl) (fun b nb => .inl (if_neg nb)) (.inr ⟨_, vs.toArray, _, ho, by rw [← e], by rw [← e], by rw [← e], ?_, ?_⟩) (fun b u z => ?_) (fun b z => ?_) fun z => (z (if_neg ne)).elim
    · rw [List.size_toArray, ints_.length]
      exact few
    · simpa using rel
    · by_cases h2 : b = tb
      · dsimp only at z
        rw [if_pos h2] at z
        cases z
        rw [h2]
        exact at_t
      · dsimp only at z
        rw [if_neg h2] at z
        cases z
    · by_cases h2 : b = tb
      · exact .inr h2
      · exact (z (if_neg h2)).elim
/-- what is known at the head's heap -/
def LawAtG (l : PySem.W.OpenLaw) (w : World) (K : PySem.W.Frag) (k n : Nat) (x : Str) (mg : Str → Option Value) (fa : Addr) (h : Heap) : Prop :=
  ∃ (fd : FuncData) (cd tb : Addr) (sp : Sp), h.get? tb = some { cls := .none, data := .fields #[] } ∧ K.lookup tb = none ∧ PySem.W.CodeHd h cd tb ∧ (∀ (s : Shared) (u : Value), BindsTo s fd ⟨[u], []⟩ [(x, u)]) ∧
    (∀ (H : Hp) (a : Addr) (ns : List Int), ns.length ≤ n → H tb = some (.tbl #[]) → SqL K H a (ns.map V.int) → sp [.ref a] H (fun v _ => v = .bl true) fun _ _ _ => False) ∧
    ∀ base : Heap, K.In base → base.Ns mainGlobals mg → LamX.TabB base mg cd tb → FnG l.prog w K mg base k fa fd [x] sp
theorem walk_ofTG {l : PySem.W.OpenLaw} {n k : Nat} {q : Program} {loose : List Str} {XP : (Str → Option Value) → Heap → Prop} {YP : World → Heap → Prop} {d : DefRec} {K : Params → PySem.W.Frag} {x : Str}
    (most : l.most = some n) (line : n ≤ sizeLine) (nodef : d.params.defaults = []) (room : Room k callerA) (kin : ∀ (w : World) (h : Heap), YP w h → (K w.params).In h)
    (F : ∀ (w : World) (mg : Str → Option Value) (fa : Addr) (h : Heap), YP w h → (K w.params).In h → h.Ns mainGlobals mg → mg d.name = some (.ref fa) → LawAtG l w (K w.params) k n x mg fa h) :
    PySem.W.WalkO q loose XP YP l.row.toRowW d [] (fun f vs => PySem.call f vs) := by
  refine Att.attach_callB most nodef fun w s₀ s₁ mg mb fa o pm cd doc a vs ns G Y ho hd hcd hmg hobj hints hlen hbits hg => ?_
  obtain ⟨fd, c, tb, sp, g1, g2, g3, hb, hsp, hF⟩ := F w mg fa _ Y (kin w _ Y) G.T.g hmg
  exact law_callTG (kin w _ Y) G.T.g G.T.b G.T.builtins G.T.nolimit hg g1 g2 g3 G.T.bmain hobj hints (Nat.le_trans hlen line) room hF hb fun H hH hS => hsp H a ns hlen hH hS
end Z
namespace DL
open PySem
theorem numD_int (i : Int) : numD (.int i) = some i := rfl
theorem numD_bool (b : Bool) : numD (.bool b) = some (if b then 1 else 0) := rfl
end DL
/-! how long data's text may be -/
namespace Z
open PySem L2 TL
mutual
def szD : PyData → Nat
  | .none => 4
  | .bool _ => 5
  | .int i => (Str.ofString (toString i)).length
  | .str x => 10 * x.length + 2
  | .list xs => szAll xs + 2
  | .tuple xs => szAll xs + 3
  | .dict _ => 0
def szAll : List PyData → Nat
  | [] => 0
  | x :: r => szD x + 2 + szAll r
end
theorem slen_append (x y : Str) : (x ++ y).length = x.length + y.length := by rw [len_tl, len_tl x, len_tl y, tl_append, List.length_append]
theorem textFrom_le : ∀ (ts : List Str) (k : Nat) (acc : Str), (textFrom k acc ts).length ≤ acc.length + piled ts
  | [], _, acc => Nat.le_add_right _ _
  | t :: ts, k, acc => by
    have ih := textFrom_le ts (k + 1) (acc ++ Str.ofString (if k > 0 then ", " else "" : String) ++ t)
    rw [slen_append, slen_append] at ih
    have e : (Str.ofString (if k > 0 then ", " else "" : String)).length ≤ 2 := by
      split
      · exact (by decide +kernel : (Str.ofString ", ").length ≤ 2)
      · exact (by decide +kernel : (Str.ofString "").length ≤ 2)
    have p : piled (t :: ts) = t.length + 2 + piled ts := by simp [piled]
    show (textFrom (k + 1) (acc ++ Str.ofString (if k > 0 then ", " else "" : String) ++ t) ts).length ≤ _
    rw [p]
    omega
theorem listText_le (ts : List Str) : (listText ts).length ≤ piled ts + 2 := by
  have h := textFrom_le ts 0 (Str.ofString "[")
  have e1 : (Str.ofString "[").length = 1 := by decide +kernel
  have e2 : (Str.ofString "]").length = 1 := by decide +kernel
  show (textFrom 0 (Str.ofString "[") ts ++ Str.ofString "]").length ≤ _
  rw [slen_append]
  omega
theorem join_le : ∀ ts : List Str, (Str.join (Str.ofString ", ") ts).length ≤ piled ts
  | [] => Nat.zero_le _
  | t :: ts => by
    have h := join_length_add (t :: ts) (by simp)
    have h' : (Str.join (Str.ofString ", ") (t :: ts)).length + 2 = piled (t :: ts) := h
    omega
theorem tupleText_le (ts : List Str) : (tupleText ts).length ≤ piled ts + 3 := by
  have h := join_le ts
  have e1 : (Str.ofString "(").length = 1 := by decide +kernel
  have e2 : (Str.ofString (if (ts.length == 1) = true then ",)" else ")" : String)).length ≤ 2 := by
    split
    · exact (by decide +kernel : (Str.ofString ",)").length ≤ 2)
    · exact (by decide +kernel : (Str.ofString ")").length ≤ 2)
  show (Str.ofString "(" ++ Str.join (Str.ofString ", ") ts ++ Str.ofString (if (ts.length == 1) = true then ",)" else ")" : String)).length ≤ _
  rw [slen_append, slen_append]
  omega
mutual
theorem shown_le : ∀ d : PyData, d.canLay0 = true → d.shown.length ≤ szD d
  | .none, _ => (by decide +kernel : (Str.ofString "None").length ≤ 4)
  | .bool true, _ => (by decide +kernel : (Str.ofString "True").length ≤ 5)
  | .bool false, _ => (by decide +kernel : (Str.ofString "False").length ≤ 5)
  | .int i, _ => Nat.le_refl _
  | .str x, h => by
    refine StrLaws.reprText_len x fun c hc => ?_
    have h' : (x.cps.all (· < 0x110000)) = true := h
    have := (Array.all_eq_true_iff_forall_mem.mp h') c (Array.mem_toList_iff.mp hc)
    have := of_decide_eq_true this
    omega
  | .list xs, h => by
    have ih := shownAll_le xs h
    have := listText_le (PyData.shownAll xs)
    show (listText (PyData.shownAll xs)).length ≤ szAll xs + 2
    omega
  | .tuple xs, h => by
    have ih := shownAll_le xs h
    have := tupleText_le (PyData.shownAll xs)
    show (tupleText (PyData.shownAll xs)).length ≤ szAll xs + 3
    omega
  | .dict _, h => by cases h
theorem shownAll_le : ∀ ds : List PyData, PyData.canLayAll0 ds = true → piled (PyData.shownAll ds) ≤ szAll ds
  | [], _ => Nat.zero_le _
  | x :: r, h => by
    have h' : (x.canLay0 && PyData.canLayAll0 r) = true := h
    rw [Bool.and_eq_true] at h'
    have h1 := shown_le x h'.1
    have h2 := shownAll_le r h'.2
    have e : piled (PyData.shownAll (x :: r)) = x.shown.length + 2 + piled (PyData.shownAll r) := by
      show piled (x.shown :: PyData.shownAll r) = _
      simp [piled]
    rw [e]
    show _ ≤ szD x + 2 + szAll r
    omega
end
theorem szInt {i : Int} (h0 : 0 ≤ i) (h : i < 10 ^ 10) : szD (.int i) ≤ 10 := PyProof.Rows.toString_length_le h0 (by decide) h
end Z
namespace K
open PySem L2 Z TL DL
local macro_rules | `(tactic| walk_at "z1") => `(tactic| first | with_reducible refine iteT ?_ | with_reducible refine iteF ?_ | with_reducible refine iteDS rfl ?_ | with_reducible refine iteNS rfl ?_ | ((with_reducible refine iteDN ?hN ?_); (case hN => (intro h; cases h; done))) | ((with_reducible refine iteNDN ?hN ?_); (case hN => (intro h; cases h; done))) | ((fail_if_success (with_reducible refine iteD (fun _ => ?_) (fun _ => ?_))); (fail_if_success (with_reducible refine iteND (fun _ => ?_) (fun _ => ?_))); first
  | refine ⟨_, rfl, ?_⟩
  | refine ⟨_, _, rfl, rfl, ?_⟩
  | refine ⟨rfl, ?_⟩
  | refine ⟨(by show (0 : Int) < _; first | decide | omega), ?_⟩
  | refine ⟨⟨by decide, by decide⟩, ?_⟩
  | refine ⟨⟨(by show (0 : Int) < _; omega), (by show _ < (1073741824 : Int); omega)⟩, ?_⟩
  | refine ⟨⟨by decide, by decide, by decide⟩, ?_⟩
  | refine ⟨.inl ⟨by omega, by omega⟩, ?_⟩
  | refine ⟨.inr ⟨by omega, by omega⟩, ?_⟩
  | refine .inl ⟨_, rfl, ?_⟩
  | refine .inr ⟨_, rfl, ?_⟩
  | refine ⟨_, _, _, _, rfl, rfl, SqL.of (by assumption), rfl, ?_⟩
  | refine ⟨_, _, _, _, rfl, rfl, SqL.of upd_same, rfl, ?_⟩
  | refine ⟨_, _, _, _, rfl, rfl, (by assumption), rfl, ?_⟩
  | refine ⟨_, _, _, _, rfl, rfl, upd_same, rfl, ?_⟩
  | refine ⟨_, _, rfl, SqT.of upd_same, rfl, ?_⟩
  | refine ⟨_, _, rfl, ?_⟩
  | refine ⟨Nat.le_of_ble_eq_true rfl, ?_⟩
  | refine ⟨_, _, _, _, true, rfl, .ty _, .base (.str _), kit_ty (by decide +kernel), ?_⟩
  | refine ⟨_, _, _, _, false, rfl, .ty _, .base (.str _), kit_ty (by decide +kernel), ?_⟩
  | refine ⟨_, _, _, _, true, rfl, .ty _, .base (.int _), kit_ty (by decide +kernel), ?_⟩
  | refine ⟨_, _, _, _, false, rfl, .ty _, .base (.int _), kit_ty (by decide +kernel), ?_⟩))
local macro_rules | `(tactic| walk_at "z") => `(tactic| repeat walk_at "z1")
instance tbs : Tbs := ⟨[(67, "part_heap.<locals>.<lambda>")]⟩
/-! ### levels: plain part -/
def sumP (l : List (Int × Int)) : Int := (l.map (·.1)).sum
def sumL (l : List (Int × Int)) : Int := (l.map (·.2)).sum
/-- what all get, times B, at the level T / B -/
def atLv (T B : Int) (l : List (Int × Int)) : Int := (l.map fun p => max (p.2 * B) (T * p.1)).sum
theorem sumP_cons (p : Int × Int) (l : List (Int × Int)) : sumP (p :: l) = p.1 + sumP l := by unfold sumP; rw [List.map_cons, List.sum_cons]
theorem sumL_cons (p : Int × Int) (l : List (Int × Int)) : sumL (p :: l) = p.2 + sumL l := by unfold sumL; rw [List.map_cons, List.sum_cons]
theorem atLv_cons (T B : Int) (p : Int × Int) (l : List (Int × Int)) : atLv T B (p :: l) = max (p.2 * B) (T * p.1) + atLv T B l := by unfold atLv; rw [List.map_cons, List.sum_cons]
/-- above the level -/
def isUp (T B : Int) (p : Int × Int) : Bool := decide (p.2 * B < T * p.1)
def ups (T B : Int) (l : List (Int × Int)) : List (Int × Int) := l.filter (isUp T B)
structure AskW (l : List (Int × Int)) : Prop where
  p0 : ∀ p ∈ l, 1 ≤ p.1
  l0 : ∀ p ∈ l, 0 ≤ p.2
theorem sumP_pos {l : List (Int × Int)} (w : AskW l) : (l.length : Int) ≤ sumP l := by
  induction l with
  | nil => exact Int.le_refl _
  | cons p l ih =>
    rw [sumP_cons, List.length_cons]
    have := ih ⟨fun q h => w.p0 q (List.mem_cons_of_mem _ h), fun q h => w.l0 q (List.mem_cons_of_mem _ h)⟩
    have := w.p0 p List.mem_cons_self
    omega
theorem sumL_nn {l : List (Int × Int)} (w : AskW l) : 0 ≤ sumL l := by
  induction l with
  | nil => exact Int.le_refl _
  | cons p l ih =>
    rw [sumL_cons]
    have := ih ⟨fun q h => w.p0 q (List.mem_cons_of_mem _ h), fun q h => w.l0 q (List.mem_cons_of_mem _ h)⟩
    have := w.l0 p List.mem_cons_self
    omega
theorem AskW.ups {l : List (Int × Int)} (w : AskW l) (T B : Int) : AskW (ups T B l) := ⟨fun p h => w.p0 p (List.mem_filter.mp h).1, fun p h => w.l0 p (List.mem_filter.mp h).1⟩
/-- those that are not above: T times their prices is at most B times their leasts -/
theorem not_up (T B : Int) (l : List (Int × Int)) : T * (sumP l - sumP (ups T B l)) ≤ B * (sumL l - sumL (ups T B l)) := by
  induction l with
  | nil => show T * (0 - 0) ≤ B * (0 - 0); simp
  | cons p l ih =>
    unfold ups
    rw [List.filter_cons]
    by_cases h : p.2 * B < T * p.1
    · rw [show isUp T B p = true from decide_eq_true h, if_pos rfl, sumP_cons, sumL_cons, sumP_cons, sumL_cons]
      rw [show p.1 + sumP l - (p.1 + sumP (l.filter (isUp T B))) = sumP l - sumP (l.filter (isUp T B)) from by omega, show p.2 + sumL l - (p.2 + sumL (l.filter (isUp T B))) = sumL l - sumL (l.filter (isUp T B)) from by omega]
      exact ih
    · rw [show isUp T B p = false from decide_eq_false h, if_neg (by decide), sumP_cons, sumL_cons]
      rw [show p.1 + sumP l - sumP (l.filter (isUp T B)) = p.1 + (sumP l - sumP (l.filter (isUp T B))) from by omega, show p.2 + sumL l - sumL (l.filter (isUp T B)) = p.2 + (sumL l - sumL (l.filter (isUp T B))) from by omega, Int.mul_add, Int.mul_add]
      have h1 : T * p.1 ≤ B * p.2 := by rw [Int.mul_comm B]; omega
      have : T * (sumP l - sumP (l.filter (isUp T B))) ≤ B * (sumL l - sumL (l.filter (isUp T B))) := ih
      omega
/-- if all are above, all together get T times their prices -/
theorem atLv_all {T B : Int} {l : List (Int × Int)} (h : ∀ p ∈ l, p.2 * B < T * p.1) : atLv T B l = T * sumP l := by
  induction l with
  | nil => show (0 : Int) = T * 0; rw [Int.mul_zero]
  | cons p l ih =>
    rw [atLv_cons, sumP_cons, ih fun q hq => h q (List.mem_cons_of_mem _ hq), Int.mul_add]
    have := h p List.mem_cons_self
    omega
/-- those that are not above at T' / B' are not above at T / B -/
theorem atLv_ups {T B T' B' : Int} {l : List (Int × Int)} (h : ∀ p ∈ l, ¬ p.2 * B' < T' * p.1 → T * p.1 ≤ p.2 * B) : atLv T B l = atLv T B (ups T' B' l) + B * (sumL l - sumL (ups T' B' l)) := by
  induction l with
  | nil => show (0 : Int) = 0 + B * (0 - 0); simp
  | cons p l ih =>
    have ih' := ih fun q hq => h q (List.mem_cons_of_mem _ hq)
    unfold ups at ih' ⊢
    rw [List.filter_cons]
    by_cases hp : p.2 * B' < T' * p.1
    · rw [show isUp T' B' p = true from decide_eq_true hp, if_pos rfl, sumL_cons, sumL_cons, atLv_cons, atLv_cons, ih']
      rw [show p.2 + sumL l - (p.2 + sumL (l.filter (isUp T' B'))) = sumL l - sumL (l.filter (isUp T' B')) from by omega]
      omega
    · rw [show isUp T' B' p = false from decide_eq_false hp, if_neg (by decide), sumL_cons, atLv_cons, ih']
      rw [show p.2 + sumL l - sumL (l.filter (isUp T' B')) = p.2 + (sumL l - sumL (l.filter (isUp T' B'))) from by omega, Int.mul_add]
      have := h p List.mem_cons_self hp
      rw [Int.mul_comm B p.2]
      omega
/-- a level found for l: by it all of l get c more than their leasts; it is no greater than that of all of them above -/
structure LvOk (c T B : Int) (l : List (Int × Int)) : Prop where
  b0 : 0 < B
  t0 : 0 < T
  le : T * sumP l ≤ (c + sumL l) * B
  all : atLv T B l = (c + sumL l) * B
theorem le_of_mul {a b k : Int} (hk : 0 < k) (h : a * k ≤ b * k) : a ≤ b := by
  rcases Int.lt_or_le b a with q | q
  · exact absurd (Int.mul_lt_mul_of_pos_right q hk) (by omega)
  · exact q
theorem lv_step {c T B : Int} {l : List (Int × Int)} (w : AskW l) (hb : 0 < sumP l) (h : LvOk c T B (ups (c + sumL l) (sumP l) l)) (hb' : 0 < sumP (ups (c + sumL l) (sumP l) l)) : LvOk c T B l := by
  have n := not_up (c + sumL l) (sumP l) l
  have wu := w.ups (c + sumL l) (sumP l)
  obtain ⟨b0, t0, le, all⟩ := h
  have key : T * sumP l ≤ (c + sumL l) * B := by
    generalize ups (c + sumL l) (sumP l) l = u at n le all hb'
    refine le_of_mul hb' ?_
    -- (c + sumL u) * sumP l ≤ (c + sumL l) * sumP u
    have n2 : (c + sumL u) * sumP l ≤ (c + sumL l) * sumP u := by
      rw [Int.mul_sub, Int.mul_sub, Int.mul_comm (sumP l) (sumL l), Int.mul_comm (sumP l) (sumL u)] at n
      rw [Int.add_mul] at n ⊢
      rw [Int.add_mul] at n ⊢
      omega
    calc T * sumP l * sumP u = T * sumP u * sumP l := by rw [Int.mul_assoc, Int.mul_comm (sumP l), ← Int.mul_assoc]
      _ ≤ (c + sumL u) * B * sumP l := Int.mul_le_mul_of_nonneg_right le (by omega)
      _ = (c + sumL u) * sumP l * B := by rw [Int.mul_assoc, Int.mul_comm B, ← Int.mul_assoc]
      _ ≤ (c + sumL l) * sumP u * B := Int.mul_le_mul_of_nonneg_right n2 (by omega)
      _ = (c + sumL l) * B * sumP u := by rw [Int.mul_assoc, Int.mul_comm (sumP u), ← Int.mul_assoc]
  refine ⟨b0, t0, key, ?_⟩
  rw [atLv_ups (T' := c + sumL l) (B' := sumP l) fun p hp hn => ?_, all]
  · rw [Int.mul_comm B, ← Int.add_mul]
    congr 1
    omega
  · refine le_of_mul hb ?_
    have hp0 := w.p0 p hp
    calc T * p.1 * sumP l = T * sumP l * p.1 := by rw [Int.mul_assoc, Int.mul_comm p.1, ← Int.mul_assoc]
      _ ≤ (c + sumL l) * B * p.1 := Int.mul_le_mul_of_nonneg_right key (by omega)
      _ = (c + sumL l) * p.1 * B := by rw [Int.mul_assoc, Int.mul_comm B, ← Int.mul_assoc]
      _ ≤ p.2 * sumP l * B := Int.mul_le_mul_of_nonneg_right (by omega) (by omega)
      _ = p.2 * B * sumP l := by rw [Int.mul_assoc, Int.mul_comm (sumP l), ← Int.mul_assoc]
theorem lv_stop {c : Int} {l : List (Int × Int)} (w : AskW l) (hc : 0 < c) (hb : 0 < sumP l) (h : ups (c + sumL l) (sumP l) l = l) : LvOk c (c + sumL l) (sumP l) l := by
  have := sumL_nn w
  refine ⟨hb, by omega, Int.le_refl _, ?_⟩
  refine atLv_all fun p hp => ?_
  rw [← h] at hp
  exact of_decide_eq_true (List.mem_filter.mp hp).2
/-- some are above -/
theorem ups_some {c : Int} {l : List (Int × Int)} (hc : 0 < c) (hb : 0 < sumP l) : ups (c + sumL l) (sumP l) l ≠ [] := by
  intro e
  have n := not_up (c + sumL l) (sumP l) l
  rw [e] at n
  have n' : (c + sumL l) * (sumP l - 0) ≤ sumP l * (sumL l - 0) := n
  rw [Int.sub_zero, Int.sub_zero, Int.mul_comm (sumP l), Int.add_mul] at n'
  have : 0 < c * sumP l := Int.mul_pos hc hb
  omega
theorem sumP_pos' {l : List (Int × Int)} (w : AskW l) (h : l ≠ []) : 0 < sumP l := by
  have := sumP_pos w
  have := List.length_pos_iff.mpr h
  omega
/-- in lowest terms -/
theorem atLv_div {T B g : Int} (hg : 0 < g) (l : List (Int × Int)) : atLv (T * g) (B * g) l = atLv T B l * g := by
  induction l with
  | nil => show (0 : Int) = 0 * g; rw [Int.zero_mul]
  | cons p l ih =>
    rw [atLv_cons, atLv_cons, ih, Int.add_mul]
    congr 1
    rw [show p.2 * (B * g) = p.2 * B * g from by rw [Int.mul_assoc], show T * g * p.1 = T * p.1 * g from by rw [Int.mul_assoc, Int.mul_comm g, Int.mul_assoc]]
    generalize p.2 * B = x
    generalize T * p.1 = y
    rcases Int.le_total x y with h | h
    · rw [Int.max_eq_right h, Int.max_eq_right (Int.mul_le_mul_of_nonneg_right h (by omega))]
    · rw [Int.max_eq_left h, Int.max_eq_left (Int.mul_le_mul_of_nonneg_right h (by omega))]
/-! ### heaps parted: plain part -/
/-- the whole pennies -/
def wh (T B : Int) (p : Int × Int) : Int := if isUp T B p then T * p.1 / B else p.2
def rm (T B : Int) (p : Int × Int) : Int := T * p.1 % B
def sumW (T B : Int) (l : List (Int × Int)) : Int := (l.map (wh T B)).sum
def sumR (T B : Int) (l : List (Int × Int)) : Int := ((ups T B l).map (rm T B)).sum
theorem wr_sum {T B : Int} (l : List (Int × Int)) : B * sumW T B l + sumR T B l = atLv T B l := by
  induction l with
  | nil => show B * 0 + 0 = (0 : Int); simp
  | cons p l ih =>
    rw [atLv_cons, ← ih]
    unfold sumW sumR ups
    rw [List.map_cons, List.sum_cons, List.filter_cons]
    unfold wh
    by_cases h : p.2 * B < T * p.1
    · rw [show isUp T B p = true from decide_eq_true h, if_pos rfl, if_pos rfl, List.map_cons, List.sum_cons, Int.max_eq_right (by omega)]
      have := Int.mul_ediv_add_emod (T * p.1) B
      unfold rm
      rw [Int.mul_add]
      unfold wh at *
      omega
    · rw [show isUp T B p = false from decide_eq_false h, if_neg (by decide), if_neg (by decide), Int.max_eq_left (by omega), Int.mul_add, Int.mul_comm B p.2]
      unfold wh at *
      omega
theorem sumR_bd {T B : Int} (hB : 0 < B) (l : List (Int × Int)) : 0 ≤ sumR T B l ∧ sumR T B l ≤ ((ups T B l).length : Int) * (B - 1) := by
  unfold sumR
  generalize ups T B l = u
  induction u with
  | nil => exact ⟨Int.le_refl _, by simp⟩
  | cons p u ih =>
    rw [List.map_cons, List.sum_cons, List.length_cons]
    have h1 := Int.emod_nonneg (T * p.1) (show B ≠ 0 by omega)
    have h2 := Int.emod_lt_of_pos (T * p.1) hB
    have e : ((u.length + 1 : Nat) : Int) * (B - 1) = (u.length : Int) * (B - 1) + (B - 1) := by
      rw [Int.natCast_add, Int.add_mul]; simp
    rw [e]
    unfold rm at ih ⊢
    omega
/-- the pennies that are left are no more than there are places for -/
theorem left_ok {T B m : Int} {l : List (Int × Int)} (hB : 0 < B) (z : atLv T B l = m * B) : 0 ≤ m - sumW T B l ∧ m - sumW T B l ≤ ((ups T B l).length : Int) := by
  have e := wr_sum (T := T) (B := B) l
  obtain ⟨r0, r1⟩ := sumR_bd (T := T) hB l
  have k : (m - sumW T B l) * B = sumR T B l := by
    rw [Int.sub_mul, ← z, ← e, Int.mul_comm (sumW T B l)]
    omega
  constructor
  · exact le_of_mul hB (by rw [k, Int.zero_mul]; exact r0)
  · refine le_of_mul hB ?_
    rw [k]
    have : ((ups T B l).length : Int) * (B - 1) ≤ ((ups T B l).length : Int) * B := Int.mul_le_mul_of_nonneg_left (by omega) (by omega)
    omega
/-- j comes ahead of i -/
def bef (g : Int → Int) (j i : Int) : Bool := decide (g i < g j) || (decide (g j = g i) && decide (j < i))
theorem bef_no {g : Int → Int} {j i : Int} (h : bef g j i = true) : bef g i j = false := by
  unfold bef at *
  simp only [Bool.or_eq_true, Bool.and_eq_true, decide_eq_true_eq, Bool.or_eq_false_iff, Bool.and_eq_false_iff, decide_eq_false_iff_not] at *
  omega
theorem bef_self {g : Int → Int} {i : Int} : bef g i i = false := by
  unfold bef
  simp
theorem mem_take_bef {g : Int → Int} : ∀ {l : List Int}, l.Pairwise (fun x y => bef g x y = true) → ∀ (r : Nat) (i : Int), i ∈ l.take r ↔ i ∈ l ∧ l.countP (bef g · i) < r
  | [], _, r, i => by simp
  | x :: l, h, 0, i => by simp
  | x :: l, h, r + 1, i => by
    obtain ⟨h1, h2⟩ := List.pairwise_cons.mp h
    rw [List.take_succ_cons, List.mem_cons, List.mem_cons]
    by_cases e : i = x
    · subst e
      have z : (i :: l).countP (bef g · i) = 0 := by
        rw [List.countP_eq_zero]
        intro y hy
        rcases List.mem_cons.mp hy with rfl | hy
        · rw [bef_self]; decide
        · rw [bef_no (h1 y hy)]; decide
      rw [z]
      simp
    · rw [mem_take_bef h2 r i, List.countP_cons]
      constructor
      · rintro (q | ⟨q1, q2⟩)
        · exact absurd q e
        · refine ⟨.inr q1, ?_⟩
          split <;> omega
      · rintro ⟨q | q, q2⟩
        · exact absurd q e
        · rw [if_pos (h1 i q)] at q2
          exact .inr ⟨q, by omega⟩
/-- the first r of what stands in order -/
theorem take_sorted {ns ns' : List Int} {g : Int → Int} (inc : ns.Pairwise (· < ·)) (pm : ns'.Perm ns) (pw : ns'.Pairwise (fun x y => g y ≤ g x)) (st : ∀ z, ns'.filter (fun x => g x == z) = ns.filter (fun x => g x == z)) (r : Nat) (i : Int) :
    i ∈ ns'.take r ↔ i ∈ ns ∧ ns.countP (bef g · i) < r := by
  have same : ns'.Pairwise (fun x y => g x = g y → x < y) := by
    have h : ∀ z, ns'.Pairwise (fun x y => (g x == z) = true → (g y == z) = true → x < y) := fun z => by
      rw [← List.pairwise_filter, st z]
      exact inc.filter _
    rw [List.pairwise_iff_getElem]
    intro a b ha hb hab e
    have := List.pairwise_iff_getElem.mp (h (g ns'[a])) a b ha hb hab
    exact this (by simp) (by simp [e])
  have tot : ns'.Pairwise (fun x y => bef g x y = true) := (pw.and same).imp fun {x y} ⟨h1, h2⟩ => by
    unfold bef
    simp only [Bool.or_eq_true, Bool.and_eq_true, decide_eq_true_eq]
    by_cases e : g x = g y
    · exact .inr ⟨e, h2 e⟩
    · exact .inl (by omega)
  rw [mem_take_bef tot, pm.mem_iff, pm.countP_eq]
/-- the places above the level -/
def oth (T B : Int) (l : List (Int × Int)) : List Int := (l.zipIdx.filter fun q => isUp T B q.1).map fun q => (q.2 : Int)
def gOf (T B : Int) (l : List (Int × Int)) (n : Int) : Int := rm T B (l.getD n.toNat (0, 0))
/-- what each gets -/
def gives (m T B : Int) (l : List (Int × Int)) : List Int := l.zipIdx.map fun q => wh T B q.1 + if (q.2 : Int) ∈ oth T B l ∧ ((oth T B l).countP (bef (gOf T B l) · (q.2 : Int)) : Int) < m - sumW T B l then 1 else 0
theorem oth_inc (T B : Int) (l : List (Int × Int)) : (oth T B l).Pairwise (· < ·) := by
  unfold oth
  rw [List.pairwise_map]
  refine List.Pairwise.filter _ ?_
  rw [List.pairwise_iff_getElem]
  intro a b ha hb hab
  simp only [List.getElem_zipIdx]
  omega
theorem mem_oth {T B : Int} {l : List (Int × Int)} {i : Int} : i ∈ oth T B l ↔ 0 ≤ i ∧ ∃ p, l[i.toNat]? = some p ∧ isUp T B p = true := by
  unfold oth
  rw [List.mem_map]
  constructor
  · rintro ⟨q, hq, rfl⟩
    obtain ⟨h1, h2⟩ := List.mem_filter.mp hq
    refine ⟨by omega, q.1, ?_, h2⟩
    rw [Int.toNat_natCast]
    exact List.mem_zipIdx_iff_getElem?.mp h1
  · rintro ⟨h0, p, h1, h2⟩
    exact ⟨(p, i.toNat), List.mem_filter.mpr ⟨List.mem_zipIdx_iff_getElem?.mpr h1, h2⟩, by show ((i.toNat : Nat) : Int) = i; omega⟩
theorem oth_len (T B : Int) (l : List (Int × Int)) : (oth T B l).length = (ups T B l).length := by
  unfold oth ups
  rw [List.length_map, ← List.countP_eq_length_filter, ← List.countP_eq_length_filter]
  have : (l.zipIdx.map (·.1)) = l := by simp
  conv => rhs; rw [← this]
  rw [List.countP_map]
  rfl
theorem sum_ind {α : Type} (xs : List α) (f : α → Int) (c : α → Prop) [DecidablePred c] : (xs.map fun x => f x + if c x then 1 else 0).sum = (xs.map f).sum + (xs.countP (fun x => decide (c x)) : Int) := by
  induction xs with
  | nil => rfl
  | cons x xs ih =>
    rw [List.map_cons, List.sum_cons, List.map_cons, List.sum_cons, List.countP_cons, ih]
    by_cases h : c x
    · simp only [h, if_true, decide_true]
      omega
    · simp only [h, if_false, decide_false, Bool.false_eq_true]
      omega
theorem filter_take {s : List Int} (nd : s.Nodup) (r : Nat) : s.filter (fun i => decide (i ∈ s.take r)) = s.take r := by
  conv => lhs; rw [← List.take_append_drop r s]
  rw [List.filter_append, List.take_append_drop]
  have h1 : (s.take r).filter (fun i => decide (i ∈ s.take r)) = s.take r := List.filter_eq_self.mpr fun i hi => decide_eq_true hi
  have h2 : (s.drop r).filter (fun i => decide (i ∈ s.take r)) = [] := by
    rw [List.filter_eq_nil_iff]
    intro i hi h
    have h := of_decide_eq_true h
    rw [← List.take_append_drop r s] at nd
    exact (List.nodup_append.mp nd).2.2 i h i hi rfl
  rw [h1, h2, List.append_nil]
def befE (g : Int → Int) (x y : Int) : Bool := bef g x y || x == y
theorem sel_len {g : Int → Int} {ns : List Int} (inc : ns.Pairwise (· < ·)) {r : Nat} (hr : r ≤ ns.length) : (ns.filter fun i => decide (ns.countP (bef g · i) < r)).length = r := by
  have pm : (ns.mergeSort (befE g)).Perm ns := List.mergeSort_perm _ _
  have nd : (ns.mergeSort (befE g)).Nodup := pm.nodup_iff.mpr (inc.imp fun h => by omega)
  have so : (ns.mergeSort (befE g)).Pairwise (fun x y => befE g x y = true) := List.pairwise_mergeSort (fun a b c h1 h2 => by
    unfold befE bef at *
    simp only [Bool.or_eq_true, Bool.and_eq_true, decide_eq_true_eq, beq_iff_eq] at *
    rcases h1 with h1 | rfl
    · rcases h2 with h2 | rfl
      · exact .inl (by omega)
      · exact .inl h1
    · exact h2) (fun a b => by
    unfold befE bef
    simp only [Bool.or_eq_true, Bool.and_eq_true, decide_eq_true_eq, beq_iff_eq]
    by_cases e : a = b
    · exact .inl (.inr e)
    · omega) ns
  generalize ns.mergeSort (befE g) = s at *
  have tot : s.Pairwise (fun x y => bef g x y = true) := (so.and nd).imp fun {x y} ⟨h1, h2⟩ => by
    unfold befE at h1
    simp only [Bool.or_eq_true, beq_iff_eq] at h1
    exact h1.resolve_right h2
  rw [← (pm.filter _).length_eq]
  have e : s.filter (fun i => decide (ns.countP (bef g · i) < r)) = s.filter (fun i => decide (i ∈ s.take r)) := by
    refine List.filter_congr fun i hi => ?_
    have q := mem_take_bef tot r i
    rw [pm.countP_eq] at q
    rw [decide_eq_decide, q]
    exact ⟨fun h => ⟨hi, h⟩, fun h => h.2⟩
  rw [e, filter_take nd, List.length_take, pm.length_eq]
  omega
theorem gives_len (m T B : Int) (l : List (Int × Int)) : (gives m T B l).length = l.length := by unfold gives; simp
theorem gives_sum {m T B : Int} {l : List (Int × Int)} (hB : 0 < B) (z : atLv T B l = m * B) : (gives m T B l).sum = m := by
  obtain ⟨h0, h1⟩ := left_ok hB z
  obtain ⟨r, hr⟩ := Int.eq_ofNat_of_zero_le h0
  unfold gives
  rw [sum_ind l.zipIdx (fun q => wh T B q.1) fun q => (q.2 : Int) ∈ oth T B l ∧ ((oth T B l).countP (bef (gOf T B l) · (q.2 : Int)) : Int) < m - sumW T B l]
  have e1 : (l.zipIdx.map fun q => wh T B q.1) = l.map (wh T B) := by
    have : (l.zipIdx.map (·.1)) = l := by simp
    conv => rhs; rw [← this]
    rw [List.map_map]
    rfl
  rw [e1, show (l.map (wh T B)).sum = sumW T B l from rfl]
  have e2 : (l.zipIdx.countP fun q => decide ((q.2 : Int) ∈ oth T B l ∧ ((oth T B l).countP (bef (gOf T B l) · (q.2 : Int)) : Int) < m - sumW T B l)) = ((oth T B l).filter fun i => decide ((oth T B l).countP (bef (gOf T B l) · i) < r)).length := by
    rw [← List.countP_eq_length_filter]
    have : ∀ c : Int → Bool, (oth T B l).countP c = l.zipIdx.countP fun q => isUp T B q.1 && c (q.2 : Int) := fun c => by
      unfold oth
      rw [List.countP_map, List.countP_filter]
      refine List.countP_congr fun q _ => ?_
      simp only [Function.comp, Bool.and_eq_true]
      exact And.comm
    rw [this]
    refine List.countP_congr fun q hq => ?_
    have hu : (q.2 : Int) ∈ oth T B l ↔ isUp T B q.1 = true := by
      rw [mem_oth, Int.toNat_natCast, List.mem_zipIdx_iff_getElem?.mp hq]
      exact ⟨fun ⟨_, p, e, u⟩ => by cases e; exact u, fun u => ⟨by omega, _, rfl, u⟩⟩
    rw [decide_eq_true_eq, Bool.and_eq_true, decide_eq_true_eq, hu, hr]
    constructor
    · exact fun h => ⟨h.1, by have := h.2; omega⟩
    · exact fun h => ⟨h.1, by have := h.2; omega⟩
  rw [e2, sel_len (oth_inc T B l) (by rw [oth_len]; omega)]
  omega
/-! two levels -/
theorem atLv_mono {x y D : Int} {l : List (Int × Int)} (w : AskW l) (h : x ≤ y) : atLv x D l ≤ atLv y D l := by
  induction l with
  | nil => exact Int.le_refl _
  | cons p l ih =>
    rw [atLv_cons, atLv_cons]
    have := ih ⟨fun q h => w.p0 q (List.mem_cons_of_mem _ h), fun q h => w.l0 q (List.mem_cons_of_mem _ h)⟩
    have h1 := w.p0 p List.mem_cons_self
    have : x * p.1 ≤ y * p.1 := Int.mul_le_mul_of_nonneg_right h (by omega)
    omega
theorem atLv_lt {x y D : Int} {l : List (Int × Int)} (w : AskW l) (h : x < y) (u : ∃ p ∈ l, p.2 * D < y * p.1) : atLv x D l < atLv y D l := by
  induction l with
  | nil => obtain ⟨p, hp, _⟩ := u; cases hp
  | cons p l ih =>
    have w' : AskW l := ⟨fun q h => w.p0 q (List.mem_cons_of_mem _ h), fun q h => w.l0 q (List.mem_cons_of_mem _ h)⟩
    rw [atLv_cons, atLv_cons]
    have h1 := w.p0 p List.mem_cons_self
    have h2 : x * p.1 < y * p.1 := Int.mul_lt_mul_of_pos_right h (by omega)
    have h3 := atLv_mono (D := D) w' (Int.le_of_lt h)
    obtain ⟨q, hq, hu⟩ := u
    rcases List.mem_cons.mp hq with rfl | hq
    · omega
    · have := ih w' ⟨q, hq, hu⟩
      omega
/-- if none is above, all get their leasts -/
theorem atLv_none {y D : Int} {l : List (Int × Int)} (h : ∀ p ∈ l, ¬ p.2 * D < y * p.1) : atLv y D l = sumL l * D := by
  induction l with
  | nil => show (0 : Int) = 0 * D; rw [Int.zero_mul]
  | cons p l ih =>
    rw [atLv_cons, sumL_cons, ih fun q hq => h q (List.mem_cons_of_mem _ hq), Int.add_mul]
    have := h p List.mem_cons_self
    omega
theorem cross_mul {T B C : Int} {l : List (Int × Int)} {m : Int} (hC : 0 < C) (h : atLv T B l = m * B) : atLv (T * C) (B * C) l = m * (B * C) := by
  rw [atLv_div hC, h, Int.mul_assoc]
theorem lv_one {T B U C m : Int} {l : List (Int × Int)} (w : AskW l) (hm : sumL l < m) (hB : 0 < B) (hC : 0 < C) (h1 : atLv T B l = m * B) (h2 : atLv U C l = m * C) : T * C = U * B := by
  have e1 := cross_mul hC h1
  have e2 := cross_mul hB h2
  rw [Int.mul_comm C B] at e2
  have hD : 0 < B * C := Int.mul_pos hB hC
  have up : ∀ y, atLv y (B * C) l = m * (B * C) → ∃ p ∈ l, p.2 * (B * C) < y * p.1 := fun y e => by
    refine Classical.byContradiction fun n => ?_
    have := atLv_none (y := y) (D := B * C) (l := l) fun p hp q => n ⟨p, hp, q⟩
    rw [e] at this
    have := Int.mul_lt_mul_of_pos_right hm hD
    omega
  rcases Int.lt_trichotomy (T * C) (U * B) with h | h | h
  · have := atLv_lt w h (up _ e2)
    omega
  · exact h
  · have := atLv_lt w h (up _ e1)
    omega
/-- a greater sum, a greater level -/
theorem lv_more {T B U C m m' : Int} {l : List (Int × Int)} (w : AskW l) (hm : m < m') (hB : 0 < B) (hC : 0 < C) (h1 : atLv T B l = m * B) (h2 : atLv U C l = m' * C) : T * C < U * B := by
  have e1 := cross_mul hC h1
  have e2 := cross_mul hB h2
  rw [Int.mul_comm C B] at e2
  have hD : 0 < B * C := Int.mul_pos hB hC
  refine Int.lt_of_not_ge fun h => ?_
  have := atLv_mono (D := B * C) w h
  rw [e1, e2] at this
  have := Int.mul_lt_mul_of_pos_right hm hD
  omega
section
variable {T B U C : Int} (hB : 0 < B) (hC : 0 < C) (e : T * C = U * B)
include hB hC e
theorem same_up (p : Int × Int) : isUp T B p = isUp U C p := by
  unfold isUp
  rw [decide_eq_decide]
  have a1 : p.2 * B * C = p.2 * C * B := by rw [Int.mul_assoc, Int.mul_comm B, ← Int.mul_assoc]
  have a2 : T * p.1 * C = U * p.1 * B := by rw [Int.mul_assoc, Int.mul_comm p.1, ← Int.mul_assoc, e, Int.mul_assoc, Int.mul_comm B, ← Int.mul_assoc]
  constructor
  · intro h
    have := Int.mul_lt_mul_of_pos_right h hC
    rw [a1, a2] at this
    exact Int.lt_of_mul_lt_mul_right this (by omega)
  · intro h
    have := Int.mul_lt_mul_of_pos_right h hB
    rw [← a1, ← a2] at this
    exact Int.lt_of_mul_lt_mul_right this (by omega)
theorem same_mul (p : Int × Int) : T * p.1 * C = U * p.1 * B := by rw [Int.mul_assoc, Int.mul_comm p.1, ← Int.mul_assoc, e, Int.mul_assoc, Int.mul_comm B, ← Int.mul_assoc]
theorem same_wh (p : Int × Int) : wh T B p = wh U C p := by
  unfold wh
  rw [same_up hB hC e]
  have : T * p.1 / B = U * p.1 / C := by
    rw [← Int.mul_ediv_mul_of_pos_left (T * p.1) B hC, ← Int.mul_ediv_mul_of_pos_left (U * p.1) C hB, same_mul hB hC e, Int.mul_comm B C]
  rw [this]
theorem same_rm (p : Int × Int) : rm T B p * C = rm U C p * B := by
  unfold rm
  rw [Int.mul_comm _ C, Int.mul_comm _ B, ← Int.mul_emod_mul_of_pos _ _ hC, ← Int.mul_emod_mul_of_pos _ _ hB, Int.mul_comm C (T * p.1), Int.mul_comm B (U * p.1), same_mul hB hC e, Int.mul_comm C B]
theorem same_lt (p q : Int × Int) : rm T B p < rm T B q ↔ rm U C p < rm U C q := by
  have h1 := same_rm hB hC e p
  have h2 := same_rm hB hC e q
  constructor
  · intro h
    have := Int.mul_lt_mul_of_pos_right h hC
    rw [h1, h2] at this
    exact Int.lt_of_mul_lt_mul_right this (by omega)
  · intro h
    have := Int.mul_lt_mul_of_pos_right h hB
    rw [← h1, ← h2] at this
    exact Int.lt_of_mul_lt_mul_right this (by omega)
theorem same_gives (m : Int) (l : List (Int × Int)) : gives m T B l = gives m U C l := by
  have eo : oth T B l = oth U C l := by
    unfold oth
    congr 1
    exact List.filter_congr fun q _ => same_up hB hC e q.1
  have es : sumW T B l = sumW U C l := by
    unfold sumW
    congr 1
    exact List.map_congr_left fun p _ => same_wh hB hC e p
  have eb : ∀ i j, bef (gOf T B l) i j = bef (gOf U C l) i j := fun i j => by
    unfold bef gOf
    have h1 := same_lt hB hC e (l.getD j.toNat (0, 0)) (l.getD i.toNat (0, 0))
    have h2 := same_lt hB hC e (l.getD i.toNat (0, 0)) (l.getD j.toNat (0, 0))
    rw [Bool.eq_iff_iff]
    simp only [Bool.or_eq_true, Bool.and_eq_true, decide_eq_true_eq]
    omega
  unfold gives
  refine List.map_congr_left fun q _ => ?_
  rw [same_wh hB hC e, eo, es, show (fun x => bef (gOf T B l) x (q.2 : Int)) = (fun x => bef (gOf U C l) x (q.2 : Int)) from funext fun x => eb x _]
end
/-- prices k times as great -/
def scl (k : Int) (l : List (Int × Int)) : List (Int × Int) := l.map fun p => (k * p.1, p.2)
theorem scl_at (T B k : Int) (l : List (Int × Int)) : atLv T B (scl k l) = atLv (T * k) B l := by
  unfold atLv scl
  rw [List.map_map]
  congr 1
  refine List.map_congr_left fun p _ => ?_
  show max (p.2 * B) (T * (k * p.1)) = max (p.2 * B) (T * k * p.1)
  rw [Int.mul_assoc]
theorem scl_up (T B k : Int) (p : Int × Int) : isUp T B (k * p.1, p.2) = isUp (T * k) B p := by
  unfold isUp
  rw [Int.mul_assoc]
theorem scl_wh (T B k : Int) (p : Int × Int) : wh T B (k * p.1, p.2) = wh (T * k) B p := by
  unfold wh
  rw [scl_up, Int.mul_assoc]
theorem scl_gives (m T B k : Int) (l : List (Int × Int)) : gives m T B (scl k l) = gives m (T * k) B l := by
  have ez : (scl k l).zipIdx = l.zipIdx.map fun q => ((k * q.1.1, q.1.2), q.2) := by
    unfold scl
    rw [List.zipIdx_map]
    rfl
  have eo : oth T B (scl k l) = oth (T * k) B l := by
    unfold oth
    rw [ez, List.filter_map, List.map_map]
    congr 1
    exact List.filter_congr fun q _ => scl_up T B k q.1
  have es : sumW T B (scl k l) = sumW (T * k) B l := by
    unfold sumW scl
    rw [List.map_map]
    congr 1
    exact List.map_congr_left fun p _ => scl_wh T B k p
  have eg : gOf T B (scl k l) = gOf (T * k) B l := by
    funext n
    unfold gOf scl rm
    rw [List.getD_eq_getElem?_getD, List.getD_eq_getElem?_getD, List.getElem?_map]
    cases l[n.toNat]? with
    | none => show T * 0 % B = T * k * 0 % B; rw [Int.mul_zero, Int.mul_zero]
    | some p => show T * (k * p.1) % B = T * k * p.1 % B; rw [Int.mul_assoc]
  unfold gives
  rw [ez, List.map_map]
  refine List.map_congr_left fun q _ => ?_
  show wh T B (k * q.1.1, q.1.2) + _ = _
  rw [scl_wh, eo, es, eg]
theorem wh_max {T B : Int} (hB : 0 < B) (p : Int × Int) : wh T B p = max p.2 (T * p.1 / B) := by
  unfold wh
  by_cases h : p.2 * B < T * p.1
  · rw [show isUp T B p = true from decide_eq_true h, if_pos rfl]
    have := Int.le_ediv_of_mul_le hB (Int.le_of_lt h)
    omega
  · rw [show isUp T B p = false from decide_eq_false h, if_neg (by decide)]
    have : T * p.1 / B ≤ p.2 := Int.ediv_le_of_le_mul hB (by omega)
    omega
theorem gives_get {m T B : Int} {l : List (Int × Int)} {i : Nat} {p : Int × Int} (h : l[i]? = some p) : (gives m T B l)[i]? = some (wh T B p + if (i : Int) ∈ oth T B l ∧ ((oth T B l).countP (bef (gOf T B l) · (i : Int)) : Int) < m - sumW T B l then 1 else 0) := by
  unfold gives
  rw [List.getElem?_map, List.getElem?_zipIdx, h]
  show some _ = some _
  rw [Nat.zero_add]
theorem gives_at {m T B : Int} {l : List (Int × Int)} {i : Nat} {p : Int × Int} (h : l[i]? = some p) : ∃ c : Int, (c = 0 ∨ (c = 1 ∧ p.2 * B < T * p.1)) ∧ (gives m T B l)[i]? = some (wh T B p + c) := by
  refine ⟨_, ?_, gives_get h⟩
  split
  · next q =>
    obtain ⟨_, p', e, u⟩ := mem_oth.mp q.1
    rw [Int.toNat_natCast, h] at e
    cases e
    exact .inr ⟨rfl, of_decide_eq_true u⟩
  · exact .inl rfl
theorem gives_near {m T B : Int} {l : List (Int × Int)} {i : Nat} {p : Int × Int} (h1 : l[i]? = some p) (h2 : l[i + 1]? = some p) : ∃ a b, (gives m T B l)[i]? = some a ∧ (gives m T B l)[i + 1]? = some b ∧ b ≤ a ∧ a ≤ b + 1 := by
  refine ⟨_, _, gives_get h1, gives_get h2, ?_⟩
  have hg : gOf T B l (i : Int) = gOf T B l ((i + 1 : Nat) : Int) := by
    unfold gOf
    rw [Int.toNat_natCast, Int.toNat_natCast, List.getD_eq_getElem?_getD, List.getD_eq_getElem?_getD, h1, h2]
  have hc : (oth T B l).countP (bef (gOf T B l) · (i : Int)) ≤ (oth T B l).countP (bef (gOf T B l) · ((i + 1 : Nat) : Int)) := by
    refine List.countP_mono_left fun j _ h => ?_
    unfold bef at h ⊢
    simp only [Bool.or_eq_true, Bool.and_eq_true, decide_eq_true_eq] at h ⊢
    rw [← hg]
    omega
  have hm : ((i + 1 : Nat) : Int) ∈ oth T B l → (i : Int) ∈ oth T B l := fun q => by
    obtain ⟨_, p', e, u⟩ := mem_oth.mp q
    rw [Int.toNat_natCast, h2] at e
    cases e
    exact mem_oth.mpr ⟨by omega, p, by rw [Int.toNat_natCast]; exact h1, u⟩
  by_cases c2 : ((i + 1 : Nat) : Int) ∈ oth T B l ∧ ((oth T B l).countP (bef (gOf T B l) · ((i + 1 : Nat) : Int)) : Int) < m - sumW T B l
  · rw [if_pos c2, if_pos ⟨hm c2.1, by have := c2.2; omega⟩]
    omega
  · rw [if_neg c2]
    split <;> omega
/-- a level of a sum -/
structure LvA (m : Int) (l : List (Int × Int)) (T B : Int) : Prop where
  b0 : 0 < B
  t0 : 0 < T
  all : atLv T B l = m * B
/-- what part_heap gives -/
def HeapOf (m : Int) (l : List (Int × Int)) (vs : List Int) : Prop := (m = sumL l ∧ vs = l.map (·.2)) ∨ (sumL l < m ∧ ∃ T B, LvA m l T B ∧ vs = gives m T B l)
theorem HeapOf.len {m : Int} {l : List (Int × Int)} {vs : List Int} (h : HeapOf m l vs) : vs.length = l.length := by
  rcases h with ⟨_, rfl⟩ | ⟨_, T, B, _, rfl⟩
  · exact List.length_map ..
  · exact gives_len ..
theorem HeapOf.sum {m : Int} {l : List (Int × Int)} {vs : List Int} (h : HeapOf m l vs) : vs.sum = m := by
  rcases h with ⟨e, rfl⟩ | ⟨_, T, B, z, rfl⟩
  · exact e.symm
  · exact gives_sum z.b0 z.all
theorem HeapOf.one {m : Int} {l : List (Int × Int)} {vs us : List Int} (w : AskW l) (h : HeapOf m l vs) (h' : HeapOf m l us) : vs = us := by
  rcases h with ⟨e, rfl⟩ | ⟨e, T, B, z, rfl⟩ <;> rcases h' with ⟨e', rfl⟩ | ⟨e', U, C, z', rfl⟩
  · rfl
  · omega
  · omega
  · exact same_gives z.b0 z'.b0 (lv_one w e z.b0 z'.b0 z.all z'.all) m l
theorem sumL_scl (k : Int) (l : List (Int × Int)) : sumL (scl k l) = sumL l := by
  unfold sumL scl
  rw [List.map_map]
  rfl
/-- prices by prices count, not their sizes -/
theorem HeapOf.scl {m k : Int} {l : List (Int × Int)} {vs us : List Int} (w : AskW l) (h : HeapOf m l vs) (h' : HeapOf m (scl k l) us) : us = vs := by
  unfold HeapOf at h'
  rw [sumL_scl] at h'
  rcases h with ⟨e, rfl⟩ | ⟨e, T, B, z, rfl⟩ <;> rcases h' with ⟨e', rfl⟩ | ⟨e', U, C, z', rfl⟩
  · unfold K.scl
    rw [List.map_map]
    rfl
  · omega
  · omega
  · have a := z'.all
    rw [scl_at] at a
    rw [scl_gives]
    exact same_gives z'.b0 z.b0 (lv_one w e z'.b0 z.b0 a z.all) m l
/-! functions over data -/
def F__law_folded_1 : FS := (fFreeze 2 (fRet (fV 2)))
def F__law_folded_2 : FS := (fAsg (fOp oAdd (fIxO 2 (fOp oMod (fV 3) (fV 1))) (fOp oMul (fV 4) (fOp oAdd (fV 3) (fC (.int 2))))) (gSubO 2 (fOp oMod (fV 3) (fV 1))))
def F__law_folded : FN := fnF 2 5 (fSeq (fOwn 2 (fCBN nList (fCons (fSl sL (fV 0) pNo (pSo (fV 1))) fNil)))
    (fSeq (fFor [3, 4] (iE (fCons (fSl sL (fV 0) (pSo (fV 1)) (pSo (fC (.int 63)))) fNil)) (gT 2 (gsCons (gN 3) (gsCons (gN 4) gsNil))) F__law_folded_2)
    F__law_folded_1))
def F__law_box_1 : FS := (fRetW (fLst (fCons (fOp oMul (fCB bAbs (fCons (fV 2) fNil)) (fCB bInt (fCons (fOp oGe (fCB bAbs (fCons (fV 2) fNil)) (fOp oPow (fC (.int 10)) (fC (.int 18)))) fNil))) (fCons (fOp oMod (fOp oMul (fOp oAdd (fOp oAdd (fOp oMod (fV 2) (fC (.int 2147483629))) (fOp oMul (fC (.int 15485863)) (fV 1))) (fC (.int 43))) (fC (.int 48271))) (fC (.int 2147483647))) (fCons (fC (.int 0)) fNil)))))
def F__law_box : FM := fnM 2 3 (fSeq (fAsg (fIf (fB (fOp oLt (fV 1) (fCB bLen (fCons (fV 0) fNil)))) (fOp oIxL (fV 0) (fV 1)) (fC (.int 0))) (gN 2))
    F__law_box_1)
def F__law_price : FN := fnF 1 2 (fSeq (fAsg (fNew (fLst (fCons (fOp oAdd (fC (.int 1)) (fCall 2 F__law_take [] (cOwn 0 (cDat (fC (.int 9)) cNil)))) (fCons (fOp oAdd (fC (.int 1)) (fCall 2 F__law_take [] (cOwn 0 (cDat (fC (.int 400)) cNil)))) (fCons (fOp oMul (fC (.int 100)) (fOp oAdd (fC (.int 1)) (fCall 2 F__law_take [] (cOwn 0 (cDat (fC (.int 40)) cNil))))) (fCons (fOp oAdd (fC (.int 1)) (fCall 2 F__law_take [] (cOwn 0 (cDat (fC (.int 99999)) cNil)))) fNil)))))) (gN 1))
    (fRet (fOp oIxL (fV 1) (fCall 2 F__law_take [] (cOwn 0 (cDat (fC (.int 4)) cNil))))))
def F__law_asks_1 : FS := (fFreeze 2 (fRet (fV 2)))
def F__law_asks_2 : FS := (fSeq (fAsg (fCall 1 F__law_price [] (cOwn 0 cNil)) (gN 4))
    (fSeq (fAsg (fOp oIxL (fNew (fLst (fCons (fC (.int 0)) (fCons (fV 4) (fCons (fCall 2 F__law_take [] (cOwn 0 (cDat (fOp oAdd (fV 4) (fC (.int 1))) cNil))) (fCons (fOp oDiv (fV 4) (fC (.int 2))) fNil)))))) (fCall 2 F__law_take [] (cOwn 0 (cDat (fC (.int 4)) cNil)))) (gN 5))
    (fSeq (fAsg (fAndV (fOp oEq (fCall 2 F__law_take [] (cOwn 0 (cDat (fC (.int 5)) cNil))) (fC (.int 0))) (fEqO not 2 (fNew (fLst fNil)))) (gN 6))
    (fAppend 2 (fIf (fB (fV 6)) (fIxO 2 (fUn uNeg (fC (.int 1)))) (fTup (fCons (fV 4) (fCons (fV 5) fNil))))))))
def F__law_asks : FN := fnF 2 7 (fSeq (fOwn 2 (fLst fNil))
    (fSeq (fFor [3, 4, 5, 6] (iR1 (fCons (fV 1) fNil)) (gN 3) F__law_asks_2)
    F__law_asks_1))
def F__law_amount : FN := fnF 2 7 (fSeq (fPar 2 3 (fCons (fCB bSum (fCons (fNew (fLc (iL (fV 1)) (gT 2 (gsCons (gN 4) (gsCons (gN 5) gsNil))) fYes (fV 5) [4, 5])) fNil)) (fCons (fCB bSum (fCons (fNew (fLc (iL (fV 1)) (gT 2 (gsCons (gN 4) (gsCons (gN 5) gsNil))) fYes (fV 4) [4, 5])) fNil)) fNil)))
    (fSeq (fAsg (fNew (fLst (fCons (fC (.int 0)) (fCons (fC (.int 1)) (fCons (fCall 2 F__law_take [] (cOwn 0 (cDat (fOp oAdd (fCB bLen (fCons (fV 1) fNil)) (fC (.int 2))) cNil))) (fCons (fCall 2 F__law_take [] (cOwn 0 (cDat (fOp oAdd (fOp oSub (fV 3) (fV 2)) (fC (.int 1))) cNil))) fNil)))))) (gN 6))
    (fSeq (fAsg (fOp oCatL (fV 6) (fNew (fLst (fCons (fCall 2 F__law_take [] (cOwn 0 (cDat (fOp oMul (fC (.int 2)) (fV 3)) cNil))) (fCons (fOp oSub (fC (.int 9999999)) (fV 2)) fNil))))) (gN 6))
    (fRet (fOp oAdd (fV 2) (fOp oIxL (fV 6) (fCall 2 F__law_take [] (cOwn 0 (cDat (fC (.int 6)) cNil)))))))))
def F_all_leasts : FN := fnF 1 3 (fRet (fCB bSum (fCons (fNew (fLc (iA (fV 0)) (gT 2 (gsCons (gN 1) (gsCons (gN 2) gsNil))) fYes (fV 2) [1, 2])) fNil)))
-- TooLow
def F_level_found_1 : FS := (fAsg (fV 7) (gN 2))
def F_level_found_2 : FT := (fB (fOp oGt (fOp oMul (fV 3) (fV 5)) (fOp oMul (fV 6) (fV 4))))
def F_level_found_3 : FE := (fTup (fCons (fV 5) (fCons (fV 6) fNil)))
def F_level_found_4 : FS := (fSeq (fAsg (fOp oAdd (fOp oSub (fV 0) (fCall 1 F_all_leasts [] (cDat (fV 1) cNil))) (fCall 1 F_all_leasts [] (cDat (fV 2) cNil))) (gN 3))
    (fSeq (fAsg (fCB bSum (fCons (fNew (fLc (iL (fV 2)) (gT 2 (gsCons (gN 5) (gsCons (gN 6) gsNil))) fYes (fV 5) [5, 6])) fNil)) (gN 4))
    (fSeq (fAsg (fNew (fLc (iL (fV 2)) (gT 2 (gsCons (gN 5) (gsCons (gN 6) gsNil))) F_level_found_2 F_level_found_3 [5, 6])) (gN 7))
    (fSeq (fIfS (fB (fOp oEq (fCB bLen (fCons (fV 7) fNil)) (fCB bLen (fCons (fV 2) fNil)))) (fRet (fTup (fCons (fV 3) (fCons (fV 4) fNil)))) fNext)
    F_level_found_1))))
def F_level_found_5 : FT := (fB (fC (.bool true)))
def F_level_found : FN := fnF 2 8 (fSeq (fAsg (fCB bList (fCons (fV 1) fNil)) (gN 2))
    (fWhile [3, 4, 5, 6, 7] F_level_found_5 F_level_found_4))
def F_common_divisor_1 : FS := (fRet (fV 0))
def F_common_divisor_2 : FS := (fPar 0 1 (fCons (fV 1) (fCons (fOp oMod (fV 0) (fV 1)) fNil)))
def F_common_divisor_3 : FT := (fB (fOp oGt (fV 1) (fC (.int 0))))
def F_common_divisor : FN := fnF 2 2 (fSeq (fWhile [] F_common_divisor_3 F_common_divisor_2)
    F_common_divisor_1)
def F_level_of_1 : FS := (fSeq (fAsg (fCall 2 F_level_found [] (cDat (fV 0) (cDat (fV 1) cNil))) (gT 2 (gsCons (gN 3) (gsCons (gN 4) gsNil))))
    (fSeq (fAsg (fCall 2 F_common_divisor [] (cDat (fV 3) (cDat (fV 4) cNil))) (gN 5))
    (fRet (fTup (fCons (fOp oDiv (fV 3) (fV 5)) (fCons (fOp oDiv (fV 4) (fV 5)) fNil))))))
def F_level_of_2 : FS := (fSeq (fIfS (fB (fOp oEq (fV 0) (fV 2))) (fRet (fC .none)) fNext)
    F_level_of_1)
def F_level_of : FX := fnX 2 6 fun Xw => (fSeq (fAsg (fCall 1 F_all_leasts [] (cDat (fV 1) cNil)) (gN 2))
    (fSeq (fIfS (fB (fOp oLt (fV 0) (fV 2))) (fRaise "TooLow" (fV 2) Xw) fNext)
    F_level_of_2))
def F_parts_by_1 : FS := (fFreeze 4 (fRet (fV 4)))
def F_parts_by_2 : FS := (fIfS (fB (fOp oGt (fOp oMul (fV 2) (fV 5)) (fOp oMul (fV 6) (fV 3)))) (fAppend 4 (fCB bDivmod (fCons (fOp oMul (fV 2) (fV 5)) (fCons (fV 3) fNil)))) (fAppend 4 (fTup (fCons (fV 6) (fCons (fC .none) fNil)))))
def F_parts_by : FN := fnF 2 7 (fSeq (fAsg (fV 0) (gT 2 (gsCons (gN 2) (gsCons (gN 3) gsNil))))
    (fSeq (fOwn 4 (fLst fNil))
    (fSeq (fFor [5, 6] (iA (fV 1)) (gT 2 (gsCons (gN 5) (gsCons (gN 6) gsNil))) F_parts_by_2)
    F_parts_by_1)))
def F_part_heap_1 : FS := (fFreeze 6 (fRet (fV 6)))
def F_part_heap_2 : FS := (fAugO 6 (fV 10) (fC (.int 1)) (fun i j => i + j))
def F_part_heap_3 : FT := (fB (fOp oIsnt (fV 8) (fC .none)))
def F_part_heap_4 : FS := (fSeq (fAsg (fCall 2 F_parts_by [] (cDat (fV 2) (cDat (fV 1) cNil))) (gN 5))
    (fSeq (fOwn 6 (fLc (iL (fV 5)) (gT 2 (gsCons (gN 7) (gsCons (gN 8) gsNil))) fYes (fV 7) [7, 8]))
    (fSeq (fAsg (fNew (fLc (iE (fCons (fV 5) fNil)) (gT 2 (gsCons (gN 10) (gsCons (gT 2 (gsCons (gN 7) (gsCons (gN 8) gsNil))) gsNil))) F_part_heap_3 (fV 10) [10, 7, 8])) (gN 9))
    (fSeq (fAsg (fNew (fSortLam 5 (fV 9))) (gN 9))
    (fSeq (fFor [] (iL (fSl sL (fV 9) pNo (pSo (fOp oSub (fV 0) (fSumO 6))))) (gN 10) F_part_heap_2)
    F_part_heap_1)))))
def F_part_heap : FX := fnX 2 11 fun Xw => (fSeq (fAsg (fCallX 2 F_level_of [] Xw (cDat (fV 0) (cDat (fV 1) cNil))) (gN 2))
    (fSeq (fIfS (fB (fOp oIs (fV 2) (fC .none))) (fRet (fNew (fLc (iA (fV 1)) (gT 2 (gsCons (gN 3) (gsCons (gN 4) gsNil))) fYes (fV 4) [3, 4]))) fNext)
    F_part_heap_4))
def F__law_bent_1 : FS := (fFreeze 6 (fRet (fIf (fB (fOp oNeD (fV 6) (fNew (fLst fNil)))) (fV 6) (fNew (fLst (fCons (fC (.int 0)) fNil))))))
def F__law_bent_2 : FS := (fIfS (fAnd (fB (fOp oLt (fV 2) (fC (.int 4)))) (fB (fV 8))) (fSeq (fAsg (fOp oSubN (fIxO 6 (fV 3)) (fV 5)) (gSubO 6 (fV 3)))
    (fAsg (fOp oAddN (fIxO 6 (fV 4)) (fV 5)) (gSubO 6 (fV 4)))) (fIfS (fAnd (fB (fOp oEq (fV 2) (fC (.int 4)))) (fB (fV 8))) (fAsg (fOp oSubN (fOp oAddN (fIxO 6 (fV 3)) (fC (.int 1))) (fOp oMul (fC (.int 2)) (fCall 2 F__law_take [] (cOwn 0 (cDat (fC (.int 2)) cNil))))) (gSubO 6 (fV 3))) (fIfS (fB (fOp oEq (fV 2) (fC (.int 5)))) (fAsg (fV 7) (gSubO 6 (fV 3))) (fIfS (fB (fOp oEq (fV 2) (fC (.int 6)))) (fSetSl 6 (fV 3) (fOp oAddN (fV 3) (fC (.int 1))) (fSlN (fNew (fLst (fCons (fIxO 6 (fV 3)) (fCons (fIxO 6 (fV 3)) fNil)))) pNo (pSo (fOp oMul (fC (.int 2)) (fCall 2 F__law_take [] (cOwn 0 (cDat (fC (.int 2)) cNil))))))) (fIfS (fB (fOp oEq (fV 2) (fC (.int 7)))) (fAsg (fTup (fCons (fIxO 6 (fV 4)) (fCons (fIxO 6 (fV 3)) fNil))) (gT 2 (gsCons (gSubO 6 (fV 3)) (gsCons (gSubO 6 (fV 4)) gsNil)))) (fFreeze 6 (fOwn 6 (fOpN nCat (fV 6) (fNew (fLst (fCons (fV 7) fNil)))))))))))
def F__law_bent : FN := fnF 2 9 (fSeq (fPar3 2 3 4 (fCons (fCall 2 F__law_take [] (cOwn 0 (cDat (fC (.int 9)) cNil))) (fCons (fCall 2 F__law_take [] (cOwn 0 (cDat (fCB bLen (fCons (fV 1) fNil)) cNil))) (fCons (fCall 2 F__law_take [] (cOwn 0 (cDat (fCB bLen (fCons (fV 1) fNil)) cNil))) fNil))))
    (fSeq (fParO2 5 6 (fOp oIxL (fNew (fLst (fCons (fC (.int 1)) (fCons (fC (.int 1)) (fCons (fC (.int 2)) (fCons (fOp oAdd (fC (.int 1)) (fCall 2 F__law_take [] (cOwn 0 (cDat (fC (.int 60)) cNil)))) fNil)))))) (fCall 2 F__law_take [] (cOwn 0 (cDat (fC (.int 4)) cNil)))) (fCBN nList (fCons (fV 1) fNil)))
    (fSeq (fAsg (fOp oIxL (fNew (fLst (fCons (fC .none) (fCons (fC (.bool true)) (fCons (fC (.bool false)) (fCons (fC (.str (Str.ofString "1"))) (fCons (fNew (fLst (fCons (fC (.int 1)) fNil))) (fCons (fTup (fCons (fC (.int 1)) fNil)) (fCons (fC (.int 0)) (fCons (fUn uNeg (fC (.int 1))) fNil)))))))))) (fCall 2 F__law_take [] (cOwn 0 (cDat (fC (.int 8)) cNil)))) (gN 7))
    (fSeq (fAsg (fAndV (fIsi "int" (fIxO 6 (fV 3))) (fIsi "int" (fIxO 6 (fV 4)))) (gN 8))
    (fSeq F__law_bent_2
    F__law_bent_1)))))
def F_is_plain_number : FN := fnF 1 1 (fRet (fAndV (fIsi "int" (fV 0)) (fNotV (fIsi "bool" (fV 0)))))
def F_is_level_pair : FN := fnF 4 4 (fRet (fOp oLt (fOp oMul (fOp oSubN (fV 0) (fC (.int 1))) (fOp oIx (fV 3) (fC (.int 0)))) (fOp oMul (fOp oAddN (fV 1) (fC (.int 1))) (fOp oIx (fV 2) (fC (.int 0))))))
def F_shows_fair_1 : FS := (fRet (fC (.bool true)))
def F_shows_fair_2 : FE := (fCall 4 F_is_level_pair [] (cDat (fV 3) (cDat (fV 5) (cDat (fV 4) (cDat (fV 6) cNil)))))
def F_shows_fair_3 : FS := (fIfS (fAnd (fB (fOp oGt (fV 3) (fOp oIx (fV 4) (fC (.int 1))))) (fNot (fB (fCB bAll (fCons (fNew (fLc (iZM (fCons (fV 2) (fCons (fV 1) fNil))) (gT 2 (gsCons (gN 5) (gsCons (gN 6) gsNil))) fYes F_shows_fair_2 [5, 6])) fNil))))) (fRet (fC (.bool false))) fNext)
def F_shows_fair_4 : FS := (fSeq (fFor [3, 4, 5, 6] (iZM (fCons (fV 2) (fCons (fV 1) fNil))) (gT 2 (gsCons (gN 3) (gsCons (gN 4) gsNil))) F_shows_fair_3)
    F_shows_fair_1)
def F_shows_fair_5 : FE := (fOp oLt (fV 3) (fOp oIx (fV 4) (fC (.int 1))))
def F_shows_fair_6 : FS := (fSeq (fIfS (fOr (fB (fOp oNe (fCB bSum (fCons (fV 2) fNil)) (fV 0))) (fB (fCB bAny (fCons (fNew (fLc (iZM (fCons (fV 2) (fCons (fV 1) fNil))) (gT 2 (gsCons (gN 3) (gsCons (gN 4) gsNil))) fYes F_shows_fair_5 [3, 4])) fNil)))) (fRet (fC (.bool false))) fNext)
    F_shows_fair_4)
def F_shows_fair_7 : FE := (fCall 1 F_is_plain_number [] (cDat (fV 3) cNil))
def F_shows_fair : FN := fnF 3 7 (fSeq (fIfS (fOr (fNot (fB (fIsi "list" (fV 2)))) (fOr (fB (fOp oNe (fCB bLen (fCons (fV 2) fNil)) (fCB bLen (fCons (fV 1) fNil)))) (fNot (fB (fCB bAll (fCons (fNew (fLc (iA (fV 2)) (gN 3) fYes F_shows_fair_7 [3])) fNil)))))) (fRet (fC (.bool false))) fNext)
    F_shows_fair_6)
def F__law_fair_1 : FS := (fRet (fOp oEqD (fV 4) (fV 0)))
def F__law_fair_2 : FS := (fIfS (fAnd (fB (fOp oNe (fV 8) (fV 5))) (fAnd (fB (fOp oGt (fOp oIx (fV 2) (fV 5)) (fV 7))) (fB (fOp oGe (fOp oMul (fOp oSubN (fOp oIx (fV 2) (fV 5)) (fC (.int 1))) (fV 9)) (fOp oMul (fOp oAddN (fOp oIx (fV 2) (fV 8)) (fC (.int 1))) (fV 6)))))) (fRet (fC (.bool false))) fNext)
def F__law_fair_3 : FS := (fFor [8, 9, 10] (iE (fCons (fV 1) fNil)) (gT 2 (gsCons (gN 8) (gsCons (gT 2 (gsCons (gN 9) (gsCons (gN 10) gsNil))) gsNil))) F__law_fair_2)
def F__law_fair_4 : FS := (fSeq (fAsg (fOp oAddN (fV 4) (fOp oIx (fV 2) (fV 5))) (gN 4))
    (fSeq (fIfS (fB (fOp oLt (fOp oIx (fV 2) (fV 5)) (fV 7))) (fRet (fC (.bool false))) fNext)
    F__law_fair_3))
def F__law_fair_5 : FS := (fSeq (fAsg (fC (.int 0)) (gN 4))
    (fSeq (fFor [5, 6, 7, 8, 9, 10] (iE (fCons (fV 1) fNil)) (gT 2 (gsCons (gN 5) (gsCons (gT 2 (gsCons (gN 6) (gsCons (gN 7) gsNil))) gsNil))) F__law_fair_4)
    F__law_fair_1))
def F__law_fair_6 : FS := (fIfS (fOr (fNot (fB (fIsi "int" (fV 3)))) (fB (fIsi "bool" (fV 3)))) (fRet (fC (.bool false))) fNext)
def F__law_fair_7 : FS := (fSeq (fFor [3] (iA (fV 2)) (gN 3) F__law_fair_6)
    F__law_fair_5)
def F__law_fair : FN := fnF 3 11 (fSeq (fIfS (fOr (fNot (fB (fIsi "list" (fV 2)))) (fB (fOp oNe (fCB bLen (fCons (fV 2) fNil)) (fCB bLen (fCons (fV 1) fNil))))) (fRet (fC (.bool false))) fNext)
    F__law_fair_7)
def F_law_1 : FS := (fRet (fC (.bool true)))
def F_law_2 : FS := (fIfS (fAnd (fB (fOp oGt (fCB bSum (fCons (fV 15) fNil)) (fC (.int 0)))) (fB (fOp oIsntT (fCall 3 F_shows_fair [] (cDat (fOp oSub (fCB bSum (fCons (fV 15) fNil)) (fC (.int 1))) (cDat (fV 5) (cDat (fV 15) cNil)))) (fC (.bool false))))) (fRet (fC (.bool false))) fNext)
def F_law_3 : FS := (fSeq (fAsg (fNew (fLc (iL (fV 5)) (gT 2 (gsCons (gN 16) (gsCons (gN 17) gsNil))) fYes (fV 17) [16, 17])) (gN 15))
    (fSeq (fIfS (fB (fOp oIsntT (fCall 3 F_shows_fair [] (cDat (fV 6) (cDat (fCB bTuple (fCons (fV 5) fNil)) (cDat (fV 7) cNil)))) (fC (.bool true)))) (fRet (fC (.bool false))) fNext)
    F_law_2))
def F_law_4 : FS := (fSeq (fPar 13 14 (fCons (fCB bReprV (fCons (fV 11) fNil)) (fCons (fCall 3 F_shows_fair [] (cDat (fV 6) (cDat (fV 5) (cDat (fV 11) cNil)))) fNil)))
    (fIfS (fOr (fNot (fB (fIsi "bool" (fV 14)))) (fOr (fB (fOp oNe (fV 14) (fCall 3 F__law_fair [] (cDat (fV 6) (cDat (fV 5) (cDat (fV 11) cNil)))))) (fB (fOp oNe (fCB bReprV (fCons (fV 11) fNil)) (fV 13))))) (fRet (fC (.bool false))) fNext))
def F_law_5 : FS := (fSeq (fFreeze 8 (fFor [13, 14] (iL (fV 8)) (gN 11) F_law_4))
    F_law_3)
def F_law_6 : FS := (fAppend 8 (fV 11))
def F_law_7 : FS := (fAsg (fCall 2 F__law_bent [] (cOwn 3 (cDat (fV 11) cNil))) (gN 11))
def F_law_8 : FS := (fSeq (fAsg (fCall 2 F__law_bent [] (cOwn 3 (cDat (fV 7) cNil))) (gN 11))
    (fSeq (fFor [12] (iR1 (fCons (fCall 2 F__law_take [] (cOwn 3 (cDat (fC (.int 3)) cNil))) fNil)) (gN 12) F_law_7)
    F_law_6))
def F_law_9 : FE := (fCB bList (fCons (fV 9) fNil))
def F_law_10 : FS := (fSeq (fAsg (fCall 2 F__law_asks [] (cOwn 3 (cDat (fOp oIxL (fNew (fLst (fCons (fOp oAdd (fC (.int 1)) (fCall 2 F__law_take [] (cOwn 3 (cDat (fC (.int 12)) cNil)))) (fCons (fC (.int 2)) (fCons (fC (.int 4)) fNil))))) (fCall 2 F__law_take [] (cOwn 3 (cDat (fC (.int 3)) cNil)))) cNil))) (gN 5))
    (fSeq (fAsg (fCall 2 F__law_amount [] (cOwn 3 (cDat (fV 5) cNil))) (gN 6))
    (fSeq (fAsg (fCallX 2 F_part_heap [] (fun _ _ => False) (cDat (fV 6) (cDat (fV 5) cNil))) (gN 7))
    (fSeq (fOwn 8 (fLst (fCons (fV 7) (fCons (fCB bTuple (fCons (fV 7) fNil)) (fCons (fC .none) (fCons (fC (.int 0)) (fCons (fC (.str (Str.ofString ""))) (fCons (fNew (fLst fNil)) (fCons (fNew (fLst (fCons (fV 7) fNil))) (fCons (fNew (fLc (iL (fV 5)) (gN 9) fYes F_law_9 [9])) fNil))))))))))
    (fSeq (fFor [10, 12] (iR1 (fCons (fC (.int 8)) fNil)) (gN 10) F_law_8)
    F_law_5)))))
def F_law_11 : FS := (fSeq (fOwn 3 (fCallW 2 F__law_box [] (cDat (fV 1) (cDat (fV 2) cNil))))
    (fFor [4, 5, 6, 7, 8, 9, 10, 11, 12, 13, 14, 15, 16, 17] (iR1 (fCons (fC (.int 3)) fNil)) (gN 4) F_law_10))
def F_law : FN := fnF 1 18 (fSeq (fAsg (fCall 2 F__law_folded [] (cDat (fV 0) (cDat (fC (.int 6)) cNil))) (gN 1))
    (fSeq (fFor [2, 3, 4, 5, 6, 7, 8, 9, 10, 11, 12, 13, 14, 15, 16, 17] (iR1 (fCons (fCB bMax (fCons (fC (.int 2)) (fCons (fCB bLen (fCons (fV 1) fNil)) fNil))) fNil)) (gN 2) F_law_11)
    F_law_1))
local macro_rules | `(tactic| walk_at "f") => `(tactic| simp only [fnF, fSeq, fNext, fRet, fRetN, fAsg, fDrop, fIfS, fAnd, fOr, fNot, fAndV, fOrV, fNotV, fB, fTru, truF, boolF, fOp, fUn, fV, fC, fCons, fNil, fCB, fBM, fCall, cNil, cDat, cOwn, argF, wb, ownIx, fTup, fNew, fLst, fIf, fChain, o2, o2c, oStr, oEqB, oEqD, oNeD, oIsB, isNone, oInSB, oIn, seqF, oIxL, oIxT, oIxS, oIx, fSl, pNo, pSo, sL, sT, sS, listF, tupleF, strF, intF, ownF, fIxO, fLenO, fInO, fAppend, gSubO, gN, gT, gsCons, gsNil, fPar, fPar3, fAug, fFreeze, fOwn, slotF, sz0, sz1, sz2, sz3, sz4, sz5, sz6, sz7, sz8, sz9, sz10, sz11, sz12, sz13, sz14, sz15, sz16, sz17, sz18, sz19, sz20, Nat.reduceLT, Nat.reduceLeDiff, isObjD, fParO1, fParO2, fPar3O3, fAugO, fEqO, fFld, fMk, fMkN, fCallN, List.drop_zero, List.drop_succ_cons, Int.reduceToNat, Int.reducePow, Int.reduceNeg, Int.reduceLE, Int.reduceLT, Int.cast_ofNat_Int, F__law_take, fgt, List.tail_cons, List.headD_cons, at0, at1, at2, at3, at4, Int.zero_add, Int.not_lt, Int.not_le, Nat.not_lt, Nat.not_le, ite_not, fYes, fIsi, oCatL, oCatT, fRep, uNeg, bLenS, bLen, bAbs, bMin, bMax, bDivmod, bAll, bAny, bSum, bInt, bBool, bList, bTuple, one, two, iL, iT, iS, iR1, iR2, iR3, iE, iZ, fBreak, fCont, fNever, fnM, fRetO, fRetW, fCallW, fCallNW, fCBN, nList, nSortI, nSortS, fOpN, nCat, fSlN, fRev, fPopAt, fPop, fInsert, fExtend, fReverse, fIsiLT, bMax3, F__law_same, fParOO, fnX, fCallX, fCallNX, fRaise, fTryK, fIsX, fWhat, excF, excD, tabL, fldD, noX, oIsT, isBool, fCallV, funF, tabF, fSortLam, fSumO, fnD, iA, fRevS, fRevT, oNumD, numD_int, numD_bool, bStrV, strD, iZM, oIsntT, fCallT, fCallXW, nSortP, fnXM, fSetSl, fBorT, fBorE, frz, plainD,
  List.getElem?_cons_zero, List.getElem?_cons_succ, List.getElem?_nil, List.cons_append, List.nil_append, List.append_nil, List.set_cons_zero, List.set_cons_succ, List.map_cons, List.map_nil, List.length_cons, List.length_nil, List.nodup_nil, List.nodup_cons, List.not_mem_nil, not_false_eq_true, and_self, and_true, true_and, List.replicate_succ, List.replicate_zero, List.take_succ_cons, List.take_zero, Nat.reduceSub, Nat.reduceAdd, Nat.zero_add, decide_eq_true_eq, Bool.not_eq_true', decide_eq_false_iff_not, if_true, if_false, Bool.not_true, Bool.not_false, Bool.false_eq_true, reduceIte, id, not_true_eq_false, reduceCtorEq, fFor, fLc, fWhile, wipeF, kit_none_int, kit_none_bool, kit_none_str, kit_none_list, kit_none_tuple, kit_bool_int, kit_bool_bool, kit_bool_str, kit_bool_list, kit_bool_tuple, kit_int_int, kit_int_bool, kit_int_str, kit_int_list, kit_int_tuple, kit_str_int, kit_str_bool, kit_str_str, kit_str_list, kit_str_tuple, kit_list_int, kit_list_bool, kit_list_str, kit_list_list, kit_list_tuple, kit_tuple_int, kit_tuple_bool, kit_tuple_str, kit_tuple_list, kit_tuple_tuple, Option.some.injEq, exists_eq_left', exists_eq_left, List.all_cons, List.all_nil, Bool.and_true, Bool.and_self, List.cons.injEq, Nat.reduceMul ])

local macro_rules | `(tactic| walk_at "w") => `(tactic| try walk_at "f")
/-! ### how a law begins, over data -/
theorem one_or (p : Prop) [Decidable p] : (if p then (1 : Int) else 0) = 0 ∨ (if p then (1 : Int) else 0) = 1 := by
  by_cases h : p
  · exact .inr (if_pos h)
  · exact .inl (if_neg h)
theorem f_box {ns : List Int} {k : Nat} (hk : k < 1000) {P : List PyData → List Sl → Prop} (h : ∀ ds sl, BoxD ds 0 → P ds sl) : F__law_box [.fz (.list (ns.map .int)), .fz (.int k)] P := by
  have fin : ∀ c : Int, F__law_box_1 { nx := fun _ => False, rt := fun _ _ => False, ro := fun ds ρ' => P ds (ρ'.take 2) } [.fz (.list (ns.map .int)), .fz (.int k), .fz (.int c)] := by
    intro c
    unfold F__law_box_1
    walk_at "f"
    refine ⟨⟨by decide, by decide, by decide⟩, ?_⟩
    have hz : ∀ z : Int, (z = 0 ∨ z = 1) → (CMul (if c < 0 then -c else c) z) ∧ 0 ≤ (if c < 0 then -c else c) * z := by
      intro z hz
      refine ⟨.inr (by rcases hz with rfl | rfl <;> decide), ?_⟩
      rcases hz with rfl | rfl
      · rw [Int.mul_zero]; exact Int.le_refl _
      · rw [Int.mul_one]; split <;> omega
    have hz' := hz (if 1000000000000000000 ≤ (if c < 0 then -c else c) then 1 else 0) (one_or _)
    have m0 : 0 ≤ c % 2147483629 := Int.emod_nonneg _ (by decide)
    have m1 : c % 2147483629 < 2147483629 := Int.emod_lt_of_pos _ (by decide)
    exact ⟨hz'.1, .inl ⟨by decide, by decide⟩, .inr ⟨by decide, by decide⟩, h _ _ ⟨_, _, _, rfl, hz'.2, Int.emod_nonneg _ (by decide), Int.emod_lt_of_pos _ (by decide), by decide, by decide⟩⟩
  unfold F__law_box
  walk_at "f"
  rw [List.length_map]
  by_cases hl : (k : Int) < ns.length
  · rw [if_pos hl]
    have hkn : k < ns.length := by omega
    refine ⟨.int ns[k], by rw [atI_map, atI_nat' (List.getElem?_eq_getElem hkn)]; rfl, ?_⟩
    exact fin _
  · rw [if_neg hl]
    exact fin _
theorem cutD_map (ns : List Int) (lo hi : Option Int) : cutD (ns.map PyData.int) lo hi = (((ns.drop (HT.sIx ns.length 0 lo)).take (HT.sIx ns.length ns.length hi - HT.sIx ns.length 0 lo))).map PyData.int := by
  unfold cutD
  rw [List.length_map, ← List.map_drop, ← List.map_take]
theorem enumD_map (ns : List Int) : enumD (ns.map PyData.int) = ns.zipIdx.map fun z => .tuple [.int (z.2 : Nat), .int z.1] := by
  unfold enumD
  rw [List.zipIdx_map, List.map_map]
  rfl
theorem f_folded {ns : List Int} {m : Nat} (hm0 : 0 < m) (hm : m ≤ 63) (hn : ns.length ≤ 63) {P : PyData → List Sl → Prop} (h : ∀ ms : List Int, ms.length ≤ m → ∀ sl, P (.list (ms.map .int)) sl) : F__law_folded [.fz (.list (ns.map .int)), .fz (.int m)] P := by
  have hm3 : ((m : Int) % 4611686018427387904) = m := Int.emod_eq_of_lt (by omega) (by omega)
  unfold F__law_folded
  walk_at "f"
  rw [cutD_take, cutD_map, enumD_map]
  generalize hz : (List.take (HT.sIx ns.length ns.length (some 63) - HT.sIx ns.length 0 (some ↑m)) (List.drop (HT.sIx ns.length 0 (some ↑m)) ns)) = zs
  have lz : zs.length ≤ ns.length - m := by
    rw [← hz, List.length_take, List.length_drop, HT.sIx_nat]
    omega
  refine for_map zs.zipIdx (fun z => .tuple [.int (z.2 : Nat), .int z.1]) (fun _ ρ => ∃ ms : List Int, ms.length = min m ns.length ∧ ρ = [.fz (.list (ns.map .int)), .fz (.int m), .own (ms.map .int), .no, .no]) rfl ⟨ns.take m, List.length_take, rfl⟩ ?_ ?_
  · rintro i z ρ hi hl ⟨ms, lm, rfl⟩
    rw [List.length_zipIdx] at hl
    have ez : z.2 = i := by
      rw [List.getElem?_zipIdx] at hi
      cases hq : zs[i]? with
      | none => rw [hq] at hi; cases hi
      | some q => rw [hq] at hi; cases hi; simp
    have hlen : ms.length = m := by omega
    have hk : i % m < ms.length := by rw [hlen]; exact Nat.mod_lt _ hm0
    have ek : ((z.2 : Int) % (m : Int)) = ((i % m : Nat) : Int) := by rw [ez]; omega
    unfold F__law_folded_2
    walk_at "f"
    refine ⟨by omega, .int ms[i % m], by rw [ek, atI_map, atI_nat' (List.getElem?_eq_getElem hk)]; rfl, ?_⟩
    refine ⟨.inr ⟨by omega, by omega⟩, ?_⟩
    refine ⟨by omega, i % m, by rw [ek, List.length_map]; exact ixN_nat hk, ms.set (i % m) (ms[i % m] + z.1 * ((z.2 : Int) + 2)), by rw [List.length_set]; exact lm, ?_⟩
    rw [List.map_set]
  · rintro ρ ⟨ms, lm, rfl⟩
    unfold F__law_folded_1
    walk_at "f"
    exact h ms (by omega) _
theorem f_price {ds : List PyData} {n : Nat} (hb : BoxD ds n) (hn : n < 100000000) {P : PyData → List Sl → Prop} (h : ∀ r ds', 1 ≤ r → r ≤ 99999 → BoxD ds' (n + 5) → P (.int r) [.own ds']) : F__law_price [.own ds] P := by
  unfold F__law_price
  walk_at "f"
  refine take_step hb (by decide) (by decide) (by omega) fun r1 d1 _ _ b1 => ?_
  refine take_step b1 (by decide) (by decide) (by omega) fun r2 d2 _ _ b2 => ?_
  refine take_step b2 (by decide) (by decide) (by omega) fun r3 d3 _ _ b3 => ⟨.inl ⟨by decide, by decide⟩, ?_⟩
  refine take_step b3 (by decide) (by decide) (by omega) fun r4 d4 _ _ b4 => ?_
  refine take_step b4 (by decide) (by decide) (by omega) fun r5 d5 a5 c5 b5 => ?_
  obtain ⟨v, e, m⟩ := at_mem (xs := [PyData.int (1 + r1), PyData.int (1 + r2), PyData.int (100 * (1 + r3)), PyData.int (1 + r4)]) a5 c5
  obtain ⟨a, rfl, a0, a1⟩ : ∃ a, v = .int a ∧ 1 ≤ a ∧ a ≤ 99999 := by
    simp only [List.mem_cons, List.not_mem_nil, or_false] at m
    rcases m with rfl | rfl | rfl | rfl <;> exact ⟨_, rfl, by omega, by omega⟩
  exact ⟨_, e, h a d5 a0 a1 b5⟩
/-! ### heaps over data -/
abbrev asksD (l : List (Int × Int)) : List PyData := l.map fun p => .tuple [.int p.1, .int p.2]
theorem fm_int {α : Type} (xs : List α) (h : α → Int) : xs.filterMap (fun x => some (PyData.int (h x))) = (xs.map h).map PyData.int := by
  rw [filterMap_some, List.map_map]
  rfl
/-- data of asks: a list or a tuple -/
def AsksAt (d : PyData) (l : List (Int × Int)) : Prop := d = .list (asksD l) ∨ d = .tuple (asksD l)
theorem AsksAt.seq {d : PyData} {l : List (Int × Int)} (h : AsksAt d l) {k : List PyData → Prop} (q : k (asksD l)) : seqF d k := by
  rcases h with rfl | rfl <;> exact q
theorem f_all_leasts {d : PyData} {l : List (Int × Int)} (h : AsksAt d l) (hl : l.length ≤ 100) {P : PyData → List Sl → Prop} (q : ∀ sl, P (.int (sumL l)) sl) : F_all_leasts [.fz d] P := by
  have lin : sizeLine = 16777216 := by decide +kernel
  unfold F_all_leasts iA
  walk_at "w"
  refine h.seq ?_
  refine lc_map l (fun p => .tuple [.int p.1, .int p.2]) (fun p => some (.int p.2)) rfl rfl (by omega) (fun p R acc _ hacc hR => ?_) ?_
  · walk_at "w"
    exact ⟨hacc, hR⟩
  · rw [fm_int]
    exact intsF_map (q _)
theorem f_gcd {a b : Int} (ha : 0 ≤ a) (hb : 0 ≤ b) {P : PyData → List Sl → Prop} (q : ∀ sl, P (.int (Int.gcd a b)) sl) : F_common_divisor [.fz (.int a), .fz (.int b)] P := by
  unfold F_common_divisor
  walk_at "w"
  refine ⟨fun m ρ => ∃ x y : Int, 0 ≤ x ∧ 0 ≤ y ∧ y.toNat = m ∧ Int.gcd x y = Int.gcd a b ∧ ρ = [.fz (.int x), .fz (.int y)], ⟨_, a, b, ha, hb, rfl, rfl, rfl⟩, ?_⟩
  rintro m ρ ⟨x, y, hx, hy, hm, hg, rfl⟩
  unfold F_common_divisor_3 F_common_divisor_2 F_common_divisor_1
  walk_at "w"
  by_cases h : 0 < y
  · rw [if_pos h]
    refine ⟨h, _, ?_, y, x % y, hy, Int.emod_nonneg _ (by omega), rfl, ?_, rfl, rfl⟩
    · have := Int.emod_lt_of_pos x h
      omega
    · rw [← hg, Int.gcd_comm x y, ← Int.gcd_add_mul_left_right y (x % y) (x / y), Int.emod_add_mul_ediv]
  · rw [if_neg h]
    have y0 : y = 0 := by omega
    subst y0
    rw [Int.gcd_zero_right] at hg
    have e : x = ((Int.gcd a b : Nat) : Int) := by omega
    rw [e]
    exact q _
structure Small (l : List (Int × Int)) : Prop extends AskW l where
  few : l.length ≤ 20
  pm : ∀ p ∈ l, p.1 ≤ 1000000
  lm : ∀ p ∈ l, p.2 ≤ 1000000
theorem Small.ups {l : List (Int × Int)} (w : Small l) (T B : Int) : Small (ups T B l) :=
  ⟨w.toAskW.ups T B, Nat.le_trans (List.length_filter_le _ _) w.few, fun p h => w.pm p (List.mem_filter.mp h).1, fun p h => w.lm p (List.mem_filter.mp h).1⟩
theorem sumP_le {l : List (Int × Int)} (h : ∀ p ∈ l, p.1 ≤ 1000000) : sumP l ≤ 1000000 * l.length := by
  induction l with
  | nil => exact Int.le_refl _
  | cons p l ih =>
    rw [sumP_cons, List.length_cons]
    have := ih fun q hq => h q (List.mem_cons_of_mem _ hq)
    have := h p List.mem_cons_self
    omega
theorem sumL_le {l : List (Int × Int)} (h : ∀ p ∈ l, p.2 ≤ 1000000) : sumL l ≤ 1000000 * l.length := by
  induction l with
  | nil => exact Int.le_refl _
  | cons p l ih =>
    rw [sumL_cons, List.length_cons]
    have := ih fun q hq => h q (List.mem_cons_of_mem _ hq)
    have := h p List.mem_cons_self
    omega
theorem f_level_found {d : PyData} {l : List (Int × Int)} {m : Int} (h : AsksAt d l) (w : Small l) (ne : l ≠ []) (h0 : sumL l < m) (h1 : m ≤ 100000000) {P : PyData → List Sl → Prop}
    (q : ∀ T B, LvOk (m - sumL l) T B l → T ≤ 200000000 → B ≤ 100000000 → ∀ sl, P (.tuple [.int T, .int B]) sl) : F_level_found [.fz (.int m), .fz d] P := by
  have lin : sizeLine = 16777216 := by decide +kernel
  have few := w.few
  have l0 := sumL_nn w.toAskW
  unfold F_level_found
  walk_at "w"
  refine h.seq ?_
  refine ⟨fun k ρ => ∃ u : List (Int × Int), u.length = k ∧ u ≠ [] ∧ Small u ∧ (∀ T B, LvOk (m - sumL l) T B u → LvOk (m - sumL l) T B l) ∧ ρ = [.fz (.int m), .fz d, .fz (.list (asksD u)), .no, .no, .no, .no, .no], ⟨_, l, rfl, ne, w, fun _ _ z => z, rfl⟩, ?_⟩
  rintro k ρ ⟨u, lu, un, us, ui, rfl⟩
  have fu := us.few
  have u0 := sumL_nn us.toAskW
  have u1 := sumP_pos' us.toAskW un
  have u2 := sumP_le us.pm
  have u3 := sumL_le us.lm
  unfold F_level_found_5 F_level_found_4
  walk_at "w"
  refine f_all_leasts h (by omega) fun _ => ?_
  refine f_all_leasts (.inl rfl) (by omega) fun _ => ?_
  walk_at "w"
  refine lc_map u (fun p => .tuple [.int p.1, .int p.2]) (fun p => some (.int p.1)) rfl rfl (by omega) (fun p R acc _ hacc hR => ?_) ?_
  · walk_at "w"
    exact ⟨hacc, hR⟩
  rw [fm_int]
  refine intsF_map ?_
  walk_at "w"
  rw [show (u.map fun p => p.1).sum = sumP u from rfl, show m - sumL l + sumL u = (m - sumL l) + sumL u from rfl]
  refine lc_map u (fun p => .tuple [.int p.1, .int p.2]) (fun p => if isUp (m - sumL l + sumL u) (sumP u) p = true then some (.tuple [.int p.1, .int p.2]) else none) rfl rfl (by omega) (fun p R acc hp hacc hR => ?_) ?_
  · have pa := us.p0 p hp
    have pb := us.pm p hp
    have pc := us.l0 p hp
    have pd := us.lm p hp
    unfold F_level_found_2 F_level_found_3
    walk_at "w"
    refine ⟨.inl ⟨by omega, by omega⟩, .inl ⟨by omega, by omega⟩, ?_⟩
    by_cases hc : p.2 * sumP u < (m - sumL l + sumL u) * p.1
    · rw [if_pos hc]
      rw [show isUp (m - sumL l + sumL u) (sumP u) p = true from decide_eq_true hc, if_pos rfl] at hR
      exact ⟨hacc, hR⟩
    · rw [if_neg hc]
      rw [show isUp (m - sumL l + sumL u) (sumP u) p = false from decide_eq_false hc, if_neg (by decide)] at hR
      rw [Option.toList_none, List.append_nil] at hR
      exact hR
  rw [filterMap_if]
  walk_at "w"
  rw [List.length_map, List.length_map]
  by_cases hc : ((u.filter (isUp (m - sumL l + sumL u) (sumP u))).length : Int) = u.length
  · rw [if_pos hc]
    have e : ups (m - sumL l + sumL u) (sumP u) u = u := by
      unfold ups
      exact List.filter_eq_self.mpr (List.length_filter_eq_length_iff.mp (by omega))
    exact q _ _ (ui _ _ (lv_stop us.toAskW (by omega) u1 e)) (by omega) (by omega) _
  · rw [if_neg hc]
    have hlt := List.length_filter_le (isUp (m - sumL l + sumL u) (sumP u)) u
    have eu : (ups (m - sumL l + sumL u) (sumP u) u).length = (u.filter (isUp (m - sumL l + sumL u) (sumP u))).length := rfl
    unfold F_level_found_1
    walk_at "w"
    have hs := ups_some (c := m - sumL l) (by omega) u1
    exact ⟨_, (by omega : (ups (m - sumL l + sumL u) (sumP u) u).length < k), ups (m - sumL l + sumL u) (sumP u) u, rfl, hs, us.ups _ _, fun T B z => ui T B (lv_step us.toAskW u1 z (sumP_pos' (us.ups _ _).toAskW hs)), rfl⟩
/-- the level that is told: in lowest terms -/
structure LevelOf (m : Int) (l : List (Int × Int)) (T B : Int) : Prop where
  b0 : 0 < B
  t0 : 0 < T
  tm : T ≤ 200000000
  bm : B ≤ 100000000
  low : Int.gcd T B = 1
  all : atLv T B l = m * B
theorem low_terms {T B m : Int} {l : List (Int × Int)} (t0 : 0 < T) (b0 : 0 < B) (tm : T ≤ 200000000) (bm : B ≤ 100000000) (all : atLv T B l = m * B) : LevelOf m l (T / (Int.gcd T B : Nat)) (B / (Int.gcd T B : Nat)) := by
  have g0 : 0 < Int.gcd T B := Int.gcd_pos_of_ne_zero_left _ (by omega)
  have e1 := Int.ediv_mul_cancel (Int.gcd_dvd_left T B)
  have e2 := Int.ediv_mul_cancel (Int.gcd_dvd_right T B)
  have lw : Int.gcd (T / (Int.gcd T B : Nat)) (B / (Int.gcd T B : Nat)) = 1 := Int.gcd_ediv_gcd_ediv_gcd g0
  have g0' : (0 : Int) < (Int.gcd T B : Nat) := by omega
  have d1 : 0 < T / (Int.gcd T B : Nat) := Int.ediv_pos_of_pos_of_dvd t0 (by omega) (Int.gcd_dvd_left T B)
  have d2 : 0 < B / (Int.gcd T B : Nat) := Int.ediv_pos_of_pos_of_dvd b0 (by omega) (Int.gcd_dvd_right T B)
  have d3 : T / (Int.gcd T B : Nat) ≤ T := Int.ediv_le_self _ (by omega)
  have d4 : B / (Int.gcd T B : Nat) ≤ B := Int.ediv_le_self _ (by omega)
  refine ⟨d2, d1, by omega, by omega, lw, ?_⟩
  generalize ((Int.gcd T B : Nat) : Int) = g at *
  generalize T / g = t at *
  generalize B / g = b at *
  subst e1 e2
  rw [atLv_div g0', ← Int.mul_assoc] at all
  exact Int.eq_of_mul_eq_mul_right (by omega) all
theorem f_level_of {d : PyData} {l : List (Int × Int)} {m : Int} (h : AsksAt d l) (w : Small l) (ne : l ≠ []) (h1 : m ≤ 100000000) {P X : PyData → List Sl → Prop}
    (q : ∀ T B, sumL l < m → LevelOf m l T B → ∀ sl, P (.tuple [.int T, .int B]) sl) (qn : m = sumL l → ∀ sl, P .none sl) (qx : m < sumL l → ∀ sl, X (excD "TooLow" (.int (sumL l))) sl) : F_level_of [.fz (.int m), .fz d] P X := by
  have few := w.few
  unfold F_level_of
  walk_at "w"
  refine f_all_leasts h (by omega) fun _ => ?_
  walk_at "w"
  by_cases c1 : m < sumL l
  · rw [if_pos c1]
    exact qx c1 _
  rw [if_neg c1]
  unfold F_level_of_2
  walk_at "w"
  by_cases c2 : m = sumL l
  · rw [if_pos c2]
    exact qn c2 _
  rw [if_neg c2]
  unfold F_level_of_1
  walk_at "w"
  refine f_level_found h w ne (by omega) h1 fun T B z hT hB _ => ?_
  have b0 := z.b0
  have t0 := z.t0
  walk_at "w"
  refine f_gcd (by omega) (by omega) fun _ => ?_
  have g0 : 0 < Int.gcd T B := Int.gcd_pos_of_ne_zero_left _ (by omega)
  have gB : ((Int.gcd T B : Nat) : Int) ≤ B := Int.le_of_dvd b0 (Int.gcd_dvd_right ..)
  walk_at "w"
  refine ⟨⟨by omega, by omega⟩, ⟨by omega, by omega⟩, ?_⟩
  have all := z.all
  rw [show m - sumL l + sumL l = m from by omega] at all
  exact q _ _ (by omega) (low_terms t0 b0 hT hB all) _
/-- asks as they are drawn -/
structure Drawn (l : List (Int × Int)) : Prop where
  p0 : ∀ p ∈ l, 1 ≤ p.1 ∧ p.1 ≤ 99999
  l0 : ∀ p ∈ l, 0 ≤ p.2 ∧ p.2 ≤ p.1
theorem Drawn.small {l : List (Int × Int)} (d : Drawn l) (h : l.length ≤ 20) : Small l :=
  ⟨⟨fun p m => (d.p0 p m).1, fun p m => (d.l0 p m).1⟩, h, fun p m => by have := (d.p0 p m).2; omega, fun p m => by have := (d.p0 p m).2; have := (d.l0 p m).2; omega⟩
theorem Drawn.add {l : List (Int × Int)} (d : Drawn l) {p : Int × Int} (h1 : 1 ≤ p.1 ∧ p.1 ≤ 99999) (h2 : 0 ≤ p.2 ∧ p.2 ≤ p.1) : Drawn (l ++ [p]) := by
  refine ⟨fun q hq => ?_, fun q hq => ?_⟩ <;> rcases List.mem_append.mp hq with h | h
  · exact d.p0 q h
  · rw [List.mem_singleton.mp h]; exact h1
  · exact d.l0 q h
  · rw [List.mem_singleton.mp h]; exact h2
theorem asksD_ne (l : List (Int × Int)) : PyData.eqv (.list (asksD l)) (.list []) = l.isEmpty := by cases l <;> rfl
theorem shaped_asks (l : List (Int × Int)) : SeqAt.shaped (.list (asksD l)) = true ∧ SeqAt.shaped (.tuple (asksD l)) = true := by
  have h : PyData.canLayAll0 (asksD l) = true ∧ PyData.depthAll (asksD l) ≤ 1 := by
    induction l with
    | nil => exact ⟨rfl, Nat.zero_le _⟩
    | cons p l ih =>
      refine ⟨?_, ?_⟩
      · show (true && PyData.canLayAll0 (asksD l)) = true
        rw [ih.1]; rfl
      · show max 1 (PyData.depthAll (asksD l)) ≤ 1
        have := ih.2
        omega
  constructor
  · show (PyData.canLayAll0 (asksD l) && decide (PyData.depthAll (asksD l) + 1 ≤ 64)) = true
    rw [h.1, decide_eq_true (by omega)]
    rfl
  · show (PyData.canLayAll0 (asksD l) && decide (PyData.depthAll (asksD l) + 1 ≤ 64)) = true
    rw [h.1, decide_eq_true (by omega)]
    rfl
theorem Drawn.leP {l : List (Int × Int)} (d : Drawn l) : sumP l ≤ 99999 * l.length ∧ sumL l ≤ sumP l := by
  induction l with
  | nil => exact ⟨Int.le_refl _, Int.le_refl _⟩
  | cons p l ih =>
    rw [sumP_cons, sumL_cons, List.length_cons]
    have := ih ⟨fun q h => d.p0 q (List.mem_cons_of_mem _ h), fun q h => d.l0 q (List.mem_cons_of_mem _ h)⟩
    have := d.p0 p List.mem_cons_self
    have := d.l0 p List.mem_cons_self
    omega
theorem f_asks {ds : List PyData} {n m : Nat} (hb : BoxD ds n) (hn : n < 10000000) (hm : m ≤ 20) {P : PyData → List Sl → Prop} (h : ∀ l ds' sl, l.length = m → Drawn l → BoxD ds' (n + 8 * m) → P (.list (asksD l)) (.own ds' :: sl)) : F__law_asks [.own ds, .fz (.int (m : Int))] P := by
  have lin : sizeLine = 16777216 := by decide +kernel
  unfold F__law_asks
  walk_at "w"
  refine ⟨by omega, by omega, ?_⟩
  rw [Int.toNat_natCast]
  refine for_range (fun i ρ => ∃ (l : List (Int × Int)) (ds' : List PyData), l.length = i ∧ Drawn l ∧ BoxD ds' (n + 8 * i) ∧ ρ = [.own ds', .fz (.int m), .own (asksD l), .no, .no, .no, .no]) ⟨[], ds, rfl, ⟨by simp, by simp⟩, hb, rfl⟩ ?_ ?_
  · rintro i ρ hi ⟨l, d1, ll, dr, b1, rfl⟩
    unfold F__law_asks_2
    walk_at "w"
    refine f_price b1 (by omega) fun pr d2 pr0 pr1 b2 => ?_
    walk_at "w"
    refine take_step b2 (by omega) (by omega) (by omega) fun r3 d3 a3 c3 b3 => ⟨⟨by decide, by decide⟩, ?_⟩
    refine take_step b3 (by decide) (by decide) (by omega) fun r4 d4 a4 c4 b4 => ?_
    obtain ⟨v, e, mm⟩ := at_mem (xs := [PyData.int 0, PyData.int pr, PyData.int r3, PyData.int (pr / 2)]) a4 c4
    obtain ⟨low, rfl, low0, low1⟩ : ∃ a, v = .int a ∧ 0 ≤ a ∧ a ≤ pr := by
      simp only [List.mem_cons, List.not_mem_nil, or_false] at mm
      rcases mm with rfl | rfl | rfl | rfl <;> exact ⟨_, rfl, by omega, by omega⟩
    refine ⟨_, e, ?_⟩
    walk_at "w"
    refine take_step b4 (by decide) (by decide) (by omega) fun r5 d5 a5 c5 b5 => ?_
    have lm : (asksD l).length = l.length := List.length_map ..
    have fin : ∀ (p : Int × Int), (1 ≤ p.1 ∧ p.1 ≤ 99999) → (0 ≤ p.2 ∧ p.2 ≤ p.1) → (asksD l).length < sizeLine ∧ ∃ (l' : List (Int × Int)) (ds' : List PyData), l'.length = i + 1 ∧ Drawn l' ∧ BoxD ds' (n + 8 * (i + 1)) ∧ Sl.own d5 = Sl.own ds' ∧ Sl.own (asksD l ++ [.tuple [.int p.1, .int p.2]]) = Sl.own (asksD l') := by
      intro p h1 h2
      exact ⟨by omega, l ++ [p], d5, by rw [List.length_append, ll]; rfl, dr.add h1 h2, b5.mono (by omega), rfl, by unfold asksD; rw [List.map_append]; rfl⟩
    have ap := fin (pr, low) ⟨pr0, pr1⟩ ⟨low0, low1⟩
    refine ite2 (fun _ => ⟨(shaped_asks l).1, rfl, ?_⟩) fun _ => ap
    rw [asksD_ne]
    refine ite2 (fun hne => ?_) fun _ => ap
    have hl : 0 < l.length := by cases l with | nil => cases hne | cons _ _ => exact Nat.succ_pos _
    have hlast : l[l.length - 1]? = some l[l.length - 1] := List.getElem?_eq_getElem (by omega)
    have el : (asksD l)[(asksD l).length - 1]? = some (.tuple [.int (l[l.length - 1]).1, .int (l[l.length - 1]).2]) := by rw [lm, List.getElem?_map, hlast]; rfl
    have hm' := List.getElem_mem (l := l) (n := l.length - 1) (by omega)
    exact ⟨_, at_last el, fin _ (dr.p0 _ hm') (dr.l0 _ hm')⟩
  · rintro ρ ⟨l, d1, ll, dr, b1, rfl⟩
    unfold F__law_asks_1
    walk_at "w"
    exact h l d1 _ ll dr b1
theorem f_amount {ds : List PyData} {n : Nat} {l : List (Int × Int)} (hb : BoxD ds n) (hn : n < 10000000) (dr : Drawn l) (ne : l ≠ []) (few : l.length ≤ 20) {P : PyData → List Sl → Prop} (h : ∀ a ds' sl, sumL l ≤ a → a ≤ 100000000 → BoxD ds' (n + 4) → P (.int a) (.own ds' :: sl)) : F__law_amount [.own ds, .fz (.list (asksD l))] P := by
  have lin : sizeLine = 16777216 := by decide +kernel
  have w := dr.small few
  have u0 := sumL_nn w.toAskW
  have u1 := sumP_pos' w.toAskW ne
  have lp := dr.leP
  have lm : (asksD l).length = l.length := List.length_map ..
  unfold F__law_amount
  walk_at "w"
  refine lc_map l (fun p => .tuple [.int p.1, .int p.2]) (fun p => some (.int p.2)) rfl rfl (by omega) (fun p R acc _ hacc hR => ?_) ?_
  · walk_at "w"
    exact ⟨hacc, hR⟩
  rw [fm_int]
  refine intsF_map ?_
  walk_at "w"
  refine lc_map l (fun p => .tuple [.int p.1, .int p.2]) (fun p => some (.int p.1)) rfl rfl (by omega) (fun p R acc _ hacc hR => ?_) ?_
  · walk_at "w"
    exact ⟨hacc, hR⟩
  rw [fm_int]
  refine intsF_map ?_
  walk_at "w"
  rw [show (l.map fun p => p.1).sum = sumP l from rfl, show (l.map fun p => p.2).sum = sumL l from rfl, lm]
  refine take_step hb (by omega) (by omega) (by omega) fun r1 d1 x1 c1 b1 => ?_
  refine take_step b1 (by omega) (by omega) (by omega) fun r2 d2 x2 c2 b2 => ?_
  refine ⟨.inl ⟨by decide, by decide⟩, ?_⟩
  refine take_step b2 (by omega) (by omega) (by omega) fun r3 d3 x3 c3 b3 => ?_
  refine take_step b3 (by decide) (by decide) (by omega) fun r4 d4 x4 c4 b4 => ?_
  obtain ⟨v, e, mm⟩ := at_mem (xs := [PyData.int 0, PyData.int 1, PyData.int r1, PyData.int r2, PyData.int r3, PyData.int (9999999 - sumL l)]) x4 c4
  obtain ⟨a, rfl, a0, a1⟩ : ∃ a, v = .int a ∧ 0 ≤ a ∧ a ≤ 9999999 := by
    simp only [List.mem_cons, List.not_mem_nil, or_false] at mm
    rcases mm with rfl | rfl | rfl | rfl | rfl | rfl <;> exact ⟨_, rfl, by omega, by omega⟩
  exact ⟨_, e, h _ _ _ (by omega) (by omega) b4⟩
/-! ### part_heap over data -/
def partD (T B : Int) (p : Int × Int) : PyData := if isUp T B p then .tuple [.int (T * p.1 / B), .int (T * p.1 % B)] else .tuple [.int p.2, .none]
theorem take_succ_map {α β : Type} {l : List α} {i : Nat} {x : α} (f : α → β) (h : l[i]? = some x) : (l.take (i + 1)).map f = (l.take i).map f ++ [f x] := by
  rw [List.take_add_one, h, List.map_append]
  rfl
theorem f_parts_by {d : PyData} {l : List (Int × Int)} {T B : Int} (h : AsksAt d l) (w : Small l) (b0 : 0 < B) (t0 : 0 < T) (tm : T ≤ 200000000) (bm : B ≤ 100000000) {P : PyData → List Sl → Prop} (q : ∀ sl, P (.list (l.map (partD T B))) sl) : F_parts_by [.fz (.tuple [.int T, .int B]), .fz d] P := by
  have lin : sizeLine = 16777216 := by decide +kernel
  have few := w.few
  unfold F_parts_by iA
  walk_at "w"
  refine h.seq ?_
  refine for_map l (fun p => .tuple [.int p.1, .int p.2]) (fun i ρ => ρ = [.fz (.tuple [.int T, .int B]), .fz d, .fz (.int T), .fz (.int B), .own ((l.take i).map (partD T B)), .no, .no]) rfl rfl (fun i p ρ2 hp hi e => ?_) (fun ρ2 e => ?_)
  · subst e
    have pm := List.mem_of_getElem? hp
    have pa := w.p0 p pm
    have pb := w.pm p pm
    have pc := w.l0 p pm
    have pd := w.lm p pm
    unfold F_parts_by_2
    walk_at "w"
    refine ⟨.inl ⟨by omega, by omega⟩, .inl ⟨by omega, by omega⟩, ?_⟩
    have hz : ((l.take i).map (partD T B)).length < sizeLine := by rw [List.length_map, List.length_take]; omega
    have m0 : 0 ≤ T * p.1 := Int.mul_nonneg (by omega) (by omega)
    have m1 : T * p.1 ≤ 200000000 * 1000000 := Int.mul_le_mul tm pb (by omega) (by decide)
    rw [take_succ_map _ hp]
    by_cases c : p.2 * B < T * p.1
    · rw [if_pos c, show partD T B p = .tuple [.int (T * p.1 / B), .int (T * p.1 % B)] from by unfold partD; rw [show isUp T B p = true from decide_eq_true c]; rfl]
      exact ⟨.inl ⟨by omega, by omega⟩, ⟨by omega, by omega⟩, hz, rfl⟩
    · rw [if_neg c, show partD T B p = .tuple [.int p.2, .none] from by unfold partD; rw [show isUp T B p = false from decide_eq_false c]; rfl]
      exact ⟨hz, rfl⟩
  · subst e
    unfold F_parts_by_1
    walk_at "w"
    rw [List.take_length]
    exact q _
theorem cutD_to {xs : List PyData} {k : Int} (h : 0 ≤ k) : cutD xs none (some k) = xs.take k.toNat := by
  obtain ⟨n, rfl⟩ := Int.eq_ofNat_of_zero_le h
  unfold cutD
  rw [HT.sIx_none, HT.sIx_nat, List.drop_zero, Int.toNat_natCast, Nat.sub_zero, ← List.take_take, List.take_length]
/-- what is given so far -/
def sofar (T B : Int) (l : List (Int × Int)) (S : List Int) : List Int := l.zipIdx.map fun q => wh T B q.1 + if (q.2 : Int) ∈ S then 1 else 0
theorem sofar_nil (T B : Int) (l : List (Int × Int)) : sofar T B l [] = l.map (wh T B) := by
  unfold sofar
  have : (l.zipIdx.map (·.1)) = l := by simp
  conv => rhs; rw [← this]
  rw [List.map_map]
  refine List.map_congr_left fun q _ => ?_
  simp
theorem sofar_get {T B : Int} {l : List (Int × Int)} {S : List Int} {i : Nat} {p : Int × Int} (h : l[i]? = some p) : (sofar T B l S)[i]? = some (wh T B p + if (i : Int) ∈ S then 1 else 0) := by
  unfold sofar
  rw [List.getElem?_map, List.getElem?_zipIdx, h]
  show some _ = some _
  rw [Nat.zero_add]
theorem sofar_len (T B : Int) (l : List (Int × Int)) (S : List Int) : (sofar T B l S).length = l.length := by unfold sofar; simp
theorem sofar_add {T B : Int} {l : List (Int × Int)} {S : List Int} {n : Nat} {p : Int × Int} (h : l[n]? = some p) (hn : (n : Int) ∉ S) : (sofar T B l S).set n (wh T B p + 0 + 1) = sofar T B l (S ++ [(n : Int)]) := by
  apply List.ext_getElem?
  intro j
  rw [List.getElem?_set, sofar_len]
  have hl := (List.getElem?_eq_some_iff.mp h).1
  by_cases e : n = j
  · subst e
    rw [if_pos rfl, if_pos hl, sofar_get h, if_pos (List.mem_append_right _ (List.mem_singleton.mpr rfl)), Int.add_zero]
  · rw [if_neg e]
    cases hp : l[j]? with
    | none =>
      have := List.getElem?_eq_none_iff.mp hp
      rw [List.getElem?_eq_none_iff.mpr (by rw [sofar_len]; exact this), List.getElem?_eq_none_iff.mpr (by rw [sofar_len]; exact this)]
    | some p' =>
      rw [sofar_get hp, sofar_get hp]
      have : (j : Int) ∈ S ++ [(n : Int)] ↔ (j : Int) ∈ S := by
        rw [List.mem_append, List.mem_singleton]
        constructor
        · rintro (z | z)
          · exact z
          · omega
        · exact .inl
      simp only [this]
theorem f_part_heap {d : PyData} {l : List (Int × Int)} {m : Int} (h : AsksAt d l) (w : Small l) (ne : l ≠ []) (h1 : m ≤ 100000000) {P : PyData → List Sl → Prop} {X : PyData → List Sl → Prop}
    (q : ∀ vs, HeapOf m l vs → ∀ sl, P (.list (vs.map .int)) sl) (qx : m < sumL l → ∀ sl, X (excD "TooLow" (.int (sumL l))) sl) : F_part_heap [.fz (.int m), .fz d] P X := by
  have lin : sizeLine = 16777216 := by decide +kernel
  have few := w.few
  unfold F_part_heap iA
  walk_at "w"
  refine f_level_of h w ne h1 (fun T B c z _ => ?_) (fun c _ => ?_) (fun c _ => ?_)
  · walk_at "w"
    unfold F_part_heap_4
    walk_at "w"
    refine f_parts_by h w z.b0 z.t0 z.tm z.bm fun _ => ?_
    walk_at "w"
    refine lc_map l (partD T B) (fun p => some (.int (wh T B p))) rfl rfl (by omega) (fun p R acc _ hacc hR => ?_) ?_
    · unfold partD
      unfold wh at hR
      by_cases u : isUp T B p = true
      · rw [if_pos u] at hR ⊢
        walk_at "w"
        exact ⟨hacc, hR⟩
      · rw [if_neg u] at hR ⊢
        walk_at "w"
        exact ⟨hacc, hR⟩
    rw [fm_int]
    walk_at "w"
    refine lc_map l.zipIdx (fun q => .tuple [.int (q.2 : Nat), partD T B q.1]) (fun q => if isUp T B q.1 = true then some (.int (q.2 : Nat)) else none) (by unfold enumD; rw [List.zipIdx_map, List.map_map]; rfl) rfl (by rw [List.length_zipIdx]; omega) (fun p R acc _ hacc hR => ?_) ?_
    · unfold partD F_part_heap_3
      by_cases u : isUp T B p.1 = true
      · rw [if_pos u] at hR ⊢
        walk_at "w"
        exact ⟨hacc, hR⟩
      · rw [if_neg u] at hR ⊢
        walk_at "w"
        rw [Option.toList_none, List.append_nil] at hR
        exact hR
    rw [filterMap_if, show (l.zipIdx.filter fun q => isUp T B q.1).map (fun q => PyData.int (q.2 : Nat)) = (oth T B l).map .int from by unfold oth; rw [List.map_map]; rfl]
    walk_at "w"
    refine ⟨oth T B l, l.map (partD T B), gOf T B l, rfl, rfl, fun n hn => ?_, fun ns' pm pw st => ?_⟩
    · obtain ⟨n0, p, e, u⟩ := mem_oth.mp hn
      refine ⟨n0, [.int (T * p.1 / B), .int (T * p.1 % B)], ?_, ?_⟩
      · rw [List.getElem?_map, e]
        show some (partD T B p) = _
        unfold partD
        rw [if_pos u]
      · unfold gOf rm
        rw [List.getD_eq_getElem?_getD, e]
        rfl
    refine intsF_map ?_
    rw [show (l.map (wh T B)).sum = sumW T B l from rfl]
    obtain ⟨r0, r1⟩ := left_ok z.b0 z.all
    have ndp : ns'.Nodup := pm.nodup_iff.mpr ((oth_inc T B l).imp fun h => by omega)
    have ndt : (ns'.take (m - sumW T B l).toNat).Nodup := (List.take_sublist _ _).nodup ndp
    rw [cutD_to r0, ← List.map_take]
    have inn : ∀ n ∈ ns'.take (m - sumW T B l).toNat, 0 ≤ n ∧ ∃ p, l[n.toNat]? = some p := fun n hn => by
      obtain ⟨n0, p, e, _⟩ := mem_oth.mp (pm.mem_iff.mp (List.mem_of_mem_take hn))
      exact ⟨n0, p, e⟩
    have ts := take_sorted (oth_inc T B l) pm pw st (m - sumW T B l).toNat
    refine for_map (ns'.take (m - sumW T B l).toNat) PyData.int (fun i ρ => ∃ s, (s = Sl.no ∨ ∃ d, s = Sl.fz d) ∧ ρ = [Sl.fz (PyData.int m), Sl.fz d, Sl.fz (PyData.tuple [PyData.int T, PyData.int B]), Sl.no, Sl.no, Sl.fz (PyData.list (List.map (partD T B) l)), Sl.own ((sofar T B l ((ns'.take (m - sumW T B l).toNat).take i)).map PyData.int), Sl.no, Sl.no, Sl.fz (PyData.list (List.map PyData.int ns')), s]) rfl ⟨_, .inl rfl, by rw [List.take_zero, sofar_nil]; rfl⟩ (fun i n ρ2 hn hi e => ?_) (fun ρ2 e => ?_)
    · obtain ⟨s, hs, rfl⟩ := e
      obtain ⟨n0, p, hp⟩ := inn n (List.mem_of_getElem? hn)
      obtain ⟨k, rfl⟩ := Int.eq_ofNat_of_zero_le n0
      rw [Int.toNat_natCast] at hp
      have hnot : (k : Int) ∉ (ns'.take (m - sumW T B l).toNat).take i := fun hm => by
        obtain ⟨a, ha, e⟩ := List.mem_iff_getElem.mp hm
        rw [List.length_take] at ha
        rw [List.getElem_take] at e
        obtain ⟨hb, e2⟩ := List.getElem?_eq_some_iff.mp hn
        exact List.pairwise_iff_getElem.mp ndt a i (by omega) hb (by omega) (e.trans e2.symm)
      have hg := sofar_get (T := T) (B := B) (S := (ns'.take (m - sumW T B l).toNat).take i) hp
      rw [if_neg hnot] at hg
      have ha := sofar_add (T := T) (B := B) hp hnot
      unfold F_part_heap_2
      have fin : ∃ c, atI (List.map PyData.int (sofar T B l (List.take i (List.take (m - sumW T B l).toNat ns')))) (k : Int) = some (PyData.int c) ∧
          ∃ j, ixN (List.map PyData.int (sofar T B l (List.take i (List.take (m - sumW T B l).toNat ns')))).length (k : Int) = some j ∧
            ∃ s, (s = Sl.no ∨ ∃ d, s = Sl.fz d) ∧ Sl.own ((List.map PyData.int (sofar T B l (List.take i (List.take (m - sumW T B l).toNat ns')))).set j (PyData.int (c + 1))) = Sl.own (List.map PyData.int (sofar T B l (List.take (i + 1) (List.take (m - sumW T B l).toNat ns')))) ∧ Sl.fz (PyData.int (k : Int)) = s := by
        refine ⟨wh T B p + 0, by rw [atI_map, atI_nat' hg]; rfl, k, ixN_nat (by rw [List.length_map, sofar_len]; exact (List.getElem?_eq_some_iff.mp hp).1), _, .inr ⟨_, rfl⟩, ?_, rfl⟩
        rw [← List.map_set, ha, List.take_add_one (i := i), hn]
        rfl
      rcases hs with rfl | ⟨d', rfl⟩
      · walk_at "w"
        exact fin
      · walk_at "w"
        exact fin
    · obtain ⟨s, hs, rfl⟩ := e
      unfold F_part_heap_1
      walk_at "w"
      rw [List.take_length]
      refine q _ (.inr ⟨c, T, B, ⟨z.b0, z.t0, z.all⟩, ?_⟩) _
      unfold sofar gives
      refine List.map_congr_left fun q _ => ?_
      have e := ts (q.2 : Int)
      by_cases c : (q.2 : Int) ∈ oth T B l ∧ ((oth T B l).countP (bef (gOf T B l) · (q.2 : Int)) : Int) < m - sumW T B l
      · rw [if_pos c, if_pos (e.mpr ⟨c.1, by have := c.2; omega⟩)]
      · rw [if_neg c, if_neg fun z => c ⟨(e.mp z).1, by have := (e.mp z).2; omega⟩]
  · walk_at "w"
    refine h.seq ?_
    refine lc_map l (fun p => .tuple [.int p.1, .int p.2]) (fun p => some (.int p.2)) rfl rfl (by omega) (fun p R acc _ hacc hR => ?_) ?_
    · walk_at "w"
      exact ⟨hacc, hR⟩
    rw [fm_int]
    exact q _ (.inl ⟨c, rfl⟩) _
  · exact qx c _
/-! ### levels, lists of numbers as data -/
/-- the level as data -/
def LvD (m : Int) (l : List (Int × Int)) (lv : PyData) : Prop := (lv = .none ∧ m = sumL l) ∨ ∃ T B, lv = .tuple [.int T, .int B] ∧ sumL l < m ∧ LevelOf m l T B
theorem f_level_d {d : PyData} {l : List (Int × Int)} {m : Int} (h : AsksAt d l) (w : Small l) (ne : l ≠ []) (h1 : m ≤ 100000000) (h0 : sumL l ≤ m) {P X : PyData → List Sl → Prop} (q : ∀ lv, LvD m l lv → ∀ sl, P lv sl) : F_level_of [.fz (.int m), .fz d] P X :=
  f_level_of h w ne h1 (fun T B c z => q _ (.inr ⟨T, B, rfl, c, z⟩)) (fun c => q _ (.inl ⟨rfl, c⟩)) fun c => by omega
theorem lay_ints (vs : List Int) : PyData.canLayAll0 (vs.map .int) = true ∧ PyData.depthAll (vs.map .int) ≤ 0 := by
  induction vs with
  | nil => exact ⟨rfl, Nat.le_refl _⟩
  | cons v vs ih =>
    refine ⟨?_, ?_⟩
    · show (true && PyData.canLayAll0 (vs.map .int)) = true
      rw [ih.1]; rfl
    · show max 0 (PyData.depthAll (vs.map .int)) ≤ 0
      have := ih.2
      omega
theorem shaped_ints (vs : List Int) : SeqAt.shaped (.list (vs.map .int)) = true := by
  have h := lay_ints vs
  show (PyData.canLayAll0 (vs.map .int) && decide (PyData.depthAll (vs.map .int) + 1 ≤ 64)) = true
  rw [h.1, decide_eq_true (by omega)]
  rfl
theorem eqv_ints (vs : List Int) : PyData.eqv (.list (vs.map .int)) (.list (vs.map .int)) = true := SeqAt.eqv_refl _ (SeqAt.canLay_of_shaped (shaped_ints vs))
theorem cutD_from {xs : List PyData} {k : Nat} (h : k ≤ xs.length) : cutD xs (some (k : Int)) none = xs.drop k := by
  unfold cutD
  rw [HT.sIx_none, HT.sIx_nat, Nat.min_eq_left h, ← List.length_drop, List.take_length]
theorem ints_facts (vs : List Int) : PyData.depthAll (vs.map .int) = 0 ∧ nodesAll (vs.map .int) = vs.length := by
  induction vs with
  | nil => exact ⟨rfl, rfl⟩
  | cons v vs ih =>
    refine ⟨?_, ?_⟩
    · show max 0 (PyData.depthAll (vs.map .int)) = 0
      rw [ih.1]; rfl
    · show nodes (.int v) + nodesAll (vs.map .int) = vs.length + 1
      rw [ih.2, show nodes (.int v) = 1 from rfl]; omega
theorem same_ints {vs : List Int} (few : vs.length ≤ 1000) {Q : List Sl → Prop} (q : ∀ sl, Q sl) : PyData.list (vs.map .int) = .list (vs.map .int) ∧ SeqAt.shaped (.list (vs.map .int)) = true ∧ (PyData.list (vs.map .int)).depth < 8 ∧ nodes (.list (vs.map .int)) ≤ 1000000 ∧ ∀ sl, Q sl := by
  obtain ⟨h1, h2⟩ := ints_facts vs
  refine ⟨rfl, shaped_ints vs, ?_, ?_, q⟩
  · show PyData.depthAll (vs.map .int) + 1 < 8
    rw [h1]; decide
  · show nodesAll (vs.map .int) + 1 ≤ 1000000
    rw [h2]; omega
/-! ### fair parts -/
def fairZ (m : Int) (zs : List (Int × Int × Int)) : Bool := decide ((zs.map (·.1)).sum = m) && (zs.all (fun z => decide (z.2.2 ≤ z.1)) && zs.all fun z => !decide (z.2.2 < z.1) || zs.all fun y => decide ((z.1 - 1) * y.2.1 < (y.1 + 1) * z.2.1))
theorem zip_asks (vs : List Int) (l : List (Int × Int)) : zipD (vs.map .int) (asksD l) = (vs.zip l).map fun z => .tuple [.int z.1, .tuple [.int z.2.1, .int z.2.2]] := by
  unfold zipD asksD
  rw [List.zip_map, List.map_map]
  rfl
theorem any_not {α : Type} (xs : List α) (p q : α → Bool) (h : ∀ x, p x = !q x) : (xs.map p).any id = !xs.all q := by
  induction xs with
  | nil => rfl
  | cons x xs ih => rw [List.map_cons, List.any_cons, List.all_cons, ih, h]; cases q x <;> rfl
theorem all_id {α : Type} (xs : List α) (p : α → Bool) : (xs.map p).all id = xs.all p := by rw [List.all_map]; rfl
theorem fm_bool {α : Type} (xs : List α) (h : α → Bool) : xs.filterMap (fun x => some (PyData.bool (h x))) = (xs.map h).map PyData.bool := by
  rw [filterMap_some, List.map_map]
  rfl
/-! ### shows_fair over data -/
theorem f_fair_ints {d : PyData} {l : List (Int × Int)} {m : Int} {vs : List Int} (h : AsksAt d l) (w : Small l) (hv : vs.length = l.length) (bv : ∀ v ∈ vs, v.natAbs ≤ 1000000000) {P : PyData → List Sl → Prop} (q : ∀ sl, P (.bool (fairZ m (vs.zip l))) sl) : F_shows_fair [.fz (.int m), .fz d, .fz (.list (vs.map .int))] P := by
  have lin : sizeLine = 16777216 := by decide +kernel
  have few := w.few
  unfold F_shows_fair
  walk_at "w"
  refine h.seq ?_
  rw [List.length_map, List.length_map, if_pos (by rw [hv])]
  refine lc_map vs PyData.int (fun _ => some (.bool true)) rfl rfl (by omega) (fun v R acc hm hacc hR => ?_) ?_
  · unfold F_shows_fair_7 F_is_plain_number
    walk_at "w"
    exact ⟨hacc, hR⟩
  rw [fm_bool vs fun _ => true]
  refine boolsF_map ?_
  rw [all_id, show (vs.all fun _ => true) = true from by simp, if_neg (by decide)]
  unfold F_shows_fair_6
  walk_at "w"
  refine intsF_map ?_
  have es : ((vs.zip l).map (·.1)) = vs := List.map_fst_zip (by omega)
  have zl : (vs.zip l).length ≤ 20 := by rw [List.length_zip]; omega
  have inn : ∀ z ∈ vs.zip l, z.1.natAbs ≤ 1000000000 ∧ 1 ≤ z.2.1 ∧ z.2.1 ≤ 1000000 ∧ 0 ≤ z.2.2 ∧ z.2.2 ≤ 1000000 := fun z hz => by
    obtain ⟨z1, z2⟩ := List.of_mem_zip (show (z.1, z.2) ∈ vs.zip l from hz)
    exact ⟨bv _ z1, w.p0 _ z2, w.pm _ z2, w.l0 _ z2, w.lm _ z2⟩
  unfold fairZ at q
  rw [es] at q
  by_cases c1 : vs.sum = m
  · rw [if_pos c1]
    rw [decide_eq_true c1, Bool.true_and] at q
    refine h.seq ?_
    rw [zip_asks]
    refine lc_map (vs.zip l) (fun z => .tuple [.int z.1, .tuple [.int z.2.1, .int z.2.2]]) (fun z => some (.bool (decide (z.1 < z.2.2)))) rfl rfl (by omega) (fun z R acc hm hacc hR => ?_) ?_
    · unfold F_shows_fair_5
      walk_at "w"
      exact ⟨hacc, hR⟩
    rw [fm_bool]
    refine boolsF_map ?_
    rw [any_not (vs.zip l) (fun z => decide (z.1 < z.2.2)) (fun z => decide (z.2.2 ≤ z.1)) fun z => by
      by_cases c : z.1 < z.2.2
      · rw [decide_eq_true c, decide_eq_false (by omega)]; rfl
      · rw [decide_eq_false c, decide_eq_true (by omega)]; rfl]
    cases c2 : (vs.zip l).all fun z => decide (z.2.2 ≤ z.1) with
    | false =>
      rw [c2, Bool.false_and] at q
      exact q _
    | true =>
      rw [c2, Bool.true_and] at q
      unfold F_shows_fair_4
      walk_at "w"
      refine h.seq ?_
      rw [zip_asks]
      refine for_map (vs.zip l) (fun z => .tuple [.int z.1, .tuple [.int z.2.1, .int z.2.2]]) (fun i ρ => ρ = [Sl.fz (.int m), Sl.fz d, Sl.fz (.list (vs.map .int)), .no, .no, .no, .no] ∧ ((vs.zip l).take i).all (fun z => !decide (z.2.2 < z.1) || (vs.zip l).all fun y => decide ((z.1 - 1) * y.2.1 < (y.1 + 1) * z.2.1)) = true) rfl ⟨rfl, by simp⟩ (fun i z ρ2 hz hi e => ?_) (fun ρ2 e => ?_)
      · obtain ⟨rfl, ea⟩ := e
        have hm := List.mem_of_getElem? hz
        obtain ⟨b1, b2, b3, b4, b5⟩ := inn z hm
        have tk : ((vs.zip l).take (i + 1)).all (fun z => !decide (z.2.2 < z.1) || (vs.zip l).all fun y => decide ((z.1 - 1) * y.2.1 < (y.1 + 1) * z.2.1)) = (!decide (z.2.2 < z.1) || (vs.zip l).all fun y => decide ((z.1 - 1) * y.2.1 < (y.1 + 1) * z.2.1)) := by
          rw [List.take_add_one, hz, List.all_append, ea, Bool.true_and]
          show (_ && true) = _
          rw [Bool.and_true]
        rw [tk]
        unfold F_shows_fair_3
        walk_at "w"
        by_cases c3 : z.2.2 < z.1
        · rw [if_pos c3, decide_eq_true c3]
          refine h.seq ?_
          rw [zip_asks]
          refine lc_map (vs.zip l) (fun z => .tuple [.int z.1, .tuple [.int z.2.1, .int z.2.2]]) (fun y => some (.bool (decide ((z.1 - 1) * y.2.1 < (y.1 + 1) * z.2.1)))) rfl rfl (by omega) (fun y R acc hy hacc hR => ?_) ?_
          · obtain ⟨e1, e2, e3, e4, e5⟩ := inn y hy
            unfold F_shows_fair_2 F_is_level_pair
            walk_at "w"
            exact ⟨.inl ⟨by omega, by omega⟩, .inl ⟨by omega, by omega⟩, hacc, hR⟩
          rw [fm_bool]
          refine boolsF_map ?_
          rw [all_id]
          cases c4 : (vs.zip l).all fun y => decide ((z.1 - 1) * y.2.1 < (y.1 + 1) * z.2.1) with
          | false =>
            have : (vs.zip l).all (fun z => !decide (z.2.2 < z.1) || (vs.zip l).all fun y => decide ((z.1 - 1) * y.2.1 < (y.1 + 1) * z.2.1)) = false := by
              rw [List.all_eq_false]
              exact ⟨z, hm, by rw [c4, decide_eq_true c3]; decide⟩
            rw [this] at q
            rw [if_pos rfl]
            exact q _
          | true =>
            rw [if_neg (by decide)]
            exact ⟨rfl, rfl⟩
        · rw [if_neg c3, decide_eq_false c3]
          first | exact ⟨rfl, rfl⟩ | rfl
      · obtain ⟨rfl, ea⟩ := e
        rw [List.take_length] at ea
        rw [ea] at q
        unfold F_shows_fair_1
        walk_at "w"
        exact q _
  · rw [if_neg c1]
    rw [decide_eq_false c1, Bool.false_and] at q
    exact q _
/-! ### the law's own level: plain part -/
theorem up_iff {T B m : Int} {l : List (Int × Int)} (w : AskW l) (hB : 0 < B) (all : atLv T B l = m * B) {p : Int × Int} (hp : p ∈ l) : atLv p.2 p.1 l < m * p.1 ↔ p.2 * B < T * p.1 := by
  have p1 := w.p0 p hp
  have e1 := cross_mul (C := p.1) (by omega) all
  have e2 := atLv_div (T := p.2) (B := p.1) hB l
  rw [Int.mul_comm p.1 B] at e2
  constructor
  · intro h
    refine Int.lt_of_not_ge fun z => ?_
    have := atLv_mono (D := B * p.1) w z
    rw [e1, e2, Int.mul_comm B, ← Int.mul_assoc] at this
    have := le_of_mul hB this
    omega
  · intro h
    have := atLv_lt (D := B * p.1) w h ⟨p, hp, by rw [← Int.mul_assoc]; exact Int.mul_lt_mul_of_pos_right h (by omega)⟩
    rw [e1, e2, Int.mul_comm B p.1, ← Int.mul_assoc] at this
    exact Int.lt_of_mul_lt_mul_right this (by omega)
theorem law_above {T B m : Int} {l : List (Int × Int)} (w : AskW l) (hB : 0 < B) (all : atLv T B l = m * B) : l.filter (fun p => decide (atLv p.2 p.1 l < m * p.1)) = ups T B l := by
  unfold ups isUp
  refine List.filter_congr fun p hp => ?_
  rw [decide_eq_decide]
  exact up_iff w hB all hp
theorem lv_ups {T B m : Int} {l : List (Int × Int)} (all : atLv T B l = m * B) : T * sumP (ups T B l) = (m - (sumL l - sumL (ups T B l))) * B := by
  have h := atLv_ups (T := T) (B := B) (T' := T) (B' := B) (l := l) fun p _ n => by omega
  have h2 := atLv_all (T := T) (B := B) (l := ups T B l) fun p hp => of_decide_eq_true (List.mem_filter.mp hp).2
  rw [h2, all] at h
  rw [Int.sub_mul, h, Int.mul_comm B]
  omega
theorem law_lv {T B m : Int} {l : List (Int × Int)} (w : AskW l) (hm : sumL l < m) (hB : 0 < B) (hT : 0 < T) (all : atLv T B l = m * B) : LvA m l (m - (sumL l - sumL (ups T B l))) (sumP (ups T B l)) := by
  have ne : ups T B l ≠ [] := fun z => by
    have : atLv T B l = sumL l * B := atLv_none fun p hp q => by
      have : p ∈ ups T B l := List.mem_filter.mpr ⟨hp, decide_eq_true q⟩
      rw [z] at this
      cases this
    rw [all] at this
    have := Int.mul_lt_mul_of_pos_right hm hB
    omega
  have b0 := sumP_pos' (w.ups T B) ne
  have e := lv_ups all
  generalize sumP (ups T B l) = C at *
  generalize m - (sumL l - sumL (ups T B l)) = U at *
  have u0 : 0 < U := by
    have : 0 < U * B := by rw [← e]; exact Int.mul_pos hT b0
    refine Int.lt_of_not_ge fun z => ?_
    have := Int.mul_le_mul_of_nonneg_right (c := B) z (by omega)
    rw [Int.zero_mul] at this
    omega
  refine ⟨b0, u0, ?_⟩
  have e1 := atLv_div (T := U) (B := C) hB l
  rw [← e, Int.mul_comm C B, cross_mul b0 all, Int.mul_comm B, ← Int.mul_assoc] at e1
  exact (Int.eq_of_mul_eq_mul_right (by omega) e1).symm
/-- parts by a level are fair -/
theorem gives_fair {m T B : Int} {l : List (Int × Int)} (w : AskW l) (z : LvA m l T B) : fairZ m ((gives m T B l).zip l) = true := by
  have b0 := z.b0
  have len := gives_len m T B l
  have at_ : ∀ y ∈ (gives m T B l).zip l, 1 ≤ y.2.1 ∧ 0 ≤ y.2.2 ∧ y.2.2 ≤ y.1 ∧ T * y.2.1 < (y.1 + 1) * B ∧ (y.2.2 < y.1 → (y.1 - 1) * B ≤ T * y.2.1) := fun y hy => by
    obtain ⟨i, hi⟩ := List.mem_iff_getElem?.mp hy
    have hz := List.getElem?_zip_eq_some.mp hi
    obtain ⟨c, hc, e⟩ := gives_at (m := m) (T := T) (B := B) hz.2
    rw [hz.1] at e
    have ey : y.1 = wh T B y.2 + c := Option.some.inj e
    have pm := List.mem_of_getElem? hz.2
    have p1 := w.p0 _ pm
    have p2 := w.l0 _ pm
    have d1 := Int.mul_ediv_add_emod (T * y.2.1) B
    have d2 := Int.emod_nonneg (T * y.2.1) (show B ≠ 0 by omega)
    have d3 := Int.emod_lt_of_pos (T * y.2.1) b0
    have c0 : 0 ≤ c := by rcases hc with rfl | ⟨rfl, _⟩ <;> omega
    refine ⟨p1, p2, ?_, ?_, fun lt => ?_⟩
    · rw [ey, wh_max b0]
      have := Int.le_max_left y.2.2 (T * y.2.1 / B)
      omega
    · rw [ey, wh_max b0]
      have := Int.le_max_right y.2.2 (T * y.2.1 / B)
      have h1 : (T * y.2.1 / B + 1) * B ≤ (max y.2.2 (T * y.2.1 / B) + c + 1) * B := Int.mul_le_mul_of_nonneg_right (by omega) (by omega)
      rw [Int.add_mul, Int.mul_comm _ B] at h1
      omega
    · by_cases u : y.2.2 * B < T * y.2.1
      · have ew : wh T B y.2 = T * y.2.1 / B := by unfold wh; rw [show isUp T B y.2 = true from decide_eq_true u, if_pos rfl]
        have h1 : (y.1 - 1) * B ≤ (T * y.2.1 / B) * B := Int.mul_le_mul_of_nonneg_right (by rcases hc with rfl | ⟨rfl, _⟩ <;> omega) (by omega)
        have h2 : (T * y.2.1 / B) * B = B * (T * y.2.1 / B) := Int.mul_comm ..
        omega
      · have ew : wh T B y.2 = y.2.2 := by unfold wh; rw [show isUp T B y.2 = false from decide_eq_false u, if_neg (by decide)]
        rcases hc with rfl | ⟨_, hc⟩
        · omega
        · exact absurd hc u
  unfold fairZ
  rw [Bool.and_eq_true, Bool.and_eq_true, decide_eq_true_eq, List.all_eq_true, List.all_eq_true]
  refine ⟨?_, fun y hy => decide_eq_true (at_ y hy).2.2.1, fun y hy => ?_⟩
  · rw [show ((gives m T B l).zip l).map (·.1) = gives m T B l from List.map_fst_zip (by omega)]
    exact gives_sum b0 z.all
  · obtain ⟨y1, y2, y3, y4, y5⟩ := at_ y hy
    by_cases lt : y.2.2 < y.1
    · rw [decide_eq_true lt, Bool.not_true, Bool.false_or, List.all_eq_true]
      intro x hx
      obtain ⟨x1, x2, x3, x4, x5⟩ := at_ x hx
      refine decide_eq_true (Int.lt_of_mul_lt_mul_right (a := B) ?_ (by omega))
      have h1 : (y.1 - 1) * B * x.2.1 ≤ T * y.2.1 * x.2.1 := Int.mul_le_mul_of_nonneg_right (y5 lt) (by omega)
      have h2 : T * x.2.1 * y.2.1 < (x.1 + 1) * B * y.2.1 := Int.mul_lt_mul_of_pos_right x4 (by omega)
      have r1 : (y.1 - 1) * x.2.1 * B = (y.1 - 1) * B * x.2.1 := by rw [Int.mul_assoc, Int.mul_comm x.2.1, ← Int.mul_assoc]
      have r2 : (x.1 + 1) * y.2.1 * B = (x.1 + 1) * B * y.2.1 := by rw [Int.mul_assoc, Int.mul_comm y.2.1, ← Int.mul_assoc]
      have r3 : T * y.2.1 * x.2.1 = T * x.2.1 * y.2.1 := by rw [Int.mul_assoc, Int.mul_comm y.2.1, ← Int.mul_assoc]
      omega
    · rw [decide_eq_false lt]
      rfl
theorem HeapOf.fair {m : Int} {l : List (Int × Int)} {vs : List Int} (w : AskW l) (h : HeapOf m l vs) : fairZ m (vs.zip l) = true := by
  rcases h with ⟨e, rfl⟩ | ⟨_, T, B, z, rfl⟩
  · unfold fairZ
    have at_ : ∀ y ∈ (l.map (·.2)).zip l, y.1 = y.2.2 := fun y hy => by
      obtain ⟨i, hi⟩ := List.mem_iff_getElem?.mp hy
      have hz := List.getElem?_zip_eq_some.mp hi
      rw [List.getElem?_map, hz.2] at hz
      exact (Option.some.inj hz.1).symm
    rw [Bool.and_eq_true, Bool.and_eq_true, decide_eq_true_eq, List.all_eq_true, List.all_eq_true]
    refine ⟨?_, fun y hy => decide_eq_true (by rw [at_ y hy]; exact Int.le_refl _), fun y hy => ?_⟩
    · rw [show ((l.map (·.2)).zip l).map (·.1) = l.map (·.2) from List.map_fst_zip (by rw [List.length_map]; exact Nat.le_refl _)]
      exact e.symm
    · rw [decide_eq_false (by rw [at_ y hy]; omega)]
      rfl
  · exact gives_fair w z
/-- parts are within bounds -/
theorem HeapOf.bd {m : Int} {l : List (Int × Int)} {vs : List Int} (w : AskW l) (h : HeapOf m l vs) : ∀ v ∈ vs, 0 ≤ v ∧ v ≤ m := by
  have nn : ∀ v ∈ vs, 0 ≤ v := fun v hv => by
    have f := h.fair w
    unfold fairZ at f
    rw [Bool.and_eq_true, Bool.and_eq_true, List.all_eq_true] at f
    obtain ⟨i, hi⟩ := List.mem_iff_getElem?.mp hv
    have li := (List.getElem?_eq_some_iff.mp hi).1
    rw [h.len] at li
    have hz : (vs.zip l)[i]? = some (v, l[i]) := List.getElem?_zip_eq_some.mpr ⟨hi, List.getElem?_eq_getElem li⟩
    have h3 : l[i].2 ≤ v := of_decide_eq_true (f.2.1 _ (List.mem_of_getElem? hz))
    have := w.l0 _ (List.getElem_mem li)
    omega
  have sm := h.sum
  clear h
  induction vs generalizing m with
  | nil => exact fun v hv => by cases hv
  | cons u vs ih =>
    rw [List.sum_cons] at sm
    intro v hv
    have hs : 0 ≤ vs.sum := by
      clear ih sm hv
      induction vs with
      | nil => exact Int.le_refl _
      | cons a r ih =>
        rw [List.sum_cons]
        have := nn a (List.mem_cons_of_mem _ List.mem_cons_self)
        have := ih fun x hx => nn x (by rcases List.mem_cons.mp hx with rfl | hx; exact List.mem_cons_self; exact List.mem_cons_of_mem _ (List.mem_cons_of_mem _ hx))
        omega
    have u0 := nn u List.mem_cons_self
    rcases List.mem_cons.mp hv with rfl | hv'
    · exact ⟨u0, by omega⟩
    · have := ih (m := vs.sum) (fun x hx => nn x (List.mem_cons_of_mem _ hx)) rfl v hv'
      omega
/-- there is a level -/
theorem lv_ex {c : Int} (hc : 0 < c) : ∀ (k : Nat) (l : List (Int × Int)), l.length ≤ k → AskW l → l ≠ [] → ∃ T B, LvOk c T B l
  | 0, l, hk, _, ne => absurd (List.length_eq_zero_iff.mp (by omega)) ne
  | k + 1, l, hk, w, ne => by
    have hb := sumP_pos' w ne
    by_cases h : ups (c + sumL l) (sumP l) l = l
    · exact ⟨_, _, lv_stop w hc hb h⟩
    · have le : (ups (c + sumL l) (sumP l) l).length ≤ l.length := List.length_filter_le _ _
      have ne2 : (ups (c + sumL l) (sumP l) l).length ≠ l.length := fun e => h (List.filter_eq_self.mpr (List.length_filter_eq_length_iff.mp e))
      have us := ups_some hc hb
      obtain ⟨T, B, z⟩ := lv_ex hc k (ups (c + sumL l) (sumP l) l) (by omega) (w.ups _ _) us
      exact ⟨T, B, lv_step w hb z (sumP_pos' (w.ups _ _) us)⟩
theorem lv_at {m : Int} {l : List (Int × Int)} (w : AskW l) (ne : l ≠ []) (h : sumL l < m) : ∃ T B, LvA m l T B := by
  obtain ⟨T, B, z⟩ := lv_ex (c := m - sumL l) (by omega) l.length l (Nat.le_refl _) w ne
  refine ⟨T, B, z.b0, z.t0, ?_⟩
  have := z.all
  rw [show m - sumL l + sumL l = m from by omega] at this
  exact this
/-! ### any things: plain data within bounds -/
theorem int_len {i : Int} (h : i.natAbs ≤ 1000000000) : (Str.ofString (toString i)).length ≤ 11 := by
  by_cases h0 : 0 ≤ i
  · exact Nat.le_trans (PyProof.Rows.toString_length_le h0 (k := 10) (by decide) (by omega)) (by decide)
  · rw [PyProof.Rows.len_text_neg (by omega)]
    have := PyProof.Rows.toString_length_le (v := 0 - i) (by omega) (k := 10) (by decide) (by omega)
    omega
theorem ofString_ok (s : String) : (Str.ofString s).cps.all (· < 0x110000) = true := by
  refine Array.all_eq_true_iff_forall_mem.mpr fun c hc => ?_
  rw [Str.ofString_eq_toList] at hc
  have hm : c ∈ s.toList.map Char.toNat := List.mem_toArray.mp hc
  obtain ⟨ch, _, rfl⟩ := List.mem_map.mp hm
  have v := ch.valid
  have e : ch.toNat = ch.val.toNat := rfl
  refine decide_eq_true ?_
  rw [e]
  rcases v with v | v
  · omega
  · exact v.2
mutual
def okD (B : Nat) : PyData → Bool
  | .none => true
  | .bool _ => true
  | .int i => decide (i.natAbs ≤ B)
  | .str z => decide (z.length ≤ 20) && z.cps.all (· < 0x110000)
  | .list xs => okAll B xs
  | .tuple xs => okAll B xs
  | .dict _ => false
def okAll (B : Nat) : List PyData → Bool
  | [] => true
  | x :: r => okD B x && okAll B r
end
theorem okI {B : Nat} {i : Int} (h : i.natAbs ≤ B) : okD B (.int i) = true := by
  unfold okD
  exact decide_eq_true h
theorem okAll_iff {B : Nat} {ds : List PyData} : okAll B ds = true ↔ ∀ d ∈ ds, okD B d = true := by
  induction ds with
  | nil => simp [okAll]
  | cons x r ih => simp [okAll, ih]
mutual
theorem okD.mono {B C : Nat} (h : B ≤ C) : ∀ {d : PyData}, okD B d = true → okD C d = true
  | .none, _ => rfl
  | .bool _, _ => rfl
  | .int i, q => decide_eq_true (Nat.le_trans (of_decide_eq_true q) h)
  | .str z, q => q
  | .list xs, q => okAll.mono h (ds := xs) q
  | .tuple xs, q => okAll.mono h (ds := xs) q
  | .dict _, q => by cases q
theorem okAll.mono {B C : Nat} (h : B ≤ C) : ∀ {ds : List PyData}, okAll B ds = true → okAll C ds = true
  | [], _ => rfl
  | x :: r, q => by
    have q' : (okD B x && okAll B r) = true := q
    rw [Bool.and_eq_true] at q'
    show (okD C x && okAll C r) = true
    rw [okD.mono h q'.1, okAll.mono h q'.2]
    rfl
end
mutual
theorem okD.facts {B : Nat} (hB : B ≤ 1000000000) : ∀ {d : PyData}, okD B d = true → d.canLay0 = true ∧ d.showable = true ∧ d.hasDict = false ∧ szD d + 3 ≤ 300 * nodes d
  | .none, _ => ⟨rfl, rfl, rfl, by show 4 + 3 ≤ 300 * 1; decide⟩
  | .bool _, _ => ⟨rfl, rfl, rfl, by show 5 + 3 ≤ 300 * 1; decide⟩
  | .int i, q => by
    have hi : i.natAbs ≤ B := of_decide_eq_true q
    refine ⟨rfl, decide_eq_true (log2_ok18 (by omega)), rfl, ?_⟩
    show (Str.ofString (toString i)).length + 3 ≤ 300 * 1
    have := int_len (i := i) (by omega)
    omega
  | .str z, q => by
    have q' : (decide (z.length ≤ 20) && z.cps.all (· < 0x110000)) = true := q
    rw [Bool.and_eq_true, decide_eq_true_eq] at q'
    exact ⟨q'.2, rfl, rfl, by show 10 * z.length + 2 + 3 ≤ 300 * 1; omega⟩
  | .list xs, q => by
    obtain ⟨h1, h2, h3, h4⟩ := okAll.facts hB (ds := xs) q
    exact ⟨h1, h2, h3, by show szAll xs + 2 + 3 ≤ 300 * (nodesAll xs + 1); omega⟩
  | .tuple xs, q => by
    obtain ⟨h1, h2, h3, h4⟩ := okAll.facts hB (ds := xs) q
    exact ⟨h1, h2, h3, by show szAll xs + 3 + 3 ≤ 300 * (nodesAll xs + 1); omega⟩
  | .dict _, q => by cases q
theorem okAll.facts {B : Nat} (hB : B ≤ 1000000000) : ∀ {ds : List PyData}, okAll B ds = true → PyData.canLayAll0 ds = true ∧ PyData.showableAll ds = true ∧ PyData.hasDictAll ds = false ∧ szAll ds ≤ 300 * nodesAll ds
  | [], _ => ⟨rfl, rfl, rfl, Nat.zero_le _⟩
  | x :: r, q => by
    have q' : (okD B x && okAll B r) = true := q
    rw [Bool.and_eq_true] at q'
    obtain ⟨a1, a2, a3, a4⟩ := okD.facts hB q'.1
    obtain ⟨b1, b2, b3, b4⟩ := okAll.facts hB q'.2
    have np := nodes_pos x
    refine ⟨?_, ?_, ?_, ?_⟩
    · show (x.canLay0 && PyData.canLayAll0 r) = true
      rw [a1, b1]; rfl
    · show (x.showable && PyData.showableAll r) = true
      rw [a2, b2]; rfl
    · show (x.hasDict || PyData.hasDictAll r) = false
      rw [a3, b3]; rfl
    · show szD x + 2 + szAll r ≤ 300 * (nodes x + nodesAll r)
      omega
end
/-- its text can be told -/
theorem repr_th {B : Nat} (hB : B ≤ 1000000000) {d : PyData} (h : okD B d = true) (hd : d.depth ≤ 50) (hn : nodes d ≤ 10000) {P : PyData → Prop} (q : P (.str d.shown)) : DL.bReprV [d] P := by
  obtain ⟨h1, h2, h3, h4⟩ := okD.facts hB h
  have lin : sizeLine = 16777216 := by decide +kernel
  exact ⟨h3, h2, by omega, Nat.le_trans (shown_le d h1) (by omega), q⟩
theorem okAll_app {B : Nat} {xs ys : List PyData} : okAll B (xs ++ ys) = (okAll B xs && okAll B ys) := by
  induction xs with
  | nil => rfl
  | cons x r ih =>
    show (okD B x && okAll B (r ++ ys)) = ((okD B x && okAll B r) && okAll B ys)
    rw [ih, Bool.and_assoc]
theorem nodesAll_app {xs ys : List PyData} : nodesAll (xs ++ ys) = nodesAll xs + nodesAll ys := by
  induction xs with
  | nil => show nodesAll ys = 0 + nodesAll ys; omega
  | cons x r ih =>
    show nodes x + nodesAll (r ++ ys) = nodes x + nodesAll r + nodesAll ys
    rw [ih]; omega
theorem depthAll_app {xs ys : List PyData} : PyData.depthAll (xs ++ ys) = max (PyData.depthAll xs) (PyData.depthAll ys) := by
  induction xs with
  | nil => show PyData.depthAll ys = max 0 (PyData.depthAll ys); omega
  | cons x r ih =>
    show max x.depth (PyData.depthAll (r ++ ys)) = max (max x.depth (PyData.depthAll r)) (PyData.depthAll ys)
    rw [ih]; omega
/-- a list of things within bounds: numbers, depth, how many -/
structure Th (B D N : Nat) (ds : List PyData) : Prop where
  ok : okAll B ds = true
  dp : PyData.depthAll ds ≤ D
  nd : nodesAll ds ≤ N
theorem Th.app {B D N M : Nat} {xs ys : List PyData} (a : Th B D N xs) (b : Th B D M ys) : Th B D (N + M) (xs ++ ys) :=
  ⟨by rw [okAll_app, a.ok, b.ok]; rfl, by rw [depthAll_app]; have := a.dp; have := b.dp; omega, by rw [nodesAll_app]; have := a.nd; have := b.nd; omega⟩
theorem Th.mono {B D N B' D' N' : Nat} {xs : List PyData} (a : Th B D N xs) (h1 : B ≤ B') (h2 : D ≤ D') (h3 : N ≤ N') : Th B' D' N' xs := ⟨okAll.mono h1 a.ok, Nat.le_trans a.dp h2, Nat.le_trans a.nd h3⟩
theorem Th.left {B D N : Nat} {xs ys : List PyData} (a : Th B D N (xs ++ ys)) : Th B D N xs := by
  obtain ⟨h1, h2, h3⟩ := a
  rw [okAll_app, Bool.and_eq_true] at h1
  rw [depthAll_app] at h2
  rw [nodesAll_app] at h3
  exact ⟨h1.1, by omega, by omega⟩
theorem Th.right {B D N : Nat} {xs ys : List PyData} (a : Th B D N (xs ++ ys)) : Th B D N ys := by
  obtain ⟨h1, h2, h3⟩ := a
  rw [okAll_app, Bool.and_eq_true] at h1
  rw [depthAll_app] at h2
  rw [nodesAll_app] at h3
  exact ⟨h1.2, by omega, by omega⟩
theorem Th.take {B D N : Nat} {xs : List PyData} (a : Th B D N xs) (k : Nat) : Th B D N (xs.take k) := by
  rw [← List.take_append_drop k xs] at a
  exact a.left
theorem Th.drop {B D N : Nat} {xs : List PyData} (a : Th B D N xs) (k : Nat) : Th B D N (xs.drop k) := by
  rw [← List.take_append_drop k xs] at a
  exact a.right
theorem Th.cut {B D N : Nat} {xs : List PyData} (a : Th B D N xs) (lo hi : Option Int) : Th B D N (DL.cutD xs lo hi) := (a.drop _).take _
theorem Th.one {B D N : Nat} {d : PyData} (h1 : okD B d = true) (h2 : d.depth ≤ D) (h3 : nodes d ≤ N) : Th B D N [d] :=
  ⟨by show (okD B d && true) = true; rw [h1]; rfl, by show max d.depth 0 ≤ D; omega, by show nodes d + 0 ≤ N; omega⟩
theorem Th.get {B D N : Nat} {xs : List PyData} (a : Th B D N xs) {d : PyData} (h : d ∈ xs) : okD B d = true ∧ d.depth ≤ D ∧ nodes d ≤ N := by
  obtain ⟨l, r, rfl⟩ := List.append_of_mem h
  have b := a.right
  have c : Th B D N [d] := Th.left (ys := r) b
  obtain ⟨c1, c2, c3⟩ := c
  have c1' : (okD B d && true) = true := c1
  rw [Bool.and_true] at c1'
  exact ⟨c1', by have : max d.depth 0 ≤ D := c2; omega, by have : nodes d + 0 ≤ N := c3; omega⟩
theorem Th.rev {B D N : Nat} {xs : List PyData} (a : Th B D N xs) : Th B D N xs.reverse := by
  induction xs generalizing N with
  | nil => exact a
  | cons x r ih =>
    obtain ⟨h1, h2, h3⟩ := a
    have h1' : (okD B x && okAll B r) = true := h1
    rw [Bool.and_eq_true] at h1'
    have h2' : max x.depth (PyData.depthAll r) ≤ D := h2
    have h3' : nodes x + nodesAll r ≤ N := h3
    rw [List.reverse_cons]
    exact ((ih (N := nodesAll r) ⟨h1'.2, by omega, Nat.le_refl _⟩).app (Th.one (N := nodes x) h1'.1 (by omega) (Nat.le_refl _))).mono (Nat.le_refl _) (Nat.le_refl _) (by omega)
theorem cutD_len (xs : List PyData) (lo hi : Option Int) : (DL.cutD xs lo hi).length ≤ xs.length := by
  unfold DL.cutD
  rw [List.length_take, List.length_drop]
  omega
/-! ### k23 -/
def intsOf : List PyData → Option (List Int)
  | [] => some []
  | .int i :: r => (intsOf r).map (i :: ·)
  | _ => none
theorem intsOf_some : ∀ {xs : List PyData} {vs : List Int}, intsOf xs = some vs → xs = vs.map .int
  | [], vs, h => by cases h; rfl
  | .int i :: r, vs, h => by
    unfold intsOf at h
    cases e : intsOf r with
    | none => rw [e] at h; cases h
    | some us => rw [e] at h; cases h; rw [intsOf_some e]; rfl
  | .none :: _, _, h => by cases h
  | .bool _ :: _, _, h => by cases h
  | .str _ :: _, _, h => by cases h
  | .list _ :: _, _, h => by cases h
  | .tuple _ :: _, _, h => by cases h
  | .dict _ :: _, _, h => by cases h
def isI : PyData → Bool
  | .int _ => true
  | _ => false
theorem intsOf_all : ∀ xs : List PyData, (intsOf xs).isSome = xs.all isI
  | [] => rfl
  | .int i :: r => by
    unfold intsOf
    rw [Option.isSome_map, intsOf_all r]
    rfl
  | .none :: _ => rfl
  | .bool _ :: _ => rfl
  | .str _ :: _ => rfl
  | .list _ :: _ => rfl
  | .tuple _ :: _ => rfl
  | .dict _ :: _ => rfl
def fairT (m : Int) (l : List (Int × Int)) : PyData → Bool
  | .list xs => if xs.length = l.length then (match intsOf xs with
    | some vs => fairZ m (vs.zip l)
    | none => false) else false
  | _ => false
theorem fairT_list (m : Int) (l : List (Int × Int)) (xs : List PyData) : fairT m l (.list xs) = if xs.length = l.length then (match intsOf xs with
    | some vs => fairZ m (vs.zip l)
    | none => false) else false := rfl
theorem okAll_ints {B : Nat} {vs : List Int} (h : okAll B (vs.map .int) = true) : ∀ v ∈ vs, v.natAbs ≤ B := fun v hv => by
  have := okAll_iff.mp h (.int v) (List.mem_map.mpr ⟨v, hv, rfl⟩)
  exact of_decide_eq_true this
theorem f_plain {B : Nat} {d : PyData} (h : okD B d = true) {P : PyData → List Sl → Prop} (q : ∀ sl, P (.bool (isI d)) sl) : F_is_plain_number [.fz d] P := by
  unfold F_is_plain_number
  cases d with
  | dict _ => cases h
  | int i => walk_at "w"; exact q _
  | bool b => walk_at "w"; exact q _
  | none => walk_at "w"; exact q _
  | str _ => walk_at "w"; exact q _
  | list _ => walk_at "w"; exact q _
  | tuple _ => walk_at "w"; exact q _
theorem f_fair_any {d : PyData} {l : List (Int × Int)} {m : Int} {t : PyData} (h : AsksAt d l) (w : Small l) (ot : okD 1000000000 t = true) {P : PyData → List Sl → Prop} (q : ∀ sl, P (.bool (fairT m l t)) sl) : F_shows_fair [.fz (.int m), .fz d, .fz t] P := by
  have lin : sizeLine = 16777216 := by decide +kernel
  have few := w.few
  cases t with
  | dict _ => cases ot
  | list xs =>
    rw [fairT_list] at q
    by_cases c1 : xs.length = l.length
    · rw [if_pos c1] at q
      cases e : intsOf xs with
      | some vs =>
        rw [e] at q
        have ex := intsOf_some e
        subst ex
        rw [List.length_map] at c1
        exact f_fair_ints h w c1 (okAll_ints (show okAll 1000000000 (vs.map .int) = true from ot)) q
      | none =>
        rw [e] at q
        have na : xs.all isI = false := by rw [← intsOf_all, e]; rfl
        unfold F_shows_fair
        walk_at "w"
        refine h.seq ?_
        rw [List.length_map, if_pos (by rw [c1])]
        refine lc_map xs id (fun x => some (.bool (isI x))) (List.map_id xs).symm rfl (by omega) (fun x R acc hm hacc hR => ?_) ?_
        · unfold F_shows_fair_7
          walk_at "w"
          refine f_plain (okAll_iff.mp (show okAll 1000000000 xs = true from ot) x hm) fun _ => ?_
          first | exact ⟨hacc, hR⟩ | exact ⟨hacc, rfl, hR⟩ | exact hR
        rw [fm_bool]
        refine boolsF_map ?_
        rw [all_id, na, if_pos rfl]
        exact q _
    · rw [if_neg c1] at q
      unfold F_shows_fair
      walk_at "w"
      refine h.seq ?_
      rw [List.length_map, if_neg (by omega)]
      exact q _
  | int i => unfold F_shows_fair; walk_at "w"; exact q _
  | bool b => unfold F_shows_fair; walk_at "w"; exact q _
  | none => unfold F_shows_fair; walk_at "w"; exact q _
  | str _ => unfold F_shows_fair; walk_at "w"; exact q _
  | tuple _ => unfold F_shows_fair; walk_at "w"; exact q _
/-- one place's clauses -/
def chk (zs : List (Int × Int × Int)) (z : Int × Int × Int) : Bool := decide (z.2.2 ≤ z.1) && (!decide (z.2.2 < z.1) || zs.all fun y => decide ((z.1 - 1) * y.2.1 < (y.1 + 1) * z.2.1))
theorem all_and {α : Type} (p q : α → Bool) : ∀ xs : List α, xs.all (fun x => p x && q x) = (xs.all p && xs.all q)
  | [] => rfl
  | x :: xs => by
    rw [List.all_cons, List.all_cons, List.all_cons, all_and p q xs]
    cases p x <;> cases q x <;> cases xs.all p <;> rfl
theorem fairZ_chk (m : Int) (zs : List (Int × Int × Int)) : fairZ m zs = (decide ((zs.map (·.1)).sum = m) && zs.all (chk zs)) := by
  unfold fairZ chk
  rw [all_and]
theorem f_inner {E : FEnds} {a0 a4 : Sl} {l : List (Int × Int)} {vs : List Int} {i : Nat} {z : Int × Int × Int} (w : Small l) (hv : vs.length = l.length) (bv : ∀ v ∈ vs, v.natAbs ≤ 1000000000) (g1 : (vs.zip l)[i]? = some z) (g4 : atI (vs.map PyData.int) (i : Int) = some (.int z.1))
    (good : (!decide (z.2.2 < z.1) || (vs.zip l).all fun y => decide ((z.1 - 1) * y.2.1 < (y.1 + 1) * z.2.1)) = true → E.nx [a0, .fz (.list (asksD l)), .fz (.list (vs.map .int)), .no, a4, .fz (.int (i : Int)), .fz (.int z.2.1), .fz (.int z.2.2), .no, .no, .no])
    (bad : (!decide (z.2.2 < z.1) || (vs.zip l).all fun y => decide ((z.1 - 1) * y.2.1 < (y.1 + 1) * z.2.1)) = false → ∀ ρ, E.rt (.bool false) (a0 :: .fz (.list (asksD l)) :: .fz (.list (vs.map .int)) :: ρ)) :
    F__law_fair_3 E [a0, .fz (.list (asksD l)), .fz (.list (vs.map .int)), .no, a4, .fz (.int (i : Int)), .fz (.int z.2.1), .fz (.int z.2.2), .no, .no, .no] := by
  have ez : enumD (asksD l) = l.zipIdx.map fun q => .tuple [.int (q.2 : Nat), .tuple [.int q.1.1, .int q.1.2]] := by
    unfold enumD asksD
    rw [List.zipIdx_map, List.map_map]
    rfl
  have inn : ∀ z ∈ vs.zip l, z.1.natAbs ≤ 1000000000 ∧ 1 ≤ z.2.1 ∧ z.2.1 ≤ 1000000 ∧ 0 ≤ z.2.2 ∧ z.2.2 ≤ 1000000 := fun z hz => by
    obtain ⟨z1, z2⟩ := List.of_mem_zip (show (z.1, z.2) ∈ vs.zip l from hz)
    exact ⟨bv _ z1, w.p0 _ z2, w.pm _ z2, w.l0 _ z2, w.lm _ z2⟩
  obtain ⟨b1, b2, b3, b4, b5⟩ := inn z (List.mem_of_getElem? g1)
  have lz : (vs.zip l).length = l.length := by rw [List.length_zip]; omega
  unfold F__law_fair_3
  walk_at "w"
  refine for_map l.zipIdx (fun q => .tuple [.int (q.2 : Nat), .tuple [.int q.1.1, .int q.1.2]]) (fun j ρ => ρ = [a0, .fz (.list (asksD l)), .fz (.list (vs.map .int)), .no, a4, .fz (.int (i : Int)), .fz (.int z.2.1), .fz (.int z.2.2), .no, .no, .no] ∧ (!decide (z.2.2 < z.1) || ((vs.zip l).take j).all fun y => decide ((z.1 - 1) * y.2.1 < (y.1 + 1) * z.2.1)) = true) ez ⟨rfl, by rw [List.take_zero, List.all_nil, Bool.or_true]⟩ (fun j x ρ2 hx hj e => ?_) (fun ρ2 e => ?_)
  · obtain ⟨rfl, ea⟩ := e
    rw [List.length_zipIdx] at hj
    have h1 : vs[j]? = some vs[j] := List.getElem?_eq_getElem (by omega)
    have h2 : l[j]? = some l[j] := List.getElem?_eq_getElem hj
    have gy : (vs.zip l)[j]? = some (vs[j], l[j]) := List.getElem?_zip_eq_some.mpr ⟨h1, h2⟩
    have g5 : atI (vs.map PyData.int) (j : Int) = some (.int vs[j]) := by rw [atI_map, atI_nat' h1]; rfl
    have ex : x = (l[j], j) := by
      rw [List.getElem?_zipIdx, h2] at hx
      have : (l[j], 0 + j) = x := Option.some.inj hx
      rw [← this, Nat.zero_add]
    subst ex
    obtain ⟨e1, e2, e3, e4, e5⟩ := inn _ (List.mem_of_getElem? gy)
    generalize vs[j] = u at *
    generalize l[j] = p at *
    have tk : (!decide (z.2.2 < z.1) || ((vs.zip l).take (j + 1)).all fun y => decide ((z.1 - 1) * y.2.1 < (y.1 + 1) * z.2.1)) = (!decide (z.2.2 < z.1) || decide ((z.1 - 1) * p.1 < (u + 1) * z.2.1)) := by
      rw [List.take_add_one, gy, List.all_append]
      cases hc : decide (z.2.2 < z.1) with
      | false => rfl
      | true =>
        rw [hc] at ea
        rw [show (((vs.zip l).take j).all fun y => decide ((z.1 - 1) * y.2.1 < (y.1 + 1) * z.2.1)) = true from ea]
        show (false || (true && (_ && true))) = (false || _)
        rw [Bool.true_and, Bool.and_true]
    rw [tk]
    unfold F__law_fair_2
    walk_at "w"
    by_cases c1 : (j : Int) = (i : Int)
    · rw [if_pos c1]
      have : (u, p) = z := by
        have : j = i := by omega
        subst this
        rw [gy] at g1
        exact Option.some.inj g1
      subst this
      have hh : (!decide ((u, p).2.2 < (u, p).1) || decide (((u, p).1 - 1) * p.1 < (u + 1) * (u, p).2.1)) = true := by
        rw [decide_eq_true (show (u - 1) * p.1 < (u + 1) * p.1 from Int.mul_lt_mul_of_pos_right (by omega) (by have : 1 ≤ p.1 := e2; omega)), Bool.or_true]
      first | exact ⟨rfl, hh⟩ | exact hh
    · rw [if_neg c1]
      refine ⟨_, g4, ?_⟩
      by_cases c2 : z.2.2 < z.1
      · rw [decide_eq_true c2]
        walk_at "w"
        rw [if_pos c2]
        refine ⟨_, g4, ?_⟩
        walk_at "w"
        refine ⟨.inl ⟨by omega, by omega⟩, _, g5, ?_⟩
        walk_at "w"
        refine ⟨.inl ⟨by omega, by omega⟩, ?_⟩
        by_cases c3 : (u + 1) * z.2.1 ≤ (z.1 - 1) * p.1
        · rw [if_pos c3]
          refine bad ?_ _
          rw [decide_eq_true c2, Bool.not_true, Bool.false_or, List.all_eq_false]
          exact ⟨_, List.mem_of_getElem? gy, by rw [decide_eq_false (by show ¬ (z.1 - 1) * p.1 < (u + 1) * z.2.1; omega)]; decide⟩
        · rw [if_neg c3, decide_eq_true (by omega)]
          first | exact ⟨rfl, rfl⟩ | rfl
      · rw [decide_eq_false c2]
        walk_at "w"
        rw [if_neg c2]
        first | exact ⟨rfl, rfl⟩ | rfl
  · obtain ⟨rfl, ea⟩ := e
    rw [List.length_zipIdx, ← lz, List.take_length] at ea
    exact good ea
theorem f_law_fair_ints {l : List (Int × Int)} {m : Int} {vs : List Int} (w : Small l) (hv : vs.length = l.length) (bv : ∀ v ∈ vs, v.natAbs ≤ 1000000000) {P : PyData → List Sl → Prop} (q : ∀ sl, P (.bool (fairZ m (vs.zip l))) sl) : F__law_fair [.fz (.int m), .fz (.list (asksD l)), .fz (.list (vs.map .int))] P := by
  have lin : sizeLine = 16777216 := by decide +kernel
  have few := w.few
  rw [fairZ_chk] at q
  have es : ((vs.zip l).map (·.1)) = vs := List.map_fst_zip (by omega)
  rw [es] at q
  have ez : enumD (asksD l) = l.zipIdx.map fun q => .tuple [.int (q.2 : Nat), .tuple [.int q.1.1, .int q.1.2]] := by
    unfold enumD asksD
    rw [List.zipIdx_map, List.map_map]
    rfl
  have get : ∀ i, i < l.length → ∃ z : Int × Int × Int, (vs.zip l)[i]? = some z ∧ vs[i]? = some z.1 ∧ l[i]? = some z.2 ∧ atI (vs.map PyData.int) (i : Int) = some (.int z.1) := fun i hi => by
    have h1 : vs[i]? = some vs[i] := List.getElem?_eq_getElem (by omega)
    have h2 : l[i]? = some l[i] := List.getElem?_eq_getElem hi
    exact ⟨(vs[i], l[i]), List.getElem?_zip_eq_some.mpr ⟨h1, h2⟩, h1, h2, by rw [atI_map, atI_nat' h1]; rfl⟩
  have inn : ∀ z ∈ vs.zip l, z.1.natAbs ≤ 1000000000 ∧ 1 ≤ z.2.1 ∧ z.2.1 ≤ 1000000 ∧ 0 ≤ z.2.2 ∧ z.2.2 ≤ 1000000 := fun z hz => by
    obtain ⟨z1, z2⟩ := List.of_mem_zip (show (z.1, z.2) ∈ vs.zip l from hz)
    exact ⟨bv _ z1, w.p0 _ z2, w.pm _ z2, w.l0 _ z2, w.lm _ z2⟩
  unfold F__law_fair
  walk_at "w"
  rw [List.length_map, List.length_map, if_pos (by rw [hv])]
  unfold F__law_fair_7
  walk_at "w"
  refine for_map vs PyData.int (fun i ρ => ρ = [.fz (.int m), .fz (.list (asksD l)), .fz (.list (vs.map .int)), .no, .no, .no, .no, .no, .no, .no, .no]) rfl rfl (fun i v ρ2 hv hi e => ?_) (fun ρ2 e => ?_)
  · subst e
    unfold F__law_fair_6
    walk_at "w"
  subst e
  unfold F__law_fair_5
  walk_at "w"
  refine for_map l.zipIdx (fun q => .tuple [.int (q.2 : Nat), .tuple [.int q.1.1, .int q.1.2]]) (fun i ρ => ρ = [.fz (.int m), .fz (.list (asksD l)), .fz (.list (vs.map .int)), .no, .fz (.int ((vs.take i).sum)), .no, .no, .no, .no, .no, .no] ∧ ((vs.zip l).take i).all (chk (vs.zip l)) = true) ez ⟨rfl, rfl⟩ (fun i y ρ2 hy hi e => ?_) (fun ρ2 e => ?_)
  · obtain ⟨rfl, ea⟩ := e
    rw [List.length_zipIdx] at hi
    obtain ⟨z, g1, g2, g3, g4⟩ := get i hi
    have ey : y = (z.2, i) := by
      rw [List.getElem?_zipIdx, g3] at hy
      have : (z.2, 0 + i) = y := Option.some.inj hy
      rw [← this, Nat.zero_add]
    subst ey
    have zm := List.mem_of_getElem? g1
    obtain ⟨b1, b2, b3, b4, b5⟩ := inn z zm
    have tk : ((vs.zip l).take (i + 1)).all (chk (vs.zip l)) = chk (vs.zip l) z := by
      rw [List.take_add_one, g1, List.all_append, ea, Bool.true_and]
      show (_ && true) = _
      rw [Bool.and_true]
    have sm : (vs.take (i + 1)).sum = (vs.take i).sum + z.1 := by
      rw [List.take_add_one, g2, List.sum_append]
      show _ + (z.1 + 0) = _
      omega
    have bad : chk (vs.zip l) z = false → ∀ sl, P (.bool false) sl := fun c sl => by
      have : (vs.zip l).all (chk (vs.zip l)) = false := List.all_eq_false.mpr ⟨z, zm, by rw [c]; decide⟩
      rw [this, Bool.and_false] at q
      exact q sl
    rw [tk, sm]
    unfold F__law_fair_4
    walk_at "w"
    refine ⟨_, g4, ?_⟩
    walk_at "w"
    refine ⟨_, g4, ?_⟩
    walk_at "w"
    by_cases c1 : z.1 < z.2.2
    · rw [if_pos c1]
      refine bad ?_ _
      unfold chk
      rw [decide_eq_false (by omega), Bool.false_and]
    · rw [if_neg c1]
      refine f_inner w hv bv g1 g4 (fun c => ?_) fun c ρ => ?_
      · refine ⟨rfl, ?_⟩
        unfold chk
        rw [c, decide_eq_true (by omega)]
        rfl
      · refine bad ?_ _
        unfold chk
        rw [c, Bool.and_false]
  · obtain ⟨rfl, ea⟩ := e
    rw [List.length_zipIdx, ← hv, List.take_length]
    rw [List.length_zipIdx, show l.length = (vs.zip l).length from by rw [List.length_zip]; omega, List.take_length] at ea
    rw [ea, Bool.and_true] at q
    unfold F__law_fair_1
    walk_at "w"
    refine ⟨rfl, rfl, ?_⟩
    rw [show PyData.eqv (.int vs.sum) (.int m) = decide (vs.sum = m) from by show (vs.sum == m) = _; exact (Bool.beq_eq_decide_eq vs.sum m)]
    exact q _
theorem f_law_fair {l : List (Int × Int)} {m : Int} {t : PyData} (w : Small l) (ot : okD 1000000000 t = true) {P : PyData → List Sl → Prop} (q : ∀ sl, P (.bool (fairT m l t)) sl) : F__law_fair [.fz (.int m), .fz (.list (asksD l)), .fz t] P := by
  have lin : sizeLine = 16777216 := by decide +kernel
  have few := w.few
  cases t with
  | dict _ => cases ot
  | list xs =>
    rw [fairT_list] at q
    by_cases c1 : xs.length = l.length
    · rw [if_pos c1] at q
      cases e : intsOf xs with
      | some vs =>
        rw [e] at q
        have ex := intsOf_some e
        subst ex
        rw [List.length_map] at c1
        exact f_law_fair_ints w c1 (okAll_ints (show okAll 1000000000 (vs.map .int) = true from ot)) q
      | none =>
        rw [e] at q
        have na : xs.all isI = false := by rw [← intsOf_all, e]; rfl
        unfold F__law_fair
        walk_at "w"
        rw [List.length_map, if_pos (by rw [c1])]
        unfold F__law_fair_7
        walk_at "w"
        refine for_map xs id (fun i ρ => ρ = [.fz (.int m), .fz (.list (asksD l)), .fz (.list xs), .no, .no, .no, .no, .no, .no, .no, .no] ∧ (xs.take i).all isI = true) (List.map_id xs).symm ⟨rfl, rfl⟩ (fun i x ρ2 hx hi e => ?_) (fun ρ2 e => ?_)
        · obtain ⟨rfl, ea⟩ := e
          have tk : (xs.take (i + 1)).all isI = isI x := by
            rw [List.take_add_one, hx, List.all_append, ea, Bool.true_and]
            show (_ && true) = _
            rw [Bool.and_true]
          rw [tk]
          have ox := okAll_iff.mp (show okAll 1000000000 xs = true from ot) x (List.mem_of_getElem? hx)
          unfold F__law_fair_6
          cases x with
          | dict _ => cases ox
          | int i => walk_at "w"; first | exact ⟨rfl, rfl⟩ | rfl
          | bool b => walk_at "w"; exact q _
          | none => walk_at "w"; exact q _
          | str _ => walk_at "w"; exact q _
          | list _ => walk_at "w"; exact q _
          | tuple _ => walk_at "w"; exact q _
        · obtain ⟨rfl, ea⟩ := e
          rw [List.take_length, na] at ea
          cases ea
    · rw [if_neg c1] at q
      unfold F__law_fair
      walk_at "w"
      rw [List.length_map, if_neg (by omega)]
      exact q _
  | int i => unfold F__law_fair; walk_at "w"; exact q _
  | bool b => unfold F__law_fair; walk_at "w"; exact q _
  | none => unfold F__law_fair; walk_at "w"; exact q _
  | str _ => unfold F__law_fair; walk_at "w"; exact q _
  | tuple _ => unfold F__law_fair; walk_at "w"; exact q _
/-! what is bent -/
structure Bt (B N : Nat) (xs : List PyData) : Prop where
  th : Th B 1 N xs
  ne : 0 < xs.length
theorem Th.set {B D N M : Nat} {xs : List PyData} (a : Th B D N xs) {k : Nat} {d : PyData} (h1 : okD B d = true) (h2 : d.depth ≤ D) (h3 : nodes d ≤ M) : Th B D (N + M) (xs.set k d) := by
  by_cases hk : k < xs.length
  · rw [List.set_eq_take_append_cons_drop, if_pos hk]
    have e : xs = xs.take k ++ xs.drop k := (List.take_append_drop k xs).symm
    have n1 : nodesAll xs = nodesAll (xs.take k) + nodesAll (xs.drop k) := by rw [← nodesAll_app, List.take_append_drop]
    have n2 : nodesAll (xs.drop (k + 1)) ≤ nodesAll (xs.drop k) := by
      rw [List.drop_eq_getElem_cons hk]
      show _ ≤ nodes _ + nodesAll _
      omega
    have t1 : Th B D (nodesAll (xs.take k)) (xs.take k) := ⟨(a.take k).ok, (a.take k).dp, Nat.le_refl _⟩
    have t2 : Th B D (nodesAll (xs.drop (k + 1))) (xs.drop (k + 1)) := ⟨(a.drop (k + 1)).ok, (a.drop (k + 1)).dp, Nat.le_refl _⟩
    have t3 : Th B D (M + nodesAll (xs.drop (k + 1))) (d :: xs.drop (k + 1)) := (Th.one h1 h2 h3).app t2
    have := a.nd
    exact (t1.app t3).mono (Nat.le_refl _) (Nat.le_refl _) (by omega)
  · rw [List.set_eq_of_length_le (by omega)]
    exact a.mono (Nat.le_refl _) (Nat.le_refl _) (by omega)
theorem numD_ok {B : Nat} {d : PyData} {i : Int} (hB : 1 ≤ B) (h : okD B d = true) (e : numD d = some i) : i.natAbs ≤ B := by
  cases d with
  | int j => cases e; exact of_decide_eq_true h
  | bool b => cases e; cases b <;> simp <;> omega
  | _ => cases e
theorem Th.shaped {B D N : Nat} {xs : List PyData} (a : Th B D N xs) (hB : B ≤ 1000000000) (hD : D ≤ 60) : SeqAt.shaped (.list xs) = true := by
  have f := okAll.facts hB a.ok
  have := a.dp
  show (PyData.canLayAll0 xs && decide (PyData.depthAll xs + 1 ≤ 64)) = true
  rw [f.1, decide_eq_true (by omega)]
  rfl
theorem f_bent {ds : List PyData} {n : Nat} (hb : BoxD ds n) (hn : n < 10000000) {xs : List PyData} {B N : Nat} (bt : Bt B N xs) (hB : 1 ≤ B) (hB2 : B ≤ 900000000) (lx : xs.length ≤ 100) {P : PyData → List Sl → Prop} (h : ∀ ys ds' sl, Bt (B + 100) (4 * N + 10) ys → ys.length ≤ xs.length + 1 → BoxD ds' (n + 20) → P (.list ys) (.own ds' :: sl)) : F__law_bent [.own ds, .fz (.list xs)] P := by
  have lin : sizeLine = 16777216 := by decide +kernel
  have ne := bt.ne
  have fin : ∀ (ys ds' : List PyData) (a2 a3 a4 a5 a7 a8 : Sl), Th (B + 100) 1 (4 * N + 10) ys → ys.length ≤ xs.length + 1 → BoxD ds' (n + 20) → F__law_bent_1 { nx := fun ρ' => P .none (ρ'.take 2), rt := fun d ρ' => P d (ρ'.take 2) } [.own ds', .fz (.list xs), a2, a3, a4, a5, .own ys, a7, a8] := by
    intro ys ds' a2 a3 a4 a5 a7 a8 th ly b
    unfold F__law_bent_1
    walk_at "w"
    refine ⟨th.shaped (by omega) (by decide), rfl, ?_⟩
    cases ys with
    | nil =>
      refine h [.int 0] _ _ ⟨(Th.one (okI (by show 0 ≤ B + 100; omega)) (by decide) (Nat.le_refl _)).mono (Nat.le_refl _) (Nat.le_refl _) (show 1 ≤ 4 * N + 10 by omega), by decide⟩ (by show 1 ≤ xs.length + 1; omega) b
    | cons y ys => exact h _ _ _ ⟨th, Nat.succ_pos _⟩ ly b
  unfold F__law_bent
  walk_at "w"
  refine take_step hb (by decide) (by decide) (by omega) fun r2 d2 x2 y2 b2 => ?_
  refine take_step b2 (by omega) (by omega) (by omega) fun r3 d3 x3 y3 b3 => ?_
  refine take_step b3 (by omega) (by omega) (by omega) fun r4 d4 x4 y4 b4 => ?_
  walk_at "w"
  refine take_step b4 (by decide) (by decide) (by omega) fun r5 d5 x5 y5 b5 => ?_
  refine take_step b5 (by decide) (by decide) (by omega) fun r6 d6 x6 y6 b6 => ?_
  obtain ⟨v, e, mm⟩ := at_mem (xs := [PyData.int 1, PyData.int 1, PyData.int 2, PyData.int (1 + r5)]) x6 y6
  obtain ⟨mu, rfl, mu0, mu1⟩ : ∃ a, v = .int a ∧ 1 ≤ a ∧ a ≤ 60 := by
    simp only [List.mem_cons, List.not_mem_nil, or_false] at mm
    rcases mm with rfl | rfl | rfl | rfl <;> exact ⟨_, rfl, by omega, by omega⟩
  refine ⟨_, e, ?_⟩
  walk_at "w"
  refine take_step b6 (by decide) (by decide) (by omega) fun r7 d7 x7 y7 b7 => ?_
  obtain ⟨od, e, mm⟩ := at_mem (xs := [PyData.none, PyData.bool true, PyData.bool false, PyData.str (Str.ofString "1"), PyData.list [PyData.int 1], PyData.tuple [PyData.int 1], PyData.int 0, PyData.int (-1)]) x7 y7
  have hod : okD (B + 100) od = true ∧ od.depth ≤ 1 ∧ nodes od ≤ 2 := by
    simp only [List.mem_cons, List.not_mem_nil, or_false] at mm
    have k1 : okD (B + 100) (.int 1) = true := okI (by show 1 ≤ B + 100; omega)
    rcases mm with rfl | rfl | rfl | rfl | rfl | rfl | rfl | rfl
    · exact ⟨rfl, by decide, by decide⟩
    · exact ⟨rfl, by decide, by decide⟩
    · exact ⟨rfl, by decide, by decide⟩
    · exact ⟨by show (decide ((Str.ofString "1").length ≤ 20) && (Str.ofString "1").cps.all (· < 0x110000)) = true; decide +kernel, by decide, by decide⟩
    · exact ⟨by show (okD (B + 100) (.int 1) && true) = true; rw [k1]; rfl, by decide, by decide⟩
    · exact ⟨by show (okD (B + 100) (.int 1) && true) = true; rw [k1]; rfl, by decide, by decide⟩
    · exact ⟨okI (by show 0 ≤ B + 100; omega), by decide, by decide⟩
    · exact ⟨okI (by show 1 ≤ B + 100; omega), by decide, by decide⟩
  refine ⟨_, e, ?_⟩
  walk_at "w"
  obtain ⟨k3, rfl⟩ := Int.eq_ofNat_of_zero_le x3
  obtain ⟨k4, rfl⟩ := Int.eq_ofNat_of_zero_le x4
  have h3 : xs[k3]? = some xs[k3] := List.getElem?_eq_getElem (by omega)
  have h4 : xs[k4]? = some xs[k4] := List.getElem?_eq_getElem (by omega)
  have i3 : ixN xs.length (k3 : Int) = some k3 := ixN_nat (by omega)
  have i4 : ∀ ys : List PyData, ys.length = xs.length → ixN ys.length (k4 : Int) = some k4 := fun ys e => ixN_nat (by omega)
  have o3 := bt.th.get (List.mem_of_getElem? h3)
  have o4 := bt.th.get (List.mem_of_getElem? h4)
  generalize xs[k3] = u3 at *
  generalize xs[k4] = u4 at *
  have g3 : atI xs (k3 : Int) = some u3 := atI_nat' h3
  have g4 : atI xs (k4 : Int) = some u4 := atI_nat' h4
  have key : ∀ c : Bool, (c = true → (∃ i, numD u3 = some i) ∧ ∃ i, numD u4 = some i) → F__law_bent_2 { nx := F__law_bent_1 { nx := fun ρ' => P .none (ρ'.take 2), rt := fun d ρ' => P d (ρ'.take 2) }, rt := fun d ρ' => P d (ρ'.take 2) } [.own d7, .fz (.list xs), .fz (.int r2), .fz (.int (k3 : Int)), .fz (.int (k4 : Int)), .fz (.int mu), .own xs, .fz od, .fz (.bool c)] := by
    intro c hc
    have T0 : Th (B + 100) 1 N xs := bt.th.mono (by omega) (Nat.le_refl _) (Nat.le_refl _)
    have T1 : ∀ i : Int, i.natAbs ≤ B + 100 → okD (B + 100) (.int i) = true ∧ (PyData.int i).depth ≤ 1 ∧ nodes (.int i) ≤ 1 := fun i hi => ⟨okI hi, Nat.zero_le _, Nat.le_refl _⟩
    have k3o : okD (B + 100) u3 = true := okD.mono (by omega) o3.1
    have k4o : okD (B + 100) u4 = true := okD.mono (by omega) o4.1
    have l5 : ∃ j, ixN xs.length (k3 : Int) = some j ∧ F__law_bent_1 { nx := fun ρ' => P .none (ρ'.take 2), rt := fun d ρ' => P d (ρ'.take 2) } [.own d7, .fz (.list xs), .fz (.int r2), .fz (.int (k3 : Int)), .fz (.int (k4 : Int)), .fz (.int mu), .own (xs.set j od), .fz od, .fz (.bool c)] :=
      ⟨k3, i3, fin _ _ _ _ _ _ _ _ ((T0.set hod.1 hod.2.1 hod.2.2).mono (Nat.le_refl _) (Nat.le_refl _) (by omega)) (by rw [List.length_set]; omega) (b7.mono (by omega))⟩
    unfold F__law_bent_2
    walk_at "w"
    repeat' refine ite2 (fun hx => ?_) fun _ => ?_
    all_goals first
      | exact l5
      | exact ⟨by omega, fin _ _ _ _ _ _ _ _ ((T0.app (Th.one hod.1 hod.2.1 hod.2.2)).mono (Nat.le_refl _) (Nat.le_refl _) (by omega)) (by rw [List.length_append]; exact Nat.le_refl _) (b7.mono (by omega))⟩
      | exact ⟨_, g4, _, g3, k3, i3, k4, i4 _ (List.length_set ..), fin _ _ _ _ _ _ _ _ (((T0.set (M := N) k4o o4.2.1 o4.2.2).set (M := N) k3o o3.2.1 o3.2.2).mono (Nat.le_refl _) (Nat.le_refl _) (by omega)) (by rw [List.length_set, List.length_set]; omega) (b7.mono (by omega))⟩
      | (refine ⟨_, g3, _, g3, take_step b7 (by decide) (by decide) (by omega) fun r8 d8 x8 y8 b8 => ⟨.inl ⟨by decide, by decide⟩, by omega, by omega, by omega, ?_, fin _ _ _ _ _ _ _ _ ?_ ?_ (b8.mono (by omega))⟩⟩
         · have := cutD_len [u3, u3] none (some (2 * r8))
           simp only [List.length_cons, List.length_nil] at this
           omega
         · exact ((((T0.take _).app ((Th.one (D := 1) (N := N) k3o o3.2.1 o3.2.2).app (Th.one (D := 1) (N := N) k3o o3.2.1 o3.2.2) |>.cut none (some (2 * r8)))).app (T0.drop _)).mono (Nat.le_refl _) (Nat.le_refl _) (by omega))
         · have := cutD_len [u3, u3] none (some (2 * r8))
           simp only [List.length_cons, List.length_nil] at this
           rw [List.length_append, List.length_append, List.length_take, List.length_drop]
           omega)
      | (obtain ⟨⟨a, ea⟩, _⟩ := hc hx
         have ab := numD_ok hB o3.1 ea
         refine ⟨_, g3, ?_⟩
         rw [ea]
         refine take_step b7 (by decide) (by decide) (by omega) fun r8 d8 x8 y8 b8 => ⟨.inl ⟨by decide, by decide⟩, k3, i3, fin _ _ _ _ _ _ _ _ ?_ (by rw [List.length_set]; omega) (b8.mono (by omega))⟩
         obtain ⟨q1, q2, q3⟩ := T1 (a + 1 - 2 * r8) (by omega)
         exact (T0.set q1 q2 q3).mono (Nat.le_refl _) (Nat.le_refl _) (by omega))
      | (obtain ⟨⟨a, ea⟩, a2, ea2⟩ := hc hx
         have ab := numD_ok hB o3.1 ea
         have ab2 := numD_ok hB o4.1 ea2
         refine ⟨_, g3, ?_⟩
         rw [ea]
         refine ⟨k3, i3, ?_⟩
         obtain ⟨q1, q2, q3⟩ := T1 (a - mu) (by omega)
         have E1 : Th (B + 100) 1 (N + 1) (xs.set k3 (.int (a - mu))) := T0.set q1 q2 q3
         by_cases ek : k3 = k4
         · have gk : atI (xs.set k3 (.int (a - mu))) (k4 : Int) = some (.int (a - mu)) := atI_nat' (by rw [List.getElem?_set, if_pos ek, if_pos (by omega)])
           refine ⟨_, gk, k4, i4 _ (List.length_set ..), fin _ _ _ _ _ _ _ _ ?_ (by rw [List.length_set, List.length_set]; omega) (b7.mono (by omega))⟩
           obtain ⟨q1, q2, q3⟩ := T1 (a - mu + mu) (by omega)
           exact (E1.set q1 q2 q3).mono (Nat.le_refl _) (Nat.le_refl _) (by omega)
         · have gk : atI (xs.set k3 (.int (a - mu))) (k4 : Int) = some u4 := atI_nat' (by rw [List.getElem?_set, if_neg ek]; exact h4)
           refine ⟨_, gk, ?_⟩
           rw [ea2]
           refine ⟨k4, i4 _ (List.length_set ..), fin _ _ _ _ _ _ _ _ ?_ (by rw [List.length_set, List.length_set]; omega) (b7.mono (by omega))⟩
           obtain ⟨q1, q2, q3⟩ := T1 (a2 + mu) (by omega)
           exact (E1.set q1 q2 q3).mono (Nat.le_refl _) (Nat.le_refl _) (by omega))
  have fit : ∀ d : PyData, okD B d = true → isObjD d = false ∧ ∃ c, kitB (kindD d) "int" = some c ∧ (c = true → ∃ i, numD d = some i) := by
    intro d h
    cases d with
    | dict _ => cases h
    | int i => exact ⟨rfl, true, rfl, fun _ => ⟨_, rfl⟩⟩
    | bool b => exact ⟨rfl, true, rfl, fun _ => ⟨_, rfl⟩⟩
    | none => exact ⟨rfl, false, rfl, fun z => by cases z⟩
    | str _ => exact ⟨rfl, false, rfl, fun z => by cases z⟩
    | list _ => exact ⟨rfl, false, rfl, fun z => by cases z⟩
    | tuple _ => exact ⟨rfl, false, rfl, fun z => by cases z⟩
  obtain ⟨f1, c, f2, f3⟩ := fit u3 o3.1
  obtain ⟨f4, c', f5, f6⟩ := fit u4 o4.1
  refine ⟨_, g3, f1, c, f2, ?_⟩
  cases c with
  | false => exact key false fun z => by cases z
  | true => exact ⟨_, g4, f4, c', f5, key c' fun z => ⟨f3 rfl, f6 z⟩⟩
/-- what is looked at -/
def Tg (t : PyData) : Prop := okD 1000000000 t = true ∧ t.depth ≤ 50 ∧ nodes t ≤ 10000
theorem Th.tg {B D N : Nat} {xs : List PyData} (a : Th B D N xs) (hB : B ≤ 1000000000) (hD : D ≤ 40) (hN : N ≤ 9000) : Tg (.list xs) := by
  obtain ⟨h1, h2, h3⟩ := a.mono (B' := 1000000000) (D' := D) (N' := N) hB (Nat.le_refl _) (Nat.le_refl _)
  refine ⟨h1, ?_, ?_⟩
  · show PyData.depthAll xs + 1 ≤ 50
    omega
  · show nodesAll xs + 1 ≤ 10000
    omega
theorem f_l4 {E : FEnds} {a0 a1 a2 a3 a4 a7 a8 a9 a10 a12 a15 a16 a17 : Sl} {l : List (Int × Int)} {m : Int} {t : PyData} (w : Small l) (ht : Tg t) (q : ∀ x y, E.nx [a0, a1, a2, a3, a4, .fz (.list (asksD l)), .fz (.int m), a7, a8, a9, a10, .fz t, a12, .fz x, .fz y, a15, a16, a17]) :
    F_law_4 E [a0, a1, a2, a3, a4, .fz (.list (asksD l)), .fz (.int m), a7, a8, a9, a10, .fz t, a12, .no, .no, a15, a16, a17] := by
  unfold F_law_4
  walk_at "w"
  refine repr_th (Nat.le_refl _) ht.1 ht.2.1 ht.2.2 ?_
  refine f_fair_any (.inl rfl) w ht.1 fun _ => ?_
  walk_at "w"
  refine f_law_fair w ht.1 fun _ => ?_
  rw [show ∀ (b : Bool) (Q : PyData → Prop), oNe (.bool b) (.bool b) Q = Q (.bool (!decide (b = b))) from fun _ _ => rfl, show decide (fairT m l t = fairT m l t) = true from decide_eq_true rfl]
  walk_at "w"
  refine repr_th (Nat.le_refl _) ht.1 ht.2.1 ht.2.2 ?_
  rw [show ∀ (b : Str) (Q : PyData → Prop), oNe (.str b) (.str b) Q = Q (.bool (!decide (b = b))) from fun _ _ => rfl, show decide (t.shown = t.shown) = true from decide_eq_true rfl]
  walk_at "w"
  exact q _ _
theorem f_law8 {E : FEnds} {a0 a1 a2 a4 a5 a6 a9 a10 a13 a14 a15 a16 a17 s : Sl} {ds xs ts : List PyData} {n : Nat} (hb : BoxD ds n) (hn : n < 1000000) (bt : Bt 200000000 20 xs) (lx : xs.length ≤ 20) (ht : ∀ t ∈ ts, Tg t) (lt : ts.length ≤ 20) (hs : s = .no ∨ ∃ d, s = .fz d)
    (q : ∀ ds' ts' t, BoxD ds' (n + 100) → (∀ t ∈ ts', Tg t) → ts'.length = ts.length + 1 → E.nx [a0, a1, a2, .own ds', a4, a5, a6, .fz (.list xs), .own ts', a9, a10, .fz t, .no, a13, a14, a15, a16, a17]) :
    F_law_8 E [a0, a1, a2, .own ds, a4, a5, a6, .fz (.list xs), .own ts, a9, a10, s, .no, a13, a14, a15, a16, a17] := by
  have lin : sizeLine = 16777216 := by decide +kernel
  unfold F_law_8
  walk_at "w"
  refine f_bent hb (by omega) bt (by decide) (by decide) (by omega) fun ys d1 _ bt1 ly b1 => ?_
  refine ⟨by rcases hs with rfl | ⟨_, rfl⟩ <;> rfl, ?_⟩
  walk_at "w"
  refine take_step b1 (by decide) (by decide) (by omega) fun r2 d2 x2 y2 b2 => ⟨by omega, by omega, ?_⟩
  refine for_range (fun i ρ => ∃ ys ds', Bt (200000000 + 100 * (i + 1)) (90 * 5 ^ i) ys ∧ ys.length ≤ 21 + i ∧ BoxD ds' (n + 21 + 20 * i) ∧ ρ = [a0, a1, a2, .own ds', a4, a5, a6, .fz (.list xs), .own ts, a9, a10, .fz (.list ys), .no, a13, a14, a15, a16, a17]) ⟨ys, d2, bt1, by omega, b2, rfl⟩ ?_ ?_
  · rintro i ρ hi ⟨ys, d3, bt3, ly3, b3, rfl⟩
    have i2 : i < 2 := by omega
    have p5 : 5 ^ (i + 1) = 5 ^ i * 5 := Nat.pow_succ ..
    have p1 : 1 ≤ 5 ^ i := Nat.one_le_pow _ _ (by decide)
    unfold F_law_7
    walk_at "w"
    refine f_bent b3 (by omega) bt3 (by omega) (by omega) (by omega) fun zs d4 _ bt4 lz b4 => ?_
    walk_at "w"
    refine ⟨zs, d4, ⟨bt4.th.mono (by omega) (Nat.le_refl _) (by omega), bt4.ne⟩, by omega, b4.mono (by omega), rfl, rfl⟩
  · rintro ρ ⟨ys, d3, bt3, ly3, b3, rfl⟩
    have i2 : r2.toNat ≤ 2 := by omega
    have p2 : 5 ^ r2.toNat ≤ 5 ^ 2 := Nat.pow_le_pow_right (by decide) i2
    unfold F_law_6
    walk_at "w"
    refine ⟨by omega, q _ _ _ (b3.mono (by omega)) (fun t hm => ?_) (by rw [List.length_append]; rfl)⟩
    rcases List.mem_append.mp hm with hm | hm
    · exact ht t hm
    · rw [List.mem_singleton.mp hm]
      exact bt3.th.tg (by omega) (by decide) (by omega)
theorem f_law {ns : List Int} (hn : ns.length ≤ 63) : F_law [.fz (.list (ns.map .int))] fun d _ => d = .bool true := by
  have lin : sizeLine = 16777216 := by decide +kernel
  unfold F_law
  walk_at "w"
  refine f_folded (m := 6) (by decide) (by decide) hn fun ms lm _ => ?_
  walk_at "w"
  rw [List.length_map]
  refine ⟨by split <;> omega, by split <;> omega, ?_⟩
  refine for_range (fun i ρ => ρ = [.fz (.list (ns.map .int)), .fz (.list (ms.map .int)), .no, .no, .no, .no, .no, .no, .no, .no, .no, .no, .no, .no, .no, .no, .no, .no]) rfl ?_ ?_
  · rintro i ρ hi rfl
    unfold F_law_11
    walk_at "w"
    refine f_box (by split at hi <;> omega) fun ds _ hb => ?_
    walk_at "w"
    refine for_range (fun j ρ => ∃ ds', BoxD ds' (2000 * j) ∧ ρ = [.fz (.list (ns.map .int)), .fz (.list (ms.map .int)), .fz (.int i), .own ds', .no, .no, .no, .no, .no, .no, .no, .no, .no, .no, .no, .no, .no, .no]) ⟨ds, hb, rfl⟩ ?_ ?_
    · rintro j ρ hj ⟨d1, b1, rfl⟩
      walk_at "w"
      unfold F_law_10
      walk_at "w"
      refine take_step b1 (by decide) (by decide) (by omega) fun r1 d2 x1 y1 b2 => ?_
      refine take_step b2 (by decide) (by decide) (by omega) fun r2 d3 x2 y2 b3 => ?_
      obtain ⟨v, e, mm⟩ := at_mem (xs := [PyData.int (1 + r1), PyData.int 2, PyData.int 4]) x2 y2
      obtain ⟨a, rfl, a0, a1⟩ : ∃ a : Nat, v = .int (a : Int) ∧ 1 ≤ a ∧ a ≤ 12 := by
        simp only [List.mem_cons, List.not_mem_nil, or_false] at mm
        rcases mm with rfl | rfl | rfl
        · exact ⟨(1 + r1).toNat, by rw [Int.toNat_of_nonneg (by omega)], by omega, by omega⟩
        · exact ⟨2, rfl, by decide, by decide⟩
        · exact ⟨4, rfl, by decide, by decide⟩
      refine ⟨_, e, ?_⟩
      refine f_asks b3 (by omega) (by omega) fun l d4 _ ll dr b4 => ?_
      have ne : l ≠ [] := fun z => by rw [z] at ll; simp at ll; omega
      have w := dr.small (by omega)
      walk_at "w"
      refine f_amount b4 (by omega) dr ne (by omega) fun am d5 _ am0 am1 b5 => ?_
      walk_at "w"
      refine f_part_heap (.inl rfl) w ne am1 (fun vs hv _ => ?_) (fun c => by omega)
      walk_at "w"
      refine lc_map l (fun p => .tuple [.int p.1, .int p.2]) (fun p => some (.list [.int p.1, .int p.2])) rfl rfl (by omega) (fun p R acc _ hacc hR => ?_) ?_
      · unfold F_law_9
        walk_at "w"
        exact ⟨hacc, hR⟩
      rw [filterMap_some]
      walk_at "w"
      have lv : vs.length ≤ 12 := by rw [hv.len]; omega
      have bd := hv.bd w.toAskW
      have thv : Th 100000000 1 12 (vs.map .int) := by
        obtain ⟨f1, f2⟩ := ints_facts vs
        refine ⟨okAll_iff.mpr fun d hd => ?_, by rw [f1]; decide, by rw [f2]; exact lv⟩
        obtain ⟨v, hm, rfl⟩ := List.mem_map.mp hd
        have := bd v hm
        exact okI (by omega)
      have tgv := thv.tg (by decide) (by decide) (by decide)
      have tgl : ∀ xs : List (Int × Int), xs.length ≤ 12 → (∀ p ∈ xs, 0 ≤ p.1 ∧ p.1 ≤ 99999 ∧ 0 ≤ p.2 ∧ p.2 ≤ 99999) → Th 1000000000 1 (3 * xs.length) (xs.map fun p => PyData.list [.int p.1, .int p.2]) := by
        intro xs
        induction xs with
        | nil => exact fun _ _ => ⟨rfl, Nat.zero_le _, Nat.le_refl _⟩
        | cons p xs ih =>
          intro lx hx
          have i1 := ih (by simp only [List.length_cons] at lx; omega) fun z hz => hx z (List.mem_cons_of_mem _ hz)
          have hp := hx p List.mem_cons_self
          have o : Th 1000000000 1 3 [PyData.list [.int p.1, .int p.2]] := by
            refine Th.one ?_ (by show max 0 (max 0 0) + 1 ≤ 1; decide) (by show 1 + (1 + 0) + 1 ≤ 3; decide)
            show (okD _ (.int p.1) && (okD _ (.int p.2) && true)) = true
            rw [okI (by omega), okI (by omega)]
            rfl
          exact (o.app i1).mono (Nat.le_refl _) (Nat.le_refl _) (by rw [List.length_cons]; omega)
      have start : ∀ t ∈ [PyData.list (vs.map .int), .tuple (vs.map .int), .none, .int 0, .str (Str.ofString ""), .list [], .list [.list (vs.map .int)], .list (l.map fun p => PyData.list [.int p.1, .int p.2])], Tg t := by
        intro t hm
        simp only [List.mem_cons, List.not_mem_nil, or_false] at hm
        rcases hm with rfl | rfl | rfl | rfl | rfl | rfl | rfl | rfl
        · exact tgv
        · exact tgv
        · exact ⟨rfl, by decide, by decide⟩
        · exact ⟨by decide, by decide, by decide⟩
        · exact ⟨by decide +kernel, by decide, by decide⟩
        · exact ⟨rfl, by decide, by decide⟩
        · exact (Th.one (D := 2) (N := 100) (okD.mono (d := .list (vs.map .int)) (B := 100000000) (by decide) thv.ok) (by show PyData.depthAll (vs.map .int) + 1 ≤ 2; rw [(ints_facts vs).1]; decide) (by show nodesAll (vs.map .int) + 1 ≤ 100; rw [(ints_facts vs).2]; omega)).tg (B := 1000000000) (by decide) (by decide) (by decide)
        · exact (tgl l (by omega) fun p hp => by have := dr.p0 p hp; have := dr.l0 p hp; omega).tg (by decide) (by decide) (by omega)
      refine for_range (fun k ρ => ∃ ds' ts s, BoxD ds' (2000 * j + 200 + 100 * k) ∧ (∀ t ∈ ts, Tg t) ∧ ts.length = 8 + k ∧ (s = Sl.no ∨ ∃ d, s = Sl.fz d) ∧ ρ = [.fz (.list (ns.map .int)), .fz (.list (ms.map .int)), .fz (.int i), .own ds', .fz (.int j), .fz (.list (asksD l)), .fz (.int am), .fz (.list (vs.map .int)), .own ts, .no, .no, s, .no, .no, .no, .no, .no, .no]) ⟨d5, _, _, b5.mono (by omega), start, rfl, .inl rfl, rfl⟩ ?_ ?_
      · rintro k ρ hk ⟨d6, ts, s, b6, ht, lt, hs, rfl⟩
        have hk : k < 8 := hk
        walk_at "w"
        refine f_law8 b6 (by omega) ⟨thv.mono (by decide) (Nat.le_refl _) (by decide), by rw [List.length_map, hv.len]; omega⟩ (by rw [List.length_map]; omega) ht (by omega) hs fun d7 ts' t b7 ht' lt' => ?_
        exact ⟨d7, ts', _, b7.mono (by omega), ht', by omega, .inr ⟨_, rfl⟩, rfl⟩
      · rintro ρ ⟨d6, ts, s, b6, ht, lt, hs, rfl⟩
        unfold F_law_5
        walk_at "w"
        refine for_map ts id (fun k ρ => ∃ s, (s = Sl.no ∨ ∃ d, s = Sl.fz d) ∧ ρ = [.fz (.list (ns.map .int)), .fz (.list (ms.map .int)), .fz (.int i), .own d6, .fz (.int j), .fz (.list (asksD l)), .fz (.int am), .fz (.list (vs.map .int)), .fz (.list ts), .no, .no, s, .no, .no, .no, .no, .no, .no]) (List.map_id ts).symm ⟨s, hs, rfl⟩ (fun k t ρ2 hm hk e => ?_) (fun ρ2 e => ?_)
        · obtain ⟨s, hs, rfl⟩ := e
          rcases hs with rfl | ⟨d', rfl⟩
          · walk_at "w"
            exact f_l4 w (ht t (List.mem_of_getElem? hm)) fun x y => ⟨_, .inr ⟨_, rfl⟩, rfl⟩
          · walk_at "w"
            exact f_l4 w (ht t (List.mem_of_getElem? hm)) fun x y => ⟨_, .inr ⟨_, rfl⟩, rfl⟩
        · obtain ⟨s, hs, rfl⟩ := e
          unfold F_law_3
          walk_at "w"
          refine lc_map l (fun p => .tuple [.int p.1, .int p.2]) (fun p => some (.int p.2)) rfl rfl (by omega) (fun p R acc _ hacc hR => ?_) ?_
          · walk_at "w"
            exact ⟨hacc, hR⟩
          rw [fm_int]
          walk_at "w"
          refine f_fair_ints (.inr rfl) w hv.len (fun v hm => by have := bd v hm; omega) fun _ => ?_
          rw [hv.fair w.toAskW]
          unfold F_law_2
          walk_at "w"
          rw [if_neg (by decide)]
          have es : (l.map fun p => p.2).sum = sumL l := rfl
          refine intsF_map ?_
          rw [es]
          have done : ∃ ds', BoxD ds' (2000 * (j + 1)) ∧ Sl.own d6 = Sl.own ds' := ⟨d6, b6.mono (by omega), rfl⟩
          refine ite2 (fun c => ?_) fun _ => ?_
          · refine intsF_map ?_
            rw [es]
            refine f_fair_ints (.inl rfl) w (List.length_map ..) (fun v hm => ?_) fun _ => ?_
            · obtain ⟨p, hp, rfl⟩ := List.mem_map.mp hm
              have := w.l0 p hp
              have := w.lm p hp
              omega
            have uf : fairZ (sumL l - 1) ((l.map fun p => p.2).zip l) = false := by
              unfold fairZ
              rw [show ((l.map fun p => p.2).zip l).map (·.1) = l.map fun p => p.2 from List.map_fst_zip (by rw [List.length_map]; exact Nat.le_refl _), es, decide_eq_false (by omega)]
              rfl
            rw [uf]
            walk_at "w"
            rw [if_neg (by decide)]
            exact done
          · exact done
    · rintro ρ ⟨d1, b1, rfl⟩
      rfl
  · rintro ρ rfl
    rfl
def top (i : Nat) : Stmt := PySem.Challenge.pw_stallshares_k23_fair_or_not.main.body.getD i (.Pass ⟨0, 0, 0, 0⟩)
abbrev s__law_folded : Stmt := top 15
abbrev N__law_folded : List Str := ["_law_script", "_law_size", "_law_cells", "_law_k", "_law_cell"]
theorem sc__law_folded : FnScope N__law_folded ["_law_script", "_law_size"] (defScope s__law_folded) := ⟨rfl, rfl, rfl, by decide +kernel, rfl, by decide +kernel, by decide +kernel⟩
abbrev s__law_box : Stmt := top 13
abbrev N__law_box : List Str := ["_law_script", "_law_k", "_law_cell"]
theorem sc__law_box : FnScope N__law_box ["_law_script", "_law_k"] (defScope s__law_box) := ⟨rfl, rfl, rfl, by decide +kernel, rfl, by decide +kernel, by decide +kernel⟩
abbrev s__law_take : Stmt := top 14
abbrev N__law_take : List Str := ["_law_box_here", "_law_size", "_law_found", "_law_step", "_law_once", "_law_twice"]
theorem sc__law_take : FnScope N__law_take ["_law_box_here", "_law_size"] (defScope s__law_take) := ⟨rfl, rfl, rfl, by decide +kernel, rfl, by decide +kernel, by decide +kernel⟩
abbrev s__law_price : Stmt := top 16
abbrev N__law_price : List Str := ["_law_box_here", "_law_some"]
theorem sc__law_price : FnScope N__law_price ["_law_box_here"] (defScope s__law_price) := ⟨rfl, rfl, rfl, by decide +kernel, rfl, by decide +kernel, by decide +kernel⟩
abbrev s__law_asks : Stmt := top 17
abbrev N__law_asks : List Str := ["_law_box_here", "_law_many", "_law_found", "_law_turn", "_law_price_here", "_law_least", "_law_again"]
theorem sc__law_asks : FnScope N__law_asks ["_law_box_here", "_law_many"] (defScope s__law_asks) := ⟨rfl, rfl, rfl, by decide +kernel, rfl, by decide +kernel, by decide +kernel⟩
abbrev s__law_amount : Stmt := top 18
abbrev N__law_amount : List Str := ["_law_box_here", "_law_asks_here", "_law_low", "_law_whole", "_law_price_here", "_law_least", "_law_more"]
theorem sc__law_amount : FnScope N__law_amount ["_law_box_here", "_law_asks_here"] (defScope s__law_amount) := ⟨rfl, rfl, rfl, by decide +kernel, rfl, by decide +kernel, by decide +kernel⟩
abbrev s_all_leasts : Stmt := top 4
abbrev N_all_leasts : List Str := ["asks", "price", "least"]
theorem sc_all_leasts : FnScope N_all_leasts ["asks"] (defScope s_all_leasts) := ⟨rfl, rfl, rfl, by decide +kernel, rfl, by decide +kernel, by decide +kernel⟩
abbrev s_TooLow_init : Stmt := inClass (top 1) 0
abbrev N_TooLow_init : List Str := ["self", "what"]
theorem sc_TooLow_init : FnScope N_TooLow_init ["self", "what"] (defScope s_TooLow_init) := ⟨rfl, rfl, rfl, by decide +kernel, rfl, by decide +kernel, by decide +kernel⟩
abbrev s_level_found : Stmt := top 5
abbrev N_level_found : List Str := ["amount", "asks", "above", "top", "bottom", "price", "least", "higher"]
theorem sc_level_found : FnScope N_level_found ["amount", "asks"] (defScope s_level_found) := ⟨rfl, rfl, rfl, by decide +kernel, rfl, by decide +kernel, by decide +kernel⟩
abbrev s_common_divisor : Stmt := top 3
abbrev N_common_divisor : List Str := ["one", "other"]
theorem sc_common_divisor : FnScope N_common_divisor ["one", "other"] (defScope s_common_divisor) := ⟨rfl, rfl, rfl, by decide +kernel, rfl, by decide +kernel, by decide +kernel⟩
abbrev s_level_of : Stmt := top 6
abbrev N_level_of : List Str := ["amount", "asks", "low", "top", "bottom", "shared"]
theorem sc_level_of : FnScope N_level_of ["amount", "asks"] (defScope s_level_of) := ⟨rfl, rfl, rfl, by decide +kernel, rfl, by decide +kernel, by decide +kernel⟩
abbrev s_parts_by : Stmt := top 7
abbrev N_parts_by : List Str := ["level", "asks", "top", "bottom", "found", "price", "least"]
theorem sc_parts_by : FnScope N_parts_by ["level", "asks"] (defScope s_parts_by) := ⟨rfl, rfl, rfl, by decide +kernel, rfl, by decide +kernel, by decide +kernel⟩
abbrev s_part_heap : Stmt := top 8
abbrev N_part_heap : List Str := ["amount", "asks", "level", "price", "least", "parts", "gets", "whole", "cut", "others", "place"]
theorem sc_part_heap : FnScope N_part_heap ["amount", "asks"] (defScope s_part_heap) := ⟨rfl, rfl, rfl, by decide +kernel, rfl, by decide +kernel, by decide +kernel⟩
abbrev s__law_bent : Stmt := top 20
abbrev N__law_bent : List Str := ["_law_box_here", "_law_parts", "_law_way", "_law_at", "_law_to", "_law_much", "_law_found", "_law_odd", "_law_are_both"]
theorem sc__law_bent : FnScope N__law_bent ["_law_box_here", "_law_parts"] (defScope s__law_bent) := ⟨rfl, rfl, rfl, by decide +kernel, rfl, by decide +kernel, by decide +kernel⟩
abbrev s_is_plain_number : Stmt := top 9
abbrev N_is_plain_number : List Str := ["thing"]
theorem sc_is_plain_number : FnScope N_is_plain_number ["thing"] (defScope s_is_plain_number) := ⟨rfl, rfl, rfl, by decide +kernel, rfl, by decide +kernel, by decide +kernel⟩
abbrev s_is_level_pair : Stmt := top 10
abbrev N_is_level_pair : List Str := ["one", "other", "ask", "beside"]
theorem sc_is_level_pair : FnScope N_is_level_pair ["one", "other", "ask", "beside"] (defScope s_is_level_pair) := ⟨rfl, rfl, rfl, by decide +kernel, rfl, by decide +kernel, by decide +kernel⟩
abbrev s_shows_fair : Stmt := top 11
abbrev N_shows_fair : List Str := ["amount", "asks", "thing", "one", "ask", "two", "own"]
theorem sc_shows_fair : FnScope N_shows_fair ["amount", "asks", "thing"] (defScope s_shows_fair) := ⟨rfl, rfl, rfl, by decide +kernel, rfl, by decide +kernel, by decide +kernel⟩
abbrev s__law_fair : Stmt := top 19
abbrev N__law_fair : List Str := ["_law_amount_here", "_law_asks_here", "_law_thing", "_law_one", "_law_total", "_law_at", "_law_price_here", "_law_least", "_law_to", "_law_other", "_law_low"]
theorem sc__law_fair : FnScope N__law_fair ["_law_amount_here", "_law_asks_here", "_law_thing"] (defScope s__law_fair) := ⟨rfl, rfl, rfl, by decide +kernel, rfl, by decide +kernel, by decide +kernel⟩
abbrev s_law : Stmt := top 21
abbrev N_law : List Str := ["_law_script", "_law_cells", "_law_k", "_law_box_here", "_law_turn", "_law_asks_here", "_law_amount_here", "_law_good", "_law_things", "_law_ask", "_law_again", "_law_thing", "_law_more", "_law_kept", "_law_found", "_law_leasts", "_law_price_here", "_law_least"]
theorem sc_law : FnScope N_law ["_law_script"] (defScope s_law) := ⟨rfl, rfl, rfl, by decide +kernel, rfl, by decide +kernel, by decide +kernel⟩
structure Ad where
  C_TooLow : Addr
  f__law_folded : Addr
  d__law_folded : FuncData
  f__law_box : Addr
  d__law_box : FuncData
  f__law_take : Addr
  d__law_take : FuncData
  f__law_price : Addr
  d__law_price : FuncData
  f__law_asks : Addr
  d__law_asks : FuncData
  f__law_amount : Addr
  d__law_amount : FuncData
  f_all_leasts : Addr
  d_all_leasts : FuncData
  f_TooLow_init : Addr
  d_TooLow_init : FuncData
  f_level_found : Addr
  d_level_found : FuncData
  f_common_divisor : Addr
  d_common_divisor : FuncData
  f_level_of : Addr
  d_level_of : FuncData
  f_parts_by : Addr
  d_parts_by : FuncData
  f_part_heap : Addr
  d_part_heap : FuncData
  f__law_bent : Addr
  d__law_bent : FuncData
  f_is_plain_number : Addr
  d_is_plain_number : FuncData
  f_is_level_pair : Addr
  d_is_level_pair : FuncData
  f_shows_fair : Addr
  d_shows_fair : FuncData
  f__law_fair : Addr
  d__law_fair : FuncData
  f_law : Addr
  d_law : FuncData
structure Txt (K : PySem.W.Frag) (mg : Str → Option Value) (a : Ad) : Prop where
  n_list : mg "list" = none
  n_enumerate : mg "enumerate" = none
  n_len : mg "len" = none
  n_abs : mg "abs" = none
  n_int : mg "int" = none
  n_divmod : mg "divmod" = none
  n_range : mg "range" = none
  n_sum : mg "sum" = none
  n_ArithmeticError : mg "ArithmeticError" = none
  n_sorted : mg "sorted" = none
  n_isinstance : mg "isinstance" = none
  n_bool : mg "bool" = none
  n_zip : mg "zip" = none
  n_any : mg "any" = none
  n_all : mg "all" = none
  n_max : mg "max" = none
  n_tuple : mg "tuple" = none
  n_repr : mg "repr" = none
  F__law_folded : Fun K "_law_folded" "_law_folded" s__law_folded a.f__law_folded a.d__law_folded
  g__law_folded : mg "_law_folded" = some (.ref a.f__law_folded)
  b__law_folded : Binds K a.d__law_folded ["_law_script", "_law_size"] []
  F__law_box : Fun K "_law_box" "_law_box" s__law_box a.f__law_box a.d__law_box
  g__law_box : mg "_law_box" = some (.ref a.f__law_box)
  b__law_box : Binds K a.d__law_box ["_law_script", "_law_k"] []
  F__law_take : Fun K "_law_take" "_law_take" s__law_take a.f__law_take a.d__law_take
  g__law_take : mg "_law_take" = some (.ref a.f__law_take)
  b__law_take : Binds K a.d__law_take ["_law_box_here", "_law_size"] []
  F__law_price : Fun K "_law_price" "_law_price" s__law_price a.f__law_price a.d__law_price
  g__law_price : mg "_law_price" = some (.ref a.f__law_price)
  b__law_price : Binds K a.d__law_price ["_law_box_here"] []
  F__law_asks : Fun K "_law_asks" "_law_asks" s__law_asks a.f__law_asks a.d__law_asks
  g__law_asks : mg "_law_asks" = some (.ref a.f__law_asks)
  b__law_asks : Binds K a.d__law_asks ["_law_box_here", "_law_many"] []
  F__law_amount : Fun K "_law_amount" "_law_amount" s__law_amount a.f__law_amount a.d__law_amount
  g__law_amount : mg "_law_amount" = some (.ref a.f__law_amount)
  b__law_amount : Binds K a.d__law_amount ["_law_box_here", "_law_asks_here"] []
  F_all_leasts : Fun K "all_leasts" "all_leasts" s_all_leasts a.f_all_leasts a.d_all_leasts
  g_all_leasts : mg "all_leasts" = some (.ref a.f_all_leasts)
  b_all_leasts : Binds K a.d_all_leasts ["asks"] []
  F_TooLow_init : Fun K "__init__" "TooLow.__init__" s_TooLow_init a.f_TooLow_init a.d_TooLow_init
  b_TooLow_init : Binds K a.d_TooLow_init ["self", "what"] []
  F_level_found : Fun K "level_found" "level_found" s_level_found a.f_level_found a.d_level_found
  g_level_found : mg "level_found" = some (.ref a.f_level_found)
  b_level_found : Binds K a.d_level_found ["amount", "asks"] []
  F_common_divisor : Fun K "common_divisor" "common_divisor" s_common_divisor a.f_common_divisor a.d_common_divisor
  g_common_divisor : mg "common_divisor" = some (.ref a.f_common_divisor)
  b_common_divisor : Binds K a.d_common_divisor ["one", "other"] []
  F_level_of : Fun K "level_of" "level_of" s_level_of a.f_level_of a.d_level_of
  g_level_of : mg "level_of" = some (.ref a.f_level_of)
  b_level_of : Binds K a.d_level_of ["amount", "asks"] []
  F_parts_by : Fun K "parts_by" "parts_by" s_parts_by a.f_parts_by a.d_parts_by
  g_parts_by : mg "parts_by" = some (.ref a.f_parts_by)
  b_parts_by : Binds K a.d_parts_by ["level", "asks"] []
  F_part_heap : Fun K "part_heap" "part_heap" s_part_heap a.f_part_heap a.d_part_heap
  g_part_heap : mg "part_heap" = some (.ref a.f_part_heap)
  b_part_heap : Binds K a.d_part_heap ["amount", "asks"] []
  F__law_bent : Fun K "_law_bent" "_law_bent" s__law_bent a.f__law_bent a.d__law_bent
  g__law_bent : mg "_law_bent" = some (.ref a.f__law_bent)
  b__law_bent : Binds K a.d__law_bent ["_law_box_here", "_law_parts"] []
  F_is_plain_number : Fun K "is_plain_number" "is_plain_number" s_is_plain_number a.f_is_plain_number a.d_is_plain_number
  g_is_plain_number : mg "is_plain_number" = some (.ref a.f_is_plain_number)
  b_is_plain_number : Binds K a.d_is_plain_number ["thing"] []
  F_is_level_pair : Fun K "is_level_pair" "is_level_pair" s_is_level_pair a.f_is_level_pair a.d_is_level_pair
  g_is_level_pair : mg "is_level_pair" = some (.ref a.f_is_level_pair)
  b_is_level_pair : Binds K a.d_is_level_pair ["one", "other", "ask", "beside"] []
  F_shows_fair : Fun K "shows_fair" "shows_fair" s_shows_fair a.f_shows_fair a.d_shows_fair
  g_shows_fair : mg "shows_fair" = some (.ref a.f_shows_fair)
  b_shows_fair : Binds K a.d_shows_fair ["amount", "asks", "thing"] []
  F__law_fair : Fun K "_law_fair" "_law_fair" s__law_fair a.f__law_fair a.d__law_fair
  g__law_fair : mg "_law_fair" = some (.ref a.f__law_fair)
  b__law_fair : Binds K a.d__law_fair ["_law_amount_here", "_law_asks_here", "_law_thing"] []
  F_law : Fun K "law" "law" s_law a.f_law a.d_law
  g_TooLow : mg "TooLow" = some (.ref a.C_TooLow)
  q_TooLow : PySem.W.nsIn K mainGlobals "TooLow" = some (some (.ref a.C_TooLow))
  ob_TooLow : OxB K a.C_TooLow "ArithmeticError" "ArithmeticError.__new__" "ArithmeticError.__init__" [.type "ArithmeticError", .type "Exception", .type "BaseException", .type "object"]
  xk_TooLow : ExK K a.C_TooLow
  in_TooLow : PySem.W.findIn K (.ref a.C_TooLow) "__init__" = some (some (.ref a.f_TooLow_init))
  ty_TooLow : PySem.W.typeIn K (.ref a.f_TooLow_init) = some (.type "function")
  vb_TooLow : PySem.W.findCls K (.type "ArithmeticError") (.type "type") "__init__" = some (.val (.builtin "ArithmeticError.__init__"))
  cd_part_heap : a.d_part_heap.code = .ref 69
class TBx (mg : Str → Option Value) (base : Heap) : Prop where
  tb : LamX.TabB base mg 69 67
/-! ### the draw -/
def sp__law_take : Sp := fun vs H Q _ => ∃ (B : Addr) (m : Int) (n : Nat), vs = [.ref B, .int m] ∧ Box H B n ∧ 0 < m ∧ m < 1073741824 ∧ n < 1000000000 ∧
  ∀ r H', 0 ≤ r → r < m → Fr [B] H H' → Box H' B (n + 1) → Q (.int r) H'
theorem ok__law_take {P : Program} {w : World} {K : PySem.W.Frag} {mg : Str → Option Value} {base : Heap} [TBx mg base] {ad : Ad} (T : Txt K mg ad) : FnOk P w K mg base CX0 1 ad.f__law_take ad.d__law_take ["_law_box_here", "_law_size"] sp__law_take := by
  refine T.F__law_take.ok sc__law_take (fun vs H Q E h => ?_) (fun cdv A outer s H vs Q E hr h => ?_)
  · obtain ⟨a, ns, k, rfl, _⟩ := h
    rfl
  · obtain ⟨B, m, n, rfl, ⟨b0, b1, b2, hB, h0, h1, h2, h3, h4⟩, m0, m1, hn, q⟩ := h
    refine ⟨_, (pss_cons (ps_if (pt_cmpR op_gt (pe_ix ix_list (pv 0) pe_int (fun _ _ => rfl)) pe_int (nomark _)) (pss_cons (ps_asg (pe_callB call_divmod (by rfl) T.n_divmod (by decide +kernel) (pa_cons (pe_ix ix_list (pv 0) pe_int (fun _ _ => rfl)) (pa_cons (pv 1) pa_nil))) (pg_tup (by rfl) (pgs_cons (pg_sub (pv 0) pe_int set_list) (pgs_cons (pg_name (i := 2) sc__law_take.nd rfl (Or.inl rfl)) pgs_nil))))
    (pss_one (ps_ret (pv 2)))) pss_nil)
    (pss_cons (ps_asg (pe_op op_add (pe_ix ix_list (pv 0) pe_int (fun _ _ => rfl)) pe_int) (pg_sub (pv 0) pe_int set_list))
    (pss_cons (ps_set (i := 3) sc__law_take.nd rfl (Or.inl rfl) (pe_op op_add pe_int (pe_op op_mul (pe_ix ix_list (pv 0) pe_int (fun _ _ => rfl)) (pe_ix ix_list (pv 0) pe_int (fun _ _ => rfl)))))
    (pss_cons (ps_set (i := 4) sc__law_take.nd rfl (Or.inl rfl) (pe_op op_mod (pe_op op_mul (pe_op op_add (pe_ix ix_list (pv 0) pe_int (fun _ _ => rfl)) (pe_op op_mul pe_int (pe_ix ix_list (pv 0) pe_int (fun _ _ => rfl)))) (pv 3)) pe_int))
    (pss_cons (ps_set (i := 5) sc__law_take.nd rfl (Or.inl rfl) (pe_op op_mod (pe_op op_add (pe_op op_mul (pv 4) (pe_op op_add (pe_op op_mod (pv 4) pe_int) pe_int)) (pe_ix ix_list (pv 0) pe_int (fun _ _ => rfl))) pe_int))
    (pss_one (ps_ret (pe_op op_mod (pe_op op_fdiv (pe_op op_mod (pe_op op_mul (pv 5) (pe_op op_add (pe_op op_mod (pv 5) pe_int) pe_int)) pe_int) pe_int) (pv 1))))))))), ?_⟩
    walk_at "z"
    refine ite2 (fun h => ?_) (fun h => ?_)
    · walk_at "z"
      refine fun p hp => ?_
      have hBp : B ≠ p := ne_of_none hB hp
      have hB' : upd H p (.tup [.int (b0 / m), .int (b0 % m)]) B = some (.lst [.int b0, .int b1, .int b2]) := by rw [upd_ne hBp]; exact hB
      walk_at "z"
      refine q _ _ (Int.emod_nonneg _ (by omega)) (Int.emod_lt_of_pos _ m0) ?_ ?_
      · exact (Fr.new hp).put (by simp)
      · exact ⟨_, _, _, upd_same, Int.ediv_nonneg h0 (by omega), h1, h2, h3, by omega⟩
    · walk_at "z"
      refine q _ _ (Int.emod_nonneg _ (by omega)) (Int.emod_lt_of_pos _ m0) ((Fr.refl _ _).put (by simp)) ⟨_, _, _, upd_same, h0, h1, h2, by omega, by omega⟩

theorem okD__law_take {P : Program} {w : World} {K : PySem.W.Frag} {mg : Str → Option Value} {base : Heap} [TBx mg base] {ad : Ad} (T : Txt K mg ad) : FnOk P w K mg base CX0 1 ad.f__law_take ad.d__law_take ["_law_box_here", "_law_size"] (spF K 2 F__law_take) :=
  (ok__law_take T).imp fun _ _ _ _ h => take_of h

theorem okD__law_folded {P : Program} {w : World} {K : PySem.W.Frag} {mg : Str → Option Value} {base : Heap} [TBx mg base] {ad : Ad} (T : Txt K mg ad) : FnOk P w K mg base CX0 1 ad.f__law_folded ad.d__law_folded ["_law_script", "_law_size"] (spF K 2 F__law_folded) := by
  refine okF0 T.F__law_folded sc__law_folded fun cdv A outer s H E hr => ⟨_, (pss_cons (ps_set (i := 2) sc__law_folded.nd rfl (Or.inl rfl) (pe_callTy call_list_of (by rfl) T.n_list (by decide +kernel) (pa_cons (pe_slice sl_list (pv 0) po_none (po_some (pv 1))) pa_nil)))
    (pss_cons (ps_for PassesOwn.never rfl (pi_enum (by rfl) T.n_enumerate (pa_cons (pe_slice sl_list (pv 0) (po_some (pv 1)) (po_some pe_int)) pa_nil)) (pg_tup (by rfl) (pgs_cons (pg_name (i := 3) sc__law_folded.nd rfl (Or.inl rfl)) (pgs_cons (pg_name (i := 4) sc__law_folded.nd rfl (Or.inl rfl)) pgs_nil))) (pss_one (ps_asg (pe_op op_add (pe_ix ix_list (pv 2) (pe_op op_mod (pv 3) (pv 1)) (fun _ _ => rfl)) (pe_op op_mul (pv 4) (pe_op op_add (pv 3) pe_int))) (pg_sub (pv 2) (pe_op op_mod (pv 3) (pv 1)) set_list))))
    (pss_one (ps_ret (pv 2))))), ?_⟩
  intro J
  exact (rs_seq (rs_own (by decide) (rn_cb rbn_list (ra_cons (re_sl rl_list re_v ro_no (ro_so re_v)) ra_nil)))
    (rs_seq (rs_for (by decide) (ri_enum (ra_cons (re_sl rl_list re_v (ro_so re_v) (ro_so (re_c fun _ => .int _))) ra_nil)) (rg_tup (rgs_cons rg_name (rgs_cons rg_name rgs_nil))) (rs_asg (re_op rr_add (re_ixO (re_op rr_mod re_v re_v)) (re_op rr_mul re_v (re_op rr_add re_v (re_c fun _ => .int _)))) (rg_subO (re_op rr_mod re_v re_v))))
    (rs_freeze (by decide) (rs_ret re_v))))
theorem okD__law_box {P : Program} {w : World} {K : PySem.W.Frag} {mg : Str → Option Value} {base : Heap} [TBx mg base] {ad : Ad} (T : Txt K mg ad) : FnOk P w K mg base CX0 1 ad.f__law_box ad.d__law_box ["_law_script", "_law_k"] (spN K 2 F__law_box) := by
  refine okN0 T.F__law_box sc__law_box fun cdv A outer s H E hr => ⟨_, (pss_cons (ps_set (i := 2) sc__law_box.nd rfl (Or.inl rfl) (pe_ifExp (pt_cmpR op_lt (pv 1) (pe_callB call_len_seq (by rfl) T.n_len PySem.boot_len (pa_cons (pv 0) pa_nil)) (nomark _)) (pe_ix ix_list (pv 0) (pv 1) (fun _ _ => rfl)) pe_int))
    (pss_one (ps_ret (pe_lst (pa_cons (pe_op op_mul (pe_callB call_abs (by rfl) T.n_abs (by decide +kernel) (pa_cons (pv 2) pa_nil)) (pe_callTy call_int1 (by rfl) T.n_int (by decide +kernel) (pa_cons (pe_cmpR op_ge (pe_callB call_abs (by rfl) T.n_abs (by decide +kernel) (pa_cons (pv 2) pa_nil)) (pe_op op_pow pe_int pe_int) (nomark _)) pa_nil))) (pa_cons (pe_op op_mod (pe_op op_mul (pe_op op_add (pe_op op_add (pe_op op_mod (pv 2) pe_int) (pe_op op_mul pe_int (pv 1))) pe_int) pe_int) pe_int) (pa_cons pe_int pa_nil))))))), ?_⟩
  intro J
  exact (rs_seq (rs_asg (re_if (rt_test (re_op rr_lt re_v (re_cb rb_len (ra_cons re_v ra_nil)))) (re_op rr_ixL re_v re_v) (re_c fun _ => .int _)) rg_name)
    (rs_retW (rn_lst (ra_cons (re_op rr_mul (re_cb rb_abs (ra_cons re_v ra_nil)) (re_cb rb_int (ra_cons (re_op rr_ge (re_cb rb_abs (ra_cons re_v ra_nil)) (re_op rr_pow (re_c fun _ => .int _) (re_c fun _ => .int _))) ra_nil))) (ra_cons (re_op rr_mod (re_op rr_mul (re_op rr_add (re_op rr_add (re_op rr_mod re_v (re_c fun _ => .int _)) (re_op rr_mul (re_c fun _ => .int _) re_v)) (re_c fun _ => .int _)) (re_c fun _ => .int _)) (re_c fun _ => .int _)) (ra_cons (re_c fun _ => .int _) ra_nil))))))
theorem okD__law_price {P : Program} {w : World} {K : PySem.W.Frag} {mg : Str → Option Value} {base : Heap} [TBx mg base] {ad : Ad} (T : Txt K mg ad) : FnOk P w K mg base CX0 2 ad.f__law_price ad.d__law_price ["_law_box_here"] (spF K 1 F__law_price) := by
  have G__law_take := okD__law_take (P := P) (w := w) (base := base) T
  refine okF0 T.F__law_price sc__law_price fun cdv A outer s H E hr => ⟨_, (pss_cons (ps_set (i := 1) sc__law_price.nd rfl (Or.inl rfl) (pe_lst (pa_cons (pe_op op_add pe_int (pe_call G__law_take (hr.mono (by decide)) rfl T.g__law_take T.F__law_take.kp T.b__law_take .nil pass0 (pa_cons (pv 0) (pa_cons pe_int pa_nil)))) (pa_cons (pe_op op_add pe_int (pe_call G__law_take (hr.mono (by decide)) rfl T.g__law_take T.F__law_take.kp T.b__law_take .nil pass0 (pa_cons (pv 0) (pa_cons pe_int pa_nil)))) (pa_cons (pe_op op_mul pe_int (pe_op op_add pe_int (pe_call G__law_take (hr.mono (by decide)) rfl T.g__law_take T.F__law_take.kp T.b__law_take .nil pass0 (pa_cons (pv 0) (pa_cons pe_int pa_nil))))) (pa_cons (pe_op op_add pe_int (pe_call G__law_take (hr.mono (by decide)) rfl T.g__law_take T.F__law_take.kp T.b__law_take .nil pass0 (pa_cons (pv 0) (pa_cons pe_int pa_nil)))) pa_nil))))))
    (pss_one (ps_ret (pe_ix ix_list (pv 1) (pe_call G__law_take (hr.mono (by decide)) rfl T.g__law_take T.F__law_take.kp T.b__law_take .nil pass0 (pa_cons (pv 0) (pa_cons pe_int pa_nil))) (fun _ _ => rfl))))), ?_⟩
  intro J
  exact (rs_seq (rs_asg (RN.re (rn_lst (ra_cons (re_op rr_add (re_c fun _ => .int _) (re_call (fun _ => .nil) (rc_own (rc_dat (re_c fun _ => .int _) rc_nil)))) (ra_cons (re_op rr_add (re_c fun _ => .int _) (re_call (fun _ => .nil) (rc_own (rc_dat (re_c fun _ => .int _) rc_nil)))) (ra_cons (re_op rr_mul (re_c fun _ => .int _) (re_op rr_add (re_c fun _ => .int _) (re_call (fun _ => .nil) (rc_own (rc_dat (re_c fun _ => .int _) rc_nil))))) (ra_cons (re_op rr_add (re_c fun _ => .int _) (re_call (fun _ => .nil) (rc_own (rc_dat (re_c fun _ => .int _) rc_nil)))) ra_nil)))))) rg_name)
    (rs_ret (re_op rr_ixL re_v (re_call (fun _ => .nil) (rc_own (rc_dat (re_c fun _ => .int _) rc_nil))))))
theorem okD__law_asks {P : Program} {w : World} {K : PySem.W.Frag} {mg : Str → Option Value} {base : Heap} [TBx mg base] {ad : Ad} (T : Txt K mg ad) : FnOk P w K mg base CX0 3 ad.f__law_asks ad.d__law_asks ["_law_box_here", "_law_many"] (spF K 2 F__law_asks) := by
  have G__law_price := okD__law_price (P := P) (w := w) (base := base) T
  have G__law_take := okD__law_take (P := P) (w := w) (base := base) T
  refine okF0 T.F__law_asks sc__law_asks fun cdv A outer s H E hr => ⟨_, (pss_cons (ps_set (i := 2) sc__law_asks.nd rfl (Or.inl rfl) (pe_lst pa_nil))
    (pss_cons (ps_for PassesOwn.never rfl (pi_range1 rfl T.n_range (pa_cons (pv 1) pa_nil)) (pg_name (i := 3) sc__law_asks.nd rfl (Or.inl rfl)) (pss_cons (ps_set (i := 4) sc__law_asks.nd rfl (Or.inl rfl) (pe_call G__law_price (hr.mono (by decide)) rfl T.g__law_price T.F__law_price.kp T.b__law_price .nil pass0 (pa_cons (pv 0) pa_nil)))
    (pss_cons (ps_set (i := 5) sc__law_asks.nd rfl (Or.inl rfl) (pe_ix ix_list (pe_lst (pa_cons pe_int (pa_cons (pv 4) (pa_cons (pe_call G__law_take (hr.mono (by decide)) rfl T.g__law_take T.F__law_take.kp T.b__law_take .nil pass0 (pa_cons (pv 0) (pa_cons (pe_op op_add (pv 4) pe_int) pa_nil))) (pa_cons (pe_op op_fdiv (pv 4) pe_int) pa_nil))))) (pe_call G__law_take (hr.mono (by decide)) rfl T.g__law_take T.F__law_take.kp T.b__law_take .nil pass0 (pa_cons (pv 0) (pa_cons pe_int pa_nil))) (fun _ _ => rfl)))
    (pss_cons (ps_set (i := 6) sc__law_asks.nd rfl (Or.inl rfl) (pe_and (pe_cmpR op_eq (pe_call G__law_take (hr.mono (by decide)) rfl T.g__law_take T.F__law_take.kp T.b__law_take .nil pass0 (pa_cons (pv 0) (pa_cons pe_int pa_nil))) pe_int (nomark _)) (pe_one (pe_cmpR (op_neD hr.units) (pv 2) (pe_lst pa_nil) (nomark _)))))
    (pss_one (ps_expr (pe_bm PySem.F.plainAttrs_list PySem.F.slot_list_append PySem.F.type_list_append mt_append (pv 2) (pa_cons (pe_ifExp (pt_val (pv 6)) (pe_ix ix_list (pv 2) (pe_un un_neg pe_int) (fun _ _ => rfl)) (pe_tup (pa_cons (pv 4) (pa_cons (pv 5) pa_nil)))) pa_nil))))))))
    (pss_one (ps_ret (pv 2))))), ?_⟩
  intro J
  exact (rs_seq (rs_own (by decide) (rn_lst ra_nil))
    (rs_seq (rs_for (by decide) (ri_rng1 (ra_cons re_v ra_nil)) rg_name (rs_seq (rs_asg (re_call (fun _ => .nil) (rc_own rc_nil)) rg_name)
    (rs_seq (rs_asg (re_op rr_ixL (RN.re (rn_lst (ra_cons (re_c fun _ => .int _) (ra_cons re_v (ra_cons (re_call (fun _ => .nil) (rc_own (rc_dat (re_op rr_add re_v (re_c fun _ => .int _)) rc_nil))) (ra_cons (re_op rr_fdiv re_v (re_c fun _ => .int _)) ra_nil)))))) (re_call (fun _ => .nil) (rc_own (rc_dat (re_c fun _ => .int _) rc_nil)))) rg_name)
    (rs_seq (rs_asg (re_and (re_op rr_eq (re_call (fun _ => .nil) (rc_own (rc_dat (re_c fun _ => .int _) rc_nil))) (re_c fun _ => .int _)) (re_neO (RN.re (rn_lst ra_nil)))) rg_name)
    (rs_append (re_if (rt_b re_v) (re_ixO (re_un ru_neg (re_c fun _ => .int _))) (re_tup (ra_cons re_v (ra_cons re_v ra_nil)))))))))
    (rs_freeze (by decide) (rs_ret re_v))))
theorem okD__law_amount {P : Program} {w : World} {K : PySem.W.Frag} {mg : Str → Option Value} {base : Heap} [TBx mg base] {ad : Ad} (T : Txt K mg ad) : FnOk P w K mg base CX0 2 ad.f__law_amount ad.d__law_amount ["_law_box_here", "_law_asks_here"] (spF K 2 F__law_amount) := by
  have G__law_take := okD__law_take (P := P) (w := w) (base := base) T
  refine okF0 T.F__law_amount sc__law_amount fun cdv A outer s H E hr => ⟨_, (pss_cons (ps_par (i := 2) (j := 3) (by rfl) sc__law_amount.nd rfl rfl (by decide) rfl rfl (pa_cons (pe_callB (cr_sum rfl) (by rfl) T.n_sum (by decide +kernel) (pa_cons (pe_lc (own := [("_law_price_here", 4), ("_law_least", 5)]) (g := gTup K 2 (gCons (gName 4) (gCons (gName 5) gNil))) (by rfl) sc__law_amount.nd (pi_list (pv 1)) (blkOk_by (own := [("_law_price_here", 4), ("_law_least", 5)]) (N := N__law_amount) (sc := defScope s__law_amount) (by decide +kernel)) (fun _ _ _ _ _ => (pg_tup (by rfl) (pgs_cons (pg_name (i := 4) sc__law_amount.nd rfl (Or.inl rfl)) (pgs_cons (pg_name (i := 5) sc__law_amount.nd rfl (Or.inl rfl)) pgs_nil)))) (fun _ _ _ _ _ => pts_nil) (fun _ _ _ _ _ => (pv 5))) pa_nil)) (pa_cons (pe_callB (cr_sum rfl) (by rfl) T.n_sum (by decide +kernel) (pa_cons (pe_lc (own := [("_law_price_here", 4), ("_law_least", 5)]) (g := gTup K 2 (gCons (gName 4) (gCons (gName 5) gNil))) (by rfl) sc__law_amount.nd (pi_list (pv 1)) (blkOk_by (own := [("_law_price_here", 4), ("_law_least", 5)]) (N := N__law_amount) (sc := defScope s__law_amount) (by decide +kernel)) (fun _ _ _ _ _ => (pg_tup (by rfl) (pgs_cons (pg_name (i := 4) sc__law_amount.nd rfl (Or.inl rfl)) (pgs_cons (pg_name (i := 5) sc__law_amount.nd rfl (Or.inl rfl)) pgs_nil)))) (fun _ _ _ _ _ => pts_nil) (fun _ _ _ _ _ => (pv 4))) pa_nil)) pa_nil)) (by rfl))
    (pss_cons (ps_set (i := 6) sc__law_amount.nd rfl (Or.inl rfl) (pe_lst (pa_cons pe_int (pa_cons pe_int (pa_cons (pe_call G__law_take (hr.mono (by decide)) rfl T.g__law_take T.F__law_take.kp T.b__law_take .nil pass0 (pa_cons (pv 0) (pa_cons (pe_op op_add (pe_callB call_len_seq (by rfl) T.n_len PySem.boot_len (pa_cons (pv 1) pa_nil)) pe_int) pa_nil))) (pa_cons (pe_call G__law_take (hr.mono (by decide)) rfl T.g__law_take T.F__law_take.kp T.b__law_take .nil pass0 (pa_cons (pv 0) (pa_cons (pe_op op_add (pe_op op_sub (pv 3) (pv 2)) pe_int) pa_nil))) pa_nil))))))
    (pss_cons (ps_set (i := 6) sc__law_amount.nd rfl (Or.inl rfl) (pe_op op_catK (pv 6) (pe_lst (pa_cons (pe_call G__law_take (hr.mono (by decide)) rfl T.g__law_take T.F__law_take.kp T.b__law_take .nil pass0 (pa_cons (pv 0) (pa_cons (pe_op op_mul pe_int (pv 3)) pa_nil))) (pa_cons (pe_op op_sub pe_int (pv 2)) pa_nil)))))
    (pss_one (ps_ret (pe_op op_add (pv 2) (pe_ix ix_list (pv 6) (pe_call G__law_take (hr.mono (by decide)) rfl T.g__law_take T.F__law_take.kp T.b__law_take .nil pass0 (pa_cons (pv 0) (pa_cons pe_int pa_nil))) (fun _ _ => rfl)))))))), ?_⟩
  intro J
  exact (rs_seq (rs_par (ra_cons (re_cb rb_sum (ra_cons (RN.re (rn_lc (by decide) (ri_list re_v) (fun _ le => (rg_tup (rgs_cons rg_name (rgs_cons rg_name rgs_nil)))) (fun _ le => rt_yes) (fun _ le => re_v))) ra_nil)) (ra_cons (re_cb rb_sum (ra_cons (RN.re (rn_lc (by decide) (ri_list re_v) (fun _ le => (rg_tup (rgs_cons rg_name (rgs_cons rg_name rgs_nil)))) (fun _ le => rt_yes) (fun _ le => re_v))) ra_nil)) ra_nil)))
    (rs_seq (rs_asg (RN.re (rn_lst (ra_cons (re_c fun _ => .int _) (ra_cons (re_c fun _ => .int _) (ra_cons (re_call (fun _ => .nil) (rc_own (rc_dat (re_op rr_add (re_cb rb_len (ra_cons re_v ra_nil)) (re_c fun _ => .int _)) rc_nil))) (ra_cons (re_call (fun _ => .nil) (rc_own (rc_dat (re_op rr_add (re_op rr_sub re_v re_v) (re_c fun _ => .int _)) rc_nil))) ra_nil)))))) rg_name)
    (rs_seq (rs_asg (re_op rr_cat re_v (RN.re (rn_lst (ra_cons (re_call (fun _ => .nil) (rc_own (rc_dat (re_op rr_mul (re_c fun _ => .int _) re_v) rc_nil))) (ra_cons (re_op rr_sub (re_c fun _ => .int _) re_v) ra_nil))))) rg_name)
    (rs_ret (re_op rr_add re_v (re_op rr_ixL re_v (re_call (fun _ => .nil) (rc_own (rc_dat (re_c fun _ => .int _) rc_nil)))))))))
theorem okD_all_leasts {P : Program} {w : World} {K : PySem.W.Frag} {mg : Str → Option Value} {base : Heap} [TBx mg base] {ad : Ad} (T : Txt K mg ad) : FnOk P w K mg base CX0 1 ad.f_all_leasts ad.d_all_leasts ["asks"] (spF K 1 F_all_leasts) := by
  refine okF0 T.F_all_leasts sc_all_leasts fun cdv A outer s H E hr => ⟨_, (pss_one (ps_ret (pe_callB (cr_sum rfl) (by rfl) T.n_sum (by decide +kernel) (pa_cons (pe_lc (own := [("price", 1), ("least", 2)]) (g := gTup K 2 (gCons (gName 1) (gCons (gName 2) gNil))) (by rfl) sc_all_leasts.nd (pi_any (pv 0)) (blkOk_by (own := [("price", 1), ("least", 2)]) (N := N_all_leasts) (sc := defScope s_all_leasts) (by decide +kernel)) (fun _ _ _ _ _ => (pg_tup (by rfl) (pgs_cons (pg_name (i := 1) sc_all_leasts.nd rfl (Or.inl rfl)) (pgs_cons (pg_name (i := 2) sc_all_leasts.nd rfl (Or.inl rfl)) pgs_nil)))) (fun _ _ _ _ _ => pts_nil) (fun _ _ _ _ _ => (pv 2))) pa_nil)))), ?_⟩
  intro J
  exact (rs_ret (re_cb rb_sum (ra_cons (RN.re (rn_lc (by decide) (ri_any re_v) (fun _ le => (rg_tup (rgs_cons rg_name (rgs_cons rg_name rgs_nil)))) (fun _ le => rt_yes) (fun _ le => re_v))) ra_nil)))
theorem okD_TooLow_init {P : Program} {w : World} {K : PySem.W.Frag} {mg : Str → Option Value} {base : Heap} [TBx mg base] {ad : Ad} (T : Txt K mg ad) : FnOk P w K mg base CX0 1 ad.f_TooLow_init ad.d_TooLow_init ["self", "what"] (spIn K ad.C_TooLow) := by
  refine T.F_TooLow_init.ok sc_TooLow_init (fun vs H Q E h => ?_) (fun cdv A outer s H vs Q E hr h => ?_)
  · obtain ⟨a, y, rfl, _⟩ := h
    rfl
  · obtain ⟨a, y, rfl, ea, q⟩ := h
    refine ⟨_, pss_cons (ps_expr (pe_bi (B := "ArithmeticError") (nI := "ArithmeticError.__new__") (iI := "ArithmeticError.__init__") (bm := [.type "ArithmeticError", .type "Exception", .type "BaseException", .type "object"]) rfl T.n_ArithmeticError (by decide +kernel) (by kernel_rfl) T.vb_TooLow (pa_cons (pv 0) (pa_cons pe_str pa_nil)))) (pss_one (ps_ow (pv 0) (pv 1))), ?_⟩
    exact ⟨_, rfl, a, ad.C_TooLow, _, rfl, (by show 1 ≤ 1000; decide), T.ob_TooLow, ea, _, rfl, _, rfl, a, ad.C_TooLow, _, _, _, _, rfl, T.ob_TooLow, ea, q⟩
theorem okD_level_found {P : Program} {w : World} {K : PySem.W.Frag} {mg : Str → Option Value} {base : Heap} [TBx mg base] {ad : Ad} (T : Txt K mg ad) : FnOk P w K mg base CX0 2 ad.f_level_found ad.d_level_found ["amount", "asks"] (spF K 2 F_level_found) := by
  have G_all_leasts := okD_all_leasts (P := P) (w := w) (base := base) T
  refine okF0 T.F_level_found sc_level_found fun cdv A outer s H E hr => ⟨_, (pss_cons (ps_set (i := 2) sc_level_found.nd rfl (Or.inl rfl) (pe_callTy call_list_of (by rfl) T.n_list (by decide +kernel) (pa_cons (pv 1) pa_nil)))
    (pss_one (ps_while PassesOwn.never (pt_val pe_bl) (pss_cons (ps_set (i := 3) sc_level_found.nd rfl (Or.inr rfl) (pe_op op_add (pe_op op_sub (pv 0) (pe_call G_all_leasts (hr.mono (by decide)) rfl T.g_all_leasts T.F_all_leasts.kp T.b_all_leasts .nil pass0 (pa_cons (pv 1) pa_nil))) (pe_call G_all_leasts (hr.mono (by decide)) rfl T.g_all_leasts T.F_all_leasts.kp T.b_all_leasts .nil pass0 (pa_cons (pv 2) pa_nil))))
    (pss_cons (ps_set (i := 4) sc_level_found.nd rfl (Or.inr rfl) (pe_callB (cr_sum rfl) (by rfl) T.n_sum (by decide +kernel) (pa_cons (pe_lc (own := [("price", 5), ("least", 6)]) (g := gTup K 2 (gCons (gName 5) (gCons (gName 6) gNil))) (by rfl) sc_level_found.nd (pi_list (pv 2)) (blkOk_by (own := [("price", 5), ("least", 6)]) (N := N_level_found) (sc := defScope s_level_found) (by decide +kernel)) (fun _ _ _ _ _ => (pg_tup (by rfl) (pgs_cons (pg_name (i := 5) sc_level_found.nd rfl (Or.inl rfl)) (pgs_cons (pg_name (i := 6) sc_level_found.nd rfl (Or.inl rfl)) pgs_nil)))) (fun _ _ _ _ _ => pts_nil) (fun _ _ _ _ _ => (pv 5))) pa_nil)))
    (pss_cons (ps_setLc (i := 7) (own := [("price", 5), ("least", 6)]) (g := gTup K 2 (gCons (gName 5) (gCons (gName 6) gNil))) (by rfl) sc_level_found.nd rfl rfl (sw_true rfl rfl rfl (by decide +kernel)) (pi_list (pv 2)) (blkOk_by (own := [("price", 5), ("least", 6)]) (N := N_level_found) (sc := defScope s_level_found) (by decide +kernel)) (fun _ _ _ _ _ => (pg_tup (by rfl) (pgs_cons (pg_name (i := 5) sc_level_found.nd rfl (Or.inl rfl)) (pgs_cons (pg_name (i := 6) sc_level_found.nd rfl (Or.inl rfl)) pgs_nil)))) (fun _ _ _ _ _ => (pts_one (pt_cmpR op_gt (pe_op op_mul (pv 3) (pv 5)) (pe_op op_mul (pv 6) (pv 4)) (nomark _)))) (fun _ _ _ _ _ => (pe_tup (pa_cons (pv 5) (pa_cons (pv 6) pa_nil)))))
    (pss_cons (ps_if (pt_cmpR op_eq (pe_callB call_len_seq (by rfl) T.n_len PySem.boot_len (pa_cons (pv 7) pa_nil)) (pe_callB call_len_seq (by rfl) T.n_len PySem.boot_len (pa_cons (pv 2) pa_nil)) (nomark _)) (pss_one (ps_ret (pe_tup (pa_cons (pv 3) (pa_cons (pv 4) pa_nil))))) pss_nil)
    (pss_one (ps_set (i := 2) sc_level_found.nd rfl (Or.inl rfl) (pv 7)))))))))), ?_⟩
  intro J
  exact (rs_seq (rs_asg (re_cb rb_list (ra_cons re_v ra_nil)) rg_name)
    (rs_while (by decide) (rt_b (re_c fun _ => .bl _)) (rs_seq (rs_asg (re_op rr_add (re_op rr_sub re_v (re_call (fun _ => .nil) (rc_dat re_v rc_nil))) (re_call (fun _ => .nil) (rc_dat re_v rc_nil))) rg_name)
    (rs_seq (rs_asg (re_cb rb_sum (ra_cons (RN.re (rn_lc (by decide) (ri_list re_v) (fun _ le => (rg_tup (rgs_cons rg_name (rgs_cons rg_name rgs_nil)))) (fun _ le => rt_yes) (fun _ le => re_v))) ra_nil)) rg_name)
    (rs_seq (rs_asg (RN.re (rn_lc (by decide) (ri_list re_v) (fun _ le => (rg_tup (rgs_cons rg_name (rgs_cons rg_name rgs_nil)))) (fun _ le => (rt_test (re_op rr_gt (re_op rr_mul re_v re_v) (re_op rr_mul re_v re_v)))) (fun _ le => (re_tup (ra_cons re_v (ra_cons re_v ra_nil)))))) rg_name)
    (rs_seq (rs_if (rt_test (re_op rr_eq (re_cb rb_len (ra_cons re_v ra_nil)) (re_cb rb_len (ra_cons re_v ra_nil)))) (rs_ret (re_tup (ra_cons re_v (ra_cons re_v ra_nil)))) rs_next)
    (rs_asg re_v rg_name)))))))
theorem okD_common_divisor {P : Program} {w : World} {K : PySem.W.Frag} {mg : Str → Option Value} {base : Heap} [TBx mg base] {ad : Ad} (T : Txt K mg ad) : FnOk P w K mg base CX0 1 ad.f_common_divisor ad.d_common_divisor ["one", "other"] (spF K 2 F_common_divisor) := by
  refine okF0 T.F_common_divisor sc_common_divisor fun cdv A outer s H E hr => ⟨_, (pss_cons (ps_while PassesOwn.never (pt_cmpR op_gt (pv 1) pe_int (nomark _)) (pss_one (ps_par (i := 0) (j := 1) (by rfl) sc_common_divisor.nd rfl rfl (by decide) rfl rfl (pa_cons (pv 1) (pa_cons (pe_op op_mod (pv 0) (pv 1)) pa_nil)) (by rfl))))
    (pss_one (ps_ret (pv 0)))), ?_⟩
  intro J
  exact (rs_seq (rs_while (by decide) (rt_test (re_op rr_gt re_v (re_c fun _ => .int _))) (rs_par (ra_cons re_v (ra_cons (re_op rr_mod re_v re_v) ra_nil))))
    (rs_ret re_v))
theorem okD_level_of {P : Program} {w : World} {K : PySem.W.Frag} {mg : Str → Option Value} {base : Heap} [TBx mg base] {ad : Ad} (T : Txt K mg ad) : FnOk P w K mg base (L2.CX P w) 3 ad.f_level_of ad.d_level_of ["amount", "asks"] (spX K 2 F_level_of) := by
  have G_all_leasts := okD_all_leasts (P := P) (w := w) (base := base) T
  have G_level_found := okD_level_found (P := P) (w := w) (base := base) T
  have G_common_divisor := okD_common_divisor (P := P) (w := w) (base := base) T
  have G_TooLow_init := okD_TooLow_init (P := P) (w := w) (base := base) T
  refine okX0 T.F_level_of sc_level_of fun cdv A outer s H E hr => ⟨_, fun _ tk => (pss_cons (ps_set (i := 2) sc_level_of.nd rfl (Or.inl rfl) (pe_call G_all_leasts (hr.mono (by decide)) rfl T.g_all_leasts T.F_all_leasts.kp T.b_all_leasts .nil pass0 (pa_cons (pv 1) pa_nil)))
    (pss_cons (ps_if (pt_cmpR op_lt (pv 0) (pv 2) (nomark _)) (pss_one (ps_raise rfl tk (pmk_b T.ob_TooLow T.in_TooLow T.ty_TooLow G_TooLow_init (hr.mono (by decide)) (T.b_TooLow_init) rfl T.g_TooLow (pv 2)))) pss_nil)
    (pss_cons (ps_if (pt_cmpR op_eq (pv 0) (pv 2) (nomark _)) (pss_one (ps_ret pe_non)) pss_nil)
    (pss_cons (ps_asg (pe_call G_level_found (hr.mono (by decide)) rfl T.g_level_found T.F_level_found.kp T.b_level_found .nil pass0 (pa_cons (pv 0) (pa_cons (pv 1) pa_nil))) (pg_tup (by rfl) (pgs_cons (pg_name (i := 3) sc_level_of.nd rfl (Or.inl rfl)) (pgs_cons (pg_name (i := 4) sc_level_of.nd rfl (Or.inl rfl)) pgs_nil))))
    (pss_cons (ps_set (i := 5) sc_level_of.nd rfl (Or.inl rfl) (pe_call G_common_divisor (hr.mono (by decide)) rfl T.g_common_divisor T.F_common_divisor.kp T.b_common_divisor .nil pass0 (pa_cons (pv 3) (pa_cons (pv 4) pa_nil))))
    (pss_one (ps_ret (pe_tup (pa_cons (pe_op op_fdiv (pv 3) (pv 5)) (pa_cons (pe_op op_fdiv (pv 4) (pv 5)) pa_nil)))))))))), ?_⟩
  intro J Xw W l
  exact (rs_seq (rs_asg (re_call (fun _ => .nil) (rc_dat re_v rc_nil)) rg_name)
    (rs_seq (rs_if (rt_test (re_op rr_lt re_v re_v)) (rs_raise T.q_TooLow l re_v) rs_next)
    (rs_seq (rs_if (rt_test (re_op rr_eq re_v re_v)) (rs_ret (re_c fun _ => .non)) rs_next)
    (rs_seq (rs_asg (re_call (fun _ => .nil) (rc_dat re_v (rc_dat re_v rc_nil))) (rg_tup (rgs_cons rg_name (rgs_cons rg_name rgs_nil))))
    (rs_seq (rs_asg (re_call (fun _ => .nil) (rc_dat re_v (rc_dat re_v rc_nil))) rg_name)
    (rs_ret (re_tup (ra_cons (re_op rr_fdiv re_v re_v) (ra_cons (re_op rr_fdiv re_v re_v) ra_nil)))))))))
theorem okD_parts_by {P : Program} {w : World} {K : PySem.W.Frag} {mg : Str → Option Value} {base : Heap} [TBx mg base] {ad : Ad} (T : Txt K mg ad) : FnOk P w K mg base CX0 1 ad.f_parts_by ad.d_parts_by ["level", "asks"] (spF K 2 F_parts_by) := by
  refine okF0 T.F_parts_by sc_parts_by fun cdv A outer s H E hr => ⟨_, (pss_cons (ps_asg (pv 0) (pg_tup (by rfl) (pgs_cons (pg_name (i := 2) sc_parts_by.nd rfl (Or.inl rfl)) (pgs_cons (pg_name (i := 3) sc_parts_by.nd rfl (Or.inl rfl)) pgs_nil))))
    (pss_cons (ps_set (i := 4) sc_parts_by.nd rfl (Or.inl rfl) (pe_lst pa_nil))
    (pss_cons (ps_for PassesOwn.never rfl (pi_any (pv 1)) (pg_tup (by rfl) (pgs_cons (pg_name (i := 5) sc_parts_by.nd rfl (Or.inl rfl)) (pgs_cons (pg_name (i := 6) sc_parts_by.nd rfl (Or.inl rfl)) pgs_nil))) (pss_one (ps_if (pt_cmpR op_gt (pe_op op_mul (pv 2) (pv 5)) (pe_op op_mul (pv 6) (pv 3)) (nomark _)) (pss_one (ps_expr (pe_bm PySem.F.plainAttrs_list PySem.F.slot_list_append PySem.F.type_list_append mt_append (pv 4) (pa_cons (pe_callB call_divmod (by rfl) T.n_divmod (by decide +kernel) (pa_cons (pe_op op_mul (pv 2) (pv 5)) (pa_cons (pv 3) pa_nil))) pa_nil)))) (pss_one (ps_expr (pe_bm PySem.F.plainAttrs_list PySem.F.slot_list_append PySem.F.type_list_append mt_append (pv 4) (pa_cons (pe_tup (pa_cons (pv 6) (pa_cons pe_non pa_nil))) pa_nil)))))))
    (pss_one (ps_ret (pv 4)))))), ?_⟩
  intro J
  exact (rs_seq (rs_asg re_v (rg_tup (rgs_cons rg_name (rgs_cons rg_name rgs_nil))))
    (rs_seq (rs_own (by decide) (rn_lst ra_nil))
    (rs_seq (rs_for (by decide) (ri_any re_v) (rg_tup (rgs_cons rg_name (rgs_cons rg_name rgs_nil))) (rs_if (rt_test (re_op rr_gt (re_op rr_mul re_v re_v) (re_op rr_mul re_v re_v))) (rs_append (re_cb rb_divmod (ra_cons (re_op rr_mul re_v re_v) (ra_cons re_v ra_nil)))) (rs_append (re_tup (ra_cons re_v (ra_cons (re_c fun _ => .non) ra_nil))))))
    (rs_freeze (by decide) (rs_ret re_v)))))
theorem okD_part_heap {P : Program} {w : World} {K : PySem.W.Frag} {mg : Str → Option Value} {base : Heap} [TBx mg base] {ad : Ad} (T : Txt K mg ad) : FnOk P w K mg base (L2.CX P w) 4 ad.f_part_heap ad.d_part_heap ["amount", "asks"] (spX K 2 F_part_heap) := by
  have G_level_of := okD_level_of (P := P) (w := w) (base := base) T
  have G_parts_by := okD_parts_by (P := P) (w := w) (base := base) T
  refine okX0c T.F_part_heap sc_part_heap fun cdv hcd A outer s H E hr => ⟨_, fun _ tk => (pss_cons (ps_set (i := 2) sc_part_heap.nd rfl (Or.inl rfl) (pe_callSD G_level_of (hr.mono (by decide)) rfl T.g_level_of T.F_level_of.kp T.b_level_of .nil (fun σ => passAt tk σ) (pa_cons (pv 0) (pa_cons (pv 1) pa_nil))))
    (pss_cons (ps_if (pt_cmpR op_isN (pv 2) pe_non (nomark _)) (pss_one (ps_ret (pe_lc (own := [("price", 3), ("least", 4)]) (g := gTup K 2 (gCons (gName 3) (gCons (gName 4) gNil))) (by rfl) sc_part_heap.nd (pi_any (pv 1)) (blkOk_by (own := [("price", 3), ("least", 4)]) (N := N_part_heap) (sc := defScope s_part_heap) (by decide +kernel)) (fun _ _ _ _ _ => (pg_tup (by rfl) (pgs_cons (pg_name (i := 3) sc_part_heap.nd rfl (Or.inl rfl)) (pgs_cons (pg_name (i := 4) sc_part_heap.nd rfl (Or.inl rfl)) pgs_nil)))) (fun _ _ _ _ _ => pts_nil) (fun _ _ _ _ _ => (pv 4))))) pss_nil)
    (pss_cons (ps_set (i := 5) sc_part_heap.nd rfl (Or.inr rfl) (pe_call G_parts_by (hr.mono (by decide)) rfl T.g_parts_by T.F_parts_by.kp T.b_parts_by .nil pass0 (pa_cons (pv 2) (pa_cons (pv 1) pa_nil))))
    (pss_cons (ps_setLc (i := 6) (own := [("whole", 7), ("cut", 8)]) (g := gTup K 2 (gCons (gName 7) (gCons (gName 8) gNil))) (by rfl) sc_part_heap.nd rfl rfl (sw_true rfl rfl rfl (by decide +kernel)) (pi_list (pv 5)) (blkOk_by (own := [("whole", 7), ("cut", 8)]) (N := N_part_heap) (sc := defScope s_part_heap) (by decide +kernel)) (fun _ _ _ _ _ => (pg_tup (by rfl) (pgs_cons (pg_name (i := 7) sc_part_heap.nd rfl (Or.inl rfl)) (pgs_cons (pg_name (i := 8) sc_part_heap.nd rfl (Or.inl rfl)) pgs_nil)))) (fun _ _ _ _ _ => pts_nil) (fun _ _ _ _ _ => (pv 7)))
    (pss_cons (ps_setLc (i := 9) (own := [("place", 10), ("whole", 7), ("cut", 8)]) (g := gTup K 2 (gCons (gName 10) (gCons (gTup K 2 (gCons (gName 7) (gCons (gName 8) gNil))) gNil))) (by rfl) sc_part_heap.nd rfl rfl (sw_true rfl rfl rfl (by decide +kernel)) (pi_enum (by rfl) T.n_enumerate (pa_cons (pv 5) pa_nil)) (blkOk_by (own := [("place", 10), ("whole", 7), ("cut", 8)]) (N := N_part_heap) (sc := defScope s_part_heap) (by decide +kernel)) (fun _ _ _ _ _ => (pg_tup (by rfl) (pgs_cons (pg_name (i := 10) sc_part_heap.nd rfl (Or.inl rfl)) (pgs_cons (pg_tup (by rfl) (pgs_cons (pg_name (i := 7) sc_part_heap.nd rfl (Or.inl rfl)) (pgs_cons (pg_name (i := 8) sc_part_heap.nd rfl (Or.inl rfl)) pgs_nil))) pgs_nil)))) (fun _ _ _ _ _ => (pts_one (pt_cmpR op_notN (pv 8) pe_non (nomark _)))) (fun _ _ _ _ _ => (pv 10)))
    (pss_cons (ps_set (i := 9) sc_part_heap.nd rfl (Or.inl rfl) (pe_sortLam (T := Tbs.T) (c := 69) (P := 67) (px := "parts") (x := "place") (jp := 5) (by rfl) T.n_sorted (TBx.tb (mg := mg) (base := base)) (hcd.symm.trans T.cd_part_heap) List.mem_cons_self (fun p hp _ => by rw [List.mem_singleton.mp hp]; rfl) (lam1_by (by kernel_rfl)) (hr.mono (by decide)) rfl (fun _ _ _ _ _ _ => rfl) (by rfl) (pv 9)))
    (pss_cons (ps_for passX rfl (pi_list (pe_slice sl_list (pv 9) po_none (po_some (pe_op op_sub (pv 0) (pe_callB (cr_sum rfl) (by rfl) T.n_sum (by decide +kernel) (pa_cons (pv 6) pa_nil)))))) (pg_name (i := 10) sc_part_heap.nd rfl (Or.inl rfl)) (pss_one (ps_augS (pv 6) (pv 10) get_list pe_int ip_add set_list)))
    (pss_one (ps_ret (pv 6)))))))))), ?_⟩
  intro J Xw W l
  exact (rs_seq (rs_asg (re_callX l (fun _ => .nil) (rc_dat re_v (rc_dat re_v rc_nil))) rg_name)
    (rs_seq (rs_if (rt_test (re_op rr_isN re_v (re_c fun _ => .non))) (rs_ret (RN.re (rn_lc (by decide) (ri_any re_v) (fun _ le => (rg_tup (rgs_cons rg_name (rgs_cons rg_name rgs_nil)))) (fun _ le => rt_yes) (fun _ le => re_v)))) rs_next)
    (rs_seq (rs_asg (re_call (fun _ => .nil) (rc_dat re_v (rc_dat re_v rc_nil))) rg_name)
    (rs_seq (rs_own (by decide) (rn_lc (by decide) (ri_list re_v) (fun _ le => (rg_tup (rgs_cons rg_name (rgs_cons rg_name rgs_nil)))) (fun _ le => rt_yes) (fun _ le => re_v)))
    (rs_seq (rs_asg (RN.re (rn_lc (by decide) (ri_enum (ra_cons re_v ra_nil)) (fun _ le => (rg_tup (rgs_cons rg_name (rgs_cons (rg_tup (rgs_cons rg_name (rgs_cons rg_name rgs_nil))) rgs_nil)))) (fun _ le => (rt_test (re_op rr_notN re_v (re_c fun _ => .non)))) (fun _ le => re_v))) rg_name)
    (rs_seq (rs_asg (RN.re (rn_sortLam re_v)) rg_name)
    (rs_seq (rs_for (by decide) (ri_list (re_sl rl_list re_v ro_no (ro_so (re_op rr_sub re_v re_sumO)))) rg_name (rs_augO re_v (re_c fun _ => .int _)))
    (rs_freeze (by decide) (rs_ret re_v)))))))))
theorem okD__law_bent {P : Program} {w : World} {K : PySem.W.Frag} {mg : Str → Option Value} {base : Heap} [TBx mg base] {ad : Ad} (T : Txt K mg ad) : FnOk P w K mg base CX0 2 ad.f__law_bent ad.d__law_bent ["_law_box_here", "_law_parts"] (spF K 2 F__law_bent) := by
  have G__law_take := okD__law_take (P := P) (w := w) (base := base) T
  refine okF0 T.F__law_bent sc__law_bent fun cdv A outer s H E hr => ⟨_, (pss_cons (ps_par3 (i := 2) (j := 3) (l := 4) (by rfl) sc__law_bent.nd rfl rfl rfl (by decide) (by decide) (by decide) rfl rfl rfl (pa_cons (pe_call G__law_take (hr.mono (by decide)) rfl T.g__law_take T.F__law_take.kp T.b__law_take .nil pass0 (pa_cons (pv 0) (pa_cons pe_int pa_nil))) (pa_cons (pe_call G__law_take (hr.mono (by decide)) rfl T.g__law_take T.F__law_take.kp T.b__law_take .nil pass0 (pa_cons (pv 0) (pa_cons (pe_callB call_len_seq (by rfl) T.n_len PySem.boot_len (pa_cons (pv 1) pa_nil)) pa_nil))) (pa_cons (pe_call G__law_take (hr.mono (by decide)) rfl T.g__law_take T.F__law_take.kp T.b__law_take .nil pass0 (pa_cons (pv 0) (pa_cons (pe_callB call_len_seq (by rfl) T.n_len PySem.boot_len (pa_cons (pv 1) pa_nil)) pa_nil))) pa_nil))) (by rfl))
    (pss_cons (ps_par (i := 5) (j := 6) (by rfl) sc__law_bent.nd rfl rfl (by decide) rfl rfl (pa_cons (pe_ix ix_list (pe_lst (pa_cons pe_int (pa_cons pe_int (pa_cons pe_int (pa_cons (pe_op op_add pe_int (pe_call G__law_take (hr.mono (by decide)) rfl T.g__law_take T.F__law_take.kp T.b__law_take .nil pass0 (pa_cons (pv 0) (pa_cons pe_int pa_nil)))) pa_nil))))) (pe_call G__law_take (hr.mono (by decide)) rfl T.g__law_take T.F__law_take.kp T.b__law_take .nil pass0 (pa_cons (pv 0) (pa_cons pe_int pa_nil))) (fun _ _ => rfl)) (pa_cons (pe_callTy call_list_of (by rfl) T.n_list (by decide +kernel) (pa_cons (pv 1) pa_nil)) pa_nil)) (by rfl))
    (pss_cons (ps_set (i := 7) sc__law_bent.nd rfl (Or.inl rfl) (pe_ix ix_list (pe_lst (pa_cons pe_non (pa_cons pe_bl (pa_cons pe_bl (pa_cons pe_str (pa_cons (pe_lst (pa_cons pe_int pa_nil)) (pa_cons (pe_tup (pa_cons pe_int pa_nil)) (pa_cons pe_int (pa_cons (pe_un un_neg pe_int) pa_nil))))))))) (pe_call G__law_take (hr.mono (by decide)) rfl T.g__law_take T.F__law_take.kp T.b__law_take .nil pass0 (pa_cons (pv 0) (pa_cons pe_int pa_nil))) (fun _ _ => rfl)))
    (pss_cons (ps_set (i := 8) sc__law_bent.nd rfl (Or.inl rfl) (pe_and (pe_callB call_isi (by rfl) T.n_isinstance (by decide +kernel) (pa_cons (pe_ix ix_list (pv 6) (pv 3) (fun _ _ => rfl)) (pa_cons (pe_bltn (v := .ty "int") (by rfl) T.n_int (by decide +kernel) rfl) pa_nil))) (pe_one (pe_callB call_isi (by rfl) T.n_isinstance (by decide +kernel) (pa_cons (pe_ix ix_list (pv 6) (pv 4) (fun _ _ => rfl)) (pa_cons (pe_bltn (v := .ty "int") (by rfl) T.n_int (by decide +kernel) rfl) pa_nil))))))
    (pss_cons (ps_if (PW.pt (pw_and (pt_cmpR op_lt (pv 2) pe_int (nomark _)) (pw_and1 (pt_val (pv 8))))) (pss_cons (ps_asg (pe_op op_subN (pe_ix ix_list (pv 6) (pv 3) (fun _ _ => rfl)) (pv 5)) (pg_sub (pv 6) (pv 3) set_list))
    (pss_one (ps_asg (pe_op op_addN (pe_ix ix_list (pv 6) (pv 4) (fun _ _ => rfl)) (pv 5)) (pg_sub (pv 6) (pv 4) set_list)))) (pss_one (ps_if (PW.pt (pw_and (pt_cmpR op_eq (pv 2) pe_int (nomark _)) (pw_and1 (pt_val (pv 8))))) (pss_one (ps_asg (pe_op op_subN (pe_op op_addN (pe_ix ix_list (pv 6) (pv 3) (fun _ _ => rfl)) pe_int) (pe_op op_mul pe_int (pe_call G__law_take (hr.mono (by decide)) rfl T.g__law_take T.F__law_take.kp T.b__law_take .nil pass0 (pa_cons (pv 0) (pa_cons pe_int pa_nil))))) (pg_sub (pv 6) (pv 3) set_list))) (pss_one (ps_if (pt_cmpR op_eq (pv 2) pe_int (nomark _)) (pss_one (ps_asg (pv 7) (pg_sub (pv 6) (pv 3) set_list))) (pss_one (ps_if (pt_cmpR op_eq (pv 2) pe_int (nomark _)) (pss_one (ps_asg (pe_slice sl_list (pe_lst (pa_cons (pe_ix ix_list (pv 6) (pv 3) (fun _ _ => rfl)) (pa_cons (pe_ix ix_list (pv 6) (pv 3) (fun _ _ => rfl)) pa_nil))) po_none (po_some (pe_op op_mul pe_int (pe_call G__law_take (hr.mono (by decide)) rfl T.g__law_take T.F__law_take.kp T.b__law_take .nil pass0 (pa_cons (pv 0) (pa_cons pe_int pa_nil)))))) (pg_slc (pv 6) (pv 3) (pe_op op_addN (pv 3) pe_int)))) (pss_one (ps_if (pt_cmpR op_eq (pv 2) pe_int (nomark _)) (pss_one (ps_asg (pe_tup (pa_cons (pe_ix ix_list (pv 6) (pv 4) (fun _ _ => rfl)) (pa_cons (pe_ix ix_list (pv 6) (pv 3) (fun _ _ => rfl)) pa_nil))) (pg_tup (by rfl) (pgs_cons (pg_sub (pv 6) (pv 3) set_list) (pgs_cons (pg_sub (pv 6) (pv 4) set_list) pgs_nil))))) (pss_one (ps_set (i := 6) sc__law_bent.nd rfl (Or.inl rfl) (pe_op op_catK (pv 6) (pe_lst (pa_cons (pv 7) pa_nil))))))))))))))
    (pss_one (ps_ret (pe_ifExp (pt_cmpR (op_neD hr.units) (pv 6) (pe_lst pa_nil) (nomark _)) (pv 6) (pe_lst (pa_cons pe_int pa_nil)))))))))), ?_⟩
  intro J
  exact (rs_seq (rs_par3 (ra_cons (re_call (fun _ => .nil) (rc_own (rc_dat (re_c fun _ => .int _) rc_nil))) (ra_cons (re_call (fun _ => .nil) (rc_own (rc_dat (re_cb rb_len (ra_cons re_v ra_nil)) rc_nil))) (ra_cons (re_call (fun _ => .nil) (rc_own (rc_dat (re_cb rb_len (ra_cons re_v ra_nil)) rc_nil))) ra_nil))))
    (rs_seq (rs_parO2 (by decide) (re_op rr_ixL (RN.re (rn_lst (ra_cons (re_c fun _ => .int _) (ra_cons (re_c fun _ => .int _) (ra_cons (re_c fun _ => .int _) (ra_cons (re_op rr_add (re_c fun _ => .int _) (re_call (fun _ => .nil) (rc_own (rc_dat (re_c fun _ => .int _) rc_nil)))) ra_nil)))))) (re_call (fun _ => .nil) (rc_own (rc_dat (re_c fun _ => .int _) rc_nil)))) (rn_cb rbn_list (ra_cons re_v ra_nil)))
    (rs_seq (rs_asg (re_op rr_ixL (RN.re (rn_lst (ra_cons (re_c fun _ => .non) (ra_cons (re_c fun _ => .bl _) (ra_cons (re_c fun _ => .bl _) (ra_cons (re_c fun _ => .str _) (ra_cons (RN.re (rn_lst (ra_cons (re_c fun _ => .int _) ra_nil))) (ra_cons (re_tup (ra_cons (re_c fun _ => .int _) ra_nil)) (ra_cons (re_c fun _ => .int _) (ra_cons (re_un ru_neg (re_c fun _ => .int _)) ra_nil)))))))))) (re_call (fun _ => .nil) (rc_own (rc_dat (re_c fun _ => .int _) rc_nil)))) rg_name)
    (rs_seq (rs_asg (re_and (re_isi (re_ixO re_v)) (re_isi (re_ixO re_v))) rg_name)
    (rs_seq (rs_if (rt_and (rt_test (re_op rr_lt re_v (re_c fun _ => .int _))) (rt_b re_v)) (rs_seq (rs_asg (re_op rr_num (re_ixO re_v) re_v) (rg_subO re_v))
    (rs_asg (re_op rr_num (re_ixO re_v) re_v) (rg_subO re_v))) (rs_if (rt_and (rt_test (re_op rr_eq re_v (re_c fun _ => .int _))) (rt_b re_v)) (rs_asg (re_op rr_num (re_op rr_num (re_ixO re_v) (re_c fun _ => .int _)) (re_op rr_mul (re_c fun _ => .int _) (re_call (fun _ => .nil) (rc_own (rc_dat (re_c fun _ => .int _) rc_nil))))) (rg_subO re_v)) (rs_if (rt_test (re_op rr_eq re_v (re_c fun _ => .int _))) (rs_asg re_v (rg_subO re_v)) (rs_if (rt_test (re_op rr_eq re_v (re_c fun _ => .int _))) (rs_setSl (rn_sl (RN.re (rn_lst (ra_cons (re_ixO re_v) (ra_cons (re_ixO re_v) ra_nil)))) ro_no (ro_so (re_op rr_mul (re_c fun _ => .int _) (re_call (fun _ => .nil) (rc_own (rc_dat (re_c fun _ => .int _) rc_nil)))))) re_v (re_op rr_num re_v (re_c fun _ => .int _))) (rs_if (rt_test (re_op rr_eq re_v (re_c fun _ => .int _))) (rs_asg (re_tup (ra_cons (re_ixO re_v) (ra_cons (re_ixO re_v) ra_nil))) (rg_tup (rgs_cons (rg_subO re_v) (rgs_cons (rg_subO re_v) rgs_nil)))) (rs_freeze (by decide) (rs_own (by decide) (rn_op rrn_cat re_v (RN.re (rn_lst (ra_cons re_v ra_nil)))))))))))
    (rs_freeze (by decide) (rs_ret (re_if (rt_test (re_op rr_neD re_v (RN.re (rn_lst ra_nil)))) re_v (RN.re (rn_lst (ra_cons (re_c fun _ => .int _) ra_nil)))))))))))
theorem okD_is_plain_number {P : Program} {w : World} {K : PySem.W.Frag} {mg : Str → Option Value} {base : Heap} [TBx mg base] {ad : Ad} (T : Txt K mg ad) : FnOk P w K mg base CX0 1 ad.f_is_plain_number ad.d_is_plain_number ["thing"] (spF K 1 F_is_plain_number) := by
  refine okF0 T.F_is_plain_number sc_is_plain_number fun cdv A outer s H E hr => ⟨_, (pss_one (ps_ret (pe_and (pe_callB call_isi (by rfl) T.n_isinstance (by decide +kernel) (pa_cons (pv 0) (pa_cons (pe_bltn (v := .ty "int") (by rfl) T.n_int (by decide +kernel) rfl) pa_nil))) (pe_one (pe_not (pe_callB call_isi (by rfl) T.n_isinstance (by decide +kernel) (pa_cons (pv 0) (pa_cons (pe_bltn (v := .ty "bool") (by rfl) T.n_bool (by decide +kernel) rfl) pa_nil)))))))), ?_⟩
  intro J
  exact (rs_ret (re_and (re_isi re_v) (re_not (re_isi re_v))))
theorem okD_is_level_pair {P : Program} {w : World} {K : PySem.W.Frag} {mg : Str → Option Value} {base : Heap} [TBx mg base] {ad : Ad} (T : Txt K mg ad) : FnOk P w K mg base CX0 1 ad.f_is_level_pair ad.d_is_level_pair ["one", "other", "ask", "beside"] (spF K 4 F_is_level_pair) := by
  refine okF0 T.F_is_level_pair sc_is_level_pair fun cdv A outer s H E hr => ⟨_, (pss_one (ps_ret (pe_cmpR op_lt (pe_op op_mul (pe_op op_subN (pv 0) pe_int) (pe_ix ix_seq (pv 3) pe_int (fun _ _ => rfl))) (pe_op op_mul (pe_op op_addN (pv 1) pe_int) (pe_ix ix_seq (pv 2) pe_int (fun _ _ => rfl))) (nomark _)))), ?_⟩
  intro J
  exact (rs_ret (re_op rr_lt (re_op rr_mul (re_op rr_num re_v (re_c fun _ => .int _)) (re_op rr_ix re_v (re_c fun _ => .int _))) (re_op rr_mul (re_op rr_num re_v (re_c fun _ => .int _)) (re_op rr_ix re_v (re_c fun _ => .int _)))))
theorem okD_shows_fair {P : Program} {w : World} {K : PySem.W.Frag} {mg : Str → Option Value} {base : Heap} [TBx mg base] {ad : Ad} (T : Txt K mg ad) : FnOk P w K mg base CX0 2 ad.f_shows_fair ad.d_shows_fair ["amount", "asks", "thing"] (spF K 3 F_shows_fair) := by
  have G_is_plain_number := okD_is_plain_number (P := P) (w := w) (base := base) T
  have G_is_level_pair := okD_is_level_pair (P := P) (w := w) (base := base) T
  refine okF0 T.F_shows_fair sc_shows_fair fun cdv A outer s H E hr => ⟨_, (pss_cons (ps_if (PW.pt (pw_or (pt_not (pt_val (pe_callB call_isi (by rfl) T.n_isinstance (by decide +kernel) (pa_cons (pv 2) (pa_cons (pe_bltn (v := .ty "list") (by rfl) T.n_list (by decide +kernel) rfl) pa_nil))))) (pw_or (pt_cmpR op_ne (pe_callB call_len_seq (by rfl) T.n_len PySem.boot_len (pa_cons (pv 2) pa_nil)) (pe_callB call_len_seq (by rfl) T.n_len PySem.boot_len (pa_cons (pv 1) pa_nil)) (nomark _)) (pw_or1 (pt_not (pt_val (pe_callB (cr_all rfl) (by rfl) T.n_all (by decide +kernel) (pa_cons (pe_lc (own := [("one", 3)]) (g := gName 3) (by rfl) sc_shows_fair.nd (pi_any (pv 2)) (blkOk_by (own := [("one", 3)]) (N := N_shows_fair) (sc := defScope s_shows_fair) (by decide +kernel)) (fun _ _ _ _ _ => (pg_name (i := 3) sc_shows_fair.nd rfl (Or.inl rfl))) (fun _ _ _ _ _ => pts_nil) (fun _ _ _ _ _ => (pe_call G_is_plain_number (hr.mono (by decide)) rfl T.g_is_plain_number T.F_is_plain_number.kp T.b_is_plain_number .nil pass0 (pa_cons (pv 3) pa_nil)))) pa_nil)))))))) (pss_one (ps_ret pe_bl)) pss_nil)
    (pss_cons (ps_if (PW.pt (pw_or (pt_cmpR op_ne (pe_callB (cr_sum rfl) (by rfl) T.n_sum (by decide +kernel) (pa_cons (pv 2) pa_nil)) (pv 0) (nomark _)) (pw_or1 (pt_val (pe_callB (cr_any rfl) (by rfl) T.n_any (by decide +kernel) (pa_cons (pe_lc (own := [("one", 3), ("ask", 4)]) (g := gTup K 2 (gCons (gName 3) (gCons (gName 4) gNil))) (by rfl) sc_shows_fair.nd (ZM.pi_zipM (by rfl) T.n_zip (pa_cons (pv 2) (pa_cons (pv 1) pa_nil))) (blkOk_by (own := [("one", 3), ("ask", 4)]) (N := N_shows_fair) (sc := defScope s_shows_fair) (by decide +kernel)) (fun _ _ _ _ _ => (pg_tup (by rfl) (pgs_cons (pg_name (i := 3) sc_shows_fair.nd rfl (Or.inl rfl)) (pgs_cons (pg_name (i := 4) sc_shows_fair.nd rfl (Or.inl rfl)) pgs_nil)))) (fun _ _ _ _ _ => pts_nil) (fun _ _ _ _ _ => (pe_cmpR op_lt (pv 3) (pe_ix (r := rIx K) ix_seq (pv 4) pe_int (fun _ _ => rfl)) (nomark _)))) pa_nil)))))) (pss_one (ps_ret pe_bl)) pss_nil)
    (pss_cons (ps_for PassesOwn.never rfl (ZM.pi_zipM (by rfl) T.n_zip (pa_cons (pv 2) (pa_cons (pv 1) pa_nil))) (pg_tup (by rfl) (pgs_cons (pg_name (i := 3) sc_shows_fair.nd rfl (Or.inr rfl)) (pgs_cons (pg_name (i := 4) sc_shows_fair.nd rfl (Or.inr rfl)) pgs_nil))) (pss_one (ps_if (PW.pt (pw_and (pt_cmpR op_gt (pv 3) (pe_ix ix_seq (pv 4) pe_int (fun _ _ => rfl)) (nomark _)) (pw_and1 (pt_not (pt_val (pe_callB (cr_all rfl) (by rfl) T.n_all (by decide +kernel) (pa_cons (pe_lc (own := [("two", 5), ("own", 6)]) (g := gTup K 2 (gCons (gName 5) (gCons (gName 6) gNil))) (by rfl) sc_shows_fair.nd (ZM.pi_zipM (by rfl) T.n_zip (pa_cons (pv 2) (pa_cons (pv 1) pa_nil))) (blkOk_by (own := [("two", 5), ("own", 6)]) (N := N_shows_fair) (sc := defScope s_shows_fair) (by decide +kernel)) (fun _ _ _ _ _ => (pg_tup (by rfl) (pgs_cons (pg_name (i := 5) sc_shows_fair.nd rfl (Or.inl rfl)) (pgs_cons (pg_name (i := 6) sc_shows_fair.nd rfl (Or.inl rfl)) pgs_nil)))) (fun _ _ _ _ _ => pts_nil) (fun _ _ _ _ _ => (pe_call G_is_level_pair (hr.mono (by decide)) rfl T.g_is_level_pair T.F_is_level_pair.kp T.b_is_level_pair .nil pass0 (pa_cons (pv 3) (pa_cons (pv 5) (pa_cons (pv 4) (pa_cons (pv 6) pa_nil))))))) pa_nil))))))) (pss_one (ps_ret pe_bl)) pss_nil)))
    (pss_one (ps_ret pe_bl))))), ?_⟩
  intro J
  exact (rs_seq (rs_if (rt_or (rt_not (rt_b (re_isi re_v))) (rt_or (rt_test (re_op rr_ne (re_cb rb_len (ra_cons re_v ra_nil)) (re_cb rb_len (ra_cons re_v ra_nil)))) (rt_not (rt_b (re_cb rb_all (ra_cons (RN.re (rn_lc (by decide) (ri_any re_v) (fun _ le => rg_name) (fun _ le => rt_yes) (fun _ le => (re_call (fun _ => .nil) (rc_dat re_v rc_nil))))) ra_nil)))))) (rs_ret (re_c fun _ => .bl _)) rs_next)
    (rs_seq (rs_if (rt_or (rt_test (re_op rr_ne (re_cb rb_sum (ra_cons re_v ra_nil)) re_v)) (rt_b (re_cb rb_any (ra_cons (RN.re (rn_lc (by decide) (ri_zipM (ra_cons re_v (ra_cons re_v ra_nil))) (fun _ le => (rg_tup (rgs_cons rg_name (rgs_cons rg_name rgs_nil)))) (fun _ le => rt_yes) (fun _ le => (re_op rr_lt re_v (re_op rr_ix re_v (re_c fun _ => .int _)))))) ra_nil)))) (rs_ret (re_c fun _ => .bl _)) rs_next)
    (rs_seq (rs_for (by decide) (ri_zipM (ra_cons re_v (ra_cons re_v ra_nil))) (rg_tup (rgs_cons rg_name (rgs_cons rg_name rgs_nil))) (rs_if (rt_and (rt_test (re_op rr_gt re_v (re_op rr_ix re_v (re_c fun _ => .int _)))) (rt_not (rt_b (re_cb rb_all (ra_cons (RN.re (rn_lc (by decide) (ri_zipM (ra_cons re_v (ra_cons re_v ra_nil))) (fun _ le => (rg_tup (rgs_cons rg_name (rgs_cons rg_name rgs_nil)))) (fun _ le => rt_yes) (fun _ le => (re_call (fun _ => .nil) (rc_dat re_v (rc_dat re_v (rc_dat re_v (rc_dat re_v rc_nil)))))))) ra_nil))))) (rs_ret (re_c fun _ => .bl _)) rs_next))
    (rs_ret (re_c fun _ => .bl _)))))
theorem okD__law_fair {P : Program} {w : World} {K : PySem.W.Frag} {mg : Str → Option Value} {base : Heap} [TBx mg base] {ad : Ad} (T : Txt K mg ad) : FnOk P w K mg base CX0 1 ad.f__law_fair ad.d__law_fair ["_law_amount_here", "_law_asks_here", "_law_thing"] (spF K 3 F__law_fair) := by
  refine okF0 T.F__law_fair sc__law_fair fun cdv A outer s H E hr => ⟨_, (pss_cons (ps_if (PW.pt (pw_or (pt_not (pt_val (pe_callB call_isi (by rfl) T.n_isinstance (by decide +kernel) (pa_cons (pv 2) (pa_cons (pe_bltn (v := .ty "list") (by rfl) T.n_list (by decide +kernel) rfl) pa_nil))))) (pw_or1 (pt_cmpR op_ne (pe_callB call_len_seq (by rfl) T.n_len PySem.boot_len (pa_cons (pv 2) pa_nil)) (pe_callB call_len_seq (by rfl) T.n_len PySem.boot_len (pa_cons (pv 1) pa_nil)) (nomark _))))) (pss_one (ps_ret pe_bl)) pss_nil)
    (pss_cons (ps_for PassesOwn.never rfl (pi_any (pv 2)) (pg_name (i := 3) sc__law_fair.nd rfl (Or.inl rfl)) (pss_one (ps_if (PW.pt (pw_or (pt_not (pt_val (pe_callB call_isi (by rfl) T.n_isinstance (by decide +kernel) (pa_cons (pv 3) (pa_cons (pe_bltn (v := .ty "int") (by rfl) T.n_int (by decide +kernel) rfl) pa_nil))))) (pw_or1 (pt_val (pe_callB call_isi (by rfl) T.n_isinstance (by decide +kernel) (pa_cons (pv 3) (pa_cons (pe_bltn (v := .ty "bool") (by rfl) T.n_bool (by decide +kernel) rfl) pa_nil))))))) (pss_one (ps_ret pe_bl)) pss_nil)))
    (pss_cons (ps_set (i := 4) sc__law_fair.nd rfl (Or.inl rfl) pe_int)
    (pss_cons (ps_for PassesOwn.never rfl (pi_enum (by rfl) T.n_enumerate (pa_cons (pv 1) pa_nil)) (pg_tup (by rfl) (pgs_cons (pg_name (i := 5) sc__law_fair.nd rfl (Or.inl rfl)) (pgs_cons (pg_tup (by rfl) (pgs_cons (pg_name (i := 6) sc__law_fair.nd rfl (Or.inl rfl)) (pgs_cons (pg_name (i := 7) sc__law_fair.nd rfl (Or.inl rfl)) pgs_nil))) pgs_nil))) (pss_cons (ps_set (i := 4) sc__law_fair.nd rfl (Or.inl rfl) (pe_op op_addN (pv 4) (pe_ix ix_seq (pv 2) (pv 5) (fun _ _ => rfl))))
    (pss_cons (ps_if (pt_cmpR op_lt (pe_ix ix_seq (pv 2) (pv 5) (fun _ _ => rfl)) (pv 7) (nomark _)) (pss_one (ps_ret pe_bl)) pss_nil)
    (pss_one (ps_for PassesOwn.never rfl (pi_enum (by rfl) T.n_enumerate (pa_cons (pv 1) pa_nil)) (pg_tup (by rfl) (pgs_cons (pg_name (i := 8) sc__law_fair.nd rfl (Or.inl rfl)) (pgs_cons (pg_tup (by rfl) (pgs_cons (pg_name (i := 9) sc__law_fair.nd rfl (Or.inl rfl)) (pgs_cons (pg_name (i := 10) sc__law_fair.nd rfl (Or.inl rfl)) pgs_nil))) pgs_nil))) (pss_one (ps_if (PW.pt (pw_and (pt_cmpR op_ne (pv 8) (pv 5) (nomark _)) (pw_and (pt_cmpR op_gt (pe_ix ix_seq (pv 2) (pv 5) (fun _ _ => rfl)) (pv 7) (nomark _)) (pw_and1 (pt_cmpR op_ge (pe_op op_mul (pe_op op_subN (pe_ix ix_seq (pv 2) (pv 5) (fun _ _ => rfl)) pe_int) (pv 9)) (pe_op op_mul (pe_op op_addN (pe_ix ix_seq (pv 2) (pv 8) (fun _ _ => rfl)) pe_int) (pv 6)) (nomark _)))))) (pss_one (ps_ret pe_bl)) pss_nil)))))))
    (pss_one (ps_ret (pe_cmpR (op_eqD hr.units) (pv 4) (pv 0) (nomark _)))))))), ?_⟩
  intro J
  exact (rs_seq (rs_if (rt_or (rt_not (rt_b (re_isi re_v))) (rt_test (re_op rr_ne (re_cb rb_len (ra_cons re_v ra_nil)) (re_cb rb_len (ra_cons re_v ra_nil))))) (rs_ret (re_c fun _ => .bl _)) rs_next)
    (rs_seq (rs_for (by decide) (ri_any re_v) rg_name (rs_if (rt_or (rt_not (rt_b (re_isi re_v))) (rt_b (re_isi re_v))) (rs_ret (re_c fun _ => .bl _)) rs_next))
    (rs_seq (rs_asg (re_c fun _ => .int _) rg_name)
    (rs_seq (rs_for (by decide) (ri_enum (ra_cons re_v ra_nil)) (rg_tup (rgs_cons rg_name (rgs_cons (rg_tup (rgs_cons rg_name (rgs_cons rg_name rgs_nil))) rgs_nil))) (rs_seq (rs_asg (re_op rr_num re_v (re_op rr_ix re_v re_v)) rg_name)
    (rs_seq (rs_if (rt_test (re_op rr_lt (re_op rr_ix re_v re_v) re_v)) (rs_ret (re_c fun _ => .bl _)) rs_next)
    (rs_for (by decide) (ri_enum (ra_cons re_v ra_nil)) (rg_tup (rgs_cons rg_name (rgs_cons (rg_tup (rgs_cons rg_name (rgs_cons rg_name rgs_nil))) rgs_nil))) (rs_if (rt_and (rt_test (re_op rr_ne re_v re_v)) (rt_and (rt_test (re_op rr_gt (re_op rr_ix re_v re_v) re_v)) (rt_test (re_op rr_ge (re_op rr_mul (re_op rr_num (re_op rr_ix re_v re_v) (re_c fun _ => .int _)) re_v) (re_op rr_mul (re_op rr_num (re_op rr_ix re_v re_v) (re_c fun _ => .int _)) re_v))))) (rs_ret (re_c fun _ => .bl _)) rs_next)))))
    (rs_ret (re_op rr_eqD re_v re_v))))))
theorem okD_law {P : Program} {w : World} {K : PySem.W.Frag} {mg : Str → Option Value} {base : Heap} [TBx mg base] {ad : Ad} (T : Txt K mg ad) : FnG P w K mg base 5 ad.f_law ad.d_law ["_law_script"] (spF K 1 F_law) := by
  have G__law_folded := okD__law_folded (P := P) (w := w) (base := base) T
  have G__law_box := okD__law_box (P := P) (w := w) (base := base) T
  have G__law_asks := okD__law_asks (P := P) (w := w) (base := base) T
  have G__law_amount := okD__law_amount (P := P) (w := w) (base := base) T
  have G_part_heap := okD_part_heap (P := P) (w := w) (base := base) T
  have G__law_bent := okD__law_bent (P := P) (w := w) (base := base) T
  have G_shows_fair := okD_shows_fair (P := P) (w := w) (base := base) T
  have G__law_take := okD__law_take (P := P) (w := w) (base := base) T
  have G__law_fair := okD__law_fair (P := P) (w := w) (base := base) T
  refine okF T.F_law sc_law fun cdv A outer s H E hr hg => ⟨_, (pss_cons (ps_set (i := 1) sc_law.nd rfl (Or.inl rfl) (pe_call G__law_folded (hr.mono (by decide)) rfl T.g__law_folded T.F__law_folded.kp T.b__law_folded .nil pass0 (pa_cons (pv 0) (pa_cons pe_int pa_nil))))
    (pss_cons (ps_for PassesOwn.never rfl (pi_range1 rfl T.n_range (pa_cons (pe_callB (call_max2 rfl) (by rfl) T.n_max (by decide +kernel) (pa_cons pe_int (pa_cons (pe_callB call_len_seq (by rfl) T.n_len PySem.boot_len (pa_cons (pv 1) pa_nil)) pa_nil))) pa_nil)) (pg_name (i := 2) sc_law.nd rfl (Or.inl rfl)) (pss_cons (ps_set (i := 3) sc_law.nd rfl (Or.inl rfl) (pe_call G__law_box (hr.mono (by decide)) rfl T.g__law_box T.F__law_box.kp T.b__law_box .nil pass0 (pa_cons (pv 1) (pa_cons (pv 2) pa_nil))))
    (pss_one (ps_for PassesOwn.never rfl (pi_range1 rfl T.n_range (pa_cons pe_int pa_nil)) (pg_name (i := 4) sc_law.nd rfl (Or.inl rfl)) (pss_cons (ps_set (i := 5) sc_law.nd rfl (Or.inl rfl) (pe_call G__law_asks (hr.mono (by decide)) rfl T.g__law_asks T.F__law_asks.kp T.b__law_asks .nil pass0 (pa_cons (pv 3) (pa_cons (pe_ix ix_list (pe_lst (pa_cons (pe_op op_add pe_int (pe_call G__law_take (hr.mono (by decide)) rfl T.g__law_take T.F__law_take.kp T.b__law_take .nil pass0 (pa_cons (pv 3) (pa_cons pe_int pa_nil)))) (pa_cons pe_int (pa_cons pe_int pa_nil)))) (pe_call G__law_take (hr.mono (by decide)) rfl T.g__law_take T.F__law_take.kp T.b__law_take .nil pass0 (pa_cons (pv 3) (pa_cons pe_int pa_nil))) (fun _ _ => rfl)) pa_nil))))
    (pss_cons (ps_set (i := 6) sc_law.nd rfl (Or.inl rfl) (pe_call G__law_amount (hr.mono (by decide)) rfl T.g__law_amount T.F__law_amount.kp T.b__law_amount .nil pass0 (pa_cons (pv 3) (pa_cons (pv 5) pa_nil))))
    (pss_cons (ps_set (i := 7) sc_law.nd rfl (Or.inl rfl) (pe_callSD G_part_heap (hr.mono (by decide)) rfl T.g_part_heap T.F_part_heap.kp T.b_part_heap .nil (fun σ => passAt takes0 σ) (pa_cons (pv 6) (pa_cons (pv 5) pa_nil))))
    (pss_cons (ps_set (i := 8) sc_law.nd rfl (Or.inl rfl) (pe_lst (pa_cons (pv 7) (pa_cons (pe_callTy call_tuple_of (by rfl) T.n_tuple (by decide +kernel) (pa_cons (pv 7) pa_nil)) (pa_cons pe_non (pa_cons pe_int (pa_cons pe_str (pa_cons (pe_lst pa_nil) (pa_cons (pe_lst (pa_cons (pv 7) pa_nil)) (pa_cons (pe_lc (own := [("_law_ask", 9)]) (g := gName 9) (by rfl) sc_law.nd (pi_list (pv 5)) (blkOk_by (own := [("_law_ask", 9)]) (N := N_law) (sc := defScope s_law) (by decide +kernel)) (fun _ _ _ _ _ => (pg_name (i := 9) sc_law.nd rfl (Or.inl rfl))) (fun _ _ _ _ _ => pts_nil) (fun _ _ _ _ _ => (pe_callTy (r := rListOf K) (call_listK rfl) (by rfl) T.n_list (by decide +kernel) (pa_cons (pv 9) pa_nil)))) pa_nil))))))))))
    (pss_cons (ps_for PassesOwn.never rfl (pi_range1 rfl T.n_range (pa_cons pe_int pa_nil)) (pg_name (i := 10) sc_law.nd rfl (Or.inl rfl)) (pss_cons (ps_set (i := 11) sc_law.nd rfl (Or.inl rfl) (pe_call G__law_bent (hr.mono (by decide)) rfl T.g__law_bent T.F__law_bent.kp T.b__law_bent .nil pass0 (pa_cons (pv 3) (pa_cons (pv 7) pa_nil))))
    (pss_cons (ps_for PassesOwn.never rfl (pi_range1 rfl T.n_range (pa_cons (pe_call G__law_take (hr.mono (by decide)) rfl T.g__law_take T.F__law_take.kp T.b__law_take .nil pass0 (pa_cons (pv 3) (pa_cons pe_int pa_nil))) pa_nil)) (pg_name (i := 12) sc_law.nd rfl (Or.inl rfl)) (pss_one (ps_set (i := 11) sc_law.nd rfl (Or.inl rfl) (pe_call G__law_bent (hr.mono (by decide)) rfl T.g__law_bent T.F__law_bent.kp T.b__law_bent .nil pass0 (pa_cons (pv 3) (pa_cons (pv 11) pa_nil))))))
    (pss_one (ps_expr (pe_bm PySem.F.plainAttrs_list PySem.F.slot_list_append PySem.F.type_list_append mt_append (pv 8) (pa_cons (pv 11) pa_nil)))))))
    (pss_cons (ps_for PassesOwn.never rfl (pi_list (pv 8)) (pg_name (i := 11) sc_law.nd rfl (Or.inl rfl)) (pss_cons (ps_par (i := 13) (j := 14) (by rfl) sc_law.nd rfl rfl (by decide) rfl rfl (pa_cons (pe_callB (call_reprV hg hr.units) (by rfl) T.n_repr (by decide +kernel) (pa_cons (pv 11) pa_nil)) (pa_cons (pe_call G_shows_fair (hr.mono (by decide)) rfl T.g_shows_fair T.F_shows_fair.kp T.b_shows_fair .nil pass0 (pa_cons (pv 6) (pa_cons (pv 5) (pa_cons (pv 11) pa_nil)))) pa_nil)) (by rfl))
    (pss_one (ps_if (PW.pt (pw_or (pt_not (pt_val (pe_callB call_isi (by rfl) T.n_isinstance (by decide +kernel) (pa_cons (pv 14) (pa_cons (pe_bltn (v := .ty "bool") (by rfl) T.n_bool (by decide +kernel) rfl) pa_nil))))) (pw_or (pt_cmpR op_ne (pv 14) (pe_call G__law_fair (hr.mono (by decide)) rfl T.g__law_fair T.F__law_fair.kp T.b__law_fair .nil pass0 (pa_cons (pv 6) (pa_cons (pv 5) (pa_cons (pv 11) pa_nil)))) (nomark _)) (pw_or1 (pt_cmpR op_ne (pe_callB (call_reprV hg hr.units) (by rfl) T.n_repr (by decide +kernel) (pa_cons (pv 11) pa_nil)) (pv 13) (nomark _)))))) (pss_one (ps_ret pe_bl)) pss_nil))))
    (pss_cons (ps_setLc (i := 15) (own := [("_law_price_here", 16), ("_law_least", 17)]) (g := gTup K 2 (gCons (gName 16) (gCons (gName 17) gNil))) (by rfl) sc_law.nd rfl rfl (sw_true rfl rfl rfl (by decide +kernel)) (pi_list (pv 5)) (blkOk_by (own := [("_law_price_here", 16), ("_law_least", 17)]) (N := N_law) (sc := defScope s_law) (by decide +kernel)) (fun _ _ _ _ _ => (pg_tup (by rfl) (pgs_cons (pg_name (i := 16) sc_law.nd rfl (Or.inl rfl)) (pgs_cons (pg_name (i := 17) sc_law.nd rfl (Or.inl rfl)) pgs_nil)))) (fun _ _ _ _ _ => pts_nil) (fun _ _ _ _ _ => (pv 17)))
    (pss_cons (ps_if (pt_cmpR op_notB (pe_call G_shows_fair (hr.mono (by decide)) rfl T.g_shows_fair T.F_shows_fair.kp T.b_shows_fair .nil pass0 (pa_cons (pv 6) (pa_cons (pe_callTy call_tuple_of (by rfl) T.n_tuple (by decide +kernel) (pa_cons (pv 5) pa_nil)) (pa_cons (pv 7) pa_nil)))) pe_bl (nomark _)) (pss_one (ps_ret pe_bl)) pss_nil)
    (pss_one (ps_if (PW.pt (pw_and (pt_cmpR op_gt (pe_callB (cr_sum rfl) (by rfl) T.n_sum (by decide +kernel) (pa_cons (pv 15) pa_nil)) pe_int (nomark _)) (pw_and1 (pt_cmpR op_notB (pe_call G_shows_fair (hr.mono (by decide)) rfl T.g_shows_fair T.F_shows_fair.kp T.b_shows_fair .nil pass0 (pa_cons (pe_op op_sub (pe_callB (cr_sum rfl) (by rfl) T.n_sum (by decide +kernel) (pa_cons (pv 15) pa_nil)) pe_int) (pa_cons (pv 5) (pa_cons (pv 15) pa_nil)))) pe_bl (nomark _))))) (pss_one (ps_ret pe_bl)) pss_nil))))))))))))))
    (pss_one (ps_ret pe_bl)))), ?_⟩
  intro J
  exact (rs_seq (rs_asg (re_call (fun _ => .nil) (rc_dat re_v (rc_dat (re_c fun _ => .int _) rc_nil))) rg_name)
    (rs_seq (rs_for (by decide) (ri_rng1 (ra_cons (re_cb rb_max2 (ra_cons (re_c fun _ => .int _) (ra_cons (re_cb rb_len (ra_cons re_v ra_nil)) ra_nil))) ra_nil)) rg_name (rs_seq (rs_own (by decide) (rn_call (fun _ => .nil) (rc_dat re_v (rc_dat re_v rc_nil))))
    (rs_for (by decide) (ri_rng1 (ra_cons (re_c fun _ => .int _) ra_nil)) rg_name (rs_seq (rs_asg (re_call (fun _ => .nil) (rc_own (rc_dat (re_op rr_ixL (RN.re (rn_lst (ra_cons (re_op rr_add (re_c fun _ => .int _) (re_call (fun _ => .nil) (rc_own (rc_dat (re_c fun _ => .int _) rc_nil)))) (ra_cons (re_c fun _ => .int _) (ra_cons (re_c fun _ => .int _) ra_nil))))) (re_call (fun _ => .nil) (rc_own (rc_dat (re_c fun _ => .int _) rc_nil)))) rc_nil))) rg_name)
    (rs_seq (rs_asg (re_call (fun _ => .nil) (rc_own (rc_dat re_v rc_nil))) rg_name)
    (rs_seq (rs_asg (re_callX lkF (fun _ => .nil) (rc_dat re_v (rc_dat re_v rc_nil))) rg_name)
    (rs_seq (rs_own (by decide) (rn_lst (ra_cons re_v (ra_cons (re_cb rb_tuple (ra_cons re_v ra_nil)) (ra_cons (re_c fun _ => .non) (ra_cons (re_c fun _ => .int _) (ra_cons (re_c fun _ => .str _) (ra_cons (RN.re (rn_lst ra_nil)) (ra_cons (RN.re (rn_lst (ra_cons re_v ra_nil))) (ra_cons (RN.re (rn_lc (by decide) (ri_list re_v) (fun _ le => rg_name) (fun _ le => rt_yes) (fun _ le => (re_cb rb_list (ra_cons re_v ra_nil))))) ra_nil))))))))))
    (rs_seq (rs_for (by decide) (ri_rng1 (ra_cons (re_c fun _ => .int _) ra_nil)) rg_name (rs_seq (rs_asg (re_call (fun _ => .nil) (rc_own (rc_dat re_v rc_nil))) rg_name)
    (rs_seq (rs_for (by decide) (ri_rng1 (ra_cons (re_call (fun _ => .nil) (rc_own (rc_dat (re_c fun _ => .int _) rc_nil))) ra_nil)) rg_name (rs_asg (re_call (fun _ => .nil) (rc_own (rc_dat re_v rc_nil))) rg_name))
    (rs_append re_v))))
    (rs_seq (rs_freeze (by decide) (rs_for (by decide) (ri_list re_v) rg_name (rs_seq (rs_par (ra_cons (re_cb rb_reprV (ra_cons re_v ra_nil)) (ra_cons (re_call (fun _ => .nil) (rc_dat re_v (rc_dat re_v (rc_dat re_v rc_nil)))) ra_nil)))
    (rs_if (rt_or (rt_not (rt_b (re_isi re_v))) (rt_or (rt_test (re_op rr_ne re_v (re_call (fun _ => .nil) (rc_dat re_v (rc_dat re_v (rc_dat re_v rc_nil)))))) (rt_test (re_op rr_ne (re_cb rb_reprV (ra_cons re_v ra_nil)) re_v)))) (rs_ret (re_c fun _ => .bl _)) rs_next))))
    (rs_seq (rs_asg (RN.re (rn_lc (by decide) (ri_list re_v) (fun _ le => (rg_tup (rgs_cons rg_name (rgs_cons rg_name rgs_nil)))) (fun _ le => rt_yes) (fun _ le => re_v))) rg_name)
    (rs_seq (rs_if (rt_test (re_op rr_notB (re_call (fun _ => .nil) (rc_dat re_v (rc_dat (re_cb rb_tuple (ra_cons re_v ra_nil)) (rc_dat re_v rc_nil)))) (re_c fun _ => .bl _))) (rs_ret (re_c fun _ => .bl _)) rs_next)
    (rs_if (rt_and (rt_test (re_op rr_gt (re_cb rb_sum (ra_cons re_v ra_nil)) (re_c fun _ => .int _))) (rt_test (re_op rr_notB (re_call (fun _ => .nil) (rc_dat (re_op rr_sub (re_cb rb_sum (ra_cons re_v ra_nil)) (re_c fun _ => .int _)) (rc_dat re_v (rc_dat re_v rc_nil)))) (re_c fun _ => .bl _)))) (rs_ret (re_c fun _ => .bl _)) rs_next))))))))))))
    (rs_ret (re_c fun _ => .bl _))))
abbrev sp_law (K : PySem.W.Frag) : Sp := spLaw K
theorem ok_law {P : Program} {w : World} {K : PySem.W.Frag} {mg : Str → Option Value} {base : Heap} [TBx mg base] {ad : Ad} (T : Txt K mg ad) : FnG P w K mg base 5 ad.f_law ad.d_law ["_law_script"] (sp_law K) :=
  (okD_law T).imp fun _ _ _ _ h => law_of (fun ns hl => f_law hl) h

theorem all_mk {l : PySem.W.OpenLaw} {w : World} {K : PySem.W.Frag} {h : Heap} {mg : Str → Option Value} {fa : Addr} (X : K.In h) (G : h.Ns mainGlobals mg) (hfa : mg "law" = some (.ref fa)) (hT67 : h.get? 67 = some { cls := .none, data := .fields #[] })
    {C_TooLow : Addr}
    {f__law_folded : Addr} {od__law_folded an__law_folded : Option Addr} {sl__law_folded : Array (Option Value)} {oc__law_folded kV__law_folded dc__law_folded pm__law_folded cd__law_folded ct__law_folded : Value}
    {f__law_box : Addr} {od__law_box an__law_box : Option Addr} {sl__law_box : Array (Option Value)} {oc__law_box kV__law_box dc__law_box pm__law_box cd__law_box ct__law_box : Value}
    {f__law_take : Addr} {od__law_take an__law_take : Option Addr} {sl__law_take : Array (Option Value)} {oc__law_take kV__law_take dc__law_take pm__law_take cd__law_take ct__law_take : Value}
    {f__law_price : Addr} {od__law_price an__law_price : Option Addr} {sl__law_price : Array (Option Value)} {oc__law_price kV__law_price dc__law_price pm__law_price cd__law_price ct__law_price : Value}
    {f__law_asks : Addr} {od__law_asks an__law_asks : Option Addr} {sl__law_asks : Array (Option Value)} {oc__law_asks kV__law_asks dc__law_asks pm__law_asks cd__law_asks ct__law_asks : Value}
    {f__law_amount : Addr} {od__law_amount an__law_amount : Option Addr} {sl__law_amount : Array (Option Value)} {oc__law_amount kV__law_amount dc__law_amount pm__law_amount cd__law_amount ct__law_amount : Value}
    {f_all_leasts : Addr} {od_all_leasts an_all_leasts : Option Addr} {sl_all_leasts : Array (Option Value)} {oc_all_leasts kV_all_leasts dc_all_leasts pm_all_leasts cd_all_leasts ct_all_leasts : Value}
    {f_TooLow_init : Addr} {od_TooLow_init an_TooLow_init : Option Addr} {sl_TooLow_init : Array (Option Value)} {oc_TooLow_init kV_TooLow_init dc_TooLow_init pm_TooLow_init cd_TooLow_init ct_TooLow_init : Value}
    {f_level_found : Addr} {od_level_found an_level_found : Option Addr} {sl_level_found : Array (Option Value)} {oc_level_found kV_level_found dc_level_found pm_level_found cd_level_found ct_level_found : Value}
    {f_common_divisor : Addr} {od_common_divisor an_common_divisor : Option Addr} {sl_common_divisor : Array (Option Value)} {oc_common_divisor kV_common_divisor dc_common_divisor pm_common_divisor cd_common_divisor ct_common_divisor : Value}
    {f_level_of : Addr} {od_level_of an_level_of : Option Addr} {sl_level_of : Array (Option Value)} {oc_level_of kV_level_of dc_level_of pm_level_of cd_level_of ct_level_of : Value}
    {f_parts_by : Addr} {od_parts_by an_parts_by : Option Addr} {sl_parts_by : Array (Option Value)} {oc_parts_by kV_parts_by dc_parts_by pm_parts_by cd_parts_by ct_parts_by : Value}
    {f_part_heap : Addr} {od_part_heap an_part_heap : Option Addr} {sl_part_heap : Array (Option Value)} {oc_part_heap kV_part_heap dc_part_heap pm_part_heap cd_part_heap ct_part_heap : Value}
    {f__law_bent : Addr} {od__law_bent an__law_bent : Option Addr} {sl__law_bent : Array (Option Value)} {oc__law_bent kV__law_bent dc__law_bent pm__law_bent cd__law_bent ct__law_bent : Value}
    {f_is_plain_number : Addr} {od_is_plain_number an_is_plain_number : Option Addr} {sl_is_plain_number : Array (Option Value)} {oc_is_plain_number kV_is_plain_number dc_is_plain_number pm_is_plain_number cd_is_plain_number ct_is_plain_number : Value}
    {f_is_level_pair : Addr} {od_is_level_pair an_is_level_pair : Option Addr} {sl_is_level_pair : Array (Option Value)} {oc_is_level_pair kV_is_level_pair dc_is_level_pair pm_is_level_pair cd_is_level_pair ct_is_level_pair : Value}
    {f_shows_fair : Addr} {od_shows_fair an_shows_fair : Option Addr} {sl_shows_fair : Array (Option Value)} {oc_shows_fair kV_shows_fair dc_shows_fair pm_shows_fair cd_shows_fair ct_shows_fair : Value}
    {f__law_fair : Addr} {od__law_fair an__law_fair : Option Addr} {sl__law_fair : Array (Option Value)} {oc__law_fair kV__law_fair dc__law_fair pm__law_fair cd__law_fair ct__law_fair : Value}
    {f_law : Addr} {od_law an_law : Option Addr} {sl_law : Array (Option Value)} {oc_law kV_law dc_law pm_law cd_law ct_law : Value}
    {cd_TooLow : ClassData}
    (a_TooLow : PySem.W.nsIn K mainGlobals "TooLow" = some (some (.ref C_TooLow)))
    (a__law_folded : PySem.W.nsIn K mainGlobals "_law_folded" = some (some (.ref f__law_folded)))
    (l__law_folded : K.lookup f__law_folded = some ⟨oc__law_folded, od__law_folded, .func (PySem.W.fnOf "_law_folded" "_law_folded" (defArgs s__law_folded) (defBody s__law_folded) (defScope s__law_folded) .none kV__law_folded dc__law_folded pm__law_folded an__law_folded cd__law_folded ct__law_folded), sl__law_folded⟩)
    (e__law_folded : PySem.W.codeIn K cd__law_folded "_law_folded" = true)
    (k__law_folded : PySem.W.keepIn K (.ref f__law_folded) = true)
    (a__law_box : PySem.W.nsIn K mainGlobals "_law_box" = some (some (.ref f__law_box)))
    (l__law_box : K.lookup f__law_box = some ⟨oc__law_box, od__law_box, .func (PySem.W.fnOf "_law_box" "_law_box" (defArgs s__law_box) (defBody s__law_box) (defScope s__law_box) .none kV__law_box dc__law_box pm__law_box an__law_box cd__law_box ct__law_box), sl__law_box⟩)
    (e__law_box : PySem.W.codeIn K cd__law_box "_law_box" = true)
    (k__law_box : PySem.W.keepIn K (.ref f__law_box) = true)
    (a__law_take : PySem.W.nsIn K mainGlobals "_law_take" = some (some (.ref f__law_take)))
    (l__law_take : K.lookup f__law_take = some ⟨oc__law_take, od__law_take, .func (PySem.W.fnOf "_law_take" "_law_take" (defArgs s__law_take) (defBody s__law_take) (defScope s__law_take) .none kV__law_take dc__law_take pm__law_take an__law_take cd__law_take ct__law_take), sl__law_take⟩)
    (e__law_take : PySem.W.codeIn K cd__law_take "_law_take" = true)
    (k__law_take : PySem.W.keepIn K (.ref f__law_take) = true)
    (a__law_price : PySem.W.nsIn K mainGlobals "_law_price" = some (some (.ref f__law_price)))
    (l__law_price : K.lookup f__law_price = some ⟨oc__law_price, od__law_price, .func (PySem.W.fnOf "_law_price" "_law_price" (defArgs s__law_price) (defBody s__law_price) (defScope s__law_price) .none kV__law_price dc__law_price pm__law_price an__law_price cd__law_price ct__law_price), sl__law_price⟩)
    (e__law_price : PySem.W.codeIn K cd__law_price "_law_price" = true)
    (k__law_price : PySem.W.keepIn K (.ref f__law_price) = true)
    (a__law_asks : PySem.W.nsIn K mainGlobals "_law_asks" = some (some (.ref f__law_asks)))
    (l__law_asks : K.lookup f__law_asks = some ⟨oc__law_asks, od__law_asks, .func (PySem.W.fnOf "_law_asks" "_law_asks" (defArgs s__law_asks) (defBody s__law_asks) (defScope s__law_asks) .none kV__law_asks dc__law_asks pm__law_asks an__law_asks cd__law_asks ct__law_asks), sl__law_asks⟩)
    (e__law_asks : PySem.W.codeIn K cd__law_asks "_law_asks" = true)
    (k__law_asks : PySem.W.keepIn K (.ref f__law_asks) = true)
    (a__law_amount : PySem.W.nsIn K mainGlobals "_law_amount" = some (some (.ref f__law_amount)))
    (l__law_amount : K.lookup f__law_amount = some ⟨oc__law_amount, od__law_amount, .func (PySem.W.fnOf "_law_amount" "_law_amount" (defArgs s__law_amount) (defBody s__law_amount) (defScope s__law_amount) .none kV__law_amount dc__law_amount pm__law_amount an__law_amount cd__law_amount ct__law_amount), sl__law_amount⟩)
    (e__law_amount : PySem.W.codeIn K cd__law_amount "_law_amount" = true)
    (k__law_amount : PySem.W.keepIn K (.ref f__law_amount) = true)
    (a_all_leasts : PySem.W.nsIn K mainGlobals "all_leasts" = some (some (.ref f_all_leasts)))
    (l_all_leasts : K.lookup f_all_leasts = some ⟨oc_all_leasts, od_all_leasts, .func (PySem.W.fnOf "all_leasts" "all_leasts" (defArgs s_all_leasts) (defBody s_all_leasts) (defScope s_all_leasts) .none kV_all_leasts dc_all_leasts pm_all_leasts an_all_leasts cd_all_leasts ct_all_leasts), sl_all_leasts⟩)
    (e_all_leasts : PySem.W.codeIn K cd_all_leasts "all_leasts" = true)
    (k_all_leasts : PySem.W.keepIn K (.ref f_all_leasts) = true)
    (a_TooLow_init : PySem.W.findIn K (.ref C_TooLow) "__init__" = some (some (.ref f_TooLow_init)))
    (i_TooLow_init : PySem.W.isFn K (.ref f_TooLow_init) = true)
    (l_TooLow_init : K.lookup f_TooLow_init = some ⟨oc_TooLow_init, od_TooLow_init, .func (PySem.W.fnOf "__init__" "TooLow.__init__" (defArgs s_TooLow_init) (defBody s_TooLow_init) (defScope s_TooLow_init) .none kV_TooLow_init dc_TooLow_init pm_TooLow_init an_TooLow_init cd_TooLow_init ct_TooLow_init), sl_TooLow_init⟩)
    (e_TooLow_init : PySem.W.codeIn K cd_TooLow_init "TooLow.__init__" = true)
    (k_TooLow_init : PySem.W.keepIn K (.ref f_TooLow_init) = true)
    (a_level_found : PySem.W.nsIn K mainGlobals "level_found" = some (some (.ref f_level_found)))
    (l_level_found : K.lookup f_level_found = some ⟨oc_level_found, od_level_found, .func (PySem.W.fnOf "level_found" "level_found" (defArgs s_level_found) (defBody s_level_found) (defScope s_level_found) .none kV_level_found dc_level_found pm_level_found an_level_found cd_level_found ct_level_found), sl_level_found⟩)
    (e_level_found : PySem.W.codeIn K cd_level_found "level_found" = true)
    (k_level_found : PySem.W.keepIn K (.ref f_level_found) = true)
    (a_common_divisor : PySem.W.nsIn K mainGlobals "common_divisor" = some (some (.ref f_common_divisor)))
    (l_common_divisor : K.lookup f_common_divisor = some ⟨oc_common_divisor, od_common_divisor, .func (PySem.W.fnOf "common_divisor" "common_divisor" (defArgs s_common_divisor) (defBody s_common_divisor) (defScope s_common_divisor) .none kV_common_divisor dc_common_divisor pm_common_divisor an_common_divisor cd_common_divisor ct_common_divisor), sl_common_divisor⟩)
    (e_common_divisor : PySem.W.codeIn K cd_common_divisor "common_divisor" = true)
    (k_common_divisor : PySem.W.keepIn K (.ref f_common_divisor) = true)
    (a_level_of : PySem.W.nsIn K mainGlobals "level_of" = some (some (.ref f_level_of)))
    (l_level_of : K.lookup f_level_of = some ⟨oc_level_of, od_level_of, .func (PySem.W.fnOf "level_of" "level_of" (defArgs s_level_of) (defBody s_level_of) (defScope s_level_of) .none kV_level_of dc_level_of pm_level_of an_level_of cd_level_of ct_level_of), sl_level_of⟩)
    (e_level_of : PySem.W.codeIn K cd_level_of "level_of" = true)
    (k_level_of : PySem.W.keepIn K (.ref f_level_of) = true)
    (a_parts_by : PySem.W.nsIn K mainGlobals "parts_by" = some (some (.ref f_parts_by)))
    (l_parts_by : K.lookup f_parts_by = some ⟨oc_parts_by, od_parts_by, .func (PySem.W.fnOf "parts_by" "parts_by" (defArgs s_parts_by) (defBody s_parts_by) (defScope s_parts_by) .none kV_parts_by dc_parts_by pm_parts_by an_parts_by cd_parts_by ct_parts_by), sl_parts_by⟩)
    (e_parts_by : PySem.W.codeIn K cd_parts_by "parts_by" = true)
    (k_parts_by : PySem.W.keepIn K (.ref f_parts_by) = true)
    (a_part_heap : PySem.W.nsIn K mainGlobals "part_heap" = some (some (.ref f_part_heap)))
    (l_part_heap : K.lookup f_part_heap = some ⟨oc_part_heap, od_part_heap, .func (PySem.W.fnOf "part_heap" "part_heap" (defArgs s_part_heap) (defBody s_part_heap) (defScope s_part_heap) .none kV_part_heap dc_part_heap pm_part_heap an_part_heap cd_part_heap ct_part_heap), sl_part_heap⟩)
    (e_part_heap : PySem.W.codeIn K cd_part_heap "part_heap" = true)
    (k_part_heap : PySem.W.keepIn K (.ref f_part_heap) = true)
    (a__law_bent : PySem.W.nsIn K mainGlobals "_law_bent" = some (some (.ref f__law_bent)))
    (l__law_bent : K.lookup f__law_bent = some ⟨oc__law_bent, od__law_bent, .func (PySem.W.fnOf "_law_bent" "_law_bent" (defArgs s__law_bent) (defBody s__law_bent) (defScope s__law_bent) .none kV__law_bent dc__law_bent pm__law_bent an__law_bent cd__law_bent ct__law_bent), sl__law_bent⟩)
    (e__law_bent : PySem.W.codeIn K cd__law_bent "_law_bent" = true)
    (k__law_bent : PySem.W.keepIn K (.ref f__law_bent) = true)
    (a_is_plain_number : PySem.W.nsIn K mainGlobals "is_plain_number" = some (some (.ref f_is_plain_number)))
    (l_is_plain_number : K.lookup f_is_plain_number = some ⟨oc_is_plain_number, od_is_plain_number, .func (PySem.W.fnOf "is_plain_number" "is_plain_number" (defArgs s_is_plain_number) (defBody s_is_plain_number) (defScope s_is_plain_number) .none kV_is_plain_number dc_is_plain_number pm_is_plain_number an_is_plain_number cd_is_plain_number ct_is_plain_number), sl_is_plain_number⟩)
    (e_is_plain_number : PySem.W.codeIn K cd_is_plain_number "is_plain_number" = true)
    (k_is_plain_number : PySem.W.keepIn K (.ref f_is_plain_number) = true)
    (a_is_level_pair : PySem.W.nsIn K mainGlobals "is_level_pair" = some (some (.ref f_is_level_pair)))
    (l_is_level_pair : K.lookup f_is_level_pair = some ⟨oc_is_level_pair, od_is_level_pair, .func (PySem.W.fnOf "is_level_pair" "is_level_pair" (defArgs s_is_level_pair) (defBody s_is_level_pair) (defScope s_is_level_pair) .none kV_is_level_pair dc_is_level_pair pm_is_level_pair an_is_level_pair cd_is_level_pair ct_is_level_pair), sl_is_level_pair⟩)
    (e_is_level_pair : PySem.W.codeIn K cd_is_level_pair "is_level_pair" = true)
    (k_is_level_pair : PySem.W.keepIn K (.ref f_is_level_pair) = true)
    (a_shows_fair : PySem.W.nsIn K mainGlobals "shows_fair" = some (some (.ref f_shows_fair)))
    (l_shows_fair : K.lookup f_shows_fair = some ⟨oc_shows_fair, od_shows_fair, .func (PySem.W.fnOf "shows_fair" "shows_fair" (defArgs s_shows_fair) (defBody s_shows_fair) (defScope s_shows_fair) .none kV_shows_fair dc_shows_fair pm_shows_fair an_shows_fair cd_shows_fair ct_shows_fair), sl_shows_fair⟩)
    (e_shows_fair : PySem.W.codeIn K cd_shows_fair "shows_fair" = true)
    (k_shows_fair : PySem.W.keepIn K (.ref f_shows_fair) = true)
    (a__law_fair : PySem.W.nsIn K mainGlobals "_law_fair" = some (some (.ref f__law_fair)))
    (l__law_fair : K.lookup f__law_fair = some ⟨oc__law_fair, od__law_fair, .func (PySem.W.fnOf "_law_fair" "_law_fair" (defArgs s__law_fair) (defBody s__law_fair) (defScope s__law_fair) .none kV__law_fair dc__law_fair pm__law_fair an__law_fair cd__law_fair ct__law_fair), sl__law_fair⟩)
    (e__law_fair : PySem.W.codeIn K cd__law_fair "_law_fair" = true)
    (k__law_fair : PySem.W.keepIn K (.ref f__law_fair) = true)
    (a_law : PySem.W.nsIn K mainGlobals "law" = some (some (.ref f_law)))
    (l_law : K.lookup f_law = some ⟨oc_law, od_law, .func (PySem.W.fnOf "law" "law" (defArgs s_law) (defBody s_law) (defScope s_law) .none kV_law dc_law pm_law an_law cd_law ct_law), sl_law⟩)
    (e_law : PySem.W.codeIn K cd_law "law" = true)
    (k_law : PySem.W.keepIn K (.ref f_law) = true)
    (z_list : PySem.W.nsIn K mainGlobals "list" = some none)
    (z_enumerate : PySem.W.nsIn K mainGlobals "enumerate" = some none)
    (z_len : PySem.W.nsIn K mainGlobals "len" = some none)
    (z_abs : PySem.W.nsIn K mainGlobals "abs" = some none)
    (z_int : PySem.W.nsIn K mainGlobals "int" = some none)
    (z_divmod : PySem.W.nsIn K mainGlobals "divmod" = some none)
    (z_range : PySem.W.nsIn K mainGlobals "range" = some none)
    (z_sum : PySem.W.nsIn K mainGlobals "sum" = some none)
    (z_ArithmeticError : PySem.W.nsIn K mainGlobals "ArithmeticError" = some none)
    (z_sorted : PySem.W.nsIn K mainGlobals "sorted" = some none)
    (z_isinstance : PySem.W.nsIn K mainGlobals "isinstance" = some none)
    (z_bool : PySem.W.nsIn K mainGlobals "bool" = some none)
    (z_zip : PySem.W.nsIn K mainGlobals "zip" = some none)
    (z_any : PySem.W.nsIn K mainGlobals "any" = some none)
    (z_all : PySem.W.nsIn K mainGlobals "all" = some none)
    (z_max : PySem.W.nsIn K mainGlobals "max" = some none)
    (z_tuple : PySem.W.nsIn K mainGlobals "tuple" = some none)
    (z_repr : PySem.W.nsIn K mainGlobals "repr" = some none)
    (ci_TooLow : PySem.W.excInitIn K C_TooLow [.type "ArithmeticError", .type "Exception", .type "BaseException", .type "object"] "ArithmeticError.__new__" = true)
    (co_TooLow : PySem.W.excOver K C_TooLow [.type "ArithmeticError", .type "Exception", .type "BaseException", .type "object"] = true)
    (hd_TooLow : PySem.W.hasDictIn K C_TooLow = true)
    (sa_TooLow : PySem.W.findIn K (.ref C_TooLow) "__setattr__" = some (some (.builtin "object.__setattr__")))
    (xc_TooLow : PySem.W.subIn K (.ref C_TooLow) (.type "BaseException") = some true)
    (tc_TooLow : PySem.W.typeIn K (.ref C_TooLow) = some (.type "type"))
    (kc_TooLow : PySem.W.keepIn K (.ref C_TooLow) = true)
    (nw_TooLow : PySem.W.findIn K (.ref C_TooLow) "what" = some none)
    (cc_TooLow : PySem.W.clsIn K C_TooLow = some cd_TooLow)
    (ga_TooLow : PySem.W.findIn K (.ref C_TooLow) "__getattribute__" = some (some (.builtin "BaseException.__getattribute__")))
    (gt_TooLow : PySem.W.findIn K (.ref C_TooLow) "__getattr__" = some none)
    (ca_TooLow : PySem.W.findIn K (.ref C_TooLow) "__class__" = some (some (.builtin "object.__class__")))
    (mo_TooLow : PySem.W.mroIn K C_TooLow (.type "object") = some true)
    (tf_TooLow : PySem.W.typeIn K (.ref f_TooLow_init) = some (.type "function"))
    (vb_TooLow : PySem.W.findCls K (.type "ArithmeticError") (.type "type") "__init__" = some (.val (.builtin "ArithmeticError.__init__")))
    (dg_exc : PySem.W.specialIn K (.builtin "object.__class__") "__get__" = some (some (.builtin "getset_descriptor.__get__")))
    (tk_exc : PySem.W.takesIn K (.builtin "object.__class__") = some true)
    (lc_part_heap : cd_part_heap = .ref 69)
    (nt_part_heap : K.lookup 67 = none)
    (ch_part_heap : PySem.W.codeHdIn K 69 67 = true)
    : LawAtG l w K 5 63 "_law_script" mg fa h := by
  have e := hfa.symm.trans (PySem.W.mg_of X G a_law)
  cases e
  have F__law_folded := fun_mk (st := s__law_folded) l__law_folded e__law_folded k__law_folded
  have b__law_folded := F__law_folded.binds (ps := ["_law_script", "_law_size"]) fun _ _ _ _ _ _ us hl => match us, hl with | [_, _], _ => rfl
  have F__law_box := fun_mk (st := s__law_box) l__law_box e__law_box k__law_box
  have b__law_box := F__law_box.binds (ps := ["_law_script", "_law_k"]) fun _ _ _ _ _ _ us hl => match us, hl with | [_, _], _ => rfl
  have F__law_take := fun_mk (st := s__law_take) l__law_take e__law_take k__law_take
  have b__law_take := F__law_take.binds (ps := ["_law_box_here", "_law_size"]) fun _ _ _ _ _ _ us hl => match us, hl with | [_, _], _ => rfl
  have F__law_price := fun_mk (st := s__law_price) l__law_price e__law_price k__law_price
  have b__law_price := F__law_price.binds (ps := ["_law_box_here"]) fun _ _ _ _ _ _ us hl => match us, hl with | [_], _ => rfl
  have F__law_asks := fun_mk (st := s__law_asks) l__law_asks e__law_asks k__law_asks
  have b__law_asks := F__law_asks.binds (ps := ["_law_box_here", "_law_many"]) fun _ _ _ _ _ _ us hl => match us, hl with | [_, _], _ => rfl
  have F__law_amount := fun_mk (st := s__law_amount) l__law_amount e__law_amount k__law_amount
  have b__law_amount := F__law_amount.binds (ps := ["_law_box_here", "_law_asks_here"]) fun _ _ _ _ _ _ us hl => match us, hl with | [_, _], _ => rfl
  have F_all_leasts := fun_mk (st := s_all_leasts) l_all_leasts e_all_leasts k_all_leasts
  have b_all_leasts := F_all_leasts.binds (ps := ["asks"]) fun _ _ _ _ _ _ us hl => match us, hl with | [_], _ => rfl
  have F_TooLow_init := fun_mk (st := s_TooLow_init) l_TooLow_init e_TooLow_init k_TooLow_init
  have b_TooLow_init := F_TooLow_init.binds (ps := ["self", "what"]) fun _ _ _ _ _ _ us hl => match us, hl with | [_, _], _ => rfl
  have F_level_found := fun_mk (st := s_level_found) l_level_found e_level_found k_level_found
  have b_level_found := F_level_found.binds (ps := ["amount", "asks"]) fun _ _ _ _ _ _ us hl => match us, hl with | [_, _], _ => rfl
  have F_common_divisor := fun_mk (st := s_common_divisor) l_common_divisor e_common_divisor k_common_divisor
  have b_common_divisor := F_common_divisor.binds (ps := ["one", "other"]) fun _ _ _ _ _ _ us hl => match us, hl with | [_, _], _ => rfl
  have F_level_of := fun_mk (st := s_level_of) l_level_of e_level_of k_level_of
  have b_level_of := F_level_of.binds (ps := ["amount", "asks"]) fun _ _ _ _ _ _ us hl => match us, hl with | [_, _], _ => rfl
  have F_parts_by := fun_mk (st := s_parts_by) l_parts_by e_parts_by k_parts_by
  have b_parts_by := F_parts_by.binds (ps := ["level", "asks"]) fun _ _ _ _ _ _ us hl => match us, hl with | [_, _], _ => rfl
  have F_part_heap := fun_mk (st := s_part_heap) l_part_heap e_part_heap k_part_heap
  have b_part_heap := F_part_heap.binds (ps := ["amount", "asks"]) fun _ _ _ _ _ _ us hl => match us, hl with | [_, _], _ => rfl
  have F__law_bent := fun_mk (st := s__law_bent) l__law_bent e__law_bent k__law_bent
  have b__law_bent := F__law_bent.binds (ps := ["_law_box_here", "_law_parts"]) fun _ _ _ _ _ _ us hl => match us, hl with | [_, _], _ => rfl
  have F_is_plain_number := fun_mk (st := s_is_plain_number) l_is_plain_number e_is_plain_number k_is_plain_number
  have b_is_plain_number := F_is_plain_number.binds (ps := ["thing"]) fun _ _ _ _ _ _ us hl => match us, hl with | [_], _ => rfl
  have F_is_level_pair := fun_mk (st := s_is_level_pair) l_is_level_pair e_is_level_pair k_is_level_pair
  have b_is_level_pair := F_is_level_pair.binds (ps := ["one", "other", "ask", "beside"]) fun _ _ _ _ _ _ us hl => match us, hl with | [_, _, _, _], _ => rfl
  have F_shows_fair := fun_mk (st := s_shows_fair) l_shows_fair e_shows_fair k_shows_fair
  have b_shows_fair := F_shows_fair.binds (ps := ["amount", "asks", "thing"]) fun _ _ _ _ _ _ us hl => match us, hl with | [_, _, _], _ => rfl
  have F__law_fair := fun_mk (st := s__law_fair) l__law_fair e__law_fair k__law_fair
  have b__law_fair := F__law_fair.binds (ps := ["_law_amount_here", "_law_asks_here", "_law_thing"]) fun _ _ _ _ _ _ us hl => match us, hl with | [_, _, _], _ => rfl
  have F_law := fun_mk (st := s_law) l_law e_law k_law
  have T : Txt K mg ⟨C_TooLow, f__law_folded, PySem.W.fnOf "_law_folded" "_law_folded" (defArgs s__law_folded) (defBody s__law_folded) (defScope s__law_folded) .none kV__law_folded dc__law_folded pm__law_folded an__law_folded cd__law_folded ct__law_folded, f__law_box, PySem.W.fnOf "_law_box" "_law_box" (defArgs s__law_box) (defBody s__law_box) (defScope s__law_box) .none kV__law_box dc__law_box pm__law_box an__law_box cd__law_box ct__law_box, f__law_take, PySem.W.fnOf "_law_take" "_law_take" (defArgs s__law_take) (defBody s__law_take) (defScope s__law_take) .none kV__law_take dc__law_take pm__law_take an__law_take cd__law_take ct__law_take, f__law_price, PySem.W.fnOf "_law_price" "_law_price" (defArgs s__law_price) (defBody s__law_price) (defScope s__law_price) .none kV__law_price dc__law_price pm__law_price an__law_price cd__law_price ct__law_price, f__law_asks, PySem.W.fnOf "_law_asks" "_law_asks" (defArgs s__law_asks) (defBody s__law_asks) (defScope s__law_asks) .none kV__law_asks dc__law_asks pm__law_asks an__law_asks cd__law_asks ct__law_asks, f__law_amount, PySem.W.fnOf "_law_amount" "_law_amount" (defArgs s__law_amount) (defBody s__law_amount) (defScope s__law_amount) .none kV__law_amount dc__law_amount pm__law_amount an__law_amount cd__law_amount ct__law_amount, f_all_leasts, PySem.W.fnOf "all_leasts" "all_leasts" (defArgs s_all_leasts) (defBody s_all_leasts) (defScope s_all_leasts) .none kV_all_leasts dc_all_leasts pm_all_leasts an_all_leasts cd_all_leasts ct_all_leasts, f_TooLow_init, PySem.W.fnOf "__init__" "TooLow.__init__" (defArgs s_TooLow_init) (defBody s_TooLow_init) (defScope s_TooLow_init) .none kV_TooLow_init dc_TooLow_init pm_TooLow_init an_TooLow_init cd_TooLow_init ct_TooLow_init, f_level_found, PySem.W.fnOf "level_found" "level_found" (defArgs s_level_found) (defBody s_level_found) (defScope s_level_found) .none kV_level_found dc_level_found pm_level_found an_level_found cd_level_found ct_level_found, f_common_divisor, PySem.W.fnOf "common_divisor" "common_divisor" (defArgs s_common_divisor) (defBody s_common_divisor) (defScope s_common_divisor) .none kV_common_divisor dc_common_divisor pm_common_divisor an_common_divisor cd_common_divisor ct_common_divisor, f_level_of, PySem.W.fnOf "level_of" "level_of" (defArgs s_level_of) (defBody s_level_of) (defScope s_level_of) .none kV_level_of dc_level_of pm_level_of an_level_of cd_level_of ct_level_of, f_parts_by, PySem.W.fnOf "parts_by" "parts_by" (defArgs s_parts_by) (defBody s_parts_by) (defScope s_parts_by) .none kV_parts_by dc_parts_by pm_parts_by an_parts_by cd_parts_by ct_parts_by, f_part_heap, PySem.W.fnOf "part_heap" "part_heap" (defArgs s_part_heap) (defBody s_part_heap) (defScope s_part_heap) .none kV_part_heap dc_part_heap pm_part_heap an_part_heap cd_part_heap ct_part_heap, f__law_bent, PySem.W.fnOf "_law_bent" "_law_bent" (defArgs s__law_bent) (defBody s__law_bent) (defScope s__law_bent) .none kV__law_bent dc__law_bent pm__law_bent an__law_bent cd__law_bent ct__law_bent, f_is_plain_number, PySem.W.fnOf "is_plain_number" "is_plain_number" (defArgs s_is_plain_number) (defBody s_is_plain_number) (defScope s_is_plain_number) .none kV_is_plain_number dc_is_plain_number pm_is_plain_number an_is_plain_number cd_is_plain_number ct_is_plain_number, f_is_level_pair, PySem.W.fnOf "is_level_pair" "is_level_pair" (defArgs s_is_level_pair) (defBody s_is_level_pair) (defScope s_is_level_pair) .none kV_is_level_pair dc_is_level_pair pm_is_level_pair an_is_level_pair cd_is_level_pair ct_is_level_pair, f_shows_fair, PySem.W.fnOf "shows_fair" "shows_fair" (defArgs s_shows_fair) (defBody s_shows_fair) (defScope s_shows_fair) .none kV_shows_fair dc_shows_fair pm_shows_fair an_shows_fair cd_shows_fair ct_shows_fair, f__law_fair, PySem.W.fnOf "_law_fair" "_law_fair" (defArgs s__law_fair) (defBody s__law_fair) (defScope s__law_fair) .none kV__law_fair dc__law_fair pm__law_fair an__law_fair cd__law_fair ct__law_fair, fa, PySem.W.fnOf "law" "law" (defArgs s_law) (defBody s_law) (defScope s_law) .none kV_law dc_law pm_law an_law cd_law ct_law⟩ := ⟨PySem.W.mg_none_of X G z_list, PySem.W.mg_none_of X G z_enumerate, PySem.W.mg_none_of X G z_len, PySem.W.mg_none_of X G z_abs, PySem.W.mg_none_of X G z_int, PySem.W.mg_none_of X G z_divmod, PySem.W.mg_none_of X G z_range, PySem.W.mg_none_of X G z_sum, PySem.W.mg_none_of X G z_ArithmeticError, PySem.W.mg_none_of X G z_sorted, PySem.W.mg_none_of X G z_isinstance, PySem.W.mg_none_of X G z_bool, PySem.W.mg_none_of X G z_zip, PySem.W.mg_none_of X G z_any, PySem.W.mg_none_of X G z_all, PySem.W.mg_none_of X G z_max, PySem.W.mg_none_of X G z_tuple, PySem.W.mg_none_of X G z_repr, F__law_folded, PySem.W.mg_of X G a__law_folded, b__law_folded, F__law_box, PySem.W.mg_of X G a__law_box, b__law_box, F__law_take, PySem.W.mg_of X G a__law_take, b__law_take, F__law_price, PySem.W.mg_of X G a__law_price, b__law_price, F__law_asks, PySem.W.mg_of X G a__law_asks, b__law_asks, F__law_amount, PySem.W.mg_of X G a__law_amount, b__law_amount, F_all_leasts, PySem.W.mg_of X G a_all_leasts, b_all_leasts, F_TooLow_init, b_TooLow_init, F_level_found, PySem.W.mg_of X G a_level_found, b_level_found, F_common_divisor, PySem.W.mg_of X G a_common_divisor, b_common_divisor, F_level_of, PySem.W.mg_of X G a_level_of, b_level_of, F_parts_by, PySem.W.mg_of X G a_parts_by, b_parts_by, F_part_heap, PySem.W.mg_of X G a_part_heap, b_part_heap, F__law_bent, PySem.W.mg_of X G a__law_bent, b__law_bent, F_is_plain_number, PySem.W.mg_of X G a_is_plain_number, b_is_plain_number, F_is_level_pair, PySem.W.mg_of X G a_is_level_pair, b_is_level_pair, F_shows_fair, PySem.W.mg_of X G a_shows_fair, b_shows_fair, F__law_fair, PySem.W.mg_of X G a__law_fair, b__law_fair, F_law, PySem.W.mg_of X G a_TooLow, a_TooLow, ⟨PySem.F.excBase_ArithmeticError, PySem.F.store_ArithmeticError, ci_TooLow, co_TooLow, hd_TooLow, sa_TooLow, xc_TooLow, tc_TooLow, kc_TooLow, nw_TooLow⟩, ⟨by rw [cc_TooLow]; rfl, ga_TooLow, gt_TooLow, xc_TooLow, ca_TooLow, dg_exc, tk_exc, mo_TooLow, hd_TooLow, nw_TooLow⟩, a_TooLow_init, tf_TooLow, vb_TooLow, lc_part_heap⟩
  exact ⟨_, 69, 67, sp_law K, hT67, nt_part_heap, PySem.W.codeHd_of_K X ch_part_heap, fun s v => .of_eq rfl,
    fun H a ns hl hH hS => ⟨a, ns, rfl, hS, hl, fun p hp => by rw [List.mem_singleton.mp hp]; exact LamX.TabS.nil hH, fun _ => rfl⟩, fun base _ _ TB => haveI : TBx mg base := ⟨TB⟩; ok_law T⟩
theorem walk {l : PySem.W.OpenLaw} {q : Program} {loose : List Str} {XP : (Str → Option Value) → Heap → Prop} {YP : World → Heap → Prop} {d : DefRec} {K : Params → PySem.W.Frag} (hn : l.most = some 63) (hdf : d.params.defaults = [])
    (hY : ∀ (w : World) (h : Heap), YP w h → (K w.params).In h)
    (F : ∀ (w : World) (mg : Str → Option Value) (fa : Addr) (h : Heap), YP w h → (K w.params).In h → h.Ns mainGlobals mg → mg d.name = some (.ref fa) → LawAtG l w (K w.params) 5 63 "_law_script" mg fa h) :
    PySem.W.WalkO q loose XP YP l.row.toRowW d [] (fun f vs => PySem.call f vs) :=
  walk_ofTG hn (by decide) hdf ⟨rfl, by decide, by decide⟩ hY F
end K

open PySem PySem.W PyProof.Rows in
set_option maxRecDepth 100000 in
set_option maxHeartbeats 0 in
theorem PySem.Challenge.cw_stallshares_k23_fair_or_not_holds : PySem.Challenge.rw_stallshares_k23_fair_or_not.Holds := by
  w_on; o_law; k_head; (case hw => w_witness2)
  k_fill
  refine K.walk (l := PySem.Challenge.rw_stallshares_k23_fair_or_not) rfl rfl (fun w h Y => PySem.W.km_in_of Y) ?F
  case F =>
    intro w mg fa h Y KX G hmg
    refine' K.all_mk KX G hmg (PySem.W.km_tabs_of Y 67 (.head _)) ?a_TooLow ?a__law_folded ?l__law_folded ?e__law_folded ?k__law_folded ?a__law_box ?l__law_box ?e__law_box ?k__law_box ?a__law_take ?l__law_take ?e__law_take ?k__law_take ?a__law_price ?l__law_price ?e__law_price ?k__law_price ?a__law_asks ?l__law_asks ?e__law_asks ?k__law_asks ?a__law_amount ?l__law_amount ?e__law_amount ?k__law_amount ?a_all_leasts ?l_all_leasts ?e_all_leasts ?k_all_leasts ?a_TooLow_init ?i_TooLow_init ?l_TooLow_init ?e_TooLow_init ?k_TooLow_init ?a_level_found ?l_level_found ?e_level_found ?k_level_found ?a_common_divisor ?l_common_divisor ?e_common_divisor ?k_common_divisor ?a_level_of ?l_level_of ?e_level_of ?k_level_of ?a_parts_by ?l_parts_by ?e_parts_by ?k_parts_by ?a_part_heap ?l_part_heap ?e_part_heap ?k_part_heap ?a__law_bent ?l__law_bent ?e__law_bent ?k__law_bent ?a_is_plain_number ?l_is_plain_number ?e_is_plain_number ?k_is_plain_number ?a_is_level_pair ?l_is_level_pair ?e_is_level_pair ?k_is_level_pair ?a_shows_fair ?l_shows_fair ?e_shows_fair ?k_shows_fair ?a__law_fair ?l__law_fair ?e__law_fair ?k__law_fair ?a_law ?l_law ?e_law ?k_law ?z_list ?z_enumerate ?z_len ?z_abs ?z_int ?z_divmod ?z_range ?z_sum ?z_ArithmeticError ?z_sorted ?z_isinstance ?z_bool ?z_zip ?z_any ?z_all ?z_max ?z_tuple ?z_repr ?ci_TooLow ?co_TooLow ?hd_TooLow ?sa_TooLow ?xc_TooLow ?tc_TooLow ?kc_TooLow ?nw_TooLow ?cc_TooLow ?ga_TooLow ?gt_TooLow ?ca_TooLow ?mo_TooLow ?tf_TooLow ?vb_TooLow ?dg_exc ?tk_exc ?lc_part_heap ?nt_part_heap ?ch_part_heap
    (case a_TooLow => k_is)
    (case a__law_folded => k_is)
    (case l__law_folded => k_is)
    (case e__law_folded => k_is)
    (case k__law_folded => k_is)
    (case a__law_box => k_is)
    (case l__law_box => k_is)
    (case e__law_box => k_is)
    (case k__law_box => k_is)
    (case a__law_take => k_is)
    (case l__law_take => k_is)
    (case e__law_take => k_is)
    (case k__law_take => k_is)
    (case a__law_price => k_is)
    (case l__law_price => k_is)
    (case e__law_price => k_is)
    (case k__law_price => k_is)
    (case a__law_asks => k_is)
    (case l__law_asks => k_is)
    (case e__law_asks => k_is)
    (case k__law_asks => k_is)
    (case a__law_amount => k_is)
    (case l__law_amount => k_is)
    (case e__law_amount => k_is)
    (case k__law_amount => k_is)
    (case a_all_leasts => k_is)
    (case l_all_leasts => k_is)
    (case e_all_leasts => k_is)
    (case k_all_leasts => k_is)
    (case a_TooLow_init => k_is)
    (case i_TooLow_init => k_is)
    (case l_TooLow_init => k_is)
    (case e_TooLow_init => k_is)
    (case k_TooLow_init => k_is)
    (case a_level_found => k_is)
    (case l_level_found => k_is)
    (case e_level_found => k_is)
    (case k_level_found => k_is)
    (case a_common_divisor => k_is)
    (case l_common_divisor => k_is)
    (case e_common_divisor => k_is)
    (case k_common_divisor => k_is)
    (case a_level_of => k_is)
    (case l_level_of => k_is)
    (case e_level_of => k_is)
    (case k_level_of => k_is)
    (case a_parts_by => k_is)
    (case l_parts_by => k_is)
    (case e_parts_by => k_is)
    (case k_parts_by => k_is)
    (case a_part_heap => k_is)
    (case l_part_heap => k_is)
    (case e_part_heap => k_is)
    (case k_part_heap => k_is)
    (case a__law_bent => k_is)
    (case l__law_bent => k_is)
    (case e__law_bent => k_is)
    (case k__law_bent => k_is)
    (case a_is_plain_number => k_is)
    (case l_is_plain_number => k_is)
    (case e_is_plain_number => k_is)
    (case k_is_plain_number => k_is)
    (case a_is_level_pair => k_is)
    (case l_is_level_pair => k_is)
    (case e_is_level_pair => k_is)
    (case k_is_level_pair => k_is)
    (case a_shows_fair => k_is)
    (case l_shows_fair => k_is)
    (case e_shows_fair => k_is)
    (case k_shows_fair => k_is)
    (case a__law_fair => k_is)
    (case l__law_fair => k_is)
    (case e__law_fair => k_is)
    (case k__law_fair => k_is)
    (case a_law => k_is)
    (case l_law => k_is)
    (case e_law => k_is)
    (case k_law => k_is)
    (case z_list => k_is)
    (case z_enumerate => k_is)
    (case z_len => k_is)
    (case z_abs => k_is)
    (case z_int => k_is)
    (case z_divmod => k_is)
    (case z_range => k_is)
    (case z_sum => k_is)
    (case z_ArithmeticError => k_is)
    (case z_sorted => k_is)
    (case z_isinstance => k_is)
    (case z_bool => k_is)
    (case z_zip => k_is)
    (case z_any => k_is)
    (case z_all => k_is)
    (case z_max => k_is)
    (case z_tuple => k_is)
    (case z_repr => k_is)
    (case ci_TooLow => kx_is)
    (case co_TooLow => kx_is)
    (case hd_TooLow => k_is)
    (case sa_TooLow => k_is)
    (case xc_TooLow => k_is)
    (case tc_TooLow => k_is)
    (case kc_TooLow => k_is)
    (case nw_TooLow => k_is)
    (case cc_TooLow => k_is)
    (case ga_TooLow => k_is)
    (case gt_TooLow => k_is)
    (case ca_TooLow => k_is)
    (case mo_TooLow => k_is)
    (case tf_TooLow => k_is)
    (case vb_TooLow => k_is)
    (case dg_exc => k_is)
    (case tk_exc => k_is)
    (case lc_part_heap => rfl)
    (case nt_part_heap => first | k_is | kernel_rfl | rfl)
    (case ch_part_heap => first | k_is | kernel_rfl | rfl)
