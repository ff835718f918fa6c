import PyProof.Rows.All
import Wide.All
import OpenK.AllK
import Wide.FinOn
import HandS.ForMost
import HandS.IsInst
import HandS.StrMore
import HandS.Walk
import HandS.SortInts
import HandS.Zip
import HandS.Style
import HandS.MakeKw
import HandS.TupAny
import HandS.Exc
import HandS.ExcInit
import HandS.ExcOwn
import HandS.CallSlots
import HandS.ExcIs
import HandS.ExcField
import HandS.WordsExc
import KE.KExcInit
import KE.KTryMore
import KE.KExcIs
import KE.KExcLine
import KE.RegKIsAll
import KE.RegKTryMore
import PySem.Challenge.RW_stallshares_k02_sum_texts_spoilt_anywher
set_option Elab.async false
set_option linter.all false
set_option maxRecDepth 100000
set_option maxHeartbeats 4000000
/-! the shared layer: heaps but for some mutable places, the box of draws -/
namespace Z
open PySem L2

/-- H without the places of M -/
def hid (M : List Addr) (H : Hp) : Hp := fun a => if a ∈ M then none else H a
theorem hid_of {M : List Addr} {H : Hp} {a : Addr} (h : a ∉ M) : hid M H a = H a := if_neg h
theorem hid_none {M : List Addr} {H : Hp} {a : Addr} (h : H a = none) : hid M H a = none := by
  unfold hid; split <;> simp_all
theorem hid_same {M : List Addr} {H : Hp} : Same (hid M H) H := fun a o h => by
  unfold hid at h
  split at h
  · cases h
  · exact h
/-- what stands outside M is as it was -/
def Fr (M : List Addr) (H H' : Hp) : Prop := ∀ a o, a ∉ M → H a = some o → H' a = some o
theorem Fr.refl (M : List Addr) (H : Hp) : Fr M H H := fun _ _ _ h => h
theorem Fr.trans {M : List Addr} {H H1 H2 : Hp} (a : Fr M H H1) (b : Fr M H1 H2) : Fr M H H2 := fun x o n h => b x o n (a x o n h)
theorem Same.fr {M : List Addr} {H H' : Hp} (s : Same H H') : Fr M H H' := fun a o _ h => s a o h
theorem Fr.same {M : List Addr} {H H' : Hp} (f : Fr M H H') : Same (hid M H) (hid M H') := fun a o h => by
  unfold hid at h ⊢
  split at h
  · cases h
  · next n => rw [if_neg n]; exact f a o n h
theorem Fr.new {M : List Addr} {H : Hp} {p : Addr} {o : HO} (h : H p = none) : Fr M H (upd H p o) := fun a u _ e => by
  rw [upd_ne (ne_of_none e h)]; exact e
theorem Same.new {H : Hp} {p : Addr} {o : HO} (h : H p = none) : Same H (upd H p o) := fun a u e => by
  rw [upd_ne (ne_of_none e h)]; exact e
theorem Fr.put {M : List Addr} {H H' : Hp} {p : Addr} {o : HO} (f : Fr M H H') (h : p ∈ M) : Fr M H (upd H' p o) := fun a u n e => by
  rw [upd_ne (fun q : a = p => n (by rw [q]; exact h))]; exact f a u n e
theorem Fr.mono {M N : List Addr} {H H' : Hp} (f : Fr M H H') (s : ∀ a ∈ M, a ∈ N) : Fr N H H' := fun a o n h => f a o (fun q => n (s a q)) h
theorem Fr.nil {H H' : Hp} (f : Fr [] H H') : Same H H' := fun a o h => f a o (by simp) h
theorem Fr.back {M : List Addr} {H H' : Hp} {p : Addr} (f : Fr M H H') (hp : p ∉ M) (h : H' p = none) : H p = none := by
  cases q : H p with
  | none => rfl
  | some o => rw [f p o hp q] at h; cases h
theorem Fr.out {M : List Addr} {H H1 H2 : Hp} (f : Fr M H1 H2) (s : Same H H1) (hM : ∀ b ∈ M, H b = none) : Same H H2 := fun a o h => f a o (fun q => by rw [hM a q] at h; cases h) (s a o h)
theorem Fr.drop {M : List Addr} {H H' : Hp} {f : Addr} (fr : Fr (M ++ [f]) H H') (h : H f = none) : Fr M H H' := fun a o n e => fr a o (by
  simp only [List.mem_append, List.mem_singleton, not_or]
  exact ⟨n, ne_of_none e h⟩) e
theorem SqL.mono {K : PySem.W.Frag} {H H' : Hp} {a : Addr} {xs : List V} (e : Same H H') (h : SqL K H a xs) : SqL K H' a xs := e.seq h
theorem SqT.mono {K : PySem.W.Frag} {H H' : Hp} {a : Addr} {xs : List V} (e : Same H H') (h : SqT K H a xs) : SqT K H' a xs := by
  rcases h with (h | ⟨o, h⟩) | h
  · exact .inl (.inl (e _ _ h))
  · exact .inl (.inr ⟨o, e _ _ h⟩)
  · exact .inr h
mutual
theorem Dp.mono {K : PySem.W.Frag} {H H' : Hp} (e : Same H H') : ∀ {v : V} {d : PyData}, Dp K H v d → Dp K H' v d
  | _, _, .non => .non
  | _, _, .bl b => .bl b
  | _, _, .int i => .int i
  | _, _, .str x => .str x
  | _, _, .lst h r => .lst (SqL.mono e h) (DpAll.mono e r)
  | _, _, .tup h r => .tup (SqT.mono e h) (DpAll.mono e r)
theorem DpAll.mono {K : PySem.W.Frag} {H H' : Hp} (e : Same H H') : ∀ {v : List V} {d : List PyData}, DpAll K H v d → DpAll K H' v d
  | _, _, .nil => .nil
  | _, _, .cons a b => .cons (Dp.mono e a) (DpAll.mono e b)
end

theorem DpAll.length {K : PySem.W.Frag} {H : Hp} : ∀ {v : List V} {d : List PyData}, DpAll K H v d → v.length = d.length
  | _, _, .nil => rfl
  | _, _, .cons _ b => by rw [List.length_cons, List.length_cons, DpAll.length b]
theorem DpAll.get {K : PySem.W.Frag} {H : Hp} : ∀ {v : List V} {d : List PyData} {i : Nat} {x : V}, DpAll K H v d → v[i]? = some x → ∃ y, d[i]? = some y ∧ Dp K H x y
  | _, _, _, _, .nil, h => by simp at h
  | _, _, 0, _, .cons a _, h => by simp at h; subst h; exact ⟨_, rfl, a⟩
  | _, _, i + 1, _, .cons _ b, h => by
    obtain ⟨y, e, q⟩ := DpAll.get (i := i) b (by simpa using h)
    exact ⟨y, by simpa using e, q⟩
theorem Dp.list_of {K : PySem.W.Frag} {H : Hp} {v : V} {ds : List PyData} (h : Dp K H v (.list ds)) : ∃ a xs, v = .ref a ∧ SqL K H a xs ∧ DpAll K H xs ds := by
  cases h with
  | lst s r => exact ⟨_, _, rfl, s, r⟩
theorem Dp.tuple_of {K : PySem.W.Frag} {H : Hp} {v : V} {ds : List PyData} (h : Dp K H v (.tuple ds)) : ∃ a xs, v = .ref a ∧ SqT K H a xs ∧ DpAll K H xs ds := by
  cases h with
  | tup s r => exact ⟨_, _, rfl, s, r⟩
/-- the built-in class of data -/
def kindD : PyData → String
  | .none => "NoneType"
  | .bool _ => "bool"
  | .int _ => "int"
  | .str _ => "str"
  | .list _ => "list"
  | .tuple _ => "tuple"
  | .dict _ => "dict"
theorem SqL.ty {K : PySem.W.Frag} {H : Hp} {a : Addr} {xs : List V} (h : SqL K H a xs) : TyX K H (.ref a) (.type "list") := by
  rcases h with (h | ⟨o, h⟩) | ⟨o, its, n, e, c, _⟩
  · exact .base (.lst h)
  · exact .base (.frz h)
  · exact .kList e c
theorem SqT.ty {K : PySem.W.Frag} {H : Hp} {a : Addr} {xs : List V} (h : SqT K H a xs) : TyX K H (.ref a) (.type "tuple") := by
  rcases h with (h | ⟨o, h⟩) | ⟨o, its, n, e, c, _⟩
  · exact .base (.tup h)
  · exact .fTuple h
  · exact .kTuple e c
theorem Dp.ty {K : PySem.W.Frag} {H : Hp} {v : V} {d : PyData} (h : Dp K H v d) : TyX K H v (.type (kindD d)) := by
  cases h with
  | non => exact .base .non
  | bl b => exact .base (.bl b)
  | int i => exact .base (.int i)
  | str x => exact .base (.str x)
  | lst s _ => exact SqL.ty s
  | tup s _ => exact SqT.ty s
theorem tyD {K : PySem.W.Frag} {H : Hp} {v : V} {d : PyData} (A : String) (h : Dp K H v d) (e : kindD d = A) : TyX K H v (.type A) := e ▸ Dp.ty h
theorem ltC : Paired ClsV [.ty "list", .ty "tuple"] [.type "list", .type "tuple"] := .cons (.ty _) (.cons (.ty _) .nil)
theorem kitLT {K : PySem.W.Frag} (A : String) (b c : Bool) (k : kitB A "list" = some b) (k2 : kitB A "tuple" = some c) : PySem.W.kitAny K (.type A) [.type "list", .type "tuple"] = some (b || c) := by
  refine kitAny_cons (kit_ty k) (fun e => ?_) (fun e => by rw [e]; rfl)
  subst e
  exact kitAny_cons (kit_ty k2) (fun e => by subst e; exact kitAny_nil) (fun e => by rw [e]; rfl)
theorem lay_mem : ∀ {ds : List PyData} {d : PyData}, PyData.canLayAll0 ds = true → d ∈ ds → d.canLay0 = true
  | [], _, _, h => by cases h
  | x :: r, d, h, hm => by
    have h' : (x.canLay0 && PyData.canLayAll0 r) = true := h
    rw [Bool.and_eq_true] at h'
    rcases List.mem_cons.mp hm with rfl | hm
    · exact h'.1
    · exact lay_mem h'.2 hm
theorem depth_mem : ∀ {ds : List PyData} {d : PyData}, d ∈ ds → d.depth ≤ PyData.depthAll ds
  | [], _, h => by cases h
  | x :: r, d, hm => by
    show _ ≤ max x.depth (PyData.depthAll r)
    rcases List.mem_cons.mp hm with rfl | hm
    · exact Nat.le_max_left _ _
    · exact Nat.le_trans (depth_mem hm) (Nat.le_max_right _ _)
theorem shaped_mem {ds : List PyData} {d : PyData} (h : SeqAt.shaped (.list ds) = true ∨ SeqAt.shaped (.tuple ds) = true) (hm : d ∈ ds) : SeqAt.shaped d = true ∧ d.depth ≤ PyData.depthAll ds := by
  have h1 : PyData.canLayAll0 ds = true ∧ PyData.depthAll ds + 1 ≤ 64 := by
    rcases h with h | h
    · exact ⟨SeqAt.canLay_of_shaped h, SeqAt.depth_of_shaped h⟩
    · exact ⟨SeqAt.canLay_of_shaped h, SeqAt.depth_of_shaped h⟩
  have h2 := depth_mem hm
  refine ⟨?_, h2⟩
  unfold SeqAt.shaped
  rw [lay_mem h1.1 hm, decide_eq_true (by omega)]
  rfl
mutual
/-- how many things data is made of -/
def nodes : PyData → Nat
  | .list xs => nodesAll xs + 1
  | .tuple xs => nodesAll xs + 1
  | _ => 1
def nodesAll : List PyData → Nat
  | [] => 0
  | x :: r => nodes x + nodesAll r
end
theorem nodes_pos (d : PyData) : 1 ≤ nodes d := by cases d <;> simp [nodes]
theorem len_nodes : ∀ ds : List PyData, ds.length ≤ nodesAll ds
  | [] => Nat.le_refl _
  | x :: r => by
    have h1 := nodes_pos x
    have h2 := len_nodes r
    show r.length + 1 ≤ nodes x + nodesAll r
    omega
theorem nodes_mem : ∀ {ds : List PyData} {d : PyData}, d ∈ ds → nodes d ≤ nodesAll ds
  | [], _, h => by cases h
  | x :: r, d, hm => by
    show _ ≤ nodes x + nodesAll r
    rcases List.mem_cons.mp hm with rfl | hm
    · omega
    · have := nodes_mem hm
      omega
theorem walk_zipT {K : PySem.W.Frag} {a b : Addr} {xs ys : List V} {n : Nat} (hn : n = min xs.length ys.length) :
    Walk (RZ.ItzT K a b) n (fun H => SqT K H a xs ∧ SqT K H b ys) (YPair (fun i => xs[i]?) (fun i => ys[i]?)) := by
  refine ⟨fun i H hi q => ?_, fun H q => ⟨xs, ys, q.1, q.2, by omega⟩, fun i H v H' hi q y => ?_⟩
  · exact ⟨xs, ys, xs[i]'(by omega), ys[i]'(by omega), q.1, q.2, List.getElem?_eq_getElem (by omega), List.getElem?_eq_getElem (by omega)⟩
  · obtain ⟨t, x, z, e1, e2, e3, e4, e5⟩ := y
    exact ⟨t, x, z, e1, e2, e3, e4 xs q.1, e5 ys q.2⟩
/-- a comprehension that lays g of each, nothing else being changed -/
structure LcP {α : Type} (H1 : Hp) (D : Addr) (xs : List α) (g : α → V) (i : Nat) (H : Hp) : Prop where
  new : H1 D = none
  same : Same H1 H
  at_ : H D = some (.lst ((xs.take i).map g))
theorem LcP.start {α : Type} {H1 : Hp} {D : Addr} {xs : List α} {g : α → V} (h : H1 D = none) : LcP H1 D xs g 0 (upd H1 D (.lst [])) := ⟨h, Same.new h, upd_same⟩
theorem LcP.step {α : Type} {H1 H H4 : Hp} {D : Addr} {xs : List α} {g : α → V} {i : Nat} {x : α} {y : V} (p : LcP H1 D xs g i H) (s : Same H H4) (hx : xs[i]? = some x) (hy : y = g x) (hl : xs.length ≤ sizeLine) :
    ∃ acc, H4 D = some (.lst acc) ∧ acc.length < sizeLine ∧ LcP H1 D xs g (i + 1) (upd H4 D (.lst (acc ++ [y]))) := by
  have hi : i < xs.length := (List.getElem?_eq_some_iff.mp hx).1
  refine ⟨_, s _ _ p.at_, by simp; omega, p.new, fun b o e => ?_, ?_⟩
  · rw [upd_ne (ne_of_none e p.new)]
    exact s _ _ (p.same _ _ e)
  · rw [upd_same, hy, List.take_add_one, hx, List.map_append]
    rfl
theorem LcP.done {α : Type} {H1 H : Hp} {D : Addr} {xs : List α} {g : α → V} (p : LcP H1 D xs g xs.length H) : H D = some (.lst (xs.map g)) := by
  have h := p.at_
  rw [List.take_length] at h
  exact h

/-- a comprehension: what is laid so far is told by A -/
structure LcA (H1 : Hp) (D : Addr) (A : Nat → List V) (i : Nat) (H : Hp) : Prop where
  new : H1 D = none
  same : Same H1 H
  at_ : H D = some (.lst (A i))
theorem LcA.start {H1 : Hp} {D : Addr} {A : Nat → List V} (h : H1 D = none) (h0 : A 0 = []) : LcA H1 D A 0 (upd H1 D (.lst [])) := ⟨h, Same.new h, by rw [upd_same, h0]⟩
theorem LcA.put {H1 H H4 : Hp} {D : Addr} {A : Nat → List V} {i : Nat} {y : V} (p : LcA H1 D A i H) (s : Same H H4) (hA : A (i + 1) = A i ++ [y]) (hl : (A i).length < sizeLine) :
    ∃ acc, H4 D = some (.lst acc) ∧ acc.length < sizeLine ∧ LcA H1 D A (i + 1) (upd H4 D (.lst (acc ++ [y]))) := by
  refine ⟨_, s _ _ p.at_, hl, p.new, fun b o e => ?_, by rw [upd_same, hA]⟩
  rw [upd_ne (ne_of_none e p.new)]
  exact s _ _ (p.same _ _ e)
theorem LcA.skip {H1 H H4 : Hp} {D : Addr} {A : Nat → List V} {i : Nat} (p : LcA H1 D A i H) (s : Same H H4) (hA : A (i + 1) = A i) : LcA H1 D A (i + 1) H4 :=
  ⟨p.new, p.same.trans s, by rw [hA]; exact s _ _ p.at_⟩

/-- tuples and locked things stay -/
def Immut : HO → Prop
  | .tup _ => True
  | .frz _ _ => True
  | .ins _ _ _ => True
  | .own _ => True
  | _ => False
def KeepT (H H' : Hp) : Prop := ∀ t u, Immut u → H t = some u → H' t = some u
theorem KeepT.refl (H : Hp) : KeepT H H := fun _ _ _ h => h
theorem KeepT.trans {H H1 H2 : Hp} (a : KeepT H H1) (b : KeepT H1 H2) : KeepT H H2 := fun t u i h => b t u i (a t u i h)
theorem Same.kt {H H' : Hp} (s : Same H H') : KeepT H H' := fun t u _ h => s t u h
theorem KeepT.new {H : Hp} {p : Addr} {o : HO} (h : H p = none) : KeepT H (upd H p o) := Same.kt (Same.new h)
theorem KeepT.lst {H : Hp} {p : Addr} {xs : List V} {o : HO} (h : H p = some (.lst xs)) : KeepT H (upd H p o) := fun t u i e => by
  have hn : t ≠ p := fun q => by
    rw [q, h] at e
    cases e
    exact i
  rw [upd_ne hn]
  exact e
mutual
def noList : PyData → Bool
  | .list _ => false
  | .dict _ => false
  | .tuple xs => noLists xs
  | _ => true
def noLists : List PyData → Bool
  | [] => true
  | x :: r => noList x && noLists r
end
theorem SqT.keep {K : PySem.W.Frag} {H H' : Hp} {a : Addr} {xs : List V} (e : KeepT H H') (h : SqT K H a xs) : SqT K H' a xs := by
  rcases h with (h | ⟨o, h⟩) | h
  · exact .inl (.inl (e _ _ trivial h))
  · exact .inl (.inr ⟨o, e _ _ trivial h⟩)
  · exact .inr h
mutual
theorem Dp.keep {K : PySem.W.Frag} {H H' : Hp} (e : KeepT H H') : ∀ {v : V} {d : PyData}, Dp K H v d → noList d = true → Dp K H' v d
  | _, _, .non, _ => .non
  | _, _, .bl b, _ => .bl b
  | _, _, .int i, _ => .int i
  | _, _, .str x, _ => .str x
  | _, _, .lst _ _, h => by cases h
  | _, _, .tup s r, h => .tup (SqT.keep e s) (DpAll.keep e r h)
theorem DpAll.keep {K : PySem.W.Frag} {H H' : Hp} (e : KeepT H H') : ∀ {v : List V} {d : List PyData}, DpAll K H v d → noLists d = true → DpAll K H' v d
  | _, _, .nil, _ => .nil
  | _, _, .cons a b, h => by
    have h' := Bool.and_eq_true_iff.mp h
    exact .cons (Dp.keep e a h'.1) (DpAll.keep e b h'.2)
end
theorem DpAll.snoc {K : PySem.W.Frag} {H : Hp} {y : V} {c : PyData} (hy : Dp K H y c) : ∀ {v : List V} {d : List PyData}, DpAll K H v d → DpAll K H (v ++ [y]) (d ++ [c])
  | _, _, .nil => .cons hy .nil
  | _, _, .cons a b => .cons a (DpAll.snoc hy b)
theorem DpAll.take {K : PySem.W.Frag} {H : Hp} : ∀ {v : List V} {d : List PyData} (n : Nat), DpAll K H v d → DpAll K H (v.take n) (d.take n)
  | _, _, 0, _ => .nil
  | _, _, _ + 1, .nil => .nil
  | _, _, n + 1, .cons a b => .cons a (DpAll.take n b)
theorem DpAll.set {K : PySem.W.Frag} {H : Hp} {y : V} {c : PyData} (hy : Dp K H y c) : ∀ {v : List V} {d : List PyData} (n : Nat), DpAll K H v d → DpAll K H (v.set n y) (d.set n c)
  | _, _, _, .nil => .nil
  | _, _, 0, .cons _ b => .cons hy b
  | _, _, n + 1, .cons a b => .cons a (DpAll.set hy n b)

theorem DpAll.ints {K : PySem.W.Frag} {H : Hp} : ∀ ns : List Int, DpAll K H (ns.map V.int) (ns.map .int)
  | [] => .nil
  | n :: r => .cons (.int n) (DpAll.ints r)
theorem lay_ints (ns : List Int) : PyData.canLayAll0 (ns.map .int) = true ∧ PyData.depthAll (ns.map .int) = 0 ∧ nodesAll (ns.map .int) = ns.length := by
  induction ns with
  | nil => exact ⟨rfl, rfl, rfl⟩
  | cons n r ih =>
    refine ⟨ih.1, ?_, ?_⟩
    · show max 0 (PyData.depthAll (r.map .int)) = 0
      rw [ih.2.1]
      rfl
    · show 1 + nodesAll (r.map .int) = r.length + 1
      rw [ih.2.2]
      omega
theorem shaped_ints (ns : List Int) : SeqAt.shaped (.list (ns.map .int)) = true := by
  obtain ⟨h1, h2, _⟩ := lay_ints ns
  show (PyData.canLayAll0 (ns.map .int) && decide (PyData.depthAll (ns.map .int) + 1 ≤ 64)) = true
  rw [h1, h2]
  rfl
/-- those of xs whose data is kept -/
def selV {α : Type} (k : α → Bool) (xs : List V) (ps : List α) : List V := ((xs.zip ps).filter fun z => k z.2).map Prod.fst
theorem DpAll.sel {α : Type} {K : PySem.W.Frag} {H : Hp} {k : α → Bool} {g : α → PyData} : ∀ {xs : List V} {ps : List α}, DpAll K H xs (ps.map g) → DpAll K H (selV k xs ps) ((ps.filter k).map g)
  | [], [], _ => .nil
  | _ :: _, [], h => by cases h
  | [], _ :: _, h => by cases h
  | x :: xs, p :: ps, h => by
    cases h with
    | cons a b =>
      have ih := DpAll.sel (k := k) b
      unfold selV at ih ⊢
      rw [List.zip_cons_cons, List.filter_cons, List.filter_cons]
      cases hk : k p
      · rw [if_neg (by simp [hk]), if_neg (by simp)]
        exact ih
      · rw [if_pos (by simp [hk]), if_pos rfl]
        exact .cons a ih
theorem selV_take {α : Type} {k : α → Bool} {xs : List V} {ps : List α} {i : Nat} {x : V} {p : α} (hx : xs[i]? = some x) (hp : ps[i]? = some p) :
    selV k (xs.take (i + 1)) (ps.take (i + 1)) = selV k (xs.take i) (ps.take i) ++ (if k p then [x] else []) := by
  unfold selV
  have tz : ∀ n, (xs.take n).zip (ps.take n) = (xs.zip ps).take n := fun n => by rw [List.zip_eq_zipWith, List.zip_eq_zipWith, List.take_zipWith]
  rw [tz, tz, List.take_add_one, (List.getElem?_zip_eq_some (z := (x, p))).mpr ⟨hx, hp⟩, List.filter_append, List.map_append]
  congr 1
  cases hk : k p <;> simp [hk]
theorem selV_len {α : Type} {k : α → Bool} {xs : List V} {ps : List α} : (selV k xs ps).length ≤ xs.length := by
  unfold selV
  rw [List.length_map]
  exact Nat.le_trans (List.length_filter_le _ _) (by rw [List.length_zip]; omega)

/-- the box of draws at B, n draws behind it at most -/
def Box (H : Hp) (B : Addr) (n : Nat) : Prop := ∃ b0 b1 b2 : Int, H B = some (.lst [.int b0, .int b1, .int b2]) ∧ 0 ≤ b0 ∧ 0 ≤ b1 ∧ b1 < 2147483647 ∧ 0 ≤ b2 ∧ b2 ≤ (n : Int)
theorem Box.mono {H : Hp} {B : Addr} {n m : Nat} (b : Box H B n) (h : n ≤ m) : Box H B m := by
  obtain ⟨b0, b1, b2, e, h0, h1, h2, h3, h4⟩ := b
  exact ⟨b0, b1, b2, e, h0, h1, h2, h3, by omega⟩
theorem Box.some {H : Hp} {B : Addr} {n : Nat} (b : Box H B n) : ∃ o, H B = some o := by
  obtain ⟨b0, b1, b2, e, _⟩ := b
  exact ⟨_, e⟩
theorem Box.keep {H H' : Hp} {B : Addr} {n : Nat} (b : Box H B n) (s : Same H H') : Box H' B n := by
  obtain ⟨b0, b1, b2, e, h⟩ := b
  exact ⟨b0, b1, b2, s _ _ e, h⟩
theorem Box.put {H : Hp} {B p : Addr} {n : Nat} {o : HO} (b : Box H B n) (h : p ≠ B) : Box (upd H p o) B n := by
  obtain ⟨b0, b1, b2, e, r⟩ := b
  exact ⟨b0, b1, b2, by rw [upd_ne h.symm]; exact e, r⟩
theorem Box.ne {H : Hp} {B p : Addr} {n : Nat} (b : Box H B n) (h : H p = none) : p ≠ B := by
  obtain ⟨o, e⟩ := b.some
  exact (ne_of_none e h).symm
theorem Fr.kt {H H' : Hp} {B : Addr} {n : Nat} (f : Fr [B] H H') (b : Box H B n) : KeepT H H' := fun t u i e => by
  have hn : t ≠ B := fun q => by
    obtain ⟨b0, b1, b2, hB, _⟩ := b
    rw [q, hB] at e
    cases e
    exact i
  exact f t u (by simp [hn]) e
theorem atI_in {xs : List V} {r : Int} (h0 : 0 ≤ r) (h1 : r < xs.length) : ∃ v, atI xs r = some v ∧ v ∈ xs := by
  obtain ⟨j, rfl⟩ := Int.eq_ofNat_of_zero_le h0
  have hj : j < xs.length := by omega
  exact ⟨xs[j], atI_nat (List.getElem?_eq_getElem hj), List.getElem_mem hj⟩
theorem walk_range0 {n : Nat} : Walk (Itr 0 n) n (fun _ => True) (YFn fun i => .int ((i : Nat) : Int)) :=
  walk_range.mono (fun _ h => h) fun i H x H' _ _ y => ⟨y.1, by rw [y.2]; show V.int (0 + (i : Int)) = V.int (i : Int); rw [Int.zero_add]⟩
theorem iteD {p A B : Prop} [Decidable p] (h1 : p → A) (h2 : ¬ p → B) : if decide p = true then A else B := by
  by_cases h : p
  · rw [if_pos (decide_eq_true h)]; exact h1 h
  · rw [if_neg (by rw [decide_eq_false h]; exact Bool.false_ne_true)]; exact h2 h
theorem iteND {p A B : Prop} [Decidable p] (h1 : ¬ p → A) (h2 : p → B) : if (!decide p) = true then A else B := by
  by_cases h : p
  · rw [decide_eq_true h]; exact iteF (h2 h)
  · rw [decide_eq_false h]; exact iteT (h1 h)
theorem iteDS {p A B : Prop} [Decidable p] (h : p) (a : A) : if decide p = true then A else B := by rw [if_pos (decide_eq_true h)]; exact a
theorem iteDN {p A B : Prop} [Decidable p] (h : ¬ p) (b : B) : if decide p = true then A else B := by rw [decide_eq_false h]; exact iteF b
theorem iteNDN {p A B : Prop} [Decidable p] (h : ¬ p) (a : A) : if (!decide p) = true then A else B := by rw [decide_eq_false h]; exact iteT a
theorem ixN_nat {n j : Nat} (h : j < n) : ixN n (j : Int) = some j := by
  unfold ixN
  rw [if_pos (by omega), if_pos (by omega), Int.toNat_natCast]
def rLenK (K : PySem.W.Frag) : List V → Hp → VK → Prop := fun xs H Q => ∃ p ys, xs = [.ref p] ∧ (SqL K H p ys ∨ SqT K H p ys) ∧ Q (.int ys.length) H
theorem call_len_seqK {X : Cx} {K : PySem.W.Frag} (h : X.K = K) : CallR X (.builtin "len") (rLenK K) := by
  subst h
  exact call_len_seq
theorem atI_last {xs : List V} {x : V} (h : xs[xs.length - 1]? = some x) : atI xs (-1) = some x := by
  have hl : xs.length - 1 < xs.length := (List.getElem?_eq_some_iff.mp h).1
  have e : ixN xs.length (-1) = some (xs.length - 1) := by
    unfold ixN
    rw [if_neg (by decide), if_pos (by omega)]
    congr 1
    omega
  unfold atI
  rw [e]
  exact h
theorem ixN_last {n : Nat} (h : 0 < n) : ixN n (-1) = some (n - 1) := by
  unfold ixN
  rw [if_neg (by decide), if_pos (by omega)]
  congr 1
  omega
theorem vals3 {a b c : V} {us : List Value} (r : Vals [a, b, c] us) : ∃ x y z, us = [x, y, z] ∧ RelV a x ∧ RelV b y ∧ RelV c z := by
  cases r with
  | cons r1 r => cases r with
    | cons r2 r => cases r with
      | cons r3 r => cases r; exact ⟨_, _, _, rfl, r1, r2, r3⟩
def max3 (i j k : Int) : Int := if k > (if j > i then j else i) then k else (if j > i then j else i)
theorem call_max3 {X : Cx} (hc : X.calm = true) : CallR X (.builtin "max") (fun xs H Q => ∃ i j k, xs = [.int i, .int j, .int k] ∧ Q (.int (max3 i j k)) H) := by
  intro pins s σ H xs us Q I r h
  obtain ⟨i, j, k, rfl, q⟩ := h
  obtain ⟨u, v, w', rfl, ⟨t, rfl⟩, ⟨t', rfl⟩, ⟨t'', rfl⟩⟩ := vals3 r
  refine max_three_ints (I.ok.hd hc) fun h' tk kk => ⟨_, H, I.kept kk, ?_, q⟩
  unfold max3
  by_cases h1 : j > i
  · rw [if_pos h1, if_pos h1]
    by_cases h2 : k > j
    · rw [if_pos h2, if_pos h2]; exact ⟨_, rfl⟩
    · rw [if_neg h2, if_neg h2]; exact ⟨_, rfl⟩
  · rw [if_neg h1, if_neg h1]
    by_cases h2 : k > i
    · rw [if_pos h2, if_pos h2]; exact ⟨_, rfl⟩
    · rw [if_neg h2, if_neg h2]; exact ⟨_, rfl⟩
theorem putF_len (f : Str) (v : V) : ∀ l : List (Str × V), (putF f v l).length ≤ l.length + 1
  | [] => Nat.le_refl _
  | (g, w) :: r => by
    unfold putF
    split
    · exact Nat.le_succ _
    · have := putF_len f v r
      simp only [List.length_cons]
      omega
theorem putF_few {f : Str} {v : V} {l : List (Str × V)} {n : Nat} (h : l.length ≤ n) : (putF f v l).length ≤ n + 1 := Nat.le_trans (putF_len f v l) (Nat.succ_le_succ h)
theorem putF_ok {l : List (Str × V)} {n : Nat} (h : l.length ≤ n) (hn : n < 1000) : l.length < 1000 := Nat.lt_of_le_of_lt h hn
theorem ix3 {a b c : V} : (atI [a, b, c] 0 = some a ∧ atI [a, b, c] 1 = some b ∧ atI [a, b, c] 2 = some c) := ⟨rfl, rfl, rfl⟩

theorem log2_ok {x : Int} (h : x.natAbs < 2 ^ 200) : x.natAbs.log2 < 1920 := by
  by_cases h0 : x.natAbs = 0
  · rw [h0]; decide
  · exact Nat.lt_of_lt_of_le ((Nat.log2_lt h0).mpr h) (by decide)
theorem log2_ok18 {x : Int} (h : x.natAbs < 10 ^ 18) : x.natAbs.log2 < 1920 := log2_ok (Nat.lt_of_lt_of_le h (by decide))
theorem ite01 (b : Bool) : (0 : Int) ≤ (if b = true then 1 else 0) := by cases b <;> decide
theorem pe_globE {X : Cx} {x : Str} {v : V} {pos : Pos} (hg : Gl X x) (h : ∃ u, X.mg x = some u ∧ RelV v u) (hd : (x == ("__debug__" : Str)) = false := by decide) : PE X (.Name x pos) (tC v) := by
  obtain ⟨u, hm, r⟩ := h
  exact pe_glob hg hm r hd
/-- s.rpartition(t) -/
theorem mt_rpartition {X : Cx} : MtR X "str.rpartition" (fun x xs H Q => ∃ a b, x = .str a ∧ xs = [.str b] ∧ (b.length == 0) = false ∧ a.length ≤ sizeLine ∧
    ∀ p, H p = none → Q (.ref p) (upd H p (.tup [.str (Txt.rpartition a b).1, .str (Txt.rpartition a b).2.1, .str (Txt.rpartition a b).2.2]))) := by
  intro pins s σ H x xs v us Q I rx rs h
  obtain ⟨a, b, rfl, rfl, hb, hz, h⟩ := h
  obtain ⟨t, rfl⟩ := rx
  cases rs with
  | cons r1 rs =>
    cases rs
    obtain ⟨u, rfl⟩ := r1
    refine call_meets F.slot_str_rpartition (typeIs_str _ _ _) F.entry_str_rpartition (F.args_str_rpartition_2 _ _) (meets_str_rpartition a b t u hb hz) ?_
    unfold Txt.rpartition at h
    revert h
    cases Builtin.Str.lastOccurrence a b 0 a.length with
    | none => intro h; exact laid_parts I h
    | some i => intro h; exact laid_parts I h
end Z
/-! defs that run while no repr is under way; repr and str of data -/
namespace Z
open PySem L2 PySem.Spec PyProof.Rows

/-- a promise that is kept wherever no repr is under way -/
structure FnG (P : Program) (w : World) (K : PySem.W.Frag) (mg : Str → Option Value) (base : Heap) (k : Nat) (f : Addr) (fd : FuncData)
    (ps : List Str) (sp : Sp) : Prop where
  size : ∀ vs H Q E, sp vs H Q E → vs.length = ps.length
  goes : ∀ (A : Around) (outer : List Env) (s : Shared) (H : Hp) (args : Args) (us : List Value) (vs : List V) (Q : VK) (E : XK),
    Room k A → A.guards = some [] → Env0 P w K mg base A outer s H → BindsTo s fd args (ps.zip us) → Vals vs us → sp vs H Q E →
    codeAny (model P w) A (.call (.ref f) args) (CR CX0 outer P w H s Q E) s
section
variable {P : Program} {w : World} {K : PySem.W.Frag} {mg : Str → Option Value} {base : Heap} {k : Nat} {f : Addr} {fd : FuncData} {ps : List Str} {sp : Sp}
theorem FnG.of (F : FnOk P w K mg base CX0 k f fd ps sp) : FnG P w K mg base k f fd ps sp :=
  ⟨F.len, fun A outer s H args us vs Q E hr _ => F.run A outer s H args us vs Q E hr⟩
theorem FnG.fit (F : FnG P w K mg base k f fd ps sp) {j : Nat} (h : k ≤ j) : FnG P w K mg base j f fd ps sp :=
  ⟨F.size, fun A outer s H args us vs Q E hr => F.goes A outer s H args us vs Q E (hr.mono h)⟩
/-- its body, in a frame of which it is known that no repr is under way -/
theorem okG {x qual : Str} {st : Stmt} {N : List Str} (F : Fun K x qual st f fd) (S : FnScope N ps (defScope st))
    (len : ∀ vs H Q E, sp vs H Q E → vs.length = ps.length)
    (body : ∀ (cdv : Value) (A : Around) (outer : List Env) (s : Shared) (H : Hp) (vs : List V) (Q : VK) (E : XK),
      Room k (A.deeper (envOfC qual (defScope st) s.heap.objs.size f cdv)) →
      (A.deeper (envOfC qual (defScope st) s.heap.objs.size f cdv)).guards = some [] → sp vs H Q E →
      ∃ t, PSs (cxOf CX0 P w K mg base N qual (defScope st) f cdv A outer s H E).nox (defBody st) t ∧
        t { nx := fun _ H' => Q .non H', rt := Q } (start N vs) H) :
    FnG P w K mg base (k + 1) f fd ps sp := by
  obtain ⟨oc, od, kV, doc, pm, an, cdv, ct, osl, rfl, at_f, code⟩ := F.ex
  refine ⟨len, fun A outer s H args us vs Q E room calm start0 binds rel want => ?_⟩
  have here : K.In s.heap := start0.mod.kin.keeps fun b o e => (start0.bs b o e).1
  have nolim : s.heap.NoLimit := start0.mod.nolimit.keeps fun b o e => (start0.bs b o e).1
  obtain ⟨t, der, rd⟩ := body cdv A outer s H vs Q E (room.deeper _) calm want
  have kinds : ∀ y ∈ ps.zip us, (defScope st).names.lookup y.1 = some .local ∨
      ((defScope st).names.lookup y.1 = some .cell ∧ ((cellsFrom (s.heap.objs.size + 1) (defScope st).names []).lookup y.1).isSome = true) := by
    rintro ⟨n, v⟩ hy
    refine (S.par n (List.of_mem_zip hy).1).imp id fun q => ⟨q, PySem.W.cellsFrom_some _ _ _ (.inl q)⟩
  refine codeAny_call_function room.depth (here _ _ at_f) rfl S.co S.gen rfl (PySem.W.codeRec_of here code) (binds _ _ _ _ ?_)
  refine wpAny_newFunctionEnv_cells S.kind kinds fun env he s1 inside => ?_
  subst he
  refine ⟨nolim.keeps inside.toInCall.keep, codeAny_func ?_⟩
  have I := inv_start (CX := CX0) (E := E) S room.hd start0 (len _ _ _ _ want) rel inside
  refine wpAny_mono (der.nox.run [] s1 (start N vs) H _ I rd) (fun fl s' ends => ?_) fun e s' ends => ends
  cases fl with
  | ret u => obtain ⟨v, σ', H', J, rv, q⟩ := ends; exact ⟨v, H', J.os, J.bare, J.base, J.hok, rv, q⟩
  | next => obtain ⟨σ', H', J, q⟩ := ends; exact ⟨.non, H', J.os, J.bare, J.base, J.hok, rfl, q⟩
  | brk => obtain ⟨_, _, _, q⟩ := ends; exact q.elim
  | cont => obtain ⟨_, _, _, q⟩ := ends; exact q.elim
end
section
variable {X : Cx} {k : Nat} {f : Addr} {fd : FuncData} {ps : List Str} {sp : Sp} {dvs : List V} {ds : List Value} {x : Str} {p pos : Pos} {e : Expr} {es : List Expr} {t : TA}
/-- such a callee runs -/
theorem runG {pins : List (Addr × Obj)} {σ : L2.St} {H : Hp} {s : Shared} {Q : VK} {us : List Value} {vs : List V} (F : FnG X.prog X.w X.K X.mg X.base k f fd ps sp)
    (hr : Room k X.A) (calm : X.A.guards = some []) (hb : Binds X.K fd ps ds) (hd : Vals dvs ds) (I : Inv X pins σ H s) (r : Vals vs us)
    (h : sp (vs ++ dvs) H Q E0) : wpAny (model X.prog X.w) X.A (call (.ref f) us) (EP X pins σ Q) X.xe s := by
  have both : Vals (vs ++ dvs) (us ++ ds) := r.append hd
  have enough : (us ++ ds).length = ps.length := both.length ▸ F.size _ _ _ _ h
  refine wpAny_call (codeAny_mono (F.goes X.A X.stack s H ⟨us, []⟩ _ _ Q E0 hr calm I.env0 (hb s us I.kIn enough) both h) fun res s' out => ?_)
  match res, out with
  | .ok (.ret u), out => exact I.after out
  | .ok .next, out => exact (out : False).elim
  | .ok .brk, out => exact (out : False).elim
  | .ok .cont, out => exact (out : False).elim
  | .error _, out => exact (out : False).elim
theorem pe_callG (F : FnG X.prog X.w X.K X.mg X.base k f fd ps sp) (hr : Room k X.A) (calm : X.A.guards = some []) (hg : Gl X x)
    (hm : X.mg x = some (.ref f)) (hk : PySem.W.keepIn X.K (.ref f) = true) (hb : Binds X.K fd ps ds) (hd : Vals dvs ds) (ha : PA X (e :: es) t)
    (nodebug : (x == ("__debug__" : Str)) = false := by decide)
    (nostar : starEach (e :: es) X.env = (false, eval e X.env) :: starEach es X.env := by rfl)
    (plain : (backTo pos (starEach es X.env)).any (·.1) = false := by rfl) : PE X (.Call (.Name x p) (e :: es) [] pos) (tCall sp dvs E0 t) :=
  ⟨fun pins s σ H Q I h => wpAny_Call_Name_kw (ld_glob I hg hm
    (PySem.W.callWith_K (h₀ := X.base) I.ok.mod.kin hk (thn (ha.run pos pins s σ H _ I h) fun us s1 ⟨vs, H1, I1, r, q⟩ =>
      ⟨I1.kIn, runG F hr calm hb hd I1 r q⟩) nostar plain) nodebug)⟩
theorem pe_callG0 (F : FnG X.prog X.w X.K X.mg X.base k f fd ps sp) (hr : Room k X.A) (calm : X.A.guards = some []) (hg : Gl X x)
    (hm : X.mg x = some (.ref f)) (hk : PySem.W.keepIn X.K (.ref f) = true) (hb : Binds X.K fd ps ds) (hd : Vals dvs ds)
    (nodebug : (x == ("__debug__" : Str)) = false := by decide) : PE X (.Call (.Name x p) [] [] pos) (tCall sp dvs E0 tNil) :=
  ⟨fun pins s σ H Q I h => wpAny_Call_Name_kw (ld_glob I hg hm (PySem.W.callWith_K0 I.kIn hk (runG (us := []) F hr calm hb hd I .nil h)) nodebug)⟩
end

/-! the law's call, its def being such a one -/
theorem law_callG {P : Program} {w : World} {K : PySem.W.Frag} {mg mb : Str → Option Value} {k : Nat} {fa a : Addr} {fd : FuncData} {x : Str} {sp : Sp} {s₁ : Shared} {vs : List Value} {ns : List Int}
    (kin : K.In s₁.heap) (ng : s₁.heap.Ns mainGlobals mg) (nb : s₁.heap.Ns builtinsNs mb) (boot : ∀ x : Str, x ≠ "__name__" → mb x = bootBuiltins x)
    (nolim : s₁.heap.NoLimit) (nogen : s₁.gens = #[]) (at_a : s₁.heap.get? a = some { cls := .type "list", data := .seq vs.toArray })
    (ints_ : IntsAre vs ns) (few : ns.length ≤ sizeLine) (room : Room k callerA)
    (F : ∀ base : Heap, K.In base → base.Ns mainGlobals mg → FnG P w K mg base k fa fd [x] sp) (bind : ∀ (s : Shared) (u : Value), BindsTo s fd ⟨[u], []⟩ [(x, u)])
    (want : ∀ H : Hp, Only H → SqL K H a (ns.map V.int) → sp [.ref a] H (fun v _ => v = .bl true) fun _ _ _ => False) :
    codeAny (model P w) callerA (.call (.ref fa) ⟨[.ref a], []⟩)
      (fun r s' => r = .ok (.ret (.bool true)) ∧ OldK s₁.heap s'.heap ∧ s'.os = s₁.os ∧ AllBare s'.gens) s₁ := by
  have rel := vals_ints ints_
  have one : ∀ H : Hp, Only H → SqL K H a (ns.map V.int) → HOk P w H s₁.heap → (∀ b, H b ≠ none → b = a) → (H a ≠ none → K.lookup a = none) →
      codeAny (model P w) callerA (.call (.ref fa) ⟨[.ref a], []⟩)
        (fun r s' => r = .ok (.ret (.bool true)) ∧ OldK s₁.heap s'.heap ∧ s'.os = s₁.os ∧ AllBare s'.gens) s₁ := fun H only sq hok alone noK => by
    have dictOut : ∀ {b : Addr} {o : Obj} {es : Array DictEntry} {ep : Nat}, s₁.heap.get? b = some o → o.data = .dict es ep → H b = none := by
      intro b o es ep e d
      refine Option.eq_none_iff_forall_ne_some.mpr fun u q => ?_
      have hb := alone b (q ▸ Option.some_ne_none u)
      rw [hb, at_a] at e
      injection e with e
      rw [← e] at d
      exact Data.noConfusion d
    have nsIn : ∀ {b : Addr} {m : Str → Option Value}, s₁.heap.Ns b m → (hidT s₁.heap H).Ns b m := by
      rintro b m ⟨o, es, ep, e, d, r⟩
      exact ⟨o, es, ep, hidT_get e (dictOut e d), d, r⟩
    have kb : K.In (hidT s₁.heap H) := fun b o e => hidT_get (kin b o e) (Option.eq_none_iff_forall_ne_some.mpr fun u q => by
      have hb := alone b (q ▸ Option.some_ne_none u)
      rw [hb] at q e
      rw [noK (q ▸ Option.some_ne_none u)] at e
      cases e)
    have lim' : (hidT s₁.heap H).NoLimit := by
      obtain ⟨mc, h1, h2⟩ := nolim
      exact ⟨mc, nsIn h1, h2⟩
    have start0 : Env0 P w K mg (hidT s₁.heap H) callerA [] s₁ H :=
      ⟨rfl, ⟨kb, nsIn ng, ⟨mb, nsIn nb, boot⟩, lim'⟩, fun b o e => of_hidT e, Nat.le_of_eq (hidT_size _ _), trivial, (fun b hb => (List.not_mem_nil hb).elim), hok, .of_eq nogen⟩
    refine codeAny_mono ((F _ kb (nsIn ng)).goes callerA [] s₁ H ⟨[.ref a], []⟩ [.ref a] [.ref a] _ _ room rfl start0 (bind s₁ (.ref a)) (.cons rfl .nil) (want H only sq)) ?_
    intro res s' out
    match res, out with
    | .ok .next, out => exact (out : False).elim
    | .ok .brk, out => exact (out : False).elim
    | .ok .cont, out => exact (out : False).elim
    | .error _, out => exact (out : False).elim
    | .ok (.ret u), out =>
      obtain ⟨v, H', os, bare, un, hok', rv, q⟩ := out
      cases (show v = .bl true from q)
      cases (show u = Value.bool true from rv)
      refine ⟨rfl, OldK.of_keep fun b o e => ?_, os, bare⟩
      rcases only b with z | ⟨ob, xs, z⟩
      · exact un.keep b o e z (fun q => by cases q) (fun q => by cases q)
      · have e1 := (hok b _ z).1
        have e2 := (hok' b _ (un.frzs b ob _ z)).1
        rw [e] at e1
        injection e1 with e1
        rw [e1]
        exact e2
  by_cases hk : K.lookup a = none
  · refine one (fun b => if b = a then some (.frz { cls := .type "list", data := .seq vs.toArray } (.lst (ns.map V.int))) else none) (fun b => ?_)
      (.inl (.inr ⟨_, if_pos rfl⟩)) (fun b u z => ?_) (fun b z => ?_) fun _ => hk
    · exact if h : b = a then .inr ⟨_, _, if_pos h⟩ else .inl (if_neg h)
    · refine if h : b = a then ?_ else ?_
      · dsimp only at z
        rw [if_pos h] at z
        cases z
        rw [h]
        exact ⟨at_a, by rw [List.length_map]; exact few, vs, _, rel, at_a⟩
      · dsimp only at z
        rw [if_neg h] at z
        cases z
    · exact Decidable.byContradiction fun h => z (if_neg h)
  · obtain ⟨o, ho⟩ := Option.ne_none_iff_exists'.mp hk
    have e := kin a o ho
    rw [at_a] at e
    injection e with e
    refine one (fun _ => none) (fun _ => .inl rfl) (.inr ⟨_, vs.toArray, _, ho, by rw [← e], by rw [← e], by rw [← e], ?_, ?_⟩) (fun b u z => by cases z) (fun b z => (z rfl).elim) fun z => (z rfl).elim
    · rw [List.size_toArray, ints_.length]
      exact few
    · simpa using rel
theorem walk_ofG {l : PySem.W.OpenLaw} {n k : Nat} {q : Program} {loose : List Str} {XP : (Str → Option Value) → Heap → Prop} {YP : World → Heap → Prop} {d : DefRec} {K : Params → PySem.W.Frag}
    {sp : PySem.W.Frag → Sp} {x : Str} (most : l.most = some n) (line : n ≤ sizeLine) (nodef : d.params.defaults = []) (room : Room k callerA)
    (kin : ∀ (w : World) (h : Heap), YP w h → (K w.params).In h)
    (F : ∀ (w : World) (mg : Str → Option Value) (fa : Addr) (h : Heap), (K w.params).In h → h.Ns mainGlobals mg → mg d.name = some (.ref fa) →
      ∃ fd : FuncData, (∀ (s : Shared) (u : Value), BindsTo s fd ⟨[u], []⟩ [(x, u)]) ∧
        ∀ base : Heap, (K w.params).In base → base.Ns mainGlobals mg → FnG l.prog w (K w.params) mg base k fa fd [x] (sp (K w.params)))
    (want : ∀ (K : PySem.W.Frag) (H : Hp) (a : Addr) (ns : List Int), ns.length ≤ n → Only H → SqL K H a (ns.map V.int) → sp K [.ref a] H (fun v _ => v = .bl true) fun _ _ _ => False) :
    PySem.W.WalkO q loose XP YP l.row.toRowW d [] (fun f vs => PySem.call f vs) := by
  refine Att.attach_call most nodef fun w s₀ s₁ mg mb fa o pm cd doc a vs ns G Y ho hd hcd hmg hobj hints hlen hg => ?_
  obtain ⟨fd, hb, hF⟩ := F w mg fa _ (kin w _ Y) G.T.g hmg
  exact law_callG (kin w _ Y) G.T.g G.T.b G.T.builtins G.T.nolimit hg hobj hints (Nat.le_trans hlen line) room hF hb fun H only sq => want _ H a ns hlen only sq
end Z
namespace Z
open PySem L2 PySem.Spec PyProof.Rows
section
variable {X : Cx}
mutual
theorem Dp.plain {K : PySem.W.Frag} {H : Hp} : ∀ {v : V} {d : PyData}, Dp K H v d → d.hasDict = false
  | _, _, .non => rfl
  | _, _, .bl _ => rfl
  | _, _, .int _ => rfl
  | _, _, .str _ => rfl
  | _, _, .lst _ r => DpAll.plain r
  | _, _, .tup _ r => DpAll.plain r
theorem DpAll.plain {K : PySem.W.Frag} {H : Hp} : ∀ {v : List V} {d : List PyData}, DpAll K H v d → PyData.hasDictAll d = false
  | _, _, .nil => rfl
  | _, _, .cons a b => by
    show (PyData.hasDict _ || PyData.hasDictAll _) = false
    rw [Dp.plain a, DpAll.plain b]
    rfl
end
/-- repr(x), x a list or a tuple of data -/
theorem call_reprD (calm : X.A.guards = some []) (hu : X.A.units + 64 < cLine) : CallR X (.builtin "repr") (fun xs H Q => ∃ (a : Addr) (d : PyData), xs = [.ref a] ∧ Dp X.K H (.ref a) d ∧
    d.showable = true ∧ d.depth ≤ 60 ∧ d.shown.length ≤ sizeLine ∧ Q (.str d.shown) H) := by
  intro pins s σ H xs us Q I r h
  obtain ⟨a, d, rfl, hd, sh, dp, sz, q⟩ := h
  obtain ⟨u, rfl, rx⟩ := vals1 r
  obtain ⟨as, rd⟩ := Dp.reads I d _ u hd rx
  cases (show u = Value.ref a from rx)
  exact repr_of_reads' rd sh (PyData.noDict_hsm (Dp.plain hd)) calm (by omega) (fun _ _ e => e) (fun h' u tk hk => ⟨.str d.shown, H, I.kept (t' := tk) hk, ⟨u, rfl⟩, q⟩) sz
/-- str(x), x a list or a tuple of data -/
theorem call_strD (calm : X.A.guards = some []) (hu : X.A.units + 64 < cLine) : CallR X (.type "str") (fun xs H Q => ∃ (a : Addr) (d : PyData), xs = [.ref a] ∧ Dp X.K H (.ref a) d ∧
    d.showable = true ∧ d.depth ≤ 60 ∧ d.shown.length ≤ sizeLine ∧ Q (.str d.shown) H) := by
  intro pins s σ H xs us Q I r h
  obtain ⟨a, d, rfl, hd, sh, dp, sz, q⟩ := h
  obtain ⟨u, rfl, rx⟩ := vals1 r
  obtain ⟨as, rd⟩ := Dp.reads I d _ u hd rx
  cases (show u = Value.ref a from rx)
  exact str_of_reads rd sh (PyData.noDict_hsm (Dp.plain hd)) calm (by omega) (fun _ _ e => e) (fun h' u tk hk => ⟨.str d.shown, H, I.kept (t' := tk) hk, ⟨u, rfl⟩, q⟩) sz
end
end Z
/-! carrying facts along heaps -/
namespace Z
open PySem L2
theorem Same.at {H H' : Hp} {p : Addr} {o : HO} (s : Same H H') (h : H p = some o) : H' p = some o := s _ _ h
theorem Fr.at1 {H H' : Hp} {B p : Addr} {o : HO} (f : Fr [B] H H') (n : p ≠ B) (h : H p = some o) : H' p = some o := f p o (by simp [n]) h
theorem upd_at {H : Hp} {p q : Addr} {o u : HO} (n : q ≠ p) (h : H q = some o) : upd H p u q = some o := by rw [upd_ne n]; exact h
theorem upd_new {H : Hp} {p q : Addr} {o u : HO} (n : H p = none) (h : H q = some o) : upd H p u q = some o := by rw [upd_ne (ne_of_none h n)]; exact h
theorem KeepT.bySame {H H1 H2 : Hp} (s : Same H1 H2) (k : KeepT H H1) : KeepT H H2 := k.trans (Same.kt s)
theorem KeepT.byFr {H H1 H2 : Hp} {B : Addr} {n : Nat} (f : Fr [B] H1 H2) (b : Box H1 B n) (k : KeepT H H1) : KeepT H H2 := k.trans (f.kt b)
theorem Fr.bySame {H H1 H2 : Hp} {M : List Addr} (s : Same H1 H2) (f : Fr M H H1) : Fr M H H2 := f.trans (Same.fr s)
theorem Fr.byFr {H H1 H2 : Hp} {M : List Addr} (g : Fr M H1 H2) (f : Fr M H H1) : Fr M H H2 := f.trans g
theorem Same.bySame {H H1 H2 : Hp} (s : Same H1 H2) (f : Same H H1) : Same H H2 := f.trans s
theorem Box.bySame {H H' : Hp} {B : Addr} {n : Nat} (s : Same H H') (b : Box H B n) : Box H' B n := b.keep s
theorem Dp.bySame {K : PySem.W.Frag} {H H' : Hp} {v : V} {d : PyData} (s : Same H H') (h : Dp K H v d) : Dp K H' v d := Dp.mono s h
theorem Dp.byFr {K : PySem.W.Frag} {H H' : Hp} {v : V} {d : PyData} {B : Addr} {n : Nat} (f : Fr [B] H H') (b : Box H B n) (nl : noList d = true) (h : Dp K H v d) : Dp K H' v d := Dp.keep (f.kt b) h nl
theorem DpAll.bySame {K : PySem.W.Frag} {H H' : Hp} {v : List V} {d : List PyData} (s : Same H H') (h : DpAll K H v d) : DpAll K H' v d := DpAll.mono s h
theorem DpAll.byFr {K : PySem.W.Frag} {H H' : Hp} {v : List V} {d : List PyData} {B : Addr} {n : Nat} (f : Fr [B] H H') (b : Box H B n) (nl : noLists d = true) (h : DpAll K H v d) : DpAll K H' v d := DpAll.keep (f.kt b) h nl
theorem SqT.bySame {K : PySem.W.Frag} {H H' : Hp} {a : Addr} {xs : List V} (s : Same H H') (h : SqT K H a xs) : SqT K H' a xs := SqT.mono s h
theorem SqT.byFr {K : PySem.W.Frag} {H H' : Hp} {a : Addr} {xs : List V} {B : Addr} {n : Nat} (f : Fr [B] H H') (b : Box H B n) (h : SqT K H a xs) : SqT K H' a xs := SqT.keep (f.kt b) h
theorem SqL.bySame {K : PySem.W.Frag} {H H' : Hp} {a : Addr} {xs : List V} (s : Same H H') (h : SqL K H a xs) : SqL K H' a xs := SqL.mono s h
theorem Box.byPut {H : Hp} {B p : Addr} {n : Nat} {o : HO} (h : p ≠ B) (b : Box H B n) : Box (upd H p o) B n := b.put h
theorem Fr.byPut {M : List Addr} {H H' : Hp} {p : Addr} {o : HO} (h : p ∈ M) (f : Fr M H H') : Fr M H (upd H' p o) := f.put h
theorem none_of_same {H H' : Hp} {p : Addr} (s : Same H H') (h : H' p = none) : H p = none := by
  cases e : H p with
  | none => rfl
  | some o => rw [s _ _ e] at h; cases h
end Z
/-! tuples cut and put together, by what is to be read there -/
namespace Z
open PySem L2
theorem cut_to (xs : List V) (k : Nat) : cutV xs none (some (k : Int)) = xs.take k := by
  unfold cutV
  rw [HT.sIx_nat, HT.sIx_none, List.drop_zero, Nat.sub_zero]
  by_cases h : k ≤ xs.length
  · rw [Nat.min_eq_left h]
  · rw [Nat.min_eq_right (by omega), List.take_length, List.take_of_length_le (by omega)]
theorem cut_from (xs : List V) (k : Nat) : cutV xs (some (k : Int)) none = xs.drop k := by
  unfold cutV
  rw [HT.sIx_nat, HT.sIx_none]
  by_cases h : k ≤ xs.length
  · rw [Nat.min_eq_left h, List.take_of_length_le (by rw [List.length_drop]; omega)]
  · rw [Nat.min_eq_right (by omega), List.drop_length, List.take_nil, List.drop_of_length_le (by omega)]
theorem cut_mid (xs : List V) (k l : Nat) : cutV xs (some (k : Int)) (some (l : Int)) = (xs.take l).drop k := by
  unfold cutV
  rw [HT.sIx_nat, HT.sIx_nat, List.drop_take]
  by_cases h : k ≤ xs.length
  · rw [Nat.min_eq_left h]
    by_cases h2 : l ≤ xs.length
    · rw [Nat.min_eq_left h2]
    · rw [Nat.min_eq_right (by omega), List.take_of_length_le (by rw [List.length_drop]; omega), List.take_of_length_le (by rw [List.length_drop]; omega)]
  · rw [show min k xs.length = xs.length by omega, List.drop_length, List.drop_of_length_le (show xs.length ≤ k by omega), List.take_nil, List.take_nil]
theorem sl_of {K : PySem.W.Frag} {H : Hp} {a : Addr} {xs : List V} {lo hi : Option Int} {Q : VK} (h : SqT K H a xs)
    (q : ∀ p H', Same H H' → SqT K H' p (cutV xs lo hi) → Q (.ref p) H') : rSlA K (.ref a) lo hi H Q := by
  refine ⟨a, xs, rfl, h, fun e => q a H (Same.refl _) ?_, fun _ p hp => q p _ (Same.new hp) (SqT.of upd_same)⟩
  unfold cutV
  rw [e.1, e.2, List.drop_zero, Nat.sub_zero, List.take_length]
  exact h
theorem cat_of {K : PySem.W.Frag} {H : Hp} {a b : Addr} {xs ys : List V} {Q : VK} (h : SqT K H a xs) (h2 : SqT K H b ys) (hl : xs.length + ys.length ≤ sizeLine)
    (q : ∀ p H', Same H H' → SqT K H' p (xs ++ ys) → Q (.ref p) H') : rCatA K (.ref a) (.ref b) H Q := by
  refine ⟨a, b, xs, ys, rfl, rfl, h, h2, hl, fun e => ?_, fun _ e => ?_, fun _ _ p hp => q p _ (Same.new hp) (SqT.of upd_same)⟩
  · subst e
    exact q b H (Same.refl _) h2
  · subst e
    exact q a H (Same.refl _) (by rw [List.append_nil]; exact h)
end Z
/-! defs with defaults -/
namespace Z
open PySem L2 PySem.Spec PyProof.Rows
section
variable {P : Program} {w : World} {K : PySem.W.Frag} {mg : Str → Option Value} {base : Heap} {x qual : Str} {params : Arguments} {body : List Stmt} {scope : Scope} {dvs : List V} {kws : List (Str × V)} {f : Addr} {fd : FuncData}
theorem okD {N ps : List Str} {k : Nat} {sp : Sp} (F : FunD K x qual params body scope dvs kws f fd) (S : FnScope N ps scope) (len : ∀ vs H Q E, sp vs H Q E → vs.length = ps.length)
    (walk : ∀ (cdv : Value) (A : Around) (outer : List Env) (s : Shared) (H : Hp) (vs : List V) (Q : VK) (E : XK), Room k (A.deeper (envOfC qual scope s.heap.objs.size f cdv)) → sp vs H Q E →
      ∃ t, PSs (cxOf CX0 P w K mg base N qual scope f cdv A outer s H E).nox body t ∧ t { nx := fun _ H' => Q .non H', rt := Q } (start N vs) H) : FnOk P w K mg base CX0 (k + 1) f fd ps sp :=
  FunD.ok F S len fun cdv A outer s H vs Q E hr h => by
    obtain ⟨t, der, rd⟩ := walk cdv A outer s H vs Q E hr h
    exact ⟨t, der.nox, rd⟩
theorem binds_full {ps : List Str} (F : FunD K x qual params body scope dvs kws f fd)
    (h : ∀ (dV kV doc pm : Value) (an : Option Addr) (cdv ct : Value) (us : List Value), us.length = ps.length → bindArgs (PySem.W.fnOf x qual params body scope dV kV doc pm an cdv ct) ⟨us, []⟩ = pure (ps.zip us)) : Binds K fd ps [] := by
  obtain ⟨oc, od, dV, kV, doc, pm, an, cdv, ct, osl, rfl, _⟩ := F.ex
  exact .all (h dV kV doc pm an cdv ct)
theorem kb_full {ps : List Str} (F : FunD K x qual params body scope dvs kws f fd) (n : Nat) (ks : List Str) (g : {α : Type} → List α → List α → List α → List α)
    (rel : ∀ {vs ds zs : List V} {us its ws : List Value}, Vals vs us → Vals ds its → Vals zs ws → Vals (g vs ds zs) (g us its ws))
    (h : ∀ (dV kV doc pm : Value) (an : Option Addr) (cdv ct : Value) (us its ws : List Value), us.length = n → its.length = dvs.length → ws.length = ks.length →
      bindArgs (PySem.W.fnOf x qual params body scope dV kV doc pm an cdv ct) ⟨us, ks.zip ws⟩ = pure (ps.zip (g us its ws))) :
    ∃ its : List Value, KBn K fd ps n ks (fun us ws => g us its ws) (fun vs zs => g vs dvs zs) := by
  obtain ⟨oc, od, dV, kV, doc, pm, an, cdv, ct, osl, rfl, _, _, hD, _⟩ := F.ex
  obtain ⟨its, rI⟩ : ∃ its, Vals dvs its := by
    rcases hD with ⟨e, _⟩ | ⟨_, T, o, its, m, _, _, _, rT⟩
    · exact ⟨[], by rw [e]; exact .nil⟩
    · exact ⟨its, rT⟩
  exact ⟨its, fun s us ws _ l1 l2 => BindsTo.of_eq (h dV kV doc pm an cdv ct us its ws l1 rI.length.symm l2), fun r1 r2 => rel r1 rI r2⟩
end
end Z
/-! values as data: heaps but for some places, slots, what stands in them -/
namespace DL
open PySem L2 Z
open Classical in
/-- H without the places of A -/
noncomputable def hp (A : Addr → Prop) (H : Hp) : Hp := fun a => if A a then none else H a
theorem hp_of {A : Addr → Prop} {H : Hp} {a : Addr} (h : ¬ A a) : hp A H a = H a := if_neg h
theorem hp_some {A : Addr → Prop} {H : Hp} {a : Addr} {o : HO} (h : hp A H a = some o) : ¬ A a ∧ H a = some o := by
  by_cases q : A a
  · rw [show hp A H a = none from if_pos q] at h; cases h
  · exact ⟨q, by rw [← hp_of (H := H) q]; exact h⟩
theorem hp_mk {A : Addr → Prop} {H : Hp} {a : Addr} {o : HO} (h : ¬ A a) (e : H a = some o) : hp A H a = some o := by rw [hp_of h]; exact e
theorem hp_same {A : Addr → Prop} {H : Hp} : Same (hp A H) H := fun _ _ h => (hp_some h).2
def FrA (A : Addr → Prop) (H H' : Hp) : Prop := ∀ a o, ¬ A a → H a = some o → H' a = some o
theorem FrA.refl (A : Addr → Prop) (H : Hp) : FrA A H H := fun _ _ _ h => h
theorem FrA.trans {A : Addr → Prop} {H H1 H2 : Hp} (f : FrA A H H1) (g : FrA A H1 H2) : FrA A H H2 := fun a o n h => g a o n (f a o n h)
theorem FrA.of {A : Addr → Prop} {H H' : Hp} (s : Same H H') : FrA A H H' := fun a o _ h => s a o h
theorem FrA.up {A B : Addr → Prop} {H H' : Hp} (f : FrA A H H') (h : ∀ a, A a → B a) : FrA B H H' := fun a o n e => f a o (fun q => n (h a q)) e
theorem hp_less {A B : Addr → Prop} {H : Hp} (h : ∀ a, B a → A a) : Same (hp A H) (hp B H) := fun a o e => by
  obtain ⟨n, e⟩ := hp_some e
  exact hp_mk (fun q => n (h a q)) e
theorem hp_fr {A W : Addr → Prop} {H H' : Hp} (f : FrA W H H') (h : ∀ a, W a → A a) : Same (hp A H) (hp A H') := fun a o e => by
  obtain ⟨n, e⟩ := hp_some e
  exact hp_mk n (f a o (fun q => n (h a q)) e)
theorem hp_grow {A : Addr → Prop} {H H' : Hp} (s : Same H H') : Same (hp A H) (hp A H') := hp_fr (W := fun _ => False) (FrA.of s) (fun _ q => q.elim)
/-- a caught exception that is kept: its class, its dict -/
def exk (a C dx : Addr) : HO := .ext fun h => ∃ o vs, h.get? a = some o ∧ o.cls = .ref C ∧ o.dict = some dx ∧ o.data = .fields vs
mutual
inductive Dq (K : PySem.W.Frag) (H : Hp) : V → PyData → Prop
  | non : Dq K H .non .none
  | bl (b : Bool) : Dq K H (.bl b) (.bool b)
  | int (i : Int) : Dq K H (.int i) (.int i)
  | str (x : Str) : Dq K H (.str x) (.str x)
  | lst {a : Addr} {xs : List V} {ds : List PyData} : SqL K H a xs → DqAll K H xs ds → Dq K H (.ref a) (.list ds)
  | tup {a : Addr} {xs : List V} {ds : List PyData} : SqT K H a xs → DqAll K H xs ds → Dq K H (.ref a) (.tuple ds)
  | obj {a C dx : Addr} {c : Str} {fv : List (Str × V)} {fs : List (PyData × PyData)} : PySem.W.nsIn K mainGlobals c = some (some (.ref C)) → H a = some (.ins C dx fv) → DqFs K H fv fs → Dq K H (.ref a) (.dict ((.str c, .none) :: fs))
  | exc {a C dx : Addr} {c : Str} {fv : List (Str × V)} {fs : List (PyData × PyData)} : PySem.W.nsIn K mainGlobals c = some (some (.ref C)) → H a = some (exk a C dx) → H dx = some (.xd fv) → DqFs K H fv fs → Dq K H (.ref a) (.dict ((.str c, .bool true) :: fs))
  | fnc {a : Addr} {x : Str} : PySem.W.nsIn K mainGlobals x = some (some (.ref a)) → Dq K H (.ref a) (.dict [(.str x, .int 0)])
/-- the fields of an object -/
inductive DqFs (K : PySem.W.Frag) (H : Hp) : List (Str × V) → List (PyData × PyData) → Prop
  | nil : DqFs K H [] []
  | cons {f : Str} {v : V} {d : PyData} {fv : List (Str × V)} {fs : List (PyData × PyData)} : Dq K H v d → DqFs K H fv fs → DqFs K H ((f, v) :: fv) ((.str f, d) :: fs)
inductive DqAll (K : PySem.W.Frag) (H : Hp) : List V → List PyData → Prop
  | nil : DqAll K H [] []
  | cons {v : V} {vs : List V} {d : PyData} {ds : List PyData} : Dq K H v d → DqAll K H vs ds → DqAll K H (v :: vs) (d :: ds)
end
mutual
theorem Dq.mono {K : PySem.W.Frag} {H H' : Hp} (e : Same H H') : ∀ {v : V} {d : PyData}, Dq K H v d → Dq K H' v d
  | _, _, .non => .non
  | _, _, .bl b => .bl b
  | _, _, .int i => .int i
  | _, _, .str x => .str x
  | _, _, .lst h r => .lst (SqL.mono e h) (DqAll.mono e r)
  | _, _, .tup h r => .tup (SqT.mono e h) (DqAll.mono e r)
  | _, _, .obj c h r => .obj c (e _ _ h) (DqFs.mono e r)
  | _, _, .exc c h g r => .exc c (e _ _ h) (e _ _ g) (DqFs.mono e r)
  | _, _, .fnc h => .fnc h
theorem DqFs.mono {K : PySem.W.Frag} {H H' : Hp} (e : Same H H') : ∀ {fv : List (Str × V)} {fs : List (PyData × PyData)}, DqFs K H fv fs → DqFs K H' fv fs
  | _, _, .nil => .nil
  | _, _, .cons a b => .cons (Dq.mono e a) (DqFs.mono e b)
theorem DqAll.mono {K : PySem.W.Frag} {H H' : Hp} (e : Same H H') : ∀ {v : List V} {d : List PyData}, DqAll K H v d → DqAll K H' v d
  | _, _, .nil => .nil
  | _, _, .cons a b => .cons (Dq.mono e a) (DqAll.mono e b)
end
mutual
theorem Dq.dp {K : PySem.W.Frag} {H : Hp} : ∀ {v : V} {d : PyData}, Dq K H v d → d.hasDict = false → Dp K H v d
  | _, _, .non, _ => .non
  | _, _, .bl b, _ => .bl b
  | _, _, .int i, _ => .int i
  | _, _, .str x, _ => .str x
  | _, _, .lst h r, e => .lst h (DqAll.dp r e)
  | _, _, .tup h r, e => .tup h (DqAll.dp r e)
  | _, _, .obj _ _ _, e => by cases e
  | _, _, .exc _ _ _ _, e => by cases e
  | _, _, .fnc _, e => by cases e
theorem DqAll.dp {K : PySem.W.Frag} {H : Hp} : ∀ {v : List V} {d : List PyData}, DqAll K H v d → PyData.hasDictAll d = false → DpAll K H v d
  | _, _, .nil, _ => .nil
  | _, _, .cons a b, e => by
    have e' : (PyData.hasDict _ || PyData.hasDictAll _) = false := e
    rw [Bool.or_eq_false_iff] at e'
    exact .cons (Dq.dp a e'.1) (DqAll.dp b e'.2)
end
theorem plain_of {d : PyData} (h : SeqAt.shaped d = true) : d.hasDict = false := PyData.hasDict_of_canLay d (SeqAt.canLay_of_shaped h)
def fldD (f : Str) : List (PyData × PyData) → Option PyData
  | [] => none
  | (.str g, d) :: r => if f = g then some d else fldD f r
  | _ :: r => fldD f r
theorem DqFs.get {K : PySem.W.Frag} {H : Hp} {f : Str} {d : PyData} : ∀ {fv : List (Str × V)} {fs : List (PyData × PyData)}, DqFs K H fv fs → fldD f fs = some d → ∃ v, fv.lookup f = some v ∧ Dq K H v d
  | _, _, .nil, h => by cases h
  | _, _, .cons (f := g) (v := v) (d := c) a b, h => by
    unfold fldD at h
    rw [List.lookup_cons]
    by_cases e : f = g
    · rw [if_pos e] at h
      cases h
      have : (f == g) = true := by rw [e]; exact beq_self_eq_true g
      rw [this]
      exact ⟨_, rfl, a⟩
    · rw [if_neg e] at h
      have : (f == g) = false := by simpa using e
      rw [this]
      exact DqFs.get b h
section
variable {K : PySem.W.Frag} {H : Hp}
theorem DqAll.length : ∀ {v : List V} {d : List PyData}, DqAll K H v d → v.length = d.length
  | _, _, .nil => rfl
  | _, _, .cons _ b => by rw [List.length_cons, List.length_cons, DqAll.length b]
theorem DqAll.get : ∀ {v : List V} {d : List PyData} {i : Nat} {x : V}, DqAll K H v d → v[i]? = some x → ∃ y, d[i]? = some y ∧ Dq K H x y
  | _, _, _, _, .nil, h => by simp at h
  | _, _, 0, _, .cons a _, h => by simp at h; subst h; exact ⟨_, rfl, a⟩
  | _, _, i + 1, _, .cons _ b, h => by
    obtain ⟨y, e, q⟩ := DqAll.get (i := i) b (by simpa using h)
    exact ⟨y, by simpa using e, q⟩
theorem DqAll.got : ∀ {v : List V} {d : List PyData} {i : Nat} {y : PyData}, DqAll K H v d → d[i]? = some y → ∃ x, v[i]? = some x ∧ Dq K H x y
  | _, _, _, _, .nil, h => by simp at h
  | _, _, 0, _, .cons a _, h => by simp at h; subst h; exact ⟨_, rfl, a⟩
  | _, _, i + 1, _, .cons _ b, h => by
    obtain ⟨y, e, q⟩ := DqAll.got (i := i) b (by simpa using h)
    exact ⟨y, by simpa using e, q⟩
theorem DqAll.append : ∀ {v : List V} {d : List PyData} {w : List V} {e : List PyData}, DqAll K H v d → DqAll K H w e → DqAll K H (v ++ w) (d ++ e)
  | _, _, _, _, .nil, h => h
  | _, _, _, _, .cons a b, h => .cons a (DqAll.append b h)
theorem DqAll.take : ∀ {v : List V} {d : List PyData} (n : Nat), DqAll K H v d → DqAll K H (v.take n) (d.take n)
  | _, _, 0, _ => .nil
  | _, _, _ + 1, .nil => .nil
  | _, _, n + 1, .cons a b => .cons a (DqAll.take n b)
theorem DqAll.drop : ∀ {v : List V} {d : List PyData} (n : Nat), DqAll K H v d → DqAll K H (v.drop n) (d.drop n)
  | _, _, 0, h => h
  | _, _, _ + 1, .nil => .nil
  | _, _, n + 1, .cons _ b => DqAll.drop n b
theorem DqAll.set {y : V} {c : PyData} (hy : Dq K H y c) : ∀ {v : List V} {d : List PyData} (n : Nat), DqAll K H v d → DqAll K H (v.set n y) (d.set n c)
  | _, _, _, .nil => .nil
  | _, _, 0, .cons _ b => .cons hy b
  | _, _, n + 1, .cons a b => .cons a (DqAll.set hy n b)
theorem DqAll.rev : ∀ {v : List V} {d : List PyData}, DqAll K H v d → DqAll K H v.reverse d.reverse
  | _, _, .nil => .nil
  | _, _, .cons a b => by rw [List.reverse_cons, List.reverse_cons]; exact DqAll.append (DqAll.rev b) (.cons a .nil)
theorem DqAll.rep {v : List V} {d : List PyData} (h : DqAll K H v d) : ∀ n : Nat, DqAll K H (List.replicate n v).flatten (List.replicate n d).flatten
  | 0 => .nil
  | n + 1 => by rw [List.replicate_succ, List.replicate_succ, List.flatten_cons, List.flatten_cons]; exact DqAll.append h (DqAll.rep h n)
theorem DqAll.ints : ∀ ns : List Int, DqAll K H (ns.map V.int) (ns.map .int)
  | [] => .nil
  | n :: r => .cons (.int n) (DqAll.ints r)
theorem DqAll.strs : ∀ ns : List Str, DqAll K H (ns.map V.str) (ns.map .str)
  | [] => .nil
  | n :: r => .cons (.str n) (DqAll.strs r)
theorem DqAll.ints_of : ∀ {ns : List Int} {v : List V}, DqAll K H v (ns.map .int) → v = ns.map V.int
  | [], _, .nil => rfl
  | n :: r, _, .cons a b => by cases a; rw [DqAll.ints_of b]; rfl
theorem DqAll.strs_of : ∀ {ns : List Str} {v : List V}, DqAll K H v (ns.map .str) → v = ns.map V.str
  | [], _, .nil => rfl
  | n :: r, _, .cons a b => by cases a; rw [DqAll.strs_of b]; rfl
theorem DqAll.bools_of : ∀ {ns : List Bool} {v : List V}, DqAll K H v (ns.map .bool) → v = ns.map V.bl
  | [], _, .nil => rfl
  | n :: r, _, .cons a b => by cases a; rw [DqAll.bools_of b]; rfl
theorem Dq.list_of {v : V} {ds : List PyData} (h : Dq K H v (.list ds)) : ∃ a xs, v = .ref a ∧ SqL K H a xs ∧ DqAll K H xs ds := by
  cases h with
  | lst s r => exact ⟨_, _, rfl, s, r⟩
theorem Dq.tuple_of {v : V} {ds : List PyData} (h : Dq K H v (.tuple ds)) : ∃ a xs, v = .ref a ∧ SqT K H a xs ∧ DqAll K H xs ds := by
  cases h with
  | tup s r => exact ⟨_, _, rfl, s, r⟩
end

/-- a slot: nothing that is known, data that stays, a list that is its own -/
inductive Sl where
  | no
  | fz (d : PyData)
  | own (ds : List PyData)
abbrev En := List Sl
def Own (as : Nat → Option Addr) (a : Addr) : Prop := ∃ i, as i = some a
def Hid (O : Addr → Prop) (as : Nat → Option Addr) (a : Addr) : Prop := O a ∨ Own as a
section
variable {as as' as'' : Nat → Option Addr} {H H' H'' : Hp} {n : Nat}
/-- how one state comes of another: but for own lists and new objects all stays -/
structure Ext (n : Nat) (as as' : Nat → Option Addr) (H H' : Hp) : Prop where
  fr : FrA (Own as) H H'
  new : ∀ a, Own as' a → Own as a ∨ H a = none
  fix : ∀ i, i < n → as' i = as i
theorem Ext.refl : Ext n as as H H := ⟨FrA.refl _ _, fun _ h => .inl h, fun _ _ => rfl⟩
theorem Ext.of (f : FrA (Own as) H H') : Ext n as as H H' := ⟨f, fun _ h => .inl h, fun _ _ => rfl⟩
theorem Ext.trans (x : Ext n as as' H H') (y : Ext n as' as'' H' H'') : Ext n as as'' H H'' := by
  refine ⟨fun a o h e => y.fr a o (fun q => ?_) (x.fr a o h e), fun a q => ?_, fun i h => (y.fix i h).trans (x.fix i h)⟩
  · rcases x.new a q with z | z
    · exact h z
    · rw [z] at e; cases e
  · rcases y.new a q with z | z
    · exact x.new a z
    · by_cases w : Own as a
      · exact .inl w
      · cases e : H a with
        | none => exact .inr rfl
        | some o => rw [x.fr a o w e] at z; cases z
theorem Ext.less {m : Nat} (x : Ext n as as' H H') (h : m ≤ n) : Ext m as as' H H' := ⟨x.fr, x.new, fun i q => x.fix i (Nat.lt_of_lt_of_le q h)⟩
end
/-- what is so from some state on -/
structure Jv (n : Nat) where
  P : (Nat → Option Addr) → Hp → Prop
  cl : ∀ as as' H H', P as H → Ext n as as' H H' → P as' H'
  Q : (Addr → Prop) → Prop
  up : ∀ O O' : Addr → Prop, (∀ a, O a → O' a) → Q O → Q O'
def J0 : Jv n := ⟨fun _ _ => True, fun _ _ _ _ _ _ => trivial, fun _ => True, fun _ _ _ _ => trivial⟩
/-- all that comes of this state -/
def Jst (n : Nat) (O : Addr → Prop) (as : Nat → Option Addr) (H : Hp) : Jv n := ⟨fun as' H' => Ext n as as' H H', fun _ _ _ _ x y => x.trans y, fun O' => ∀ a, O a → O' a, fun _ _ h q a z => h a (q a z)⟩
def Jv.and {n : Nat} (J J' : Jv n) : Jv n := ⟨fun as H => J.P as H ∧ J'.P as H, fun _ _ _ _ x y => ⟨J.cl _ _ _ _ x.1 y, J'.cl _ _ _ _ x.2 y⟩, fun O => J.Q O ∧ J'.Q O, fun _ _ h q => ⟨J.up _ _ h q.1, J'.up _ _ h q.2⟩⟩
def Jv.le {n : Nat} (J' J : Jv n) : Prop := (∀ as H, J'.P as H → J.P as H) ∧ ∀ O, J'.Q O → J.Q O
theorem Jv.le.refl {n : Nat} {J : Jv n} : J.le J := ⟨fun _ _ h => h, fun _ h => h⟩
theorem Jv.fr {n : Nat} (J : Jv n) {as : Nat → Option Addr} {H H' : Hp} (h : J.P as H) (f : FrA (Own as) H H') : J.P as H' := J.cl _ _ _ _ h (.of f)
inductive SlR (K : PySem.W.Frag) (G H : Hp) : Option Addr → Sl → Option V → Prop
  | no {o : Option V} : SlR K G H none .no o
  | fz {v : V} {d : PyData} : Dq K G v d → SlR K G H none (.fz d) (some v)
  | own {a : Addr} {xs : List V} {ds : List PyData} : H a = some (.lst xs) → DqAll K G xs ds → SlR K G H (some a) (.own ds) (some (.ref a))
structure EnR (K : PySem.W.Frag) {n : Nat} (J : Jv n) (O : Addr → Prop) (as : Nat → Option Addr) (H : Hp) (ρ : En) (σ : L2.St) : Prop where
  len : ρ.length = σ.length
  at_ : ∀ (i : Nat) (sl : Sl) (o : Option V), ρ[i]? = some sl → σ[i]? = some o → SlR K (hp (Hid O as) H) H (as i) sl o
  inj : ∀ (i j : Nat) (a : Addr), as i = some a → as j = some a → i = j
  out : ∀ (i : Nat) (a : Addr), as i = some a → ¬ O a
  bnd : ∀ (i : Nat) (a : Addr), as i = some a → i < ρ.length
  occ : ∀ a, O a → H a ≠ none
  inv : J.P as H
  inq : J.Q O
section
variable {K : PySem.W.Frag} {n : Nat} {J : Jv n} {O : Addr → Prop} {as as' as'' : Nat → Option Addr} {H H' H'' : Hp} {ρ : En} {σ : L2.St} {i : Nat} {v : V} {d : PyData} {ds : List PyData}
theorem EnR.reJ {n' : Nat} {J' : Jv n'} (E : EnR K J O as H ρ σ) (h : J'.P as H) (q : J'.Q O) : EnR K J' O as H ρ σ := ⟨E.len, E.at_, E.inj, E.out, E.bnd, E.occ, h, q⟩
theorem EnR.at' (E : EnR K J O as H ρ σ) {sl : Sl} (h : ρ[i]? = some sl) : ∃ o, σ[i]? = some o ∧ SlR K (hp (Hid O as) H) H (as i) sl o := by
  have hi : i < σ.length := by rw [← E.len]; exact (List.getElem?_eq_some_iff.mp h).1
  exact ⟨_, List.getElem?_eq_getElem hi, E.at_ i sl _ h (List.getElem?_eq_getElem hi)⟩
theorem EnR.fz_at (E : EnR K J O as H ρ σ) (h : ρ[i]? = some (.fz d)) : ∃ v, σ[i]? = some (some v) ∧ as i = none ∧ Dq K (hp (Hid O as) H) v d := by
  obtain ⟨o, e, r⟩ := E.at' h
  generalize as i = z at r
  cases r with
  | fz q => exact ⟨_, e, rfl, q⟩
theorem EnR.own_at (E : EnR K J O as H ρ σ) (h : ρ[i]? = some (.own ds)) : ∃ a xs, σ[i]? = some (some (.ref a)) ∧ as i = some a ∧ H a = some (.lst xs) ∧ DqAll K (hp (Hid O as) H) xs ds := by
  obtain ⟨o, e, r⟩ := E.at' h
  generalize as i = z at r
  cases r with
  | own q z => exact ⟨_, _, e, rfl, q, z⟩
theorem EnR.is_own (E : EnR K J O as H ρ σ) {a : Addr} (h : as i = some a) : ∃ ds xs, ρ[i]? = some (.own ds) ∧ σ[i]? = some (some (.ref a)) ∧ H a = some (.lst xs) ∧ DqAll K (hp (Hid O as) H) xs ds := by
  have hi := E.bnd i a h
  obtain ⟨o, e, r⟩ := E.at' (List.getElem?_eq_getElem hi)
  rw [h] at r
  rw [List.getElem?_eq_getElem hi]
  generalize ρ[i] = sl at r
  cases r with
  | own q z => exact ⟨_, _, rfl, e, q, z⟩
theorem EnR.not_own (E : EnR K J O as H ρ σ) {sl : Sl} (h : ρ[i]? = some sl) (n : ∀ ds, sl ≠ .own ds) : as i = none := by
  cases e : as i with
  | none => rfl
  | some a =>
    obtain ⟨ds, xs, h', _⟩ := E.is_own e
    rw [h] at h'
    exact absurd (Option.some.inj h') (n ds)
theorem EnR.full (E : EnR K J O as H ρ σ) {a : Addr} (h : Hid O as a) : H a ≠ none := by
  rcases h with h | ⟨i, h⟩
  · exact E.occ a h
  · obtain ⟨ds, xs, _, _, e, _⟩ := E.is_own h
    rw [e]
    exact Option.some_ne_none _
theorem EnR.fresh (E : EnR K J O as H ρ σ) {a : Addr} (h : H a = none) : ¬ Hid O as a := fun q => E.full q h
theorem SlR.mono {G G' H H' : Hp} {a : Option Addr} {sl : Sl} {o : Option V} (s : Same G G') (f : ∀ b, a = some b → H' b = H b) (r : SlR K G H a sl o) : SlR K G' H' a sl o := by
  cases r with
  | no => exact .no
  | fz q => exact .fz (q.mono s)
  | own q z => exact .own (by rw [f _ rfl]; exact q) (z.mono s)
/-- more objects -/
theorem EnR.grow (E : EnR K J O as H ρ σ) (s : Same H H') : EnR K J O as H' ρ σ := by
  refine ⟨E.len, fun i sl o h1 h2 => (E.at_ i sl o h1 h2).mono (hp_grow s) fun b hb => ?_, E.inj, E.out, E.bnd, fun a h => ?_, J.fr E.inv (FrA.of s), E.inq⟩
  · obtain ⟨ds, xs, _, _, e, _⟩ := E.is_own hb
    rw [e, s _ _ e]
  · obtain ⟨o, e⟩ := Option.ne_none_iff_exists'.mp (E.occ a h)
    rw [s _ _ e]
    exact Option.some_ne_none _
def Sl.isOwn : Sl → Bool
  | .own _ => true
  | _ => false
/-- the slot is there and no list of its own -/
def slotF (ρ : En) (i : Nat) : Bool := match ρ[i]? with
  | some (.own _) => false
  | some _ => true
  | none => false
theorem slotF_of (h : slotF ρ i = true) : ∃ sl, ρ[i]? = some sl ∧ ∀ ds, sl ≠ .own ds := by
  unfold slotF at h
  split at h
  · cases h
  · next sl e hn => exact ⟨sl, hn, fun ds q => e ds (by rw [q])⟩
  · cases h
theorem EnR.none_of (E : EnR K J O as H ρ σ) (h : slotF ρ i = true) : as i = none := by
  obtain ⟨sl, e, n⟩ := slotF_of h
  exact E.not_own e n
/-- data stored -/
theorem EnR.setFz (E : EnR K J O as H ρ σ) (h : slotF ρ i = true) (q : Dq K (hp (Hid O as) H) v d) : EnR K J O as H (ρ.set i (.fz d)) (σ.set i (some v)) := by
  have hn := E.none_of h
  refine ⟨by rw [List.length_set, List.length_set]; exact E.len, fun j sl o h1 h2 => ?_, E.inj, E.out, fun j a e => by rw [List.length_set]; exact E.bnd j a e, E.occ, E.inv, E.inq⟩
  rw [List.getElem?_set] at h1 h2
  by_cases e : i = j
  · subst e
    rw [if_pos rfl] at h1 h2
    split at h1
    · split at h2
      · cases h1; cases h2
        rw [hn]
        exact .fz q
      · cases h2
    · cases h1
  · rw [if_neg e] at h1 h2
    exact E.at_ j sl o h1 h2
theorem EnR.setNo (E : EnR K J O as H ρ σ) (h : slotF ρ i = true) (o : Option V) : EnR K J O as H (ρ.set i .no) (σ.set i o) := by
  have hn := E.none_of h
  refine ⟨by rw [List.length_set, List.length_set]; exact E.len, fun j sl o h1 h2 => ?_, E.inj, E.out, fun j a e => by rw [List.length_set]; exact E.bnd j a e, E.occ, E.inv, E.inq⟩
  rw [List.getElem?_set] at h1 h2
  by_cases e : i = j
  · subst e
    rw [if_pos rfl] at h1 h2
    split at h1
    · cases h1
      rw [hn]
      exact .no
    · cases h1
  · rw [if_neg e] at h1 h2
    exact E.at_ j sl o h1 h2
/-- an own list changed -/
theorem EnR.put (E : EnR K J O as H ρ σ) {a : Addr} (ha : as i = some a) {xs : List V} (q : DqAll K (hp (Hid O as) H) xs ds) : EnR K J O as (upd H a (.lst xs)) (ρ.set i (.own ds)) σ := by
  have hS : Same (hp (Hid O as) H) (hp (Hid O as) (upd H a (.lst xs))) := fun b o e => by
    obtain ⟨n, e⟩ := hp_some e
    exact hp_mk n (by rw [upd_ne (fun z : b = a => n (by rw [z]; exact .inr ⟨i, ha⟩))]; exact e)
  refine ⟨by rw [List.length_set]; exact E.len, fun j sl o h1 h2 => ?_, E.inj, E.out, fun j a e => by rw [List.length_set]; exact E.bnd j a e, fun b h => ?_, J.fr E.inv fun b o nb e => by rw [upd_ne (fun z : b = a => nb (by rw [z]; exact ⟨i, ha⟩))]; exact e, E.inq⟩
  · rw [List.getElem?_set] at h1
    by_cases e : i = j
    · subst e
      rw [if_pos rfl] at h1
      obtain ⟨ds0, xs0, e0, e1, _, _⟩ := E.is_own ha
      rw [e1] at h2
      cases h2
      split at h1
      · cases h1
        rw [ha]
        exact .own upd_same (q.mono hS)
      · cases h1
    · rw [if_neg e] at h1
      refine (E.at_ j sl o h1 h2).mono hS fun b hb => ?_
      rw [upd_ne]
      intro z
      rw [z] at hb
      exact e (E.inj i j a ha hb)
  · by_cases z : b = a
    · rw [z, upd_same]; exact Option.some_ne_none _
    · rw [upd_ne z]; exact E.occ b h
def upA (as : Nat → Option Addr) (i : Nat) (o : Option Addr) : Nat → Option Addr := fun j => if j = i then o else as j
theorem upA_at {o : Option Addr} : upA as i o i = o := if_pos rfl
theorem upA_ne {o : Option Addr} {j : Nat} (h : j ≠ i) : upA as i o j = as j := if_neg h
theorem Own.up {a : Addr} {o : Option Addr} (h : Own (upA as i o) a) : o = some a ∨ Own as a := by
  obtain ⟨j, h⟩ := h
  by_cases e : j = i
  · rw [e, upA_at] at h; exact .inl h
  · rw [upA_ne e] at h; exact .inr ⟨j, h⟩
/-- a new list of its own -/
theorem EnR.setOwn (E : EnR K J O as H ρ σ) (hi : i < ρ.length) {p : Addr} (hJ : J.P (upA as i (some p)) H) {xs : List V} (hp0 : ¬ Hid O as p) (hp1 : H p = some (.lst xs))
    (hf : ∀ (j : Nat) (sl : Sl) (o : Option V), ρ[j]? = some sl → σ[j]? = some o → j ≠ i → SlR K (hp (fun a => Hid O as a ∨ a = p) H) H (as j) sl o)
    (q : DqAll K (hp (fun a => Hid O as a ∨ a = p) H) xs ds) : EnR K J O (upA as i (some p)) H (ρ.set i (.own ds)) (σ.set i (some (.ref p))) := by
  have hS : Same (hp (fun a => Hid O as a ∨ a = p) H) (hp (Hid O (upA as i (some p))) H) := hp_less fun a h => by
    rcases h with h | h
    · exact .inl (.inl h)
    · rcases h.up with h | h
      · exact .inr (Option.some.inj h).symm
      · exact .inl (.inr h)
  refine ⟨by rw [List.length_set, List.length_set]; exact E.len, fun j sl o h1 h2 => ?_, fun j k a h1 h2 => ?_, fun j a h => ?_, fun j a h => ?_, E.occ, hJ, E.inq⟩
  · rw [List.getElem?_set] at h1 h2
    by_cases e : i = j
    · subst e
      rw [if_pos rfl, if_pos hi] at h1
      rw [if_pos rfl, if_pos (by rw [← E.len]; exact hi)] at h2
      cases h1; cases h2
      rw [upA_at]
      exact .own hp1 (q.mono hS)
    · rw [if_neg e] at h1 h2
      rw [upA_ne (fun z => e z.symm)]
      exact (hf j sl o h1 h2 (fun z => e z.symm)).mono hS fun _ _ => rfl
  · by_cases e1 : j = i
    · rw [e1, upA_at] at h1
      by_cases e2 : k = i
      · rw [e1, e2]
      · rw [upA_ne e2] at h2
        have := Option.some.inj h1
        exact absurd (.inr ⟨k, by rw [this]; exact h2⟩) hp0
    · rw [upA_ne e1] at h1
      by_cases e2 : k = i
      · rw [e2, upA_at] at h2
        have := Option.some.inj h2
        exact absurd (.inr ⟨j, by rw [this]; exact h1⟩) hp0
      · rw [upA_ne e2] at h2
        exact E.inj j k a h1 h2
  · by_cases e1 : j = i
    · rw [e1, upA_at] at h
      rw [← Option.some.inj h]
      exact fun z => hp0 (.inl z)
    · rw [upA_ne e1] at h
      exact E.out j a h
  · rw [List.length_set]
    by_cases e1 : j = i
    · rw [e1]; exact hi
    · rw [upA_ne e1] at h
      exact E.bnd j a h
/-- an own list that stays from now on -/
theorem EnR.freeze (E : EnR K J O as H ρ σ) (hn : n ≤ i) (h : ρ[i]? = some (.own ds)) : EnR K J O (upA as i none) H (ρ.set i (.fz (.list ds))) σ := by
  obtain ⟨a, xs, e1, e2, e3, e4⟩ := E.own_at h
  have hS : Same (hp (Hid O as) H) (hp (Hid O (upA as i none)) H) := hp_less fun a h => by
    rcases h with h | h
    · exact .inl h
    · rcases h.up with h | h
      · cases h
      · exact .inr h
  have hn : ¬ Hid O (upA as i none) a := by
    rintro (z | ⟨j, z⟩)
    · exact E.out i a e2 z
    · by_cases q : j = i
      · rw [q, upA_at] at z; cases z
      · rw [upA_ne q] at z
        exact q (E.inj j i a z e2)
  refine ⟨by rw [List.length_set]; exact E.len, fun j sl o h1 h2 => ?_, fun j k b h1 h2 => ?_, fun j b h => ?_, fun j b h => ?_, E.occ, J.cl _ _ _ _ E.inv ⟨FrA.refl _ _, fun a q => by
    rcases q.up with q | q
    · cases q
    · exact .inl q, fun j hj => upA_ne (by omega)⟩, E.inq⟩
  · rw [List.getElem?_set] at h1
    by_cases e : i = j
    · subst e
      rw [e1] at h2
      cases h2
      rw [if_pos rfl] at h1
      split at h1
      · cases h1
        rw [upA_at]
        exact .fz (.lst (SqL.of (hp_mk hn e3)) (e4.mono hS))
      · cases h1
    · rw [if_neg e] at h1
      rw [upA_ne (fun z => e z.symm)]
      exact (E.at_ j sl o h1 h2).mono hS fun _ _ => rfl
  · by_cases q : j = i
    · rw [q, upA_at] at h1; cases h1
    · by_cases q2 : k = i
      · rw [q2, upA_at] at h2; cases h2
      · rw [upA_ne q] at h1; rw [upA_ne q2] at h2
        exact E.inj j k b h1 h2
  · by_cases q : j = i
    · rw [q, upA_at] at h; cases h
    · rw [upA_ne q] at h; exact E.out j b h
  · by_cases q : j = i
    · rw [q, upA_at] at h; cases h
    · rw [upA_ne q] at h; rw [List.length_set]; exact E.bnd j b h
theorem Ext.same (x : Ext n as as' H H') : Same (hp (Hid O as) H) (hp (Hid O as') H') := fun a o e => by
  obtain ⟨h, e⟩ := hp_some e
  refine hp_mk (fun q => ?_) (x.fr a o (fun z => h (.inr z)) e)
  rcases q with q | q
  · exact h (.inl q)
  · rcases x.new a q with z | z
    · exact h (.inr z)
    · rw [z] at e; cases e
end
end DL
/-! what expressions, tests, arguments, stores and statements come to -/
namespace DL
open PySem L2 Z
abbrev FE := En → (PyData → En → Prop) → Prop
abbrev FT := En → (Bool → En → Prop) → Prop
abbrev FA := En → (List PyData → En → Prop) → Prop
abbrev FG := PyData → En → (En → Prop) → Prop
abbrev FGs := List PyData → En → (En → Prop) → Prop
inductive Ar where
  | dat (d : PyData)
  | own (i : Nat)
abbrev FC := En → (List Ar → En → Prop) → Prop
structure FEnds where
  nx : En → Prop
  rt : PyData → En → Prop
  bk : En → Prop := fun _ => False
  ct : En → Prop := fun _ => False
  ro : List PyData → En → Prop := fun _ _ => False
abbrev FS := FEnds → En → Prop
abbrev FN := List Sl → (PyData → List Sl → Prop) → Prop
def RE (K : PySem.W.Frag) {n : Nat} (J : Jv n) (t : TE) (f : FE) : Prop := ∀ (O : Addr → Prop) (as : Nat → Option Addr) (σ : L2.St) (H : Hp) (Q : VK) (ρ : En) (P : PyData → En → Prop), EnR K J O as H ρ σ → f ρ P →
  (∀ d ρ' v H', P d ρ' → FrA (Own as) H H' → EnR K J O as H' ρ' σ → Dq K (hp (Hid O as) H') v d → Q v H') → t σ H Q
/-- one place more -/
def plus (O : Addr → Prop) (p : Addr) : Addr → Prop := fun a => O a ∨ a = p
theorem hid_plus {O : Addr → Prop} {p : Addr} {as : Nat → Option Addr} {a : Addr} (h : Hid O as a) : Hid (plus O p) as a := by
  rcases h with h | h
  · exact .inl (.inl h)
  · exact .inr h
theorem EnR.addO {K : PySem.W.Frag} {n : Nat} {J : Jv n} {O : Addr → Prop} {as : Nat → Option Addr} {H : Hp} {ρ : En} {σ : L2.St} {p : Addr} {o : HO} (E : EnR K J O as H ρ σ) (h : H p = none) :
    EnR K J (plus O p) as (upd H p o) ρ σ ∧ Same (hp (Hid O as) H) (hp (Hid (plus O p) as) (upd H p o)) := by
  have np := E.fresh h
  have hS : Same (hp (Hid O as) H) (hp (Hid (plus O p) as) (upd H p o)) := fun a u e => by
    obtain ⟨n, e⟩ := hp_some e
    have ne : a ≠ p := ne_of_none e h
    refine hp_mk (fun q => ?_) (by rw [upd_ne ne]; exact e)
    rcases q with (q | q) | q
    · exact n (.inl q)
    · exact ne q
    · exact n (.inr q)
  refine ⟨⟨E.len, fun i sl o' h1 h2 => (E.at_ i sl o' h1 h2).mono hS fun b hb => ?_, E.inj, fun i a e q => ?_, E.bnd, fun a q => ?_, J.fr E.inv (FrA.of (Same.new h)), J.up _ _ (fun _ z => .inl z) E.inq⟩, hS⟩
  · rw [upd_ne]
    rintro rfl
    exact np (.inr ⟨i, hb⟩)
  · rcases q with q | rfl
    · exact E.out i a e q
    · exact np (.inr ⟨i, e⟩)
  · by_cases z : a = p
    · rw [z, upd_same]; exact Option.some_ne_none _
    · rw [upd_ne z]
      rcases q with q | q
      · exact E.occ a q
      · exact absurd q z
theorem EnR.lessO {K : PySem.W.Frag} {n : Nat} {J : Jv n} {O : Addr → Prop} {as : Nat → Option Addr} {H : Hp} {ρ : En} {σ : L2.St} {p : Addr} (E : EnR K J (plus O p) as H ρ σ) (hq : J.Q O) : EnR K J O as H ρ σ :=
  ⟨E.len, fun i sl o h1 h2 => (E.at_ i sl o h1 h2).mono (hp_less fun _ => hid_plus) fun _ _ => rfl, E.inj, fun i a e q => E.out i a e (.inl q), E.bnd, fun a q => E.occ a (.inl q), E.inv, hq⟩
theorem EnR.putO {K : PySem.W.Frag} {n : Nat} {J : Jv n} {O : Addr → Prop} {as : Nat → Option Addr} {H : Hp} {ρ : En} {σ : L2.St} {p : Addr} {o : HO} (E : EnR K J O as H ρ σ) (h : O p) (hJ : J.P as (upd H p o)) :
    EnR K J O as (upd H p o) ρ σ ∧ Same (hp (Hid O as) H) (hp (Hid O as) (upd H p o)) := by
  have hS : Same (hp (Hid O as) H) (hp (Hid O as) (upd H p o)) := fun a u e => by
    obtain ⟨n, e⟩ := hp_some e
    exact hp_mk n (by rw [upd_ne (fun z : a = p => n (by rw [z]; exact .inl h))]; exact e)
  refine ⟨⟨E.len, fun i sl o' h1 h2 => (E.at_ i sl o' h1 h2).mono hS fun b hb => ?_, E.inj, E.out, E.bnd, fun a q => ?_, hJ, E.inq⟩, hS⟩
  · rw [upd_ne]
    rintro rfl
    exact E.out i b hb h
  · by_cases z : a = p
    · rw [z, upd_same]; exact Option.some_ne_none _
    · rw [upd_ne z]; exact E.occ a q
/-- an expression that makes a new list -/
def RN (K : PySem.W.Frag) {n : Nat} (J : Jv n) (t : TE) (f : FA) : Prop := ∀ (O : Addr → Prop) (as : Nat → Option Addr) (σ : L2.St) (H : Hp) (Q : VK) (ρ : En) (P : List PyData → En → Prop), EnR K J O as H ρ σ → f ρ P →
  (∀ ds ρ' p xs H', P ds ρ' → FrA (Own as) H H' → H p = none → EnR K J (plus O p) as H' ρ' σ → H' p = some (.lst xs) → DqAll K (hp (Hid (plus O p) as) H') xs ds → Q (.ref p) H') → t σ H Q
def RT (K : PySem.W.Frag) {n : Nat} (J : Jv n) (t : TT) (f : FT) : Prop := ∀ (O : Addr → Prop) (as : Nat → Option Addr) (σ : L2.St) (H : Hp) (Q : Bool → Hp → Prop) (ρ : En) (P : Bool → En → Prop), EnR K J O as H ρ σ → f ρ P →
  (∀ b ρ' H', P b ρ' → FrA (Own as) H H' → EnR K J O as H' ρ' σ → Q b H') → t σ H Q
def RA (K : PySem.W.Frag) {n : Nat} (J : Jv n) (t : TA) (f : FA) : Prop := ∀ (O : Addr → Prop) (as : Nat → Option Addr) (σ : L2.St) (H : Hp) (Q : List V → Hp → Prop) (ρ : En) (P : List PyData → En → Prop), EnR K J O as H ρ σ → f ρ P →
  (∀ ds ρ' vs H', P ds ρ' → FrA (Own as) H H' → EnR K J O as H' ρ' σ → DqAll K (hp (Hid O as) H') vs ds → Q vs H') → t σ H Q
inductive ArR (K : PySem.W.Frag) (G : Hp) (as : Nat → Option Addr) : V → Ar → Prop
  | dat {v : V} {d : PyData} : Dq K G v d → ArR K G as v (.dat d)
  | own {a : Addr} {i : Nat} : as i = some a → ArR K G as (.ref a) (.own i)
inductive ArsR (K : PySem.W.Frag) (G : Hp) (as : Nat → Option Addr) : List V → List Ar → Prop
  | nil : ArsR K G as [] []
  | cons {v : V} {vs : List V} {x : Ar} {xs : List Ar} : ArR K G as v x → ArsR K G as vs xs → ArsR K G as (v :: vs) (x :: xs)
def RC (K : PySem.W.Frag) {n : Nat} (J : Jv n) (t : TA) (f : FC) : Prop := ∀ (O : Addr → Prop) (as : Nat → Option Addr) (σ : L2.St) (H : Hp) (Q : List V → Hp → Prop) (ρ : En) (P : List Ar → En → Prop), EnR K J O as H ρ σ → f ρ P →
  (∀ xs ρ' vs H', P xs ρ' → FrA (Own as) H H' → EnR K J O as H' ρ' σ → ArsR K (hp (Hid O as) H') as vs xs → Q vs H') → t σ H Q
/-- but for these slots all is as it was -/
def Touch (vs : List Nat) (σ σ' : L2.St) : Prop := σ'.length = σ.length ∧ ∀ j, j ∉ vs → σ'[j]? = σ[j]?
def RG (K : PySem.W.Frag) {n : Nat} (J : Jv n) (vs : List Nat) (g : TG) (f : FG) : Prop := ∀ (O : Addr → Prop) (as : Nat → Option Addr) (σ : L2.St) (H : Hp) (R : L2.St → Hp → Prop) (ρ : En) (P : En → Prop) (v : V) (d : PyData), EnR K J O as H ρ σ → Dq K (hp (Hid O as) H) v d → f d ρ P →
  (∀ ρ' σ' H', P ρ' → FrA (Own as) H H' → EnR K J O as H' ρ' σ' → Touch vs σ σ' → R σ' H') → g v σ H R
def RGs (K : PySem.W.Frag) {n : Nat} (J : Jv n) (vs : List Nat) (g : TGs) (f : FGs) : Prop := ∀ (O : Addr → Prop) (as : Nat → Option Addr) (σ : L2.St) (H : Hp) (R : L2.St → Hp → Prop) (ρ : En) (P : En → Prop) (ys : List V) (ds : List PyData), EnR K J O as H ρ σ → DqAll K (hp (Hid O as) H) ys ds → f ds ρ P →
  (∀ ρ' σ' H', P ρ' → FrA (Own as) H H' → EnR K J O as H' ρ' σ' → Touch vs σ σ' → R σ' H') → g ys σ H R
/-- what the ends ask, carried over -/
structure Car (K : PySem.W.Frag) {n : Nat} (J : Jv n) (O : Addr → Prop) (as : Nat → Option Addr) (H : Hp) (E : FEnds) (D : Ends) : Prop where
  nx : ∀ ρ' as' σ' H', E.nx ρ' → Ext n as as' H H' → EnR K J O as' H' ρ' σ' → D.nx σ' H'
  rt : ∀ d ρ' v as' σ' H', E.rt d ρ' → Ext n as as' H H' → EnR K J O as' H' ρ' σ' → Dq K (hp (Hid O as') H') v d → D.rt v H'
  bk : ∀ ρ' as' σ' H', E.bk ρ' → Ext n as as' H H' → EnR K J O as' H' ρ' σ' → D.bk σ' H'
  ct : ∀ ρ' as' σ' H', E.ct ρ' → Ext n as as' H H' → EnR K J O as' H' ρ' σ' → D.ct σ' H'
  ro : ∀ ds ρ' p xs as' σ' H', E.ro ds ρ' → Ext n as as' H H' → H p = none ∨ Own as p → EnR K J (plus O p) as' H' ρ' σ' → H' p = some (.lst xs) → DqAll K (hp (Hid (plus O p) as') H') xs ds → D.rt (.ref p) H'
theorem Ext.old {n : Nat} {as as' : Nat → Option Addr} {H H' : Hp} {p : Addr} (x : Ext n as as' H H') (h : H' p = none ∨ Own as' p) : H p = none ∨ Own as p := by
  by_cases w : Own as p
  · exact .inr w
  · rcases h with h | h
    · cases e : H p with
      | none => exact .inl rfl
      | some o => rw [x.fr p o w e] at h; cases h
    · rcases x.new p h with z | z
      · exact absurd z w
      · exact .inl z
theorem Car.ext {K : PySem.W.Frag} {n : Nat} {J : Jv n} {O : Addr → Prop} {as as' : Nat → Option Addr} {H H' : Hp} {E : FEnds} {D : Ends} (C : Car K J O as H E D) (x : Ext n as as' H H') : Car K J O as' H' E D :=
  ⟨fun ρ' as2 σ' H2 p y => C.nx ρ' as2 σ' H2 p (x.trans y), fun d ρ' v as2 σ' H2 p y => C.rt d ρ' v as2 σ' H2 p (x.trans y), fun ρ' as2 σ' H2 p y => C.bk ρ' as2 σ' H2 p (x.trans y), fun ρ' as2 σ' H2 p y => C.ct ρ' as2 σ' H2 p (x.trans y), fun ds ρ' p xs as2 σ' H2 q y o => C.ro ds ρ' p xs as2 σ' H2 q (x.trans y) (x.old o)⟩
def RS (K : PySem.W.Frag) {n : Nat} (J : Jv n) (t : TS) (f : FS) : Prop := ∀ (O : Addr → Prop) (as : Nat → Option Addr) (σ : L2.St) (H : Hp) (D : Ends) (ρ : En) (E : FEnds), EnR K J O as H ρ σ → f E ρ → Car K J O as H E D → t D σ H

section
variable {K : PySem.W.Frag} {n : Nat} {J : Jv n}
theorem own_hid {O : Addr → Prop} {as : Nat → Option Addr} : ∀ a, Own as a → Hid O as a := fun _ h => .inr h
theorem Dq.fr {O : Addr → Prop} {as : Nat → Option Addr} {H H' : Hp} {v : V} {d : PyData} (q : Dq K (hp (Hid O as) H) v d) (f : FrA (Own as) H H') : Dq K (hp (Hid O as) H') v d := q.mono (hp_fr f own_hid)
theorem DqAll.fr {O : Addr → Prop} {as : Nat → Option Addr} {H H' : Hp} {v : List V} {d : List PyData} (q : DqAll K (hp (Hid O as) H) v d) (f : FrA (Own as) H H') : DqAll K (hp (Hid O as) H') v d := q.mono (hp_fr f own_hid)
/-! constants, names -/
def fC (d : PyData) : FE := fun ρ P => P d ρ
theorem re_c {v : V} {d : PyData} (h : ∀ H, Dq K H v d) : RE K J (tC v) (fC d) := fun O as σ H Q ρ P E f k => k d ρ v H f (FrA.refl _ _) E (h _)
def fV (i : Nat) : FE := fun ρ P => match ρ[i]? with
  | some (.fz d) => P d ρ
  | _ => False
theorem re_v {i : Nat} : RE K J (tVar i) (fV i) := by
  intro O as σ H Q ρ P E f k
  unfold fV at f
  split at f
  · next d h =>
    obtain ⟨v, e, _, q⟩ := E.fz_at h
    exact ⟨v, e, k d ρ v H f (FrA.refl _ _) E q⟩
  · exact f.elim
/-! arguments -/
def fNil : FA := fun ρ P => P [] ρ
def fCons (a : FE) (b : FA) : FA := fun ρ P => a ρ fun d ρ1 => b ρ1 fun ds ρ2 => P (d :: ds) ρ2
theorem ra_nil : RA K J tNil fNil := fun O as σ H Q ρ P E f k => k [] ρ [] H f (FrA.refl _ _) E .nil
theorem ra_cons {ta : TE} {t : TA} {fa : FE} {f : FA} (ha : RE K J ta fa) (h : RA K J t f) : RA K J (tCons ta t) (fCons fa f) := by
  intro O as σ H Q ρ P E q k
  refine ha O as σ H _ ρ _ E q fun d ρ1 v H1 q1 f1 E1 d1 => ?_
  refine h O as σ H1 _ ρ1 _ E1 q1 fun ds ρ2 vs H2 q2 f2 E2 d2 => ?_
  exact k _ _ _ _ q2 (f1.trans f2) E2 (.cons (d1.fr f2) d2)
/-! operators -/
def RR (K : PySem.W.Frag) (r : R2) (g : PyData → PyData → (PyData → Prop) → Prop) : Prop := ∀ (A : Addr → Prop) (H : Hp) (Q : VK) (x y : V) (a b : PyData) (P : PyData → Prop), (∀ c, A c → H c ≠ none) →
  Dq K (hp A H) x a → Dq K (hp A H) y b → g a b P → (∀ d v H', P d → Same H H' → Dq K (hp A H') v d → Q v H') → r x y H Q
def fOp (g : PyData → PyData → (PyData → Prop) → Prop) (a b : FE) : FE := fun ρ P => a ρ fun x ρ1 => b ρ1 fun y ρ2 => g x y fun d => P d ρ2
theorem re_op {r : R2} {g : PyData → PyData → (PyData → Prop) → Prop} {ta tb : TE} {fa fb : FE} (hr : RR K r g) (ha : RE K J ta fa) (hb : RE K J tb fb) : RE K J (tOp r ta tb) (fOp g fa fb) := by
  intro O as σ H Q ρ P E q k
  refine ha O as σ H _ ρ _ E q fun a ρ1 x H1 q1 f1 E1 d1 => ?_
  refine hb O as σ H1 _ ρ1 _ E1 q1 fun b ρ2 y H2 q2 f2 E2 d2 => ?_
  refine hr (Hid O as) H2 _ x y a b _ (fun c h => E2.full h) (d1.fr f2) d2 q2 fun d v H3 p s3 d3 => ?_
  exact k d ρ2 v H3 p ((f1.trans f2).trans (FrA.of s3)) (E2.grow s3) d3
def RU (K : PySem.W.Frag) (r : V → Hp → VK → Prop) (g : PyData → (PyData → Prop) → Prop) : Prop := ∀ (A : Addr → Prop) (H : Hp) (Q : VK) (x : V) (a : PyData) (P : PyData → Prop), (∀ c, A c → H c ≠ none) →
  Dq K (hp A H) x a → g a P → (∀ d v H', P d → Same H H' → Dq K (hp A H') v d → Q v H') → r x H Q
def fUn (g : PyData → (PyData → Prop) → Prop) (a : FE) : FE := fun ρ P => a ρ fun x ρ1 => g x fun d => P d ρ1
theorem re_un {r : V → Hp → VK → Prop} {g : PyData → (PyData → Prop) → Prop} {ta : TE} {fa : FE} (hr : RU K r g) (ha : RE K J ta fa) : RE K J (tUn r ta) (fUn g fa) := by
  intro O as σ H Q ρ P E q k
  refine ha O as σ H _ ρ _ E q fun a ρ1 x H1 q1 f1 E1 d1 => ?_
  refine hr (Hid O as) H1 _ x a _ (fun c h => E1.full h) d1 q1 fun d v H3 p s3 d3 => ?_
  exact k d ρ1 v H3 p (f1.trans (FrA.of s3)) (E1.grow s3) d3
/-! built-in calls -/
def RB (K : PySem.W.Frag) (r : List V → Hp → VK → Prop) (g : List PyData → (PyData → Prop) → Prop) : Prop := ∀ (A : Addr → Prop) (H : Hp) (Q : VK) (xs : List V) (ds : List PyData) (P : PyData → Prop), (∀ c, A c → H c ≠ none) →
  DqAll K (hp A H) xs ds → g ds P → (∀ d v H', P d → Same H H' → Dq K (hp A H') v d → Q v H') → r xs H Q
def fCB (g : List PyData → (PyData → Prop) → Prop) (a : FA) : FE := fun ρ P => a ρ fun ds ρ1 => g ds fun d => P d ρ1
theorem re_cb {r : List V → Hp → VK → Prop} {g : List PyData → (PyData → Prop) → Prop} {t : TA} {f : FA} (hr : RB K r g) (ha : RA K J t f) : RE K J (tCB r t) (fCB g f) := by
  intro O as σ H Q ρ P E q k
  refine ha O as σ H _ ρ _ E q fun ds ρ1 vs H1 q1 f1 E1 d1 => ?_
  refine hr (Hid O as) H1 _ vs ds _ (fun c h => E1.full h) d1 q1 fun d v H3 p s3 d3 => ?_
  exact k d ρ1 v H3 p (f1.trans (FrA.of s3)) (E1.grow s3) d3
/-- methods of texts -/
def RM (K : PySem.W.Frag) (r : V → List V → Hp → VK → Prop) (g : Str → List PyData → (PyData → Prop) → Prop) : Prop := ∀ (A : Addr → Prop) (H : Hp) (Q : VK) (z : Str) (xs : List V) (ds : List PyData) (P : PyData → Prop), (∀ c, A c → H c ≠ none) →
  DqAll K (hp A H) xs ds → g z ds P → (∀ d v H', P d → Same H H' → Dq K (hp A H') v d → Q v H') → r (.str z) xs H Q
def strF (a : PyData) (k : Str → Prop) : Prop := match a with
  | .str z => k z
  | _ => False
def fBM (g : Str → List PyData → (PyData → Prop) → Prop) (a : FE) (b : FA) : FE := fun ρ P => a ρ fun x ρ1 => strF x fun z => b ρ1 fun ds ρ2 => g z ds fun d => P d ρ2
theorem re_bm {r : V → List V → Hp → VK → Prop} {g : Str → List PyData → (PyData → Prop) → Prop} {to : TE} {t : TA} {fo : FE} {f : FA} (hr : RM K r g) (ho : RE K J to fo) (ha : RA K J t f) : RE K J (tBM K "str" r to t) (fBM g fo f) := by
  intro O as σ H Q ρ P E q k
  refine ho O as σ H _ ρ _ E q fun a ρ1 x H1 q1 f1 E1 d1 => ?_
  unfold strF at q1
  split at q1
  · next z =>
    cases d1
    refine ⟨rfl, ?_⟩
    refine ha O as σ H1 _ ρ1 _ E1 q1 fun ds ρ2 vs H2 q2 f2 E2 d2 => ?_
    refine hr (Hid O as) H2 _ z vs ds _ (fun c h => E2.full h) d2 q2 fun d v H3 p s3 d3 => ?_
    exact k d ρ2 v H3 p ((f1.trans f2).trans (FrA.of s3)) (E2.grow s3) d3
  · exact q1.elim
/-! displays -/
def fTup (f : FA) : FE := fun ρ P => f ρ fun ds ρ1 => ds.length ≤ sizeLine ∧ P (.tuple ds) ρ1
theorem re_tup {t : TA} {f : FA} (h : RA K J t f) : RE K J (tTup t) (fTup f) := by
  intro O as σ H Q ρ P E q k
  refine h O as σ H _ ρ _ E q fun ds ρ1 vs H1 q1 f1 E1 d1 => ⟨by rw [d1.length]; exact q1.1, fun p hp1 => ?_⟩
  have s := Same.new (o := .tup vs) hp1
  refine k _ _ _ _ q1.2 (f1.trans (FrA.of s)) (E1.grow s) (.tup (SqT.of (hp_mk (E1.fresh hp1) upd_same)) (d1.mono (hp_grow s)))
def fLst (f : FA) : FA := fun ρ P => f ρ fun ds ρ1 => ds.length ≤ sizeLine ∧ P ds ρ1
theorem rn_lst {t : TA} {f : FA} (h : RA K J t f) : RN K J (tLst t) (fLst f) := by
  intro O as σ H Q ρ P E q k
  refine h O as σ H _ ρ _ E q fun ds ρ1 vs H1 q1 f1 E1 d1 => ⟨by rw [d1.length]; exact q1.1, fun p hp1 => ?_⟩
  obtain ⟨E2, s2⟩ := E1.addO (o := .lst vs) hp1
  refine k _ _ _ _ _ q1.2 (f1.trans (FrA.of (Same.new hp1))) ?_ E2 upd_same (d1.mono s2)
  cases e : H p with
  | none => rfl
  | some o =>
    by_cases w : Own as p
    · exact absurd (.inr w) (E1.fresh hp1)
    · rw [f1 _ _ w e] at hp1; cases hp1
def fNew (f : FA) : FE := fun ρ P => f ρ fun ds ρ1 => P (.list ds) ρ1
theorem RN.re {t : TE} {f : FA} (h : RN K J t f) : RE K J t (fNew f) := by
  intro O as σ H Q ρ P E q k
  refine h O as σ H _ ρ _ E q fun ds ρ1 p xs H2 q1 f1 hp1 E1 hp2 d1 => ?_
  exact k _ _ _ _ q1 f1 (E1.lessO E.inq) (.lst (SqL.of (hp_mk (E.fresh hp1) hp2)) (d1.mono (hp_less fun _ => hid_plus)))
/-! tests -/
def boolF (a : PyData) (k : Bool → Prop) : Prop := match a with
  | .bool b => k b
  | _ => False
def fB (f : FE) : FT := fun ρ P => f ρ fun d ρ1 => boolF d fun b => P b ρ1
theorem rt_b {t : TE} {f : FE} (h : RE K J t f) : RT K J (tB t) (fB f) := by
  intro O as σ H Q ρ P E q k
  refine h O as σ H _ ρ _ E q fun d ρ1 v H1 q1 f1 E1 d1 => ?_
  unfold boolF at q1
  split at q1
  · cases d1; exact ⟨_, rfl, k _ _ _ q1 f1 E1⟩
  · exact q1.elim
theorem rt_test {t : TE} {f : FE} (h : RE K J t f) : RT K J (tTest t) (fB f) := rt_b h
def fAnd (a b : FT) : FT := fun ρ P => a ρ fun c ρ1 => if c = true then b ρ1 P else P false ρ1
def fOr (a b : FT) : FT := fun ρ P => a ρ fun c ρ1 => if c = true then P true ρ1 else b ρ1 P
def fNot (a : FT) : FT := fun ρ P => a ρ fun c ρ1 => P (!c) ρ1
theorem rt_and {t u : TT} {a b : FT} (ha : RT K J t a) (hb : RT K J u b) : RT K J (tAnd t u) (fAnd a b) := by
  intro O as σ H Q ρ P E q k
  refine ha O as σ H _ ρ _ E q fun c ρ1 H1 q1 f1 E1 => ?_
  cases c
  · exact k _ _ _ q1 f1 E1
  · exact hb O as σ H1 _ ρ1 _ E1 q1 fun b ρ2 H2 q2 f2 E2 => k _ _ _ q2 (f1.trans f2) E2
theorem rt_or {t u : TT} {a b : FT} (ha : RT K J t a) (hb : RT K J u b) : RT K J (tOr t u) (fOr a b) := by
  intro O as σ H Q ρ P E q k
  refine ha O as σ H _ ρ _ E q fun c ρ1 H1 q1 f1 E1 => ?_
  cases c
  · exact hb O as σ H1 _ ρ1 _ E1 q1 fun b ρ2 H2 q2 f2 E2 => k _ _ _ q2 (f1.trans f2) E2
  · exact k _ _ _ q1 f1 E1
theorem rt_not {t : TT} {a : FT} (ha : RT K J t a) : RT K J (tNot t) (fNot a) := by
  intro O as σ H Q ρ P E q k
  exact ha O as σ H _ ρ _ E q fun c ρ1 H1 q1 f1 E1 => k _ _ _ q1 f1 E1
def fAndV (a b : FE) : FE := fun ρ P => a ρ fun d ρ1 => boolF d fun c => if c = true then b ρ1 P else P (.bool false) ρ1
def fOrV (a b : FE) : FE := fun ρ P => a ρ fun d ρ1 => boolF d fun c => if c = true then P (.bool true) ρ1 else b ρ1 P
def fNotV (a : FE) : FE := fun ρ P => a ρ fun d ρ1 => boolF d fun c => P (.bool (!c)) ρ1
theorem re_and {t u : TE} {a b : FE} (ha : RE K J t a) (hb : RE K J u b) : RE K J (tAndV t u) (fAndV a b) := by
  intro O as σ H Q ρ P E q k
  refine ha O as σ H _ ρ _ E q fun d ρ1 v H1 q1 f1 E1 d1 => ?_
  unfold boolF at q1
  split at q1
  · next c =>
    cases d1
    refine ⟨_, rfl, ?_⟩
    cases c
    · exact k _ _ _ _ q1 f1 E1 (.bl _)
    · exact hb O as σ H1 _ ρ1 _ E1 q1 fun b ρ2 v H2 q2 f2 E2 => k _ _ _ _ q2 (f1.trans f2) E2
  · exact q1.elim
theorem re_or {t u : TE} {a b : FE} (ha : RE K J t a) (hb : RE K J u b) : RE K J (tOrV t u) (fOrV a b) := by
  intro O as σ H Q ρ P E q k
  refine ha O as σ H _ ρ _ E q fun d ρ1 v H1 q1 f1 E1 d1 => ?_
  unfold boolF at q1
  split at q1
  · next c =>
    cases d1
    refine ⟨_, rfl, ?_⟩
    cases c
    · exact hb O as σ H1 _ ρ1 _ E1 q1 fun b ρ2 v H2 q2 f2 E2 => k _ _ _ _ q2 (f1.trans f2) E2
    · exact k _ _ _ _ q1 f1 E1 (.bl _)
  · exact q1.elim
theorem re_not {t : TE} {a : FE} (ha : RE K J t a) : RE K J (tNotV t) (fNotV a) := by
  intro O as σ H Q ρ P E q k
  refine ha O as σ H _ ρ _ E q fun d ρ1 v H1 q1 f1 E1 d1 => ?_
  unfold boolF at q1
  split at q1
  · cases d1
    exact ⟨_, rfl, k _ _ _ _ q1 f1 E1 (.bl _)⟩
  · exact q1.elim
def fIf (c : FT) (a b : FE) : FE := fun ρ P => c ρ fun k ρ1 => if k = true then a ρ1 P else b ρ1 P
theorem re_if {t : TT} {ta tb : TE} {c : FT} {a b : FE} (hc : RT K J t c) (ha : RE K J ta a) (hb : RE K J tb b) : RE K J (tIf t ta tb) (fIf c a b) := by
  intro O as σ H Q ρ P E q k
  refine hc O as σ H _ ρ _ E q fun c ρ1 H1 q1 f1 E1 => ?_
  cases c
  · exact hb O as σ H1 _ ρ1 _ E1 q1 fun b ρ2 v H2 q2 f2 E2 => k _ _ _ _ q2 (f1.trans f2) E2
  · exact ha O as σ H1 _ ρ1 _ E1 q1 fun b ρ2 v H2 q2 f2 E2 => k _ _ _ _ q2 (f1.trans f2) E2
def fChain (g g' : PyData → PyData → (PyData → Prop) → Prop) (a b c : FE) : FE := fun ρ P => a ρ fun x ρ1 => b ρ1 fun y ρ2 => g x y fun z => boolF z fun k => if k = true then c ρ2 fun w ρ3 => g' y w fun d => P d ρ3 else P (.bool false) ρ2
theorem re_chain {r r' : R2} {g g' : PyData → PyData → (PyData → Prop) → Prop} {ta tb tc : TE} {fa fb fc : FE} (hr : RR K r g) (hr' : RR K r' g') (ha : RE K J ta fa) (hb : RE K J tb fb) (hc : RE K J tc fc) : RE K J (tChain r r' ta tb tc) (fChain g g' fa fb fc) := by
  intro O as σ H Q ρ P E q k
  refine ha O as σ H _ ρ _ E q fun a ρ1 x H1 q1 f1 E1 d1 => ?_
  refine hb O as σ H1 _ ρ1 _ E1 q1 fun b ρ2 y H2 q2 f2 E2 d2 => ?_
  refine hr (Hid O as) H2 _ x y a b _ (fun c h => E2.full h) (d1.fr f2) d2 q2 fun d v H3 p s3 d3 => ?_
  unfold boolF at p
  split at p
  · next c =>
    cases d3
    refine ⟨_, rfl, ?_⟩
    have E3 := E2.grow s3
    have f3 := (f1.trans f2).trans (FrA.of s3)
    cases c
    · exact k _ _ _ _ p f3 E3 (.bl _)
    · refine hc O as σ H3 _ ρ2 _ E3 p fun e ρ4 w H4 q4 f4 E4 d4 => ?_
      refine hr' (Hid O as) H4 _ y w b e _ (fun c h => E4.full h) ((d2.mono (hp_grow s3)).fr f4) d4 q4 fun d v H5 p s5 d5 => ?_
      exact k _ _ _ _ p ((f3.trans f4).trans (FrA.of s5)) (E4.grow s5) d5
  · exact p.elim
/-! stores -/
def gN (i : Nat) : FG := fun d ρ P => slotF ρ i = true ∧ P (ρ.set i (.fz d))
theorem rg_name {i : Nat} : RG K J [i] (gName i) (gN i) := fun O as σ H R ρ P v d E q f k => k _ _ H f.2 (FrA.refl _ _) (E.setFz f.1 q) ⟨List.length_set, fun j hj => by
  rw [List.getElem?_set, if_neg (fun z => hj (by simp [z]))]⟩
def gsNil : FGs := fun ds ρ P => ds = [] ∧ P ρ
def gsCons (a : FG) (b : FGs) : FGs := fun ds ρ P => match ds with
  | d :: r => a d ρ fun ρ1 => b r ρ1 P
  | [] => False
theorem rgs_nil : RGs K J [] gNil gsNil := by
  intro O as σ H R ρ P vs ds E q f k
  obtain ⟨rfl, f⟩ := f
  cases q
  exact ⟨rfl, k _ _ H f (FrA.refl _ _) E ⟨rfl, fun _ _ => rfl⟩⟩
theorem rgs_cons {us ws : List Nat} {g : TG} {gs : TGs} {a : FG} {b : FGs} (ha : RG K J us g a) (hb : RGs K J ws gs b) : RGs K J (us ++ ws) (gCons g gs) (gsCons a b) := by
  intro O as σ H R ρ P vs ds E q f k
  cases q with
  | nil => exact f.elim
  | cons q1 q2 =>
    refine ⟨_, _, rfl, ?_⟩
    refine ha O as σ H _ ρ _ _ _ E q1 f fun ρ1 σ1 H1 p1 f1 E1 z1 => ?_
    exact hb O as σ1 H1 _ ρ1 _ _ _ E1 (q2.fr f1) p1 fun ρ2 σ2 H2 p2 f2 E2 z2 => k _ _ _ p2 (f1.trans f2) E2 ⟨z2.1.trans z1.1, fun j hj => by
      rw [List.mem_append, not_or] at hj
      rw [z2.2 j hj.2, z1.2 j hj.1]⟩
def gT (m : Nat) (b : FGs) : FG := fun d ρ P => match d with
  | .tuple ds => ds.length = m ∧ b ds ρ P
  | _ => False
theorem rg_tup {ws : List Nat} {m : Nat} {gs : TGs} {b : FGs} (h : RGs K J ws gs b) : RG K J ws (gTup K m gs) (gT m b) := by
  intro O as σ H R ρ P v d E q f k
  unfold gT at f
  split at f
  · obtain ⟨a, xs, rfl, s, r⟩ := q.tuple_of
    exact ⟨_, _, rfl, SqT.mono hp_same s, by rw [r.length]; exact f.1, h O as σ H _ ρ _ _ _ E r f.2 k⟩
  · exact f.elim
/-! statements -/
def fSeq (a b : FS) : FS := fun E ρ => a { E with nx := b E } ρ
theorem rs_seq {t u : TS} {a b : FS} (ha : RS K J t a) (hb : RS K J u b) : RS K J (tSeq t u) (fSeq a b) := by
  intro O as σ H D ρ E R f C
  refine ha O as σ H _ ρ _ R f ⟨fun ρ' as' σ' H' p x R' => ?_, C.rt, C.bk, C.ct, C.ro⟩
  exact hb O as' σ' H' D ρ' E R' p (C.ext x)
def fNext : FS := fun E ρ => E.nx ρ
theorem rs_next : RS K J tNext fNext := fun O as σ H D ρ E R f C => C.nx ρ as σ H f .refl R
def fAsg (a : FE) (g : FG) : FS := fun E ρ => a ρ fun d ρ1 => g d ρ1 E.nx
theorem rs_asg {ws : List Nat} {te : TE} {g : TG} {a : FE} {b : FG} (ha : RE K J te a) (hg : RG K J ws g b) : RS K J (tAsg te g) (fAsg a b) := by
  intro O as σ H D ρ E R f C
  refine ha O as σ H _ ρ _ R f fun d ρ1 v H1 q1 f1 E1 d1 => ?_
  refine hg O as σ H1 _ ρ1 _ v d E1 d1 q1 fun ρ2 σ2 H2 p2 f2 E2 _ => ?_
  exact C.nx _ _ _ _ p2 (.of (f1.trans f2)) E2
def fRet (a : FE) : FS := fun E ρ => a ρ E.rt
theorem rs_ret {te : TE} {a : FE} (ha : RE K J te a) : RS K J (tRet te) (fRet a) := by
  intro O as σ H D ρ E R f C
  exact ha O as σ H _ ρ _ R f fun d ρ1 v H1 q1 f1 E1 d1 => C.rt _ _ _ _ _ _ q1 (.of f1) E1 d1
def fRetN : FS := fun E ρ => E.rt .none ρ
theorem rs_retN : RS K J tRetN fRetN := fun O as σ H D ρ E R f C => C.rt _ _ _ _ _ _ f .refl R .non
def fDrop (a : FE) : FS := fun E ρ => a ρ fun _ ρ1 => E.nx ρ1
theorem rs_drop {te : TE} {a : FE} (ha : RE K J te a) : RS K J (tDrop te) (fDrop a) := by
  intro O as σ H D ρ E R f C
  exact ha O as σ H _ ρ _ R f fun d ρ1 v H1 q1 f1 E1 d1 => C.nx _ _ _ _ q1 (.of f1) E1
def fIfS (c : FT) (a b : FS) : FS := fun E ρ => c ρ fun k ρ1 => if k = true then a E ρ1 else b E ρ1
theorem rs_if {c : TT} {t u : TS} {fc : FT} {a b : FS} (hc : RT K J c fc) (ha : RS K J t a) (hb : RS K J u b) : RS K J (tIfS c t u) (fIfS fc a b) := by
  intro O as σ H D ρ E R f C
  refine hc O as σ H _ ρ _ R f fun k ρ1 H1 q1 f1 E1 => ?_
  cases k
  · exact hb O as σ H1 D ρ1 E E1 q1 (C.ext (.of f1))
  · exact ha O as σ H1 D ρ1 E E1 q1 (C.ext (.of f1))
def fNever : FS := fun _ _ => False
theorem rs_never : RS K J tNever fNever := fun O as σ H D ρ E R f C => f.elim
def fBreak : FS := fun E ρ => E.bk ρ
theorem rs_break : RS K J tBreak fBreak := fun O as σ H D ρ E R f C => C.bk ρ as σ H f .refl R
def fCont : FS := fun E ρ => E.ct ρ
theorem rs_cont : RS K J tCont fCont := fun O as σ H D ρ E R f C => C.ct ρ as σ H f .refl R
def fPar (i j : Nat) (a : FA) : FS := fun E ρ => a ρ fun ds ρ1 => match ds with
  | [x, y] => gN i x ρ1 fun ρ2 => gN j y ρ2 E.nx
  | _ => False
theorem rs_par {i j : Nat} {t : TA} {a : FA} (ha : RA K J t a) : RS K J (tPar i j t) (fPar i j a) := by
  intro O as σ H D ρ E R f C
  refine ha O as σ H _ ρ _ R f fun ds ρ1 vs H1 q1 f1 E1 d1 => ?_
  split at q1
  · cases d1 with
    | cons d1 r => cases r with
      | cons d2 r =>
        cases r
        refine ⟨_, _, rfl, ?_⟩
        exact C.nx _ _ _ _ q1.2.2 (.of f1) ((E1.setFz q1.1 d1).setFz q1.2.1 d2)
  · exact q1.elim
/-- an own list that is so from now on -/
def fFreeze (i : Nat) (a : FS) : FS := fun E ρ => match ρ[i]? with
  | some (.own ds) => a E (ρ.set i (.fz (.list ds)))
  | _ => a E ρ
theorem rs_freeze {i : Nat} {t : TS} {a : FS} (hi : n ≤ i) (ha : RS K J t a) : RS K J t (fFreeze i a) := by
  intro O as σ H D ρ E R f C
  unfold fFreeze at f
  split at f
  · next ds h =>
    refine ha O _ σ H D _ E (R.freeze hi h) f (C.ext ⟨FrA.refl _ _, fun a q => ?_, fun j hj => upA_ne (by omega)⟩)
    rcases q.up with q | q
    · cases q
    · exact .inl q
  · exact ha O as σ H D ρ E R f C
/-- a new list into a slot, its own -/
def fOwn (i : Nat) (a : FA) : FS := fun E ρ => a ρ fun ds ρ1 => i < ρ1.length ∧ E.nx (ρ1.set i (.own ds))
theorem rs_own {i : Nat} {te : TE} {a : FA} (hi : n ≤ i) (ha : RN K J te a) : RS K J (tAsg te (gName i)) (fOwn i a) := by
  intro O as σ H D ρ E R f C
  refine ha O as σ H _ ρ _ R f fun ds ρ1 p xs H2 q1 f1 hp1 E1 hp2 d1 => ?_
  have np := R.fresh hp1
  have hS : Same (hp (Hid (plus O p) as) H2) (hp (fun a => Hid O as a ∨ a = p) H2) := hp_less fun a q => by
    rcases q with (q | q) | q
    · exact .inl (.inl q)
    · exact .inr q
    · exact .inl (.inr q)
  have x : Ext n as (upA as i (some p)) H H2 := ⟨f1, fun a q => by
    rcases q.up with q | q
    · rw [← Option.some.inj q]; exact .inr hp1
    · exact .inl q, fun j hj => upA_ne (by omega)⟩
  have E2 := (E1.lessO R.inq).setOwn q1.1 (J.cl _ _ _ _ R.inv x) np hp2 (fun j sl o h1 h2 _ => (E1.at_ j sl o h1 h2).mono hS fun b hb => rfl) (d1.mono hS)
  exact C.nx _ _ _ _ q1.2 x E2
end
end DL
/-! loops, comprehensions, calls -/
namespace DL
open PySem L2 Z
/-- what is gone through: the data of each turn -/
def IsIt (K : PySem.W.Frag) (A : Addr → Prop) (J : It) (H : Hp) (ds : List PyData) : Prop := ∃ (G : Hp → Prop) (Y : Nat → Hp → V → Hp → Prop), Walk J ds.length G Y ∧ (∀ (A' : Addr → Prop) (H1 : Hp), Same (hp A H) (hp A' H1) → G H1) ∧
  ∀ (i : Nat) (d : PyData) (A' : Addr → Prop) (H1 : Hp) (x : V) (H2 : Hp), ds[i]? = some d → Same (hp A H) (hp A' H1) → (∀ c, A' c → H1 c ≠ none) → Y i H1 x H2 → Same H1 H2 ∧ Dq K (hp A' H2) x d
def RI (K : PySem.W.Frag) {n : Nat} (J : Jv n) (wi : TI) (f : FA) : Prop := ∀ (O : Addr → Prop) (as : Nat → Option Addr) (σ : L2.St) (H : Hp) (R : It → Hp → Prop) (ρ : En) (P : List PyData → En → Prop), EnR K J O as H ρ σ → f ρ P →
  (∀ ds ρ' I H', P ds ρ' → FrA (Own as) H H' → EnR K J O as H' ρ' σ → IsIt K (Hid O as) I H' ds → R I H') → wi σ H R
section
variable {K : PySem.W.Frag} {n : Nat} {J : Jv n}
def listF (a : PyData) (k : List PyData → Prop) : Prop := match a with
  | .list ds => k ds
  | _ => False
def tupleF (a : PyData) (k : List PyData → Prop) : Prop := match a with
  | .tuple ds => k ds
  | _ => False
def intF (a : PyData) (k : Int → Prop) : Prop := match a with
  | .int i => k i
  | _ => False
def iL (f : FE) : FA := fun ρ P => f ρ fun d ρ1 => listF d fun ds => P ds ρ1
theorem ri_list {tl : TE} {f : FE} (h : RE K J tl f) : RI K J (iList K tl) (iL f) := by
  intro O as σ H R ρ P E q k
  refine h O as σ H _ ρ _ E q fun d ρ1 v H1 q1 f1 E1 d1 => ?_
  unfold listF at q1
  split at q1
  · next ds =>
    obtain ⟨a, xs, rfl, s, r⟩ := d1.list_of
    refine ⟨a, rfl, ⟨_, SqL.mono hp_same s⟩, k _ _ _ _ q1 f1 E1 ?_⟩
    refine ⟨_, _, by rw [← r.length]; exact walk_list (xs := xs), fun A' H2 s2 => SqL.mono hp_same (SqL.mono s2 s), fun i d A' H2 x H3 hd s2 oc y => ?_⟩
    obtain ⟨rfl, hx⟩ := y
    obtain ⟨d', e, q⟩ := r.get hx
    rw [hd] at e
    cases e
    exact ⟨Same.refl _, q.mono s2⟩
  · exact q1.elim
def iT (f : FE) : FA := fun ρ P => f ρ fun d ρ1 => tupleF d fun ds => P ds ρ1
theorem ri_tup {tl : TE} {f : FE} (h : RE K J tl f) : RI K J (iTup K tl) (iT f) := by
  intro O as σ H R ρ P E q k
  refine h O as σ H _ ρ _ E q fun d ρ1 v H1 q1 f1 E1 d1 => ?_
  unfold tupleF at q1
  split at q1
  · next ds =>
    obtain ⟨a, xs, rfl, s, r⟩ := d1.tuple_of
    refine ⟨a, rfl, ⟨_, SqT.mono hp_same s⟩, k _ _ _ _ q1 f1 E1 ?_⟩
    refine ⟨_, _, by rw [← r.length]; exact walk_tup (xs := xs), fun A' H2 s2 => SqT.mono hp_same (SqT.mono s2 s), fun i d A' H2 x H3 hd s2 oc y => ?_⟩
    obtain ⟨rfl, hx⟩ := y
    obtain ⟨d', e, q⟩ := r.get hx
    rw [hd] at e
    cases e
    exact ⟨Same.refl _, q.mono s2⟩
  · exact q1.elim
def signs (z : Str) : List PyData := z.cps.toList.map fun c => .str ⟨#[c]⟩
def iS (f : FE) : FA := fun ρ P => f ρ fun d ρ1 => strF d fun z => P (signs z) ρ1
theorem ri_str {te : TE} {f : FE} (h : RE K J te f) : RI K J (iStr te) (iS f) := by
  intro O as σ H R ρ P E q k
  refine h O as σ H _ ρ _ E q fun d ρ1 v H1 q1 f1 E1 d1 => ?_
  unfold strF at q1
  split at q1
  · next z =>
    cases d1
    refine ⟨z, rfl, k _ _ _ _ q1 f1 E1 ?_⟩
    refine ⟨_, _, by rw [signs, List.length_map, Array.length_toList]; exact walk_str (z := z), fun _ _ _ => trivial, fun i d A' H2 x H3 hd s2 oc y => ?_⟩
    obtain ⟨rfl, c, hc, rfl⟩ := y
    rw [signs, List.getElem?_map, Array.getElem?_toList, hc] at hd
    cases hd
    exact ⟨Same.refl _, .str _⟩
  · exact q1.elim
def rangeD (lo : Int) (m : Nat) : List PyData := (List.range m).map fun k : Nat => .int (lo + (k : Int))
theorem isIt_range {A : Addr → Prop} {H : Hp} {lo : Int} {m : Nat} : IsIt K A (Itr lo m) H (rangeD lo m) := by
  refine ⟨_, _, by rw [rangeD, List.length_map, List.length_range]; exact walk_range (lo := lo) (n := m), fun _ _ _ => trivial, fun i d A' H2 x H3 hd s2 oc y => ?_⟩
  obtain ⟨rfl, rfl⟩ := y
  rw [rangeD, List.getElem?_map] at hd
  have hi : i < m := by
    by_cases h : i < m
    · exact h
    · rw [List.getElem?_eq_none (by rw [List.length_range]; omega)] at hd; cases hd
  rw [List.getElem?_range hi] at hd
  cases hd
  exact ⟨Same.refl _, .int _⟩
def iR1 (f : FA) : FA := fun ρ P => f ρ fun ds ρ1 => match ds with
  | [.int j] => -(2 ^ 62) ≤ j ∧ j < 2 ^ 62 ∧ P (rangeD 0 j.toNat) ρ1
  | _ => False
theorem ri_rng1 {ta : TA} {f : FA} (h : RA K J ta f) : RI K J (iRng1 ta) (iR1 f) := by
  intro O as σ H R ρ P E q k
  refine h O as σ H _ ρ _ E q fun ds ρ1 vs H1 q1 f1 E1 d1 => ?_
  split at q1
  · cases d1 with
    | cons a b => cases a; cases b; exact ⟨_, rfl, q1.1, q1.2.1, k _ _ _ _ q1.2.2 f1 E1 isIt_range⟩
  · exact q1.elim
def iR2 (f : FA) : FA := fun ρ P => f ρ fun ds ρ1 => match ds with
  | [.int i, .int j] => (-(2 ^ 62) ≤ i ∧ i < 2 ^ 62 ∧ -(2 ^ 62) ≤ j ∧ j < 2 ^ 62) ∧ P (rangeD i (j - i).toNat) ρ1
  | _ => False
theorem ri_rng2 {ta : TA} {f : FA} (h : RA K J ta f) : RI K J (iRng2 ta) (iR2 f) := by
  intro O as σ H R ρ P E q k
  refine h O as σ H _ ρ _ E q fun ds ρ1 vs H1 q1 f1 E1 d1 => ?_
  split at q1
  · cases d1 with
    | cons a b => cases a; cases b with
      | cons a b => cases a; cases b; exact ⟨_, _, rfl, q1.1, k _ _ _ _ q1.2 f1 E1 isIt_range⟩
  · exact q1.elim
def downD (lo : Int) (m : Nat) : List PyData := (List.range m).map fun k : Nat => .int (lo - (k : Int))
/-- range(i, j, -1) -/
def iR3 (f : FA) : FA := fun ρ P => f ρ fun ds ρ1 => match ds with
  | [.int i, .int j, .int c] => c = -1 ∧ (-(2 ^ 62) ≤ i ∧ i < 2 ^ 62 ∧ -(2 ^ 62) ≤ j ∧ j < 2 ^ 62) ∧ P (downD i (i - j).toNat) ρ1
  | _ => False
theorem ri_rng3 {ta : TA} {f : FA} (h : RA K J ta f) : RI K J (iRng3 ta) (iR3 f) := by
  intro O as σ H R ρ P E q k
  refine h O as σ H _ ρ _ E q fun ds ρ1 vs H1 q1 f1 E1 d1 => ?_
  split at q1
  · next i j c =>
    cases d1 with
    | cons a b => cases a; cases b with
      | cons a b => cases a; cases b with
        | cons a b =>
          cases a; cases b
          obtain ⟨rfl, ⟨b1, b2, b3, b4⟩, q1⟩ := q1
          refine ⟨_, _, _, _, rfl, RgC.neg b1 b2 b3 b4, k _ _ _ _ q1 f1 E1 ?_⟩
          refine ⟨_, _, by rw [downD, List.length_map, List.length_range]; exact walk_rangeC (lo := i) (c := -1) (n := (i - j).toNat), fun _ _ _ => trivial, fun l d A' H2 x H3 hd s2 oc y => ?_⟩
          obtain ⟨rfl, rfl⟩ := y
          rw [downD, List.getElem?_map] at hd
          have hi : l < (i - j).toNat := by
            by_cases h : l < (i - j).toNat
            · exact h
            · rw [List.getElem?_eq_none (by rw [List.length_range]; omega)] at hd; cases hd
          rw [List.getElem?_range hi] at hd
          cases hd
          refine ⟨Same.refl _, ?_⟩
          dsimp only
          rw [show i + (l : Int) * -1 = i - (l : Int) by omega]
          exact .int _
  · exact q1.elim
theorem yPair {A A' : Addr → Prop} {H H1 H2 : Hp} {T : Addr} {x y : V} {a b : PyData} (hT : H1 T = none) (e : H2 = upd H1 T (.tup [x, y])) (oc : ∀ c, A' c → H1 c ≠ none) (hx : Dq K (hp A' H1) x a) (hy : Dq K (hp A' H1) y b) :
    Same H1 H2 ∧ Dq K (hp A' H2) (.ref T) (.tuple [a, b]) := by
  subst e
  have s := Same.new (o := .tup [x, y]) hT
  exact ⟨s, .tup (SqT.of (hp_mk (fun q => oc _ q hT) upd_same)) (.cons (hx.mono (hp_grow s)) (.cons (hy.mono (hp_grow s)) .nil))⟩
def enumD (ds : List PyData) : List PyData := ds.zipIdx.map fun z => .tuple [.int (z.2 : Nat), z.1]
def iE (f : FA) : FA := fun ρ P => f ρ fun ds ρ1 => match ds with
  | [.list es] => P (enumD es) ρ1
  | _ => False
theorem ri_enum {ta : TA} {f : FA} (h : RA K J ta f) : RI K J (iEnum K ta) (iE f) := by
  intro O as σ H R ρ P E q k
  refine h O as σ H _ ρ _ E q fun ds ρ1 vs H1 q1 f1 E1 d1 => ?_
  split at q1
  · next es =>
    cases d1 with
    | cons d1 b =>
      cases b
      obtain ⟨a, xs, rfl, s, r⟩ := d1.list_of
      refine ⟨a, xs, rfl, SqL.mono hp_same s, k _ _ _ _ q1 f1 E1 ?_⟩
      refine ⟨_, _, by rw [enumD, List.length_map, List.length_zipIdx, ← r.length]; exact walk_enum (xs := xs), fun A' H2 s2 => SqL.mono hp_same (SqL.mono s2 s), fun i d A' H2 x H3 hd s2 oc y => ?_⟩
      obtain ⟨T, x1, y1, rfl, hT, e, e1, e2⟩ := y
      cases e1
      obtain ⟨d', e', q'⟩ := r.get e2
      rw [enumD, List.getElem?_map, List.getElem?_zipIdx, e'] at hd
      simp only [Option.map_some, Nat.zero_add] at hd
      cases hd
      exact yPair (A := fun _ => False) (H := H) hT e oc (.int _) (q'.mono s2)
  · exact q1.elim
def zipD (a b : List PyData) : List PyData := (a.zip b).map fun z => .tuple [z.1, z.2]
def iZ (f : FA) : FA := fun ρ P => f ρ fun ds ρ1 => match ds with
  | [.list es, .list gs] => P (zipD es gs) ρ1
  | [.tuple es, .tuple gs] => P (zipD es gs) ρ1
  | _ => False
theorem zipD_get {es gs : List PyData} {i : Nat} {d d1 d2 : PyData} (h : (zipD es gs)[i]? = some d) (h1 : es[i]? = some d1) (h2 : gs[i]? = some d2) : d = .tuple [d1, d2] := by
  rw [zipD, List.getElem?_map, (List.getElem?_zip_eq_some (z := (d1, d2))).mpr ⟨h1, h2⟩] at h
  cases h
  rfl
theorem zipD_len {es gs : List PyData} : (zipD es gs).length = min es.length gs.length := by rw [zipD, List.length_map, List.length_zip]
theorem ri_zip {ta : TA} {f : FA} (h : RA K J ta f) : RI K J (RZ.iZipA K ta) (iZ f) := by
  intro O as σ H R ρ P E q k
  refine h O as σ H _ ρ _ E q fun ds ρ1 vs H1 q1 f1 E1 d1 => ?_
  split at q1
  · next es gs =>
    cases d1 with
    | cons d1 b => cases b with
      | cons d2 b =>
        cases b
        obtain ⟨a, xs, rfl, s, r⟩ := d1.list_of
        obtain ⟨a', xs', rfl, s', r'⟩ := d2.list_of
        refine ⟨a, a', xs, xs', rfl, .inl ⟨SqL.mono hp_same s, SqL.mono hp_same s', k _ _ _ _ q1 f1 E1 ?_⟩⟩
        refine ⟨_, _, walk_zip (xs := xs) (ys := xs') (n := (zipD es gs).length) (by rw [zipD_len, ← r.length, ← r'.length]), fun A' H2 s2 => ⟨SqL.mono hp_same (SqL.mono s2 s), SqL.mono hp_same (SqL.mono s2 s')⟩, fun i d A' H2 x H3 hd s2 oc y => ?_⟩
        obtain ⟨T, x1, y1, rfl, hT, e, e1, e2⟩ := y
        obtain ⟨c1, g1, q1'⟩ := r.get e1
        obtain ⟨c2, g2, q2'⟩ := r'.get e2
        rw [zipD_get hd g1 g2]
        exact yPair (A := fun _ => False) (H := H) hT e oc (q1'.mono s2) (q2'.mono s2)
  · next es gs =>
    cases d1 with
    | cons d1 b => cases b with
      | cons d2 b =>
        cases b
        obtain ⟨a, xs, rfl, s, r⟩ := d1.tuple_of
        obtain ⟨a', xs', rfl, s', r'⟩ := d2.tuple_of
        refine ⟨a, a', xs, xs', rfl, .inr ⟨SqT.mono hp_same s, SqT.mono hp_same s', k _ _ _ _ q1 f1 E1 ?_⟩⟩
        refine ⟨_, _, walk_zipT (xs := xs) (ys := xs') (n := (zipD es gs).length) (by rw [zipD_len, ← r.length, ← r'.length]), fun A' H2 s2 => ⟨SqT.mono hp_same (SqT.mono s2 s), SqT.mono hp_same (SqT.mono s2 s')⟩, fun i d A' H2 x H3 hd s2 oc y => ?_⟩
        obtain ⟨T, x1, y1, rfl, hT, e, e1, e2⟩ := y
        obtain ⟨c1, g1, q1'⟩ := r.get e1
        obtain ⟨c2, g2, q2'⟩ := r'.get e2
        rw [zipD_get hd g1 g2]
        exact yPair (A := fun _ => False) (H := H) hT e oc (q1'.mono s2) (q2'.mono s2)
  · exact q1.elim
/-! for, while -/
/-- slots forgotten -/
def fgt (ρ : En) : List Nat → En
  | [] => ρ
  | v :: vs => fgt (ρ.set v .no) vs
theorem EnR.forget1 {O : Addr → Prop} {as : Nat → Option Addr} {H : Hp} {ρ : En} {σ : L2.St} {v : Nat} (R : EnR K J O as H ρ σ) (hv : n ≤ v) : ∃ as', Ext n as as' H H ∧ EnR K J O as' H (ρ.set v .no) σ := by
  have self : ∀ {ρ : En} {as : Nat → Option Addr}, EnR K J O as H ρ σ → slotF ρ v = true → EnR K J O as H (ρ.set v .no) σ := fun {ρ as} R h => by
    obtain ⟨sl, e, _⟩ := slotF_of h
    obtain ⟨o, eo, _⟩ := R.at' e
    have := R.setNo h o
    rw [show σ.set v o = σ from by
      refine List.ext_getElem? fun j => ?_
      rw [List.getElem?_set]
      by_cases z : v = j
      · subst z
        rw [if_pos rfl, eo, if_pos (List.getElem?_eq_some_iff.mp eo).1]
      · rw [if_neg z]] at this
    exact this
  cases e : ρ[v]? with
  | none =>
    rw [List.set_eq_of_length_le (List.getElem?_eq_none_iff.mp e)]
    exact ⟨as, .refl, R⟩
  | some sl =>
    cases sl with
    | no => exact ⟨as, .refl, self R (by unfold slotF; rw [e])⟩
    | fz d => exact ⟨as, .refl, self R (by unfold slotF; rw [e])⟩
    | own ds =>
      have R2 := R.freeze hv e
      have hl := (List.getElem?_eq_some_iff.mp e).1
      have R3 := self R2 (by unfold slotF; rw [List.getElem?_set, if_pos rfl, if_pos hl])
      rw [List.set_set] at R3
      refine ⟨_, ⟨FrA.refl _ _, fun a q => ?_, fun j hj => upA_ne (by omega)⟩, R3⟩
      rcases q.up with q | q
      · cases q
      · exact .inl q
theorem EnR.forget {O : Addr → Prop} {H : Hp} {σ : L2.St} : ∀ (vs : List Nat) {as : Nat → Option Addr} {ρ : En}, EnR K J O as H ρ σ → (∀ v ∈ vs, n ≤ v) → ∃ as', Ext n as as' H H ∧ EnR K J O as' H (fgt ρ vs) σ
  | [], as, ρ, R, _ => ⟨as, .refl, R⟩
  | v :: vs, as, ρ, R, h => by
    obtain ⟨a1, x1, R1⟩ := R.forget1 (h v (List.mem_cons_self ..))
    obtain ⟨a2, x2, R2⟩ := EnR.forget vs R1 (fun u hu => h u (List.mem_cons_of_mem _ hu))
    exact ⟨a2, x1.trans x2, R2⟩
/-- a loop over data from now on; the slots us are forgotten at each turn's end -/
def forW (us : List Nat) (ds : List PyData) (g : FG) (b : FS) (E : FEnds) (ρ : En) : Prop := ∃ W : Nat → En → Prop, W 0 (fgt ρ us) ∧ (∀ i d ρ2, ds[i]? = some d → W i ρ2 → g d ρ2 fun ρ3 => b { E with nx := fun ρ4 => W (i + 1) (fgt ρ4 us), ct := fun ρ4 => W (i + 1) (fgt ρ4 us), bk := E.nx } ρ3) ∧ ∀ ρ2, W ds.length ρ2 → E.nx ρ2
def fFor (us : List Nat) (fi : FA) (g : FG) (b : FS) : FS := fun E ρ => fi ρ fun ds ρ1 => forW us ds g b E ρ1
theorem rs_for {us ws : List Nat} {wi : TI} {g : TG} {tb : TS} {fi : FA} {fg : FG} {b : FS} (hu : ∀ u ∈ us, n ≤ u) (hi : RI K J wi fi) (hg : RG K J ws g fg) (hb : RS K J tb b) : RS K J (tFor wi g tb) (fFor us fi fg b) := by
  intro O as σ H D ρ E R f C
  refine hi O as σ H _ ρ _ R f fun ds ρ1 I H1 q1 f1 E1 it => ?_
  obtain ⟨W, w0, ws', we⟩ := q1
  obtain ⟨G, Y, wk, hG, hY⟩ := it
  have C1 := C.ext (.of f1)
  obtain ⟨a0, x0, R0⟩ := E1.forget us hu
  refine for_it wk (fun i σ' H' => ∃ as' ρ', Ext n as as' H1 H' ∧ EnR K J O as' H' ρ' σ' ∧ W i ρ') ⟨a0, _, x0, R0, w0⟩ (fun i σ' H' _ ⟨as', ρ', x, _, _⟩ => hG _ _ x.same) ?_ ?_
  · rintro i x σ2 H2 H3 hi' ⟨as', ρ', x2, E2, w⟩ y
    obtain ⟨s3, d3⟩ := hY i _ (Hid O as') H2 x H3 (List.getElem?_eq_getElem hi') x2.same (fun c h => E2.full h) y
    have x3 : Ext n as' as' H2 H3 := .of (FrA.of s3)
    refine hg O as' σ2 H3 _ ρ' _ x _ (E2.grow s3) d3 (ws' i _ ρ' (List.getElem?_eq_getElem hi') w) fun ρ4 σ4 H4 p4 f4 E4 _ => ?_
    have x4 := (x2.trans x3).trans (Ext.of (n := n) f4)
    have C4 := C1.ext x4
    have fin : ∀ ρ5 as5 σ5 H5, W (i + 1) (fgt ρ5 us) → Ext n as' as5 H4 H5 → EnR K J O as5 H5 ρ5 σ5 → ∃ as' ρ', Ext n as as' H1 H5 ∧ EnR K J O as' H5 ρ' σ5 ∧ W (i + 1) ρ' := fun ρ5 as5 σ5 H5 p5 x5 E5 => by
      obtain ⟨a6, x6, R6⟩ := E5.forget us hu
      exact ⟨a6, _, (x4.trans x5).trans x6, R6, p5⟩
    refine hb O as' σ4 H4 _ ρ4 _ E4 p4 ⟨fin, C4.rt, C4.nx, fin, C4.ro⟩
  · rintro σ2 H2 ⟨as', ρ', x2, E2, w⟩
    exact C1.nx _ _ _ _ (we _ w) x2 E2
def whileW (us : List Nat) (c : FT) (b : FS) (E : FEnds) (ρ : En) : Prop := ∃ W : Nat → En → Prop, (∃ m, W m (fgt ρ us)) ∧ ∀ m ρ1, W m ρ1 → c ρ1 fun k ρ2 => if k = true then b { E with nx := fun ρ' => ∃ m', m' < m ∧ W m' (fgt ρ' us), ct := fun ρ' => ∃ m', m' < m ∧ W m' (fgt ρ' us), bk := E.nx } ρ2 else E.nx ρ2
def fWhile (us : List Nat) (c : FT) (b : FS) : FS := fun E ρ => whileW us c b E ρ
theorem rs_while {us : List Nat} {c : TT} {tb : TS} {fc : FT} {b : FS} (hu : ∀ u ∈ us, n ≤ u) (hc : RT K J c fc) (hb : RS K J tb b) : RS K J (tWhile c tb) (fWhile us fc b) := by
  intro O as σ H D ρ E R f C
  obtain ⟨W, ⟨m0, w0⟩, st⟩ := f
  obtain ⟨a0, x0, R0⟩ := R.forget us hu
  refine ⟨fun m σ' H' => ∃ as' ρ', Ext n as as' H H' ∧ EnR K J O as' H' ρ' σ' ∧ W m ρ', ⟨m0, a0, _, x0, R0, w0⟩, ?_⟩
  rintro m σ1 H1 ⟨as1, ρ1, x1, E1, w⟩
  refine hc O as1 σ1 H1 _ ρ1 _ E1 (st m ρ1 w) fun k ρ2 H2 q2 f2 E2 => ?_
  have x2 := x1.trans (Ext.of (n := n) f2)
  cases k
  · exact C.nx _ _ _ _ q2 x2 E2
  · refine ⟨fun σ' H' => ∃ m', m' < m ∧ ∃ as' ρ', Ext n as as' H H' ∧ EnR K J O as' H' ρ' σ' ∧ W m' ρ', fun σ' H' h => h, ?_⟩
    have C2 := C.ext x2
    have fin : ∀ ρ5 as5 σ5 H5, (∃ m', m' < m ∧ W m' (fgt ρ5 us)) → Ext n as1 as5 H2 H5 → EnR K J O as5 H5 ρ5 σ5 → ∃ m', m' < m ∧ ∃ as' ρ', Ext n as as' H H5 ∧ EnR K J O as' H5 ρ' σ5 ∧ W m' ρ' := fun ρ5 as5 σ5 H5 ⟨m', hm, p5⟩ x5 E5 => by
      obtain ⟨a6, x6, R6⟩ := E5.forget us hu
      exact ⟨m', hm, a6, _, (x2.trans x5).trans x6, R6, p5⟩
    exact hb O as1 σ1 H2 _ ρ2 _ E2 q2 ⟨fin, C2.rt, C2.nx, fin, C2.ro⟩
/-! comprehensions -/
def wipeF (ρ : En) : List Nat → En
  | [] => ρ
  | v :: vs => (wipeF ρ vs).set v .no
theorem wipe_at (σ : L2.St) (j : Nat) : ∀ vs : List Nat, (wipe σ vs)[j]? = if j ∈ vs ∧ j < σ.length then some none else σ[j]?
  | [] => by simp [wipe]
  | v :: vs => by
    rw [wipe, List.getElem?_set, wipe_length, wipe_at σ j vs]
    by_cases e : v = j
    · subst e
      by_cases h : v < σ.length
      · simp [h]
      · simp [h]
    · rw [if_neg e]
      simp [show ¬ j = v from fun z => e z.symm]
theorem wipe_eq {σ σ' : L2.St} {vs : List Nat} (hl : σ'.length = σ.length) (h : ∀ j, j ∉ vs → σ'[j]? = σ[j]?) : wipe σ' vs = wipe σ vs := by
  refine List.ext_getElem? fun j => ?_
  rw [wipe_at, wipe_at, hl]
  by_cases q : j ∈ vs
  · by_cases z : j < σ.length
    · rw [if_pos ⟨q, z⟩, if_pos ⟨q, z⟩]
    · rw [if_neg (fun w => z w.2), if_neg (fun w => z w.2), List.getElem?_eq_none (by omega), List.getElem?_eq_none (by omega)]
  · rw [if_neg (fun w => q w.1), if_neg (fun w => q w.1)]
    exact h j q
theorem slotF_set {ρ : En} {i j : Nat} (h : slotF ρ j = true) : slotF (ρ.set i .no) j = true := by
  obtain ⟨sl, q, _⟩ := slotF_of h
  have hj : j < ρ.length := (List.getElem?_eq_some_iff.mp q).1
  unfold slotF at *
  rw [List.getElem?_set]
  by_cases e : i = j
  · subst e
    simp [hj]
  · rw [if_neg e]
    exact h
theorem EnR.wipes {O : Addr → Prop} {as : Nat → Option Addr} {H : Hp} {ρ : En} {σ : L2.St} (E : EnR K J O as H ρ σ) : ∀ vs : List Nat, vs.all (slotF ρ) = true → EnR K J O as H (wipeF ρ vs) (wipe σ vs) ∧ ∀ j, slotF ρ j = true → slotF (wipeF ρ vs) j = true
  | [], _ => ⟨E, fun _ h => h⟩
  | v :: vs, h => by
    have h' : (slotF ρ v && vs.all (slotF ρ)) = true := h
    rw [Bool.and_eq_true] at h'
    obtain ⟨E1, k⟩ := EnR.wipes E vs h'.2
    exact ⟨E1.setNo (k v h'.1) none, fun j hj => slotF_set (k j hj)⟩
theorem wipeF_len (ρ : En) : ∀ vs : List Nat, (wipeF ρ vs).length = ρ.length
  | [] => rfl
  | v :: vs => by rw [wipeF, List.length_set, wipeF_len ρ vs]
theorem wipeF_at (ρ : En) (j : Nat) : ∀ vs : List Nat, (wipeF ρ vs)[j]? = if j ∈ vs ∧ j < ρ.length then some .no else ρ[j]?
  | [] => by simp [wipeF]
  | v :: vs => by
    rw [wipeF, List.getElem?_set, wipeF_len, wipeF_at ρ j vs]
    by_cases e : v = j
    · subst e
      by_cases h : v < ρ.length
      · simp [h]
      · simp [h]
    · rw [if_neg e]
      simp [show ¬ j = v from fun z => e z.symm]
/-- slots that are known of nothing may hold anything -/
theorem EnR.unwipe {O : Addr → Prop} {as : Nat → Option Addr} {H : Hp} {ρ : En} {σ σ' : L2.St} {vs : List Nat} (E : EnR K J O as H (wipeF ρ vs) (wipe σ vs)) (h : ∀ j, j ∈ vs → as j = none) (hl : σ'.length = σ.length) (h' : ∀ j, j ∉ vs → σ'[j]? = σ[j]?) :
    EnR K J O as H (wipeF ρ vs) σ' := by
  refine ⟨by rw [E.len, wipe_length, hl], fun j sl o h1 h2 => ?_, E.inj, E.out, E.bnd, E.occ, E.inv, E.inq⟩
  by_cases q : j ∈ vs
  · rw [wipeF_at] at h1
    have hj : j < ρ.length := by
      have := (List.getElem?_eq_some_iff.mp h2).1
      have e := E.len
      rw [wipeF_len, wipe_length] at e
      omega
    rw [if_pos ⟨q, hj⟩] at h1
    cases h1
    rw [h j q]
    exact .no
  · refine E.at_ j sl o h1 ?_
    rw [wipe_at, if_neg (fun w => q w.1), ← h' j q]
    exact h2
/-- without one place -/
def wo (H : Hp) (D : Addr) : Hp := fun a => if a = D then none else H a
theorem wo_some {H : Hp} {D a : Addr} {o : HO} (h : wo H D a = some o) : a ≠ D ∧ H a = some o := by
  unfold wo at h
  split at h
  · cases h
  · next e => exact ⟨e, h⟩
theorem wo_mk {H : Hp} {D a : Addr} {o : HO} (e : a ≠ D) (h : H a = some o) : wo H D a = some o := (if_neg e).trans h
def Jv.hide {n : Nat} (J : Jv n) (D : Addr) : Jv n := ⟨fun as H => J.P as (wo H D), fun as as' H H' p x => J.cl _ _ _ _ p ⟨fun a o na e => wo_mk (wo_some e).1 (x.fr a o na (wo_some e).2), fun a h => (x.new a h).imp id fun z => by
  unfold wo
  split
  · rfl
  · exact z, x.fix⟩, J.Q, J.up⟩
theorem Jv.hide_le {n : Nat} {J : Jv n} {D : Addr} : (J.hide D).le J := ⟨fun _ _ h => J.fr h fun _ _ _ e => (wo_some e).2, fun _ h => h⟩
theorem Jv.hide_new {n : Nat} {J : Jv n} {D : Addr} {as : Nat → Option Addr} {H : Hp} {o : HO} (h : J.P as H) (e : H D = none) : (J.hide D).P as (upd H D o) := J.fr h fun a o' _ e' => by
  have ne : a ≠ D := ne_of_none e' e
  exact wo_mk ne (by rw [upd_ne ne]; exact e')
theorem Jv.hide_put {n : Nat} {J : Jv n} {D : Addr} {as : Nat → Option Addr} {H : Hp} {o : HO} (h : (J.hide D).P as H) : (J.hide D).P as (upd H D o) := J.fr h fun a o' _ e' => wo_mk (wo_some e').1 (by rw [upd_ne (wo_some e').1]; exact (wo_some e').2)
def lcW (ds : List PyData) (g : FG) (ft : FT) (fe : FE) (vs : List Nat) (ρ : En) (P : List PyData → En → Prop) : Prop := vs.all (slotF ρ) = true ∧ ∃ W : Nat → List PyData → En → Prop, W 0 [] (wipeF ρ vs) ∧
  (∀ i d acc ρ2, ds[i]? = some d → W i acc ρ2 → g d ρ2 fun ρ3 => ft ρ3 fun b ρ4 => if b = true then fe ρ4 fun y ρ5 => acc.length < sizeLine ∧ vs.all (slotF ρ5) = true ∧ W (i + 1) (acc ++ [y]) (wipeF ρ5 vs) else vs.all (slotF ρ4) = true ∧ W (i + 1) acc (wipeF ρ4 vs)) ∧
  ∀ acc ρ2, W ds.length acc (wipeF ρ2 vs) → P acc (wipeF ρ2 vs)
def fLc (fi : FA) (g : FG) (ft : FT) (fe : FE) (vs : List Nat) : FA := fun ρ P => fi ρ fun ds ρ1 => lcW ds g ft fe vs ρ1 P
theorem rn_lc {ws vs : List Nat} {wi : TI} {g : TG} {tt : TT} {te : TE} {fi : FA} {fg : FG} {ft : FT} {fe : FE} (hw : ∀ j ∈ ws, j ∈ vs) (hi : RI K J wi fi) (hg : ∀ J' : Jv n, J'.le J → RG K J' ws g fg) (ht : ∀ J' : Jv n, J'.le J → RT K J' tt ft) (he : ∀ J' : Jv n, J'.le J → RE K J' te fe) : RN K J (tLc wi g tt te vs) (fLc fi fg ft fe vs) := by
  intro O as σ H Q ρ P E q k
  refine hi O as σ H _ ρ _ E q fun ds ρ1 I H1 q1 f1 E1 it => ?_
  obtain ⟨hv, W, w0, ws', we⟩ := q1
  obtain ⟨G, Y, wk, hG, hY⟩ := it
  intro D hD
  have hvn : ∀ j, j ∈ vs → as j = none := fun j hj => E1.none_of (List.all_eq_true.mp hv j hj)
  have sO : ∀ {H2 : Hp}, FrA (Own as) H1 H2 → Same (hp (Hid O as) H1) (hp (Hid (plus O D) as) H2) := fun f a o e => by
    obtain ⟨na, e⟩ := hp_some e
    refine hp_mk (fun z => ?_) (f a o (fun z => na (.inr z)) e)
    rcases z with (z | z) | z
    · exact na (.inl z)
    · rw [z, hD] at e; cases e
    · exact na (.inr z)
  have hD0 : H D = none := by
    cases e : H D with
    | none => rfl
    | some o =>
      by_cases w : Own as D
      · exact absurd (.inr w) (E1.fresh hD)
      · rw [f1 _ _ w e] at hD; cases hD
  have nD : ¬ Own as D := fun w => E1.fresh hD (.inr w)
  refine lc_it wk (fun i H2 => ∃ acc ρ2 xs, FrA (Own as) H1 H2 ∧ EnR K (J.hide D) (plus O D) as H2 (wipeF ρ2 vs) (wipe σ vs) ∧ H2 D = some (.lst xs) ∧ DqAll K (hp (Hid (plus O D) as) H2) xs acc ∧ W i acc (wipeF ρ2 vs)) ?_ (fun i H2 _ ⟨acc, ρ2, xs, f2, _⟩ => hG _ _ (sO f2)) ?_ ?_
  · exact ⟨[], ρ1, [], FrA.of (Same.new hD), (((E1.addO (o := .lst []) hD).1.reJ (Jv.hide_new E1.inv hD) (J.up _ _ (fun _ z => .inl z) E1.inq)).wipes vs hv).1, upd_same, .nil, w0⟩
  · rintro i x H2 H3 hi' ⟨acc, ρ2, xs, f2, E2, hx, dx, w⟩ y
    obtain ⟨s3, d3⟩ := hY i _ (Hid (plus O D) as) H2 x H3 (List.getElem?_eq_getElem hi') (sO f2) (fun c h => E2.full h) y
    have E3 := E2.grow s3
    refine hg _ Jv.hide_le (plus O D) as _ H3 _ _ _ x _ E3 d3 (ws' i _ acc _ (List.getElem?_eq_getElem hi') w) fun ρ4 σ4 H4 p4 f4 E4 z4 => ?_
    have len4 : σ4.length = σ.length := by rw [z4.1, wipe_length]
    have z4' : ∀ j, j ∉ vs → σ4[j]? = σ[j]? := fun j hj => by
      rw [z4.2 j (fun z => hj (hw j z)), wipe_at, if_neg (fun w => hj w.1)]
    refine ⟨wipe_eq len4 z4', ?_⟩
    refine ht _ Jv.hide_le (plus O D) as σ4 H4 _ ρ4 _ E4 p4 fun b ρ5 H5 q5 f5 E5 => ?_
    cases b
    · obtain ⟨v5, w5⟩ := q5
      have E6 := ((E5.wipes vs v5).1)
      rw [wipe_eq len4 z4'] at E6
      have f35 := (FrA.of s3).trans (f4.trans f5)
      exact ⟨acc, ρ5, xs, f2.trans f35, E6, f35 _ _ nD hx, dx.fr f35, w5⟩
    · refine he _ Jv.hide_le (plus O D) as σ4 H5 _ ρ5 _ E5 q5 fun d ρ6 v H6 q6 f6 E6 d6 => ?_
      obtain ⟨l6, v6, w6⟩ := q6
      have f36 := (FrA.of (A := Own as) s3).trans ((f4.trans f5).trans f6)
      have hx6 := f36 _ _ nD hx
      have dx6 := dx.fr f36
      obtain ⟨E7, s7⟩ := E6.putO (p := D) (o := .lst (xs ++ [v])) (.inr rfl) (Jv.hide_put E6.inv)
      have E8 := ((E7.wipes vs v6).1)
      rw [wipe_eq len4 z4'] at E8
      refine ⟨xs, hx6, by rw [dx.length]; exact l6, acc ++ [d], ρ6, xs ++ [v], fun a o na e => ?_, E8, upd_same, (dx6.mono s7).append (.cons (d6.mono s7) .nil), w6⟩
      by_cases z : a = D
      · rw [z, hD] at e; cases e
      · rw [upd_ne z]; exact f36 a o na (f2 a o na e)
  · rintro H2 ⟨acc, ρ2, xs, f2, E2, hx, dx, w⟩
    have E3 := (E2.unwipe hvn (σ' := σ) rfl fun j hj => rfl).reJ (Jv.hide_le.1 _ _ E2.inv) (Jv.hide_le.2 _ E2.inq)
    exact k _ _ _ _ _ (we acc ρ2 w) (f1.trans f2) hD0 E3 hx dx
end
end DL
/-! calls of defs, own lists, the def itself -/
namespace DL
open PySem L2 Z PySem.Spec PyProof.Rows
section
variable {K : PySem.W.Frag} {n : Nat} {J : Jv n}
def spF (K : PySem.W.Frag) (n : Nat) (F : FN) : Sp := fun vs H Q _ => vs.length = n ∧ ∃ (O : Addr → Prop) (as : Nat → Option Addr) (ρ : En) (P : PyData → List Sl → Prop), EnR K (J0 : Jv 0) O as H ρ (vs.map some) ∧ F ρ P ∧
  ∀ d out v H', P d out → FrA (Own as) H H' → (∀ i a, as i = some a → ∃ ds xs, out[i]? = some (.own ds) ∧ H' a = some (.lst xs) ∧ DqAll K (hp (Hid O as) H') xs ds) → Dq K (hp (Hid O as) H') v d → Q v H'
/-! arguments -/
def cNil : FC := fun ρ P => P [] ρ
def cDat (a : FE) (b : FC) : FC := fun ρ P => a ρ fun d ρ1 => b ρ1 fun xs ρ2 => P (.dat d :: xs) ρ2
def cOwn (i : Nat) (b : FC) : FC := fun ρ P => match ρ[i]? with
  | some (.own _) => b ρ fun xs ρ1 => P (.own i :: xs) ρ1
  | _ => False
theorem ArsR.fr {O : Addr → Prop} {as : Nat → Option Addr} {H H' : Hp} (f : FrA (Own as) H H') : ∀ {vs : List V} {xs : List Ar}, ArsR K (hp (Hid O as) H) as vs xs → ArsR K (hp (Hid O as) H') as vs xs
  | _, _, .nil => .nil
  | _, _, .cons (.dat q) r => .cons (.dat (q.fr f)) (ArsR.fr f r)
  | _, _, .cons (.own q) r => .cons (.own q) (ArsR.fr f r)
theorem rc_nil : RC K J tNil cNil := fun O as σ H Q ρ P E f k => k [] ρ [] H f (FrA.refl _ _) E .nil
theorem rc_dat {ta : TE} {t : TA} {fa : FE} {f : FC} (ha : RE K J ta fa) (h : RC K J t f) : RC K J (tCons ta t) (cDat fa f) := by
  intro O as σ H Q ρ P E q k
  refine ha O as σ H _ ρ _ E q fun d ρ1 v H1 q1 f1 E1 d1 => ?_
  refine h O as σ H1 _ ρ1 _ E1 q1 fun ds ρ2 vs H2 q2 f2 E2 d2 => ?_
  exact k _ _ _ _ q2 (f1.trans f2) E2 (.cons (.dat (d1.fr f2)) d2)
theorem rc_own {i : Nat} {t : TA} {f : FC} (h : RC K J t f) : RC K J (tCons (tVar i) t) (cOwn i f) := by
  intro O as σ H Q ρ P E q k
  unfold cOwn at q
  split at q
  · next ds hs =>
    obtain ⟨a, xs, e1, e2, e3, e4⟩ := E.own_at hs
    refine ⟨_, e1, ?_⟩
    exact h O as σ H _ ρ _ E q fun ds ρ2 vs H2 q2 f2 E2 d2 => k _ _ _ _ q2 f2 E2 (.cons (.own e2) d2)
  · exact q.elim
def argF (ρ : En) : List Ar → (List Sl → Prop) → Prop
  | [], k => k []
  | .dat d :: xs, k => argF ρ xs fun r => k (.fz d :: r)
  | .own i :: xs, k => match ρ[i]? with
    | some (.own ds) => argF ρ xs fun r => k (.own ds :: r)
    | _ => False
def ownIx : List Ar → List Nat
  | [] => []
  | .dat _ :: xs => ownIx xs
  | .own i :: xs => i :: ownIx xs
/-- what comes back -/
def wb (ρ : En) : List Ar → List Sl → En
  | [], _ => ρ
  | .own i :: xs, r => (wb ρ xs r.tail).set i (r.headD .no)
  | .dat _ :: xs, r => wb ρ xs r.tail
def adrs (as : Nat → Option Addr) (xs : List Ar) : Nat → Option Addr := fun j => match xs[j]? with
  | some (.own i) => as i
  | _ => none
theorem adrs_own {as : Nat → Option Addr} {xs : List Ar} {j : Nat} {a : Addr} (h : adrs as xs j = some a) : ∃ i, xs[j]? = some (.own i) ∧ as i = some a := by
  unfold adrs at h
  split at h
  · next i e => exact ⟨i, e, h⟩
  · cases h
theorem ownIx_mem {i : Nat} : ∀ {xs : List Ar}, i ∈ ownIx xs → ∃ j : Nat, xs[j]? = some (Ar.own i)
  | .dat _ :: xs, h => by
    obtain ⟨j, e⟩ := ownIx_mem (xs := xs) h
    exact ⟨j + 1, e⟩
  | .own k :: xs, h => by
    rcases List.mem_cons.mp h with rfl | h
    · exact ⟨0, rfl⟩
    · obtain ⟨j, e⟩ := ownIx_mem (xs := xs) h
      exact ⟨j + 1, e⟩
theorem mem_ownIx {i : Nat} : ∀ {xs : List Ar} {j : Nat}, xs[j]? = some (.own i) → i ∈ ownIx xs
  | .dat _ :: xs, 0, h => by cases h
  | .dat _ :: xs, j + 1, h => mem_ownIx (xs := xs) (j := j) h
  | .own k :: xs, 0, h => by cases h; exact List.mem_cons_self ..
  | .own k :: xs, j + 1, h => List.mem_cons_of_mem _ (mem_ownIx (xs := xs) (j := j) h)
theorem ownIx_inj {i : Nat} : ∀ {xs : List Ar} {j k : Nat}, (ownIx xs).Nodup → xs[j]? = some (.own i) → xs[k]? = some (.own i) → j = k
  | [], _, _, _, h, _ => by cases h
  | .dat _ :: xs, 0, _, _, h, _ => by cases h
  | .dat _ :: xs, _ + 1, 0, _, _, h => by cases h
  | .dat _ :: xs, j + 1, k + 1, nd, h, h' => by rw [ownIx_inj (xs := xs) nd h h']
  | .own m :: xs, 0, 0, _, _, _ => rfl
  | .own m :: xs, 0, k + 1, nd, h, h' => by cases h; exact absurd (mem_ownIx (xs := xs) (j := k) h') (List.nodup_cons.mp nd).1
  | .own m :: xs, j + 1, 0, nd, h', h => by cases h; exact absurd (mem_ownIx (xs := xs) (j := j) h') (List.nodup_cons.mp nd).1
  | .own m :: xs, j + 1, k + 1, nd, h, h' => by rw [ownIx_inj (xs := xs) (List.nodup_cons.mp nd).2 h h']
theorem wb_len (ρ : En) : ∀ (xs : List Ar) (r : List Sl), (wb ρ xs r).length = ρ.length
  | [], _ => rfl
  | .own i :: xs, r => by rw [wb, List.length_set, wb_len ρ xs r.tail]
  | .dat _ :: xs, r => by rw [wb, wb_len ρ xs r.tail]
theorem wb_other (ρ : En) {i : Nat} : ∀ (xs : List Ar) (r : List Sl), i ∉ ownIx xs → (wb ρ xs r)[i]? = ρ[i]?
  | [], _, _ => rfl
  | .own k :: xs, r, h => by
    have h' := not_or.mp (fun q => h (List.mem_cons.mpr q))
    rw [wb, List.getElem?_set, if_neg (fun z => h'.1 z.symm), wb_other ρ xs r.tail h'.2]
  | .dat _ :: xs, r, h => by rw [wb, wb_other ρ xs r.tail h]
theorem wb_own (ρ : En) {i : Nat} {sl : Sl} (hi : i < ρ.length) : ∀ {xs : List Ar} {r : List Sl} {j : Nat}, (ownIx xs).Nodup → xs[j]? = some (.own i) → r[j]? = some sl → (wb ρ xs r)[i]? = some sl
  | [], _, _, _, h, _ => by cases h
  | _, [], _, _, _, h => by cases h
  | .dat _ :: xs, _, 0, _, h, _ => by cases h
  | .dat _ :: xs, _ :: r, j + 1, nd, h, h' => by rw [wb]; exact wb_own ρ hi (xs := xs) (r := r) (j := j) nd h h'
  | .own k :: xs, s :: r, 0, nd, h, h' => by
    cases h; cases h'
    rw [wb, List.getElem?_set, if_pos rfl, wb_len, if_pos hi]
    rfl
  | .own k :: xs, _ :: r, j + 1, nd, h, h' => by
    have nd' := List.nodup_cons.mp nd
    have hk : k ≠ i := fun z => nd'.1 (by rw [z]; exact mem_ownIx (xs := xs) (j := j) h)
    rw [wb, List.getElem?_set, if_neg hk]
    exact wb_own ρ hi (xs := xs) (r := r) (j := j) nd'.2 h h'
inductive Fits (ρ : En) : List Ar → List Sl → Prop
  | nil : Fits ρ [] []
  | dat {d : PyData} {xs : List Ar} {r : List Sl} : Fits ρ xs r → Fits ρ (.dat d :: xs) (.fz d :: r)
  | own {i : Nat} {ds : List PyData} {xs : List Ar} {r : List Sl} : ρ[i]? = some (.own ds) → Fits ρ xs r → Fits ρ (.own i :: xs) (.own ds :: r)
theorem argF_of {ρ : En} : ∀ {xs : List Ar} {k : List Sl → Prop}, argF ρ xs k → ∃ r, Fits ρ xs r ∧ k r
  | [], k, h => ⟨_, .nil, h⟩
  | .dat d :: xs, k, h => by
    obtain ⟨r, f, q⟩ := argF_of (xs := xs) h
    exact ⟨_, .dat f, q⟩
  | .own i :: xs, k, h => by
    unfold argF at h
    split at h
    · next ds e =>
      obtain ⟨r, f, q⟩ := argF_of (xs := xs) h
      exact ⟨_, .own e f, q⟩
    · exact h.elim
/-- one argument's slot -/
theorem fits_at {O : Addr → Prop} {as : Nat → Option Addr} {H G : Hp} {ρ : En} {σ : L2.St} (E : EnR K J O as H ρ σ) (s : Same (hp (Hid O as) H) G) : ∀ {xs : List Ar} {r : List Sl} {vs : List V} {j : Nat} {sl : Sl} {o : Option V}, Fits ρ xs r → ArsR K (hp (Hid O as) H) as vs xs →
    r[j]? = some sl → (vs.map some)[j]? = some o → SlR K G H (adrs as xs j) sl o
  | _, _, _, _, _, _, .nil, _, h, _ => by cases h
  | _, _, _, 0, _, _, .dat f, .cons (.dat q) _, h, h' => by cases h; cases h'; exact .fz (q.mono s)
  | _, _, _, 0, _, _, .own e f, .cons (.own q) _, h, h' => by
    cases h; cases h'
    obtain ⟨a, xs, e1, e2, e3, e4⟩ := E.own_at e
    rw [q] at e2
    cases e2
    show SlR K G H (as _) _ _
    rw [q]
    exact .own e3 (e4.mono s)
  | _, _, _, j + 1, _, _, .dat f, .cons _ r', h, h' => fits_at E s (j := j) f r' h h'
  | _, _, _, j + 1, _, _, .own _ f, .cons _ r', h, h' => fits_at E s (j := j) f r' h h'
theorem Fits.len {ρ : En} : ∀ {xs : List Ar} {r : List Sl}, Fits ρ xs r → r.length = xs.length
  | _, _, .nil => rfl
  | _, _, .dat f => by rw [List.length_cons, List.length_cons, Fits.len f]
  | _, _, .own _ f => by rw [List.length_cons, List.length_cons, Fits.len f]
theorem ArsR.len {G : Hp} {as : Nat → Option Addr} : ∀ {vs : List V} {xs : List Ar}, ArsR K G as vs xs → vs.length = xs.length
  | _, _, .nil => rfl
  | _, _, .cons _ r => by rw [List.length_cons, List.length_cons, ArsR.len r]
def fCall (m : Nat) (F : FN) (dv : List PyData) (a : FC) : FE := fun ρ P => a ρ fun xs ρ1 => xs.length + dv.length = m ∧ (ownIx xs).Nodup ∧ argF ρ1 xs fun r => F (r ++ dv.map .fz) fun d out => P d (wb ρ1 xs out)
theorem dat_ars {G : Hp} {as : Nat → Option Addr} : ∀ {vs : List V} {ds : List PyData}, DqAll K G vs ds → ArsR K G as vs (ds.map .dat)
  | _, _, .nil => .nil
  | _, _, .cons a b => .cons (.dat a) (dat_ars b)
theorem fits_dat {ρ : En} : ∀ ds : List PyData, Fits ρ (ds.map .dat) (ds.map .fz)
  | [] => .nil
  | d :: r => .dat (fits_dat r)
theorem ArsR.app {G : Hp} {as : Nat → Option Addr} : ∀ {vs ws : List V} {xs ys : List Ar}, ArsR K G as vs xs → ArsR K G as ws ys → ArsR K G as (vs ++ ws) (xs ++ ys)
  | _, _, _, _, .nil, h => h
  | _, _, _, _, .cons a b, h => .cons a (ArsR.app b h)
theorem Fits.app {ρ : En} : ∀ {xs ys : List Ar} {r s : List Sl}, Fits ρ xs r → Fits ρ ys s → Fits ρ (xs ++ ys) (r ++ s)
  | _, _, _, _, .nil, h => h
  | _, _, _, _, .dat f, h => .dat (Fits.app f h)
  | _, _, _, _, .own e f, h => .own e (Fits.app f h)
theorem ownIx_app : ∀ (xs : List Ar) (ds : List PyData), ownIx (xs ++ ds.map .dat) = ownIx xs
  | [], [] => rfl
  | [], d :: r => ownIx_app [] r
  | .dat _ :: xs, ds => ownIx_app xs ds
  | .own i :: xs, ds => by show i :: ownIx (xs ++ _) = _; rw [ownIx_app xs ds]; rfl
theorem wb_app (ρ : En) : ∀ (xs : List Ar) (ds : List PyData) (r : List Sl), wb ρ (xs ++ ds.map .dat) r = wb ρ xs r
  | [], [], r => rfl
  | [], d :: ds, r => by
    show wb ρ (ds.map .dat) r.tail = _
    have := wb_app ρ [] ds r.tail
    rw [List.nil_append] at this
    rw [this]
    rfl
  | .dat _ :: xs, ds, r => wb_app ρ xs ds r.tail
  | .own i :: xs, ds, r => by show (wb ρ (xs ++ _) r.tail).set i _ = _; rw [wb_app ρ xs ds r.tail]; rfl
theorem ArsR.own_at {G : Hp} {as : Nat → Option Addr} {i : Nat} : ∀ {vs : List V} {xs : List Ar} {j : Nat}, ArsR K G as vs xs → xs[j]? = some (Ar.own i) → ∃ a, as i = some a
  | _, _, _, .nil, h => by cases h
  | _, _, 0, .cons (.dat _) _, h => by cases h
  | _, _, 0, .cons (.own q) _, h => by cases h; exact ⟨_, q⟩
  | _, _, j + 1, .cons _ r, h => ArsR.own_at (j := j) r h
/-- the callee's view of the state, and back -/
theorem call_core {O : Addr → Prop} {as : Nat → Option Addr} {H : Hp} {ρ : En} {σ : L2.St} {xs : List Ar} {r : List Sl} {vs : List V} {m : Nat} {F : FN} {P : PyData → En → Prop} {Q : VK} {E0 : XK} (E : EnR K J O as H ρ σ) (fit : Fits ρ xs r) (ar : ArsR K (hp (Hid O as) H) as vs xs) (hm : xs.length = m) (nd : (ownIx xs).Nodup)
    (f : F r fun d out => P d (wb ρ xs out)) (k : ∀ d ρ' v H', P d ρ' → FrA (Own as) H H' → EnR K J O as H' ρ' σ → Dq K (hp (Hid O as) H') v d → Q v H') : spF K m F vs H Q E0 := by
  have sub : ∀ a, Own (adrs as xs) a → Own as a := fun a ⟨j, h⟩ => by
    obtain ⟨i, _, h⟩ := adrs_own h
    exact ⟨i, h⟩
  have hid : ∀ a, Hid (fun a => Hid O as a ∧ ¬ Own (adrs as xs) a) (adrs as xs) a ↔ Hid O as a := fun a => by
    constructor
    · rintro (h | h)
      · exact h.1
      · exact .inr (sub a h)
    · intro h
      by_cases q : Own (adrs as xs) a
      · exact .inr q
      · exact .inl ⟨h, q⟩
  have s1 : ∀ H', Same (hp (Hid O as) H') (hp (Hid (fun a => Hid O as a ∧ ¬ Own (adrs as xs) a) (adrs as xs)) H') := fun H' => hp_less fun a h => (hid a).mp h
  have s2 : ∀ H', Same (hp (Hid (fun a => Hid O as a ∧ ¬ Own (adrs as xs) a) (adrs as xs)) H') (hp (Hid O as) H') := fun H' => hp_less fun a h => (hid a).mpr h
  refine ⟨by rw [ar.len, hm], fun a => Hid O as a ∧ ¬ Own (adrs as xs) a, adrs as xs, r, _, ⟨by rw [List.length_map, fit.len, ar.len], fun j sl o h1 h2 => fits_at E (s1 H) fit ar h1 h2, fun j1 j2 a h1 h2 => ?_, fun j a h q => q.2 ⟨j, h⟩, fun j a h => ?_, fun a h => E.full h.1, trivial, trivial⟩, f, fun d out v H' p fr ow dv => ?_⟩
  · obtain ⟨i1, e1, h1⟩ := adrs_own h1
    obtain ⟨i2, e2, h2⟩ := adrs_own h2
    rw [E.inj i1 i2 a h1 h2] at e1
    exact ownIx_inj nd e1 e2
  · obtain ⟨i, e, _⟩ := adrs_own h
    rw [fit.len]
    exact (List.getElem?_eq_some_iff.mp e).1
  · have fr' : FrA (Own as) H H' := fr.up sub
    refine k d _ v H' p fr' ⟨by rw [wb_len]; exact E.len, fun i sl o h1 h2 => ?_, E.inj, E.out, fun i a h => by rw [wb_len]; exact E.bnd i a h, fun a h => ?_, J.fr E.inv fr', E.inq⟩ (dv.mono (s2 H'))
    · by_cases q : i ∈ ownIx xs
      · obtain ⟨j, e⟩ := ownIx_mem q
        have hi : i < ρ.length := by
          have := (List.getElem?_eq_some_iff.mp h1).1
          rw [wb_len] at this
          exact this
        have hown : ∃ a, as i = some a := ar.own_at e
        obtain ⟨a, ha⟩ := hown
        have hadr : adrs as xs j = some a := by unfold adrs; rw [e]; exact ha
        obtain ⟨ds, ys, e1, e2, e3⟩ := ow j a hadr
        rw [wb_own ρ hi nd e e1] at h1
        cases h1
        obtain ⟨_, _, _, e4, _⟩ := E.is_own ha
        rw [e4] at h2
        cases h2
        rw [ha]
        exact .own e2 (e3.mono (s2 H'))
      · rw [wb_other ρ xs out q] at h1
        refine (E.at_ i sl o h1 h2).mono (hp_fr fr' own_hid) fun b hb => ?_
        obtain ⟨_, _, _, _, e, _⟩ := E.is_own hb
        rw [e]
        refine fr _ _ (fun z => ?_) e
        obtain ⟨j, z⟩ := z
        obtain ⟨i', e', h'⟩ := adrs_own z
        rw [E.inj i' i b h' hb] at e'
        exact q (mem_ownIx e')
    · obtain ⟨o, e⟩ := Option.ne_none_iff_exists'.mp (E.occ a h)
      rw [fr' a o (fun ⟨i, z⟩ => E.out i a z h) e]
      exact Option.some_ne_none _
theorem re_call {m : Nat} {F : FN} {dvs : List V} {dv : List PyData} {E0 : XK} {t : TA} {f : FC} (hd : ∀ H, DqAll K H dvs dv) (ha : RC K J t f) : RE K J (tCall (spF K m F) dvs E0 t) (fCall m F dv f) := by
  intro O as σ H Q ρ P E q k
  refine ha O as σ H _ ρ _ E q fun xs ρ1 vs H1 q1 f1 E1 d1 => ?_
  obtain ⟨hm, nd, q1⟩ := q1
  obtain ⟨r, fit, q1⟩ := argF_of q1
  refine call_core (xs := xs ++ dv.map .dat) E1 (fit.app (fits_dat dv)) (d1.app (dat_ars (hd _))) (by rw [List.length_append, List.length_map]; exact hm) (by rw [ownIx_app]; exact nd) ?_ fun d ρ' v H' p fr E' q' => k d ρ' v H' p (f1.trans fr) E' q'
  · simp only [wb_app]
    exact q1
/-! own lists -/
def ownF (ρ : En) (i : Nat) (k : List PyData → Prop) : Prop := match ρ[i]? with
  | some (.own ds) => k ds
  | _ => False
theorem ownF_of {ρ : En} {i : Nat} {k : List PyData → Prop} (h : ownF ρ i k) : ∃ ds, ρ[i]? = some (.own ds) ∧ k ds := by
  unfold ownF at h
  split at h
  · next ds e => exact ⟨ds, e, h⟩
  · exact h.elim
theorem DqAll.atI {G : Hp} {xs : List V} {ds : List PyData} {k : Int} {d : PyData} (r : DqAll K G xs ds) (h : L2.atI ds k = some d) : ∃ v, L2.atI xs k = some v ∧ Dq K G v d := by
  unfold L2.atI at h ⊢
  rw [r.length]
  cases e : ixN ds.length k with
  | none => rw [e] at h; cases h
  | some j =>
    rw [e] at h
    exact r.got h
def fIxO (i : Nat) (b : FE) : FE := fun ρ P => ownF ρ i fun _ => b ρ fun x ρ1 => intF x fun k => ownF ρ1 i fun ds => ∃ d, atI ds k = some d ∧ P d ρ1
theorem re_ixO {i : Nat} {tb : TE} {b : FE} (hb : RE K J tb b) : RE K J (tOp (rIxL K) (tVar i) tb) (fIxO i b) := by
  intro O as σ H Q ρ P E q k
  obtain ⟨ds0, h0, q⟩ := ownF_of q
  obtain ⟨a, xs0, e1, e2, _, _⟩ := E.own_at h0
  refine ⟨_, e1, ?_⟩
  refine hb O as σ H _ ρ _ E q fun x ρ1 v H1 q1 f1 E1 d1 => ?_
  unfold intF at q1
  split at q1
  · next z =>
    cases d1
    obtain ⟨ds, hds, d, hd, p⟩ := ownF_of q1
    obtain ⟨a', xs, e1', e2', e3, e4⟩ := E1.own_at hds
    rw [e2] at e2'
    cases e2'
    obtain ⟨v, hv, dv⟩ := e4.atI hd
    exact ⟨a, xs, z, v, rfl, rfl, SqL.of e3, hv, k d ρ1 v H1 p f1 E1 dv⟩
  · exact q1.elim
/-- len of an own list -/
def fLenO (i : Nat) : FE := fun ρ P => ownF ρ i fun ds => P (.int ds.length) ρ
theorem re_lenO {i : Nat} : RE K J (tCB (fun xs H Q => ∃ p ys, xs = [.ref p] ∧ (SqL K H p ys ∨ SqT K H p ys) ∧ Q (.int ys.length) H) (tCons (tVar i) tNil)) (fLenO i) := by
  intro O as σ H Q ρ P E q k
  obtain ⟨ds, h0, q⟩ := ownF_of q
  obtain ⟨a, xs, e1, e2, e3, e4⟩ := E.own_at h0
  refine ⟨_, e1, a, xs, rfl, .inl (SqL.of e3), ?_⟩
  rw [e4.length]
  exact k _ _ _ _ q (FrA.refl _ _) E (.int _)
def fLenOK (i : Nat) : FE := fLenO i
theorem re_lenOK {i : Nat} : RE K J (tCB (rLenK K) (tCons (tVar i) tNil)) (fLenO i) := re_lenO
/-- own.append(e) -/
def fAppend (i : Nat) (a : FE) : FS := fun E ρ => ownF ρ i fun _ => a ρ fun d ρ1 => ownF ρ1 i fun ds => ds.length < sizeLine ∧ E.nx (ρ1.set i (.own (ds ++ [d])))
theorem rs_append {i : Nat} {te : TE} {a : FE} (ha : RE K J te a) : RS K J (tDrop (tBM K "list" rAppend (tVar i) (tCons te tNil))) (fAppend i a) := by
  intro O as σ H D ρ E R f C
  obtain ⟨ds0, h0, f⟩ := ownF_of f
  obtain ⟨p, xs0, e1, e2, e3, _⟩ := R.own_at h0
  refine ⟨_, e1, .inl ⟨rfl, _, SqL.of e3⟩, ?_⟩
  refine ha O as σ H _ ρ _ R f fun d ρ1 v H1 q1 f1 E1 d1 => ?_
  obtain ⟨ds, hds, hl, q1⟩ := ownF_of q1
  obtain ⟨p', xs, e1', e2', e3', e4'⟩ := E1.own_at hds
  rw [e2] at e2'
  cases e2'
  refine ⟨p, xs, v, rfl, rfl, e3', by rw [e4'.length]; exact hl, ?_⟩
  refine C.nx _ _ _ _ q1 (.of (f1.trans fun b o nb e => ?_)) (E1.put e2 (e4'.append (.cons d1 .nil)))
  rw [upd_ne (fun z : b = p => nb (by rw [z]; exact ⟨i, e2⟩))]
  exact e
/-- own[k] = e -/
def gSubO (i : Nat) (b : FE) : FG := fun d ρ P => ownF ρ i fun _ => b ρ fun x ρ1 => intF x fun k => ownF ρ1 i fun ds => ∃ j, ixN ds.length k = some j ∧ P (ρ1.set i (.own (ds.set j d)))
theorem rg_subO {i : Nat} {ti : TE} {b : FE} (hb : RE K J ti b) : RG K J [] (gSub (tVar i) ti rSetL) (gSubO i b) := by
  intro O as σ H R ρ P v d E q f k
  obtain ⟨ds0, h0, f⟩ := ownF_of f
  obtain ⟨p, xs0, e1, e2, e3, _⟩ := E.own_at h0
  refine ⟨_, e1, ?_⟩
  refine hb O as σ H _ ρ _ E f fun x ρ1 w H1 q1 f1 E1 d1 => ?_
  unfold intF at q1
  split at q1
  · next z =>
    cases d1
    obtain ⟨ds, hds, j, hj, q1⟩ := ownF_of q1
    obtain ⟨p', xs, e1', e2', e3', e4'⟩ := E1.own_at hds
    rw [e2] at e2'
    cases e2'
    refine ⟨p, xs, z, j, rfl, rfl, e3', by rw [e4'.length]; exact hj, ?_⟩
    refine k _ _ _ q1 (f1.trans fun b o nb e => ?_) (E1.put e2 (e4'.set (q.fr f1) j)) ⟨rfl, fun _ _ => rfl⟩
    rw [upd_ne (fun z : b = p => nb (by rw [z]; exact ⟨i, e2⟩))]
    exact e
  · exact q1.elim
/-! the def -/
def fnF (n m : Nat) (b : FS) : FN := fun sls P => b { nx := fun ρ' => P .none (ρ'.take n), rt := fun d ρ' => P d (ρ'.take n) } (sls ++ List.replicate (m - n) .no)
theorem EnR.start {n : Nat} {n' : Nat} {J : Jv n'} {O : Addr → Prop} {as : Nat → Option Addr} {H : Hp} {ρ : En} {vs : List V} (N : List Str) (E : EnR K J O as H ρ (vs.map some)) (hv : vs.length = n) : EnR K J O as H (ρ ++ List.replicate (N.length - n) .no) (L2.start N vs) := by
  have hl : ρ.length = n := by have := E.len; rw [List.length_map] at this; omega
  refine ⟨by rw [L2.start, List.length_append, List.length_append, List.length_replicate, List.length_replicate, E.len, hv], fun i sl o h1 h2 => ?_, E.inj, E.out, fun i a h => by have := E.bnd i a h; rw [List.length_append]; omega, E.occ, E.inv, E.inq⟩
  by_cases q : i < n
  · rw [List.getElem?_append_left (by omega)] at h1
    rw [L2.start, List.getElem?_append_left (by rw [List.length_map]; omega)] at h2
    exact E.at_ i sl o h1 h2
  · rw [List.getElem?_append_right (by omega), List.getElem?_replicate] at h1
    split at h1
    · cases h1
      have : as i = none := by
        cases e : as i with
        | none => rfl
        | some a => have := E.bnd i a e; omega
      rw [this]
      exact .no
    · cases h1
theorem fn_core {ps : List Str} {N : List Str} {b : FS} {t : TS} (rs : ∀ J : Jv ps.length, RS K J t b) {vs : List V} {H : Hp} {Q : VK} {E : XK} (h : spF K ps.length (fnF ps.length N.length b) vs H Q E) : t { nx := fun _ H' => Q .non H', rt := Q } (L2.start N vs) H := by
  obtain ⟨hv, O, as, ρ, P, R, hF, q⟩ := h
  have own : ∀ {ρ' : En} {as' : Nat → Option Addr} {σ' : L2.St} {H' : Hp}, Ext ps.length as as' H H' → EnR K (J0 : Jv ps.length) O as' H' ρ' σ' → ∀ i a, as i = some a → ∃ ds xs, (ρ'.take ps.length)[i]? = some (.own ds) ∧ H' a = some (.lst xs) ∧ DqAll K (hp (Hid O as) H') xs ds := by
    intro ρ' as' σ' H' x R' i a h
    have hi : i < ps.length := by have := R.bnd i a h; have := R.len; rw [List.length_map] at this; omega
    have h' : as' i = some a := by rw [x.fix i hi]; exact h
    obtain ⟨ds, xs, e1, _, e3, e4⟩ := R'.is_own h'
    refine ⟨ds, xs, by rw [List.getElem?_take, if_pos hi]; exact e1, e3, e4.mono ?_⟩
    refine hp_less fun c hc => ?_
    rcases hc with hc | ⟨j, hc⟩
    · exact .inl hc
    · have hj : j < ps.length := by have := R.bnd j c hc; have := R.len; rw [List.length_map] at this; omega
      exact .inr ⟨j, by rw [x.fix j hj]; exact hc⟩
  have less : ∀ {as' : Nat → Option Addr} {H' : Hp}, Ext ps.length as as' H H' → (∀ i a, as i = some a → i < ps.length) → Same (hp (Hid O as') H') (hp (Hid O as) H') := by
    intro as' H' x hb
    refine hp_less fun c hc => ?_
    rcases hc with hc | ⟨j, hc⟩
    · exact .inl hc
    · exact .inr ⟨j, by rw [x.fix j (hb j c hc)]; exact hc⟩
  have hb : ∀ i a, as i = some a → i < ps.length := fun i a h => by have := R.bnd i a h; have := R.len; rw [List.length_map] at this; omega
  refine rs J0 O as _ H _ _ _ ((R.start N hv).reJ trivial trivial) hF ⟨fun ρ' as' σ' H' p x R' => ?_, fun d ρ' v as' σ' H' p x R' dv => ?_, fun _ _ _ _ p => p.elim, fun _ _ _ _ p => p.elim, fun _ _ _ _ _ _ _ p => p.elim⟩
  · exact q _ _ _ _ p x.fr (own x R') .non
  · exact q _ _ _ _ p x.fr (own x R') (dv.mono (less x hb))
section
variable {P : Program} {w : World} {mg : Str → Option Value} {base : Heap} {k : Nat} {f : Addr} {fd : FuncData} {ps : List Str} {x qual : Str} {st : Stmt} {N : List Str} {b : FS}
theorem okF (F : Fun K x qual st f fd) (S : FnScope N ps (defScope st))
    (body : ∀ (cdv : Value) (A : Around) (outer : List Env) (s : Shared) (H : Hp) (E : XK), Room k (A.deeper (envOfC qual (defScope st) s.heap.objs.size f cdv)) →
      (A.deeper (envOfC qual (defScope st) s.heap.objs.size f cdv)).guards = some [] →
      ∃ t, PSs (cxOf CX0 P w K mg base N qual (defScope st) f cdv A outer s H E).nox (defBody st) t ∧ ∀ J : Jv ps.length, RS K J t b) :
    FnG P w K mg base (k + 1) f fd ps (spF K ps.length (fnF ps.length N.length b)) := by
  refine okG F S (fun vs H Q E h => h.1) (fun cdv A outer s H vs Q E hr hg h => ?_)
  obtain ⟨t, pt, rs⟩ := body cdv A outer s H E hr hg
  exact ⟨t, pt, fn_core rs h⟩
/-- without repr -/
theorem okF0 (F : Fun K x qual st f fd) (S : FnScope N ps (defScope st))
    (body : ∀ (cdv : Value) (A : Around) (outer : List Env) (s : Shared) (H : Hp) (E : XK), Room k (A.deeper (envOfC qual (defScope st) s.heap.objs.size f cdv)) →
      ∃ t, PSs (cxOf CX0 P w K mg base N qual (defScope st) f cdv A outer s H E).nox (defBody st) t ∧ ∀ J : Jv ps.length, RS K J t b) :
    FnOk P w K mg base CX0 (k + 1) f fd ps (spF K ps.length (fnF ps.length N.length b)) := by
  refine F.ok S (fun vs H Q E h => h.1) (fun cdv A outer s H vs Q E hr h => ?_)
  obtain ⟨t, pt, rs⟩ := body cdv A outer s H E hr
  exact ⟨t, pt, fn_core rs h⟩
/-- with defaults -/
theorem okFD {params : Arguments} {bd : List Stmt} {scope : Scope} {dvs : List V} {kws : List (Str × V)} (F : FunD K x qual params bd scope dvs kws f fd) (S : FnScope N ps scope)
    (body : ∀ (cdv : Value) (A : Around) (outer : List Env) (s : Shared) (H : Hp) (E : XK), Room k (A.deeper (envOfC qual scope s.heap.objs.size f cdv)) →
      ∃ t, PSs (cxOf CX0 P w K mg base N qual scope f cdv A outer s H E).nox bd t ∧ ∀ J : Jv ps.length, RS K J t b) :
    FnOk P w K mg base CX0 (k + 1) f fd ps (spF K ps.length (fnF ps.length N.length b)) := by
  refine okD F S (fun vs H Q E h => h.1) (fun cdv A outer s H vs Q E hr h => ?_)
  obtain ⟨t, pt, rs⟩ := body cdv A outer s H E hr
  exact ⟨t, pt, fn_core rs h⟩
end
end
end DL
/-! operators and built-in calls over data -/
namespace DL
open PySem L2 Z PySem.Spec PyProof.Rows
abbrev G2 := PyData → PyData → (PyData → Prop) → Prop
section
variable {K : PySem.W.Frag} {n : Nat} {J : Jv n}
def o2 (h : Int → Int → PyData) : G2 := fun a b P => match a, b with
  | .int i, .int j => P (h i j)
  | _, _ => False
def o2c (C : Int → Int → Prop) (h : Int → Int → PyData) : G2 := fun a b P => match a, b with
  | .int i, .int j => C i j ∧ P (h i j)
  | _, _ => False
theorem rr_i0 {h : Int → Int → V} {h' : Int → Int → PyData} (e : ∀ i j H, Dq K H (h i j) (h' i j)) : RR K (rI0 h) (o2 h') := by
  intro A H Q x y a b P oc da db g k
  unfold o2 at g
  split at g
  · cases da; cases db; exact ⟨_, _, rfl, rfl, k _ _ _ g (Same.refl _) (e _ _ _)⟩
  · exact g.elim
theorem rr_ic {C : Int → Int → Prop} {h : Int → Int → V} {h' : Int → Int → PyData} (e : ∀ i j H, Dq K H (h i j) (h' i j)) : RR K (rI C h) (o2c C h') := by
  intro A H Q x y a b P oc da db g k
  unfold o2c at g
  split at g
  · cases da; cases db; exact ⟨_, _, rfl, rfl, g.1, k _ _ _ g.2 (Same.refl _) (e _ _ _)⟩
  · exact g.elim
abbrev oAdd : G2 := o2 fun i j => .int (i + j)
abbrev oSub : G2 := o2 fun i j => .int (i - j)
abbrev oMul : G2 := o2c CMul fun i j => .int (i * j)
abbrev oDiv : G2 := o2c CDiv fun i j => .int (i / j)
abbrev oMod : G2 := o2c (fun _ j => 0 < j) fun i j => .int (i % j)
abbrev oPow : G2 := o2c CPow fun i j => .int (i ^ j.toNat)
abbrev oShl : G2 := o2c CPow fun i j => .int (i * 2 ^ j.toNat)
abbrev oShr : G2 := o2c (fun _ j => 0 ≤ j) fun i j => .int (i / 2 ^ j.toNat)
abbrev oBAnd : G2 := o2 fun i j => .int (Builtin.bitAnd i j)
abbrev oBOr : G2 := o2 fun i j => .int (Builtin.bitOr i j)
abbrev oLt : G2 := o2 fun i j => .bool (decide (i < j))
abbrev oLe : G2 := o2 fun i j => .bool (decide (i ≤ j))
abbrev oGt : G2 := o2 fun i j => .bool (decide (j < i))
abbrev oGe : G2 := o2 fun i j => .bool (decide (j ≤ i))
theorem rr_add : RR K (rI0 fun i j => .int (i + j)) oAdd := rr_i0 fun _ _ _ => .int _
theorem rr_sub : RR K (rI0 fun i j => .int (i - j)) oSub := rr_i0 fun _ _ _ => .int _
theorem rr_mul : RR K (rI CMul fun i j => .int (i * j)) oMul := rr_ic fun _ _ _ => .int _
theorem rr_fdiv : RR K (rI CDiv fun i j => .int (i / j)) oDiv := rr_ic fun _ _ _ => .int _
theorem rr_mod : RR K (rI (fun _ j => 0 < j) fun i j => .int (i % j)) oMod := rr_ic fun _ _ _ => .int _
theorem rr_pow : RR K (rI CPow fun i j => .int (i ^ j.toNat)) oPow := rr_ic fun _ _ _ => .int _
theorem rr_shl : RR K (rI CPow fun i j => .int (i * 2 ^ j.toNat)) oShl := rr_ic fun _ _ _ => .int _
theorem rr_shr : RR K (rI (fun _ j => 0 ≤ j) fun i j => .int (i / 2 ^ j.toNat)) oShr := rr_ic fun _ _ _ => .int _
theorem rr_and : RR K (rI0 fun i j => .int (Builtin.bitAnd i j)) oBAnd := rr_i0 fun _ _ _ => .int _
theorem rr_or : RR K (rI0 fun i j => .int (Builtin.bitOr i j)) oBOr := rr_i0 fun _ _ _ => .int _
theorem rr_lt : RR K (rI0 fun i j => .bl (decide (i < j))) oLt := rr_i0 fun _ _ _ => .bl _
theorem rr_le : RR K (rI0 fun i j => .bl (decide (i ≤ j))) oLe := rr_i0 fun _ _ _ => .bl _
theorem rr_gt : RR K (rI0 fun i j => .bl (decide (j < i))) oGt := rr_i0 fun _ _ _ => .bl _
theorem rr_ge : RR K (rI0 fun i j => .bl (decide (j ≤ i))) oGe := rr_i0 fun _ _ _ => .bl _
def oStr (C : Str → Str → Prop) (h : Str → Str → PyData) : G2 := fun a b P => match a, b with
  | .str i, .str j => C i j ∧ P (h i j)
  | _, _ => False
abbrev oAddS : G2 := oStr (fun i j => i.length + j.length ≤ sizeLine) fun i j => .str (i ++ j)
theorem rr_add_str : RR K (fun x y H Q => ∃ i j, x = .str i ∧ y = .str j ∧ i.length + j.length ≤ sizeLine ∧ Q (.str (i ++ j)) H) oAddS := by
  intro A H Q x y a b P oc da db g k
  unfold oAddS oStr at g
  split at g
  · cases da; cases db; exact ⟨_, _, rfl, rfl, g.1, k _ _ _ g.2 (Same.refl _) (.str _)⟩
  · exact g.elim
abbrev oLtS : G2 := oStr (fun _ _ => True) fun i j => .bool (decide (i.cps.toList < j.cps.toList))
theorem rr_lt_str : RR K (fun x y H Q => ∃ i j, x = .str i ∧ y = .str j ∧ Q (.bl (decide (i.cps.toList < j.cps.toList))) H) oLtS := by
  intro A H Q x y a b P oc da db g k
  unfold oLtS oStr at g
  split at g
  · cases da; cases db; exact ⟨_, _, rfl, rfl, k _ _ _ g.2 (Same.refl _) (.bl _)⟩
  · exact g.elim
/-- == of plain things -/
def oEqB (h : Bool → Bool) : G2 := fun a b P => match a, b with
  | .int i, .int j => P (.bool (h (decide (i = j))))
  | .str i, .str j => P (.bool (h (decide (i = j))))
  | .bool i, .bool j => P (.bool (h (decide (i = j))))
  | .none, .none => P (.bool (h true))
  | .none, .int _ => P (.bool (h false))
  | .int _, .none => P (.bool (h false))
  | .none, .str _ => P (.bool (h false))
  | .str _, .none => P (.bool (h false))
  | .none, .bool _ => P (.bool (h false))
  | .bool _, .none => P (.bool (h false))
  | .int _, .str _ => P (.bool (h false))
  | .str _, .int _ => P (.bool (h false))
  | _, _ => False
abbrev oEq : G2 := oEqB id
abbrev oNe : G2 := oEqB not
theorem dec_int {i j : Int} : decide (V.int i = V.int j) = decide (i = j) := by by_cases h : i = j <;> simp [h]
theorem dec_str {i j : Str} : decide (V.str i = V.str j) = decide (i = j) := by by_cases h : i = j <;> simp [h]
theorem dec_bl {i j : Bool} : decide (V.bl i = V.bl j) = decide (i = j) := by by_cases h : i = j <;> simp [h]
theorem rr_eq : RR K rEq oEq := by
  intro A H Q x y a b P oc da db g k
  unfold oEq oEqB at g
  split at g
  · cases da; cases db; refine ⟨rfl, ?_⟩; rw [dec_int]; exact k _ _ _ g (Same.refl _) (.bl _)
  · cases da; cases db; refine ⟨rfl, ?_⟩; rw [dec_str]; exact k _ _ _ g (Same.refl _) (.bl _)
  · cases da; cases db; refine ⟨rfl, ?_⟩; rw [dec_bl]; exact k _ _ _ g (Same.refl _) (.bl _)
  all_goals first | (exact g.elim) | (cases da; cases db; exact ⟨rfl, k _ _ _ g (Same.refl _) (.bl _)⟩)
theorem rr_ne : RR K rNe oNe := by
  intro A H Q x y a b P oc da db g k
  unfold oNe oEqB at g
  split at g
  · cases da; cases db; refine ⟨rfl, ?_⟩; rw [dec_int]; exact k _ _ _ g (Same.refl _) (.bl _)
  · cases da; cases db; refine ⟨rfl, ?_⟩; rw [dec_str]; exact k _ _ _ g (Same.refl _) (.bl _)
  · cases da; cases db; refine ⟨rfl, ?_⟩; rw [dec_bl]; exact k _ _ _ g (Same.refl _) (.bl _)
  all_goals first | (exact g.elim) | (cases da; cases db; exact ⟨rfl, k _ _ _ g (Same.refl _) (.bl _)⟩)
/-- == of data -/
def oEqD : G2 := fun a b P => SeqAt.shaped a = true ∧ SeqAt.shaped b = true ∧ P (.bool (PyData.eqv a b))
def oNeD : G2 := fun a b P => SeqAt.shaped a = true ∧ SeqAt.shaped b = true ∧ P (.bool (!PyData.eqv a b))
theorem rr_eqD : RR K (rEqD K) oEqD := fun A H Q x y a b P oc da db g k => ⟨a, b, Dp.mono hp_same (da.dp (plain_of g.1)), Dp.mono hp_same (db.dp (plain_of g.2.1)), g.1, g.2.1, k _ _ _ g.2.2 (Same.refl _) (.bl _)⟩
theorem rr_neD : RR K (rNeD K) oNeD := fun A H Q x y a b P oc da db g k => ⟨a, b, Dp.mono hp_same (da.dp (plain_of g.1)), Dp.mono hp_same (db.dp (plain_of g.2.1)), g.1, g.2.1, k _ _ _ g.2.2 (Same.refl _) (.bl _)⟩
def isNone : PyData → Bool
  | .none => true
  | _ => false
def oIsB (h : Bool → Bool) : G2 := fun a b P => match b with
  | .none => P (.bool (h (isNone a)))
  | _ => False
abbrev oIs : G2 := oIsB id
abbrev oIsnt : G2 := oIsB not
theorem isNone_of {H : Hp} {x : V} {a : PyData} (d : Dq K H x a) : decide (x = .non) = isNone a := by cases d <;> rfl
theorem rr_isN : RR K (fun x y H Q => y = .non ∧ Q (.bl (decide (x = .non))) H) oIs := by
  intro A H Q x y a b P oc da db g k
  unfold oIs oIsB at g
  split at g
  · cases db; refine ⟨rfl, ?_⟩; rw [isNone_of da]; exact k _ _ _ g (Same.refl _) (.bl _)
  · exact g.elim
theorem rr_notN : RR K (fun x y H Q => y = .non ∧ Q (.bl (!decide (x = .non))) H) oIsnt := by
  intro A H Q x y a b P oc da db g k
  unfold oIsnt oIsB at g
  split at g
  · cases db; refine ⟨rfl, ?_⟩; rw [isNone_of da]; exact k _ _ _ g (Same.refl _) (.bl _)
  · exact g.elim
/-- a sign in a text -/
def oInSB (h : Bool → Bool) : G2 := fun a b P => match a, b with
  | .str s, .str z => ∃ c, s = ⟨#[c]⟩ ∧ P (.bool (h (decide (c ∈ z.cps.toList))))
  | _, _ => False
abbrev oInS : G2 := oInSB id
abbrev oNinS : G2 := oInSB not
theorem rr_in_sign : RR K (fun x y H Q => ∃ (c : Nat) (z : Str), x = .str ⟨#[c]⟩ ∧ y = .str z ∧ Q (.bl (decide (c ∈ z.cps.toList))) H) oInS := by
  intro A H Q x y a b P oc da db g k
  unfold oInS oInSB at g
  split at g
  · cases da; cases db; obtain ⟨c, rfl, g⟩ := g; exact ⟨_, _, rfl, rfl, k _ _ _ g (Same.refl _) (.bl _)⟩
  · exact g.elim
theorem rr_notIn_sign : RR K (fun x y H Q => ∃ (c : Nat) (z : Str), x = .str ⟨#[c]⟩ ∧ y = .str z ∧ Q (.bl (!decide (c ∈ z.cps.toList))) H) oNinS := by
  intro A H Q x y a b P oc da db g k
  unfold oNinS oInSB at g
  split at g
  · cases da; cases db; obtain ⟨c, rfl, g⟩ := g; exact ⟨_, _, rfl, rfl, k _ _ _ g (Same.refl _) (.bl _)⟩
  · exact g.elim
def flatD : PyData → Bool
  | .none => true
  | .bool _ => true
  | .int _ => true
  | .str _ => true
  | _ => false
theorem flat_of {H : Hp} {x : V} {a : PyData} (d : Dq K H x a) (h : flatD a = true) : flatV x = true := by
  cases d <;> first | rfl | cases h
theorem eqV_of {H : Hp} {x y : V} {a b : PyData} (d : Dq K H x a) (e : Dq K H y b) (h : flatD a = true) (h' : flatD b = true) : eqV x y = PyData.eqv a b := by
  cases d <;> first | (cases h; done) | (cases e <;> first | (cases h'; done) | (unfold PyData.eqv; rfl))
theorem flats_of {H : Hp} : ∀ {xs : List V} {ds : List PyData}, DqAll K H xs ds → ds.all flatD = true → xs.all flatV = true
  | _, _, .nil, _ => rfl
  | _, _, .cons a b, h => by
    have h' := Bool.and_eq_true_iff.mp h
    exact Bool.and_eq_true_iff.mpr ⟨flat_of a h'.1, flats_of b h'.2⟩
def inD (a : PyData) (ds : List PyData) : Bool := ds.any fun y => PyData.eqv y a
theorem in_of {H : Hp} {x : V} {a : PyData} (d : Dq K H x a) (h : flatD a = true) : ∀ {xs : List V} {ds : List PyData}, DqAll K H xs ds → ds.all flatD = true → inV x xs = inD a ds
  | _, _, .nil, _ => rfl
  | _, _, .cons e b, h' => by
    have h' := Bool.and_eq_true_iff.mp h'
    show (eqV _ x || inV x _) = (PyData.eqv _ a || inD a _)
    rw [eqV_of e d h'.1 h, in_of d h b h'.2]
def seqF (a : PyData) (k : List PyData → Prop) : Prop := match a with
  | .list ds => k ds
  | .tuple ds => k ds
  | _ => False
def oIn (neg : Bool) : G2 := fun a b P => seqF b fun ds => flatD a = true ∧ ds.all flatD = true ∧ P (.bool (if neg then !inD a ds else inD a ds))
theorem seqF_of {A : Addr → Prop} {H : Hp} {x : V} {a : PyData} {k : List PyData → Prop} (d : Dq K (hp A H) x a) (h : seqF a k) : ∃ p xs ds, x = .ref p ∧ (SqL K H p xs ∨ SqT K H p xs) ∧ DqAll K (hp A H) xs ds ∧ k ds := by
  unfold seqF at h
  split at h
  · obtain ⟨p, xs, rfl, s, r⟩ := d.list_of
    exact ⟨p, xs, _, rfl, .inl (SqL.mono hp_same s), r, h⟩
  · obtain ⟨p, xs, rfl, s, r⟩ := d.tuple_of
    exact ⟨p, xs, _, rfl, .inr (SqT.mono hp_same s), r, h⟩
  · exact h.elim
theorem rr_in {neg : Bool} : RR K (rIn K neg) (oIn neg) := by
  intro A H Q x y a b P oc da db g k
  obtain ⟨p, xs, ds, rfl, s, r, h1, h2, g⟩ := seqF_of db g
  refine ⟨p, xs, rfl, s, flat_of da h1, flats_of r h2, ?_⟩
  rw [in_of da h1 r h2]
  exact k _ _ _ g (Same.refl _) (.bl _)
/-- x in own -/
def fInO (neg : Bool) (i : Nat) (a : FE) : FE := fun ρ P => a ρ fun x ρ1 => ownF ρ1 i fun ds => flatD x = true ∧ ds.all flatD = true ∧ P (.bool (if neg then !inD x ds else inD x ds)) ρ1
theorem re_inO {neg : Bool} {i : Nat} {ta : TE} {a : FE} (ha : RE K J ta a) : RE K J (tOp (rIn K neg) ta (tVar i)) (fInO neg i a) := by
  intro O as σ H Q ρ P E q k
  refine ha O as σ H _ ρ _ E q fun x ρ1 v H1 q1 f1 E1 d1 => ?_
  obtain ⟨ds, hds, h1, h2, q1⟩ := ownF_of q1
  obtain ⟨p, xs, e1, e2, e3, e4⟩ := E1.own_at hds
  refine ⟨_, e1, p, xs, rfl, .inl (SqL.of e3), flat_of d1 h1, flats_of e4 h2, ?_⟩
  rw [in_of d1 h1 e4 h2]
  exact k _ _ _ _ q1 f1 E1 (.bl _)
/-! places -/
def oIxL : G2 := fun a b P => match a, b with
  | .list ds, .int k => ∃ d, atI ds k = some d ∧ P d
  | _, _ => False
def oIxT : G2 := fun a b P => match a, b with
  | .tuple ds, .int k => ∃ d, atI ds k = some d ∧ P d
  | _, _ => False
def oIxS : G2 := fun a b P => match a, b with
  | .str z, .int k => z.length ≤ sizeLine ∧ ∃ c, atI z.cps.toList k = some c ∧ P (.str ⟨#[c]⟩)
  | _, _ => False
theorem rr_ixL : RR K (rIxL K) oIxL := by
  intro A H Q x y a b P oc da db g k
  unfold oIxL at g
  split at g
  · cases db
    obtain ⟨p, xs, rfl, s, r⟩ := da.list_of
    obtain ⟨d, hd, g⟩ := g
    obtain ⟨v, hv, dv⟩ := r.atI hd
    exact ⟨p, xs, _, v, rfl, rfl, SqL.mono hp_same s, hv, k _ _ _ g (Same.refl _) dv⟩
  · exact g.elim
theorem rr_ixT : RR K (rIxT K) oIxT := by
  intro A H Q x y a b P oc da db g k
  unfold oIxT at g
  split at g
  · cases db
    obtain ⟨p, xs, rfl, s, r⟩ := da.tuple_of
    obtain ⟨d, hd, g⟩ := g
    obtain ⟨v, hv, dv⟩ := r.atI hd
    exact ⟨p, xs, _, v, rfl, rfl, SqT.mono hp_same s, hv, k _ _ _ g (Same.refl _) dv⟩
  · exact g.elim
theorem rr_ixS : RR K rIxS oIxS := by
  intro A H Q x y a b P oc da db g k
  unfold oIxS at g
  split at g
  · cases da; cases db
    obtain ⟨hz, c, hc, g⟩ := g
    exact ⟨_, _, c, rfl, rfl, hz, hc, k _ _ _ g (Same.refl _) (.str _)⟩
  · exact g.elim
def oIx : G2 := fun a b P => match a, b with
  | .list ds, .int k => ∃ d, atI ds k = some d ∧ P d
  | .tuple ds, .int k => ∃ d, atI ds k = some d ∧ P d
  | .str z, .int k => z.length ≤ sizeLine ∧ ∃ c, atI z.cps.toList k = some c ∧ P (.str ⟨#[c]⟩)
  | _, _ => False
theorem rr_ix : RR K (rIx K) oIx := by
  intro A H Q x y a b P oc da db g k
  unfold oIx at g
  split at g
  · exact .inl (rr_ixL A H Q x y _ _ P oc da db g k)
  · exact .inr (.inl (rr_ixT A H Q x y _ _ P oc da db g k))
  · exact .inr (.inr (rr_ixS A H Q x y _ _ P oc da db g k))
  · exact g.elim
/-! slices -/
abbrev FO := En → (Option Int → En → Prop) → Prop
def RO (K : PySem.W.Frag) {n : Nat} (J : Jv n) (t : TO) (f : FO) : Prop := ∀ (O : Addr → Prop) (as : Nat → Option Addr) (σ : L2.St) (H : Hp) (Q : Option Int → Hp → Prop) (ρ : En) (P : Option Int → En → Prop), EnR K J O as H ρ σ → f ρ P →
  (∀ o ρ' H', P o ρ' → FrA (Own as) H H' → EnR K J O as H' ρ' σ → Q o H') → t σ H Q
def pNo : FO := fun ρ P => P none ρ
def pSo (a : FE) : FO := fun ρ P => a ρ fun d ρ1 => intF d fun i => P (some i) ρ1
theorem ro_no : RO K J tNoPart pNo := fun O as σ H Q ρ P E f k => k none ρ H f (FrA.refl _ _) E
theorem ro_so {t : TE} {a : FE} (ha : RE K J t a) : RO K J (tPart t) (pSo a) := by
  intro O as σ H Q ρ P E q k
  refine ha O as σ H _ ρ _ E q fun d ρ1 v H1 q1 f1 E1 d1 => ?_
  unfold intF at q1
  split at q1
  · cases d1; exact ⟨_, rfl, k _ _ _ q1 f1 E1⟩
  · exact q1.elim
def RL (K : PySem.W.Frag) (r : V → Option Int → Option Int → Hp → VK → Prop) (g : PyData → Option Int → Option Int → (PyData → Prop) → Prop) : Prop := ∀ (A : Addr → Prop) (H : Hp) (Q : VK) (x : V) (a : PyData) (lo hi : Option Int) (P : PyData → Prop), (∀ c, A c → H c ≠ none) →
  Dq K (hp A H) x a → g a lo hi P → (∀ d v H', P d → Same H H' → Dq K (hp A H') v d → Q v H') → r x lo hi H Q
def fSl (g : PyData → Option Int → Option Int → (PyData → Prop) → Prop) (a : FE) (lo hi : FO) : FE := fun ρ P => a ρ fun x ρ1 => lo ρ1 fun l ρ2 => hi ρ2 fun u ρ3 => g x l u fun d => P d ρ3
theorem re_sl {r : V → Option Int → Option Int → Hp → VK → Prop} {g : PyData → Option Int → Option Int → (PyData → Prop) → Prop} {te : TE} {tl th : TO} {a : FE} {lo hi : FO} (hr : RL K r g) (ha : RE K J te a) (hl : RO K J tl lo) (hh : RO K J th hi) : RE K J (tSl r te tl th) (fSl g a lo hi) := by
  intro O as σ H Q ρ P E q k
  refine ha O as σ H _ ρ _ E q fun x ρ1 v H1 q1 f1 E1 d1 => ?_
  refine hl O as σ H1 _ ρ1 _ E1 q1 fun l ρ2 H2 q2 f2 E2 => ?_
  refine hh O as σ H2 _ ρ2 _ E2 q2 fun u ρ3 H3 q3 f3 E3 => ?_
  refine hr (Hid O as) H3 _ v x l u _ (fun c h => E3.full h) ((d1.fr f2).fr f3) q3 fun d w H4 p s4 d4 => ?_
  exact k _ _ _ _ p (((f1.trans f2).trans f3).trans (FrA.of s4)) (E3.grow s4) d4
def cutD (xs : List PyData) (lo hi : Option Int) : List PyData := (xs.drop (HT.sIx xs.length 0 lo)).take (HT.sIx xs.length xs.length hi - HT.sIx xs.length 0 lo)
theorem DqAll.cut {G : Hp} {xs : List V} {ds : List PyData} (r : DqAll K G xs ds) (lo hi : Option Int) : DqAll K G (cutV xs lo hi) (cutD ds lo hi) := by
  unfold cutV cutD
  rw [r.length]
  exact (r.drop _).take _
def sL : PyData → Option Int → Option Int → (PyData → Prop) → Prop := fun a lo hi P => listF a fun ds => P (.list (cutD ds lo hi))
def sT : PyData → Option Int → Option Int → (PyData → Prop) → Prop := fun a lo hi P => tupleF a fun ds => P (.tuple (cutD ds lo hi))
def sS : PyData → Option Int → Option Int → (PyData → Prop) → Prop := fun a lo hi P => strF a fun z => z.length ≤ sizeLine ∧ P (.str (cutS z lo hi))
theorem rl_list : RL K (rSlL K) sL := by
  intro A H Q x a lo hi P oc da g k
  unfold sL listF at g
  split at g
  · obtain ⟨p, xs, rfl, s, r⟩ := da.list_of
    refine ⟨p, xs, rfl, SqL.mono hp_same s, fun l hl => ?_⟩
    have sm := Same.new (o := .lst (cutV xs lo hi)) hl
    exact k _ _ _ g sm (.lst (SqL.of (hp_mk (fun q => oc _ q hl) upd_same)) ((r.mono (hp_grow sm)).cut lo hi))
  · exact g.elim
theorem rl_tupA : RL K (rSlA K) sT := by
  intro A H Q x a lo hi P oc da g k
  unfold sT tupleF at g
  split at g
  · obtain ⟨p, xs, rfl, s, r⟩ := da.tuple_of
    refine ⟨p, xs, rfl, SqT.mono hp_same s, fun e => ?_, fun _ l hl => ?_⟩
    · refine k _ _ _ g (Same.refl _) (.tup (xs := cutV xs lo hi) ?_ (r.cut lo hi))
      unfold cutV
      rw [e.1, e.2, List.drop_zero, Nat.sub_zero, List.take_length]
      exact s
    · have sm := Same.new (o := .tup (cutV xs lo hi)) hl
      exact k _ _ _ g sm (.tup (SqT.of (hp_mk (fun q => oc _ q hl) upd_same)) ((r.mono (hp_grow sm)).cut lo hi))
  · exact g.elim
theorem rl_str : RL K rSlS sS := by
  intro A H Q x a lo hi P oc da g k
  unfold sS strF at g
  split at g
  · cases da; exact ⟨_, rfl, g.1, k _ _ _ g.2 (Same.refl _) (.str _)⟩
  · exact g.elim
end
end DL
namespace DL
open PySem L2 Z PySem.Spec PyProof.Rows
section
variable {K : PySem.W.Frag} {n : Nat} {J : Jv n}
/-- list + list, each tracked, frozen or of the module -/
def rCatK (K : PySem.W.Frag) : R2 := fun x y H Q => ∃ l b xs zs, x = .ref l ∧ y = .ref b ∧ SqL K H l xs ∧ SqL K H b zs ∧ xs.length + zs.length ≤ sizeLine ∧ ∀ p, H p = none → Q (.ref p) (upd H p (.lst (xs ++ zs)))
theorem op_catK {X : Cx} : OpR X (binaryOp .Add) (rCatK X.K) := by
  intro pins s σ H x y v u Q I rx ry h
  obtain ⟨l, b, xs, zs, rfl, rfl, hH, hB, hz, q⟩ := h
  cases rx
  cases ry
  obtain ⟨its, r, ⟨⟨c1, d1, e1, sl1⟩, n1, ho1, hc1, hd1, hs1⟩, z1⟩ := I.list hH
  obtain ⟨its2, r2, ⟨⟨c2, d2, e2, sl2⟩, n2, ho2, hc2, hd2, hs2⟩, z2⟩ := I.list hB
  simp only at hc1 hd1 hs1 hc2 hd2 hs2
  subst hc1 hd1 hs1 hc2 hd2 hs2
  have ea : its.toArray ++ its2.toArray = (its ++ its2).toArray := by simp
  have l1 := r.length
  have l2 := r2.length
  refine concat_meets ⟨_, ho1, rfl⟩ ⟨_, ho2, rfl⟩ noFill_list_add seq_list_add PySem.F.slot_list_add PySem.F.entry_list_add (PySem.F.args_list_add_2 _ _) (list_addW l b its.toArray its2.toArray n1 n2 none none sl1 sl2 (by simp; omega)) ⟨ho1, ho2, ?_⟩
  rw [ea]
  exact ⟨.ref _, _, I.lnew (t' := s.toks) (r.append r2) (by rw [List.length_append]; omega), rfl, q _ I.fresh⟩
def oCatL : G2 := fun a b P => match a, b with
  | .list xs, .list ys => xs.length + ys.length ≤ sizeLine ∧ P (.list (xs ++ ys))
  | _, _ => False
theorem rr_cat : RR K (rCatK K) oCatL := by
  intro A H Q x y a b P oc da db g k
  unfold oCatL at g
  split at g
  · obtain ⟨p, xs, rfl, s, r⟩ := da.list_of
    obtain ⟨p', xs', rfl, s', r'⟩ := db.list_of
    refine ⟨p, p', xs, xs', rfl, rfl, SqL.mono hp_same s, SqL.mono hp_same s', by rw [r.length, r'.length]; exact g.1, fun l hl => ?_⟩
    have sm := Same.new (o := .lst (xs ++ xs')) hl
    exact k _ _ _ g.2 sm (.lst (SqL.of (hp_mk (fun q => oc _ q hl) upd_same)) ((r.mono (hp_grow sm)).append (r'.mono (hp_grow sm))))
  · exact g.elim
def oCatT : G2 := fun a b P => match a, b with
  | .tuple xs, .tuple ys => xs.length + ys.length ≤ sizeLine ∧ P (.tuple (xs ++ ys))
  | _, _ => False
theorem rr_catA : RR K (rCatA K) oCatT := by
  intro A H Q x y a b P oc da db g k
  unfold oCatT at g
  split at g
  · obtain ⟨p, xs, rfl, s, r⟩ := da.tuple_of
    obtain ⟨p', xs', rfl, s', r'⟩ := db.tuple_of
    have rr := r.append r'
    refine ⟨p, p', xs, xs', rfl, rfl, SqT.mono hp_same s, SqT.mono hp_same s', by rw [r.length, r'.length]; exact g.1, fun e => ?_, fun _ e => ?_, fun _ _ l hl => ?_⟩
    · subst e
      exact k _ _ _ g.2 (Same.refl _) (.tup s' rr)
    · subst e
      rw [List.append_nil] at rr
      exact k _ _ _ g.2 (Same.refl _) (.tup s rr)
    · have sm := Same.new (o := .tup (xs ++ xs')) hl
      exact k _ _ _ g.2 sm (.tup (SqT.of (hp_mk (fun q => oc _ q hl) upd_same)) (rr.mono (hp_grow sm)))
  · exact g.elim
def uNeg (a : PyData) (P : PyData → Prop) : Prop := intF a fun i => P (.int (-i))
theorem ru_neg : RU K (rU fun i => .int (-i)) uNeg := by
  intro A H Q x a P oc da g k
  unfold uNeg intF at g
  split at g
  · cases da; exact ⟨_, rfl, k _ _ _ g (Same.refl _) (.int _)⟩
  · exact g.elim
/-! built-in calls -/
def one (ds : List PyData) (k : PyData → Prop) : Prop := match ds with
  | [d] => k d
  | _ => False
theorem one_of {G : Hp} {vs : List V} {ds : List PyData} {k : PyData → Prop} (r : DqAll K G vs ds) (h : one ds k) : ∃ v d, vs = [v] ∧ Dq K G v d ∧ k d := by
  unfold one at h
  split at h
  · cases r with
    | cons a b => cases b; exact ⟨_, _, rfl, a, h⟩
  · exact h.elim
def bLenS (ds : List PyData) (P : PyData → Prop) : Prop := one ds fun d => strF d fun z => z.length ≤ sizeLine ∧ P (.int z.length)
theorem rb_len_str : RB K (fun xs H Q => ∃ z, xs = [.str z] ∧ z.length ≤ sizeLine ∧ Q (.int z.length) H) bLenS := by
  intro A H Q xs ds P oc r g k
  obtain ⟨v, d, rfl, q, g⟩ := one_of r g
  unfold strF at g
  split at g
  · cases q; exact ⟨_, rfl, g.1, k _ _ _ g.2 (Same.refl _) (.int _)⟩
  · exact g.elim
def bLen (ds : List PyData) (P : PyData → Prop) : Prop := one ds fun d => seqF d fun es => P (.int es.length)
theorem rb_len : RB K (fun xs H Q => ∃ p ys, xs = [.ref p] ∧ (SqL K H p ys ∨ SqT K H p ys) ∧ Q (.int ys.length) H) bLen := by
  intro A H Q xs ds P oc r g k
  obtain ⟨v, d, rfl, q, g⟩ := one_of r g
  obtain ⟨p, xs, ds, rfl, s, r, g⟩ := seqF_of q g
  refine ⟨p, xs, rfl, s, ?_⟩
  rw [r.length]
  exact k _ _ _ g (Same.refl _) (.int _)
theorem rb_lenK : RB K (rLenK K) bLen := rb_len
def bAbs (ds : List PyData) (P : PyData → Prop) : Prop := one ds fun d => intF d fun i => P (.int (if i < 0 then -i else i))
theorem rb_abs : RB K (fun xs H Q => ∃ i, xs = [.int i] ∧ Q (.int (if i < 0 then -i else i)) H) bAbs := by
  intro A H Q xs ds P oc r g k
  obtain ⟨v, d, rfl, q, g⟩ := one_of r g
  unfold intF at g
  split at g
  · cases q; exact ⟨_, rfl, k _ _ _ g (Same.refl _) (.int _)⟩
  · exact g.elim
def two (ds : List PyData) (k : Int → Int → Prop) : Prop := match ds with
  | [.int i, .int j] => k i j
  | _ => False
theorem two_of {G : Hp} {vs : List V} {ds : List PyData} {k : Int → Int → Prop} (r : DqAll K G vs ds) (h : two ds k) : ∃ i j, vs = [.int i, .int j] ∧ k i j := by
  unfold two at h
  split at h
  · cases r with
    | cons a b => cases b with
      | cons c d => cases a; cases c; cases d; exact ⟨_, _, rfl, h⟩
  · exact h.elim
def bMin (ds : List PyData) (P : PyData → Prop) : Prop := two ds fun i j => P (.int (if j < i then j else i))
def bMax (ds : List PyData) (P : PyData → Prop) : Prop := two ds fun i j => P (.int (if j > i then j else i))
theorem rb_min2 : RB K (fun xs H Q => ∃ i j, xs = [.int i, .int j] ∧ Q (.int (if j < i then j else i)) H) bMin := by
  intro A H Q xs ds P oc r g k
  obtain ⟨i, j, rfl, g⟩ := two_of r g
  exact ⟨_, _, rfl, k _ _ _ g (Same.refl _) (.int _)⟩
theorem rb_max2 : RB K (fun xs H Q => ∃ i j, xs = [.int i, .int j] ∧ Q (.int (if j > i then j else i)) H) bMax := by
  intro A H Q xs ds P oc r g k
  obtain ⟨i, j, rfl, g⟩ := two_of r g
  exact ⟨_, _, rfl, k _ _ _ g (Same.refl _) (.int _)⟩
def bDivmod (ds : List PyData) (P : PyData → Prop) : Prop := two ds fun i j => CDiv i j ∧ P (.tuple [.int (i / j), .int (i % j)])
theorem rb_divmod : RB K (fun xs H Q => ∃ i j, xs = [.int i, .int j] ∧ CDiv i j ∧ ∀ p, H p = none → Q (.ref p) (upd H p (.tup [.int (i / j), .int (i % j)]))) bDivmod := by
  intro A H Q xs ds P oc r g k
  obtain ⟨i, j, rfl, g⟩ := two_of r g
  refine ⟨_, _, rfl, g.1, fun p hp1 => ?_⟩
  exact k _ _ _ g.2 (Same.new hp1) (.tup (SqT.of (hp_mk (fun q => oc _ q hp1) upd_same)) (.cons (.int _) (.cons (.int _) .nil)))
def boolsF : List PyData → (List Bool → Prop) → Prop
  | [], k => k []
  | .bool b :: r, k => boolsF r fun bs => k (b :: bs)
  | _ :: _, _ => False
theorem boolsF_of : ∀ {ds : List PyData} {k : List Bool → Prop}, boolsF ds k → ∃ bs : List Bool, ds = bs.map .bool ∧ k bs
  | [], k, h => ⟨[], rfl, h⟩
  | .bool b :: r, k, h => by
    obtain ⟨bs, e, h'⟩ := boolsF_of (ds := r) h
    exact ⟨b :: bs, by rw [e]; rfl, h'⟩
theorem boolsF_map {bs : List Bool} : ∀ {k : List Bool → Prop}, k bs → boolsF (bs.map .bool) k := by
  induction bs with
  | nil => exact fun h => h
  | cons b r ih => exact fun {k} h => ih (k := fun bs => k (b :: bs)) h
def intsF : List PyData → (List Int → Prop) → Prop
  | [], k => k []
  | .int b :: r, k => intsF r fun bs => k (b :: bs)
  | _ :: _, _ => False
theorem intsF_of : ∀ {ds : List PyData} {k : List Int → Prop}, intsF ds k → ∃ bs : List Int, ds = bs.map .int ∧ k bs
  | [], k, h => ⟨[], rfl, h⟩
  | .int b :: r, k, h => by
    obtain ⟨bs, e, h'⟩ := intsF_of (ds := r) h
    exact ⟨b :: bs, by rw [e]; rfl, h'⟩
theorem intsF_map {bs : List Int} : ∀ {k : List Int → Prop}, k bs → intsF (bs.map .int) k := by
  induction bs with
  | nil => exact fun h => h
  | cons b r ih => exact fun {k} h => ih (k := fun bs => k (b :: bs)) h
def strsF : List PyData → (List Str → Prop) → Prop
  | [], k => k []
  | .str b :: r, k => strsF r fun bs => k (b :: bs)
  | _ :: _, _ => False
theorem strsF_of : ∀ {ds : List PyData} {k : List Str → Prop}, strsF ds k → ∃ bs : List Str, ds = bs.map .str ∧ k bs
  | [], k, h => ⟨[], rfl, h⟩
  | .str b :: r, k, h => by
    obtain ⟨bs, e, h'⟩ := strsF_of (ds := r) h
    exact ⟨b :: bs, by rw [e]; rfl, h'⟩
theorem strsF_map {bs : List Str} : ∀ {k : List Str → Prop}, k bs → strsF (bs.map .str) k := by
  induction bs with
  | nil => exact fun h => h
  | cons b r ih => exact fun {k} h => ih (k := fun bs => k (b :: bs)) h
def bAll (ds : List PyData) (P : PyData → Prop) : Prop := one ds fun d => listF d fun es => boolsF es fun bs => P (.bool (bs.all id))
def bAny (ds : List PyData) (P : PyData → Prop) : Prop := one ds fun d => listF d fun es => boolsF es fun bs => P (.bool (bs.any id))
def bSum (ds : List PyData) (P : PyData → Prop) : Prop := one ds fun d => listF d fun es => intsF es fun ns => P (.int ns.sum)
theorem rb_all : RB K (rAll K) bAll := by
  intro A H Q xs ds P oc r g k
  obtain ⟨v, d, rfl, q, g⟩ := one_of r g
  unfold listF at g
  split at g
  · obtain ⟨bs, e, g'⟩ := boolsF_of g
    subst e
    obtain ⟨a, ys, rfl, s, r⟩ := q.list_of
    cases r.bools_of
    exact ⟨a, bs, rfl, SqL.mono hp_same s, k _ _ _ g' (Same.refl _) (.bl _)⟩
  · exact g.elim
theorem rb_any : RB K (rAny K) bAny := by
  intro A H Q xs ds P oc r g k
  obtain ⟨v, d, rfl, q, g⟩ := one_of r g
  unfold listF at g
  split at g
  · obtain ⟨bs, e, g'⟩ := boolsF_of g
    subst e
    obtain ⟨a, ys, rfl, s, r⟩ := q.list_of
    cases r.bools_of
    exact ⟨a, bs, rfl, SqL.mono hp_same s, k _ _ _ g' (Same.refl _) (.bl _)⟩
  · exact g.elim
theorem rb_sum : RB K (rSum K) bSum := by
  intro A H Q xs ds P oc r g k
  obtain ⟨v, d, rfl, q, g⟩ := one_of r g
  unfold listF at g
  split at g
  · obtain ⟨bs, e, g'⟩ := intsF_of g
    subst e
    obtain ⟨a, ys, rfl, s, r⟩ := q.list_of
    cases r.ints_of
    exact ⟨a, bs, rfl, SqL.mono hp_same s, k _ _ _ g' (Same.refl _) (.int _)⟩
  · exact g.elim
def bMinL (ds : List PyData) (P : PyData → Prop) : Prop := one ds fun d => listF d fun es => intsF es fun ns => 0 < ns.length ∧ ∀ m, m ∈ ns → (∀ y, y ∈ ns → m ≤ y) → P (.int m)
def bMaxL (ds : List PyData) (P : PyData → Prop) : Prop := one ds fun d => listF d fun es => intsF es fun ns => 0 < ns.length ∧ ∀ m, m ∈ ns → (∀ y, y ∈ ns → y ≤ m) → P (.int m)
theorem rb_min : RB K (rMin K) bMinL := by
  intro A H Q xs ds P oc r g k
  obtain ⟨v, d, rfl, q, g⟩ := one_of r g
  unfold listF at g
  split at g
  · obtain ⟨bs, e, g'⟩ := intsF_of g
    subst e
    obtain ⟨a, ys, rfl, s, r⟩ := q.list_of
    cases r.ints_of
    exact ⟨a, bs, rfl, SqL.mono hp_same s, g'.1, fun m h1 h2 => k _ _ _ (g'.2 m h1 h2) (Same.refl _) (.int _)⟩
  · exact g.elim
theorem rb_max : RB K (rMax K) bMaxL := by
  intro A H Q xs ds P oc r g k
  obtain ⟨v, d, rfl, q, g⟩ := one_of r g
  unfold listF at g
  split at g
  · obtain ⟨bs, e, g'⟩ := intsF_of g
    subst e
    obtain ⟨a, ys, rfl, s, r⟩ := q.list_of
    cases r.ints_of
    exact ⟨a, bs, rfl, SqL.mono hp_same s, g'.1, fun m h1 h2 => k _ _ _ (g'.2 m h1 h2) (Same.refl _) (.int _)⟩
  · exact g.elim
def bSortI (ds : List PyData) (P : PyData → Prop) : Prop := one ds fun d => listF d fun es => intsF es fun ns => ∀ ms : List Int, ms.Perm ns → ms.Pairwise (· ≤ ·) → P (.list (ms.map .int))
theorem rb_sortI : RB K (rSortedI K) bSortI := by
  intro A H Q xs ds P oc r g k
  obtain ⟨v, d, rfl, q, g⟩ := one_of r g
  unfold listF at g
  split at g
  · obtain ⟨bs, e, g'⟩ := intsF_of g
    subst e
    obtain ⟨a, ys, rfl, s, r⟩ := q.list_of
    cases r.ints_of
    refine ⟨a, bs, rfl, SqL.mono hp_same s, fun ms p h1 h2 hp1 => ?_⟩
    exact k _ _ _ (g' ms h1 h2) (Same.new hp1) (.lst (SqL.of (hp_mk (fun q => oc _ q hp1) upd_same)) (DqAll.ints _))
  · exact g.elim
def bInt (ds : List PyData) (P : PyData → Prop) : Prop := one ds fun d => match d with
  | .int i => P (.int i)
  | .bool b => P (.int (if b then 1 else 0))
  | _ => False
theorem rb_int : RB K (fun xs H Q => (∃ i, xs = [.int i] ∧ Q (.int i) H) ∨ ∃ k, xs = [.bl k] ∧ Q (.int (if k then 1 else 0)) H) bInt := by
  intro A H Q xs ds P oc r g k
  obtain ⟨v, d, rfl, q, g⟩ := one_of r g
  split at g
  · cases q; exact .inl ⟨_, rfl, k _ _ _ g (Same.refl _) (.int _)⟩
  · cases q; exact .inr ⟨_, rfl, k _ _ _ g (Same.refl _) (.int _)⟩
  · exact g.elim
def bIntS (ds : List PyData) (P : PyData → Prop) : Prop := one ds fun d => strF d fun a => ∃ m, PySem.intText? a = some m ∧ a.length ≤ 640 ∧ P (.int m)
theorem rb_int_str : RB K (fun xs H Q => ∃ a n, xs = [.str a] ∧ PySem.intText? a = some n ∧ a.length ≤ 640 ∧ Q (.int n) H) bIntS := by
  intro A H Q xs ds P oc r g k
  obtain ⟨v, d, rfl, q, g⟩ := one_of r g
  unfold strF at g
  split at g
  · cases q; obtain ⟨m, h1, h2, g⟩ := g; exact ⟨_, _, rfl, h1, h2, k _ _ _ g (Same.refl _) (.int _)⟩
  · exact g.elim
def bStrI (ds : List PyData) (P : PyData → Prop) : Prop := one ds fun d => intF d fun i => i.natAbs.log2 < 1920 ∧ P (.str (toString i))
theorem rb_str_int : RB K (fun xs H Q => ∃ i, xs = [.int i] ∧ i.natAbs.log2 < 1920 ∧ Q (.str (toString i)) H) bStrI := by
  intro A H Q xs ds P oc r g k
  obtain ⟨v, d, rfl, q, g⟩ := one_of r g
  unfold intF at g
  split at g
  · cases q; exact ⟨_, rfl, g.1, k _ _ _ g.2 (Same.refl _) (.str _)⟩
  · exact g.elim
def bBool (ds : List PyData) (P : PyData → Prop) : Prop := one ds fun d => match d with
  | .int i => P (.bool (i != 0))
  | .bool b => P (.bool b)
  | _ => False
theorem rb_bool : RB K (fun xs H Q => (∃ i, xs = [.int i] ∧ Q (.bl (i != 0)) H) ∨ ∃ k, xs = [.bl k] ∧ Q (.bl k) H) bBool := by
  intro A H Q xs ds P oc r g k
  obtain ⟨v, d, rfl, q, g⟩ := one_of r g
  split at g
  · cases q; exact .inl ⟨_, rfl, k _ _ _ g (Same.refl _) (.bl _)⟩
  · cases q; exact .inr ⟨_, rfl, k _ _ _ g (Same.refl _) (.bl _)⟩
  · exact g.elim
def bList (ds : List PyData) (P : PyData → Prop) : Prop := one ds fun d => seqF d fun es => P (.list es)
theorem rb_list : RB K (fun xs H Q => ∃ p ys, xs = [.ref p] ∧ (SqL K H p ys ∨ SqT K H p ys) ∧ ∀ l, H l = none → Q (.ref l) (upd H l (.lst ys))) bList := by
  intro A H Q xs ds P oc r g k
  obtain ⟨v, d, rfl, q, g⟩ := one_of r g
  obtain ⟨p, xs, ds, rfl, s, r, g⟩ := seqF_of q g
  refine ⟨p, xs, rfl, s, fun l hl => ?_⟩
  have sm := Same.new (o := .lst xs) hl
  exact k _ _ _ g sm (.lst (SqL.of (hp_mk (fun q => oc _ q hl) upd_same)) (r.mono (hp_grow sm)))
def bTuple (ds : List PyData) (P : PyData → Prop) : Prop := one ds fun d => seqF d fun es => P (.tuple es)
theorem rb_tuple : RB K (fun xs H Q => ∃ p ys, xs = [.ref p] ∧ ((SqL K H p ys ∧ ∀ l, H l = none → Q (.ref l) (upd H l (.tup ys))) ∨ (SqT K H p ys ∧ Q (.ref p) H))) bTuple := by
  intro A H Q xs ds P oc r g k
  obtain ⟨v, d, rfl, q, g⟩ := one_of r g
  unfold seqF at g
  split at g
  · obtain ⟨p, xs, rfl, s, r⟩ := q.list_of
    refine ⟨p, xs, rfl, .inl ⟨SqL.mono hp_same s, fun l hl => ?_⟩⟩
    have sm := Same.new (o := .tup xs) hl
    exact k _ _ _ g sm (.tup (SqT.of (hp_mk (fun q => oc _ q hl) upd_same)) (r.mono (hp_grow sm)))
  · obtain ⟨p, xs, rfl, s, r⟩ := q.tuple_of
    exact ⟨p, xs, rfl, .inr ⟨SqT.mono hp_same s, k _ _ _ g (Same.refl _) (.tup s r)⟩⟩
  · exact g.elim
def bRepr (ds : List PyData) (P : PyData → Prop) : Prop := one ds fun d => seqF d fun _ => d.hasDict = false ∧ d.showable = true ∧ d.depth ≤ 60 ∧ d.shown.length ≤ sizeLine ∧ P (.str d.shown)
theorem rb_repr : RB K (fun xs H Q => ∃ (a : Addr) (d : PyData), xs = [.ref a] ∧ Dp K H (.ref a) d ∧ d.showable = true ∧ d.depth ≤ 60 ∧ d.shown.length ≤ sizeLine ∧ Q (.str d.shown) H) bRepr := by
  intro A H Q xs ds P oc r g k
  obtain ⟨v, d, rfl, q, g⟩ := one_of r g
  obtain ⟨p, xs, es, rfl, s, r, h0, h1, h2, h3, g⟩ := seqF_of q g
  exact ⟨p, d, rfl, Dp.mono hp_same (q.dp h0), h1, h2, h3, k _ _ _ g (Same.refl _) (.str _)⟩
/-! isinstance -/
def isObjD : PyData → Bool
  | .dict _ => true
  | _ => false
def fIsi (b : String) (a : FE) : FE := fun ρ P => a ρ fun d ρ1 => isObjD d = false ∧ ∃ c, kitB (kindD d) b = some c ∧ P (.bool c) ρ1
theorem Dq.ty {A : Addr → Prop} {H : Hp} {v : V} {d : PyData} (q : Dq K (hp A H) v d) (h : isObjD d = false) : TyX K H v (.type (kindD d)) := by
  cases q with
  | non => exact .base .non
  | bl b => exact .base (.bl b)
  | int i => exact .base (.int i)
  | str x => exact .base (.str x)
  | lst s _ => exact SqL.ty (SqL.mono hp_same s)
  | tup s _ => exact SqT.ty (SqT.mono hp_same s)
  | obj _ _ _ => cases h
  | exc _ _ _ _ => cases h
  | fnc _ => cases h
theorem re_isi {b : String} {ta : TE} {a : FE} (ha : RE K J ta a) : RE K J (tCB (rIsi K) (tCons ta (tCons (tC (.ty b)) tNil))) (fIsi b a) := by
  intro O as σ H Q ρ P E q k
  refine ha O as σ H _ ρ _ E q fun d ρ1 v H1 q1 f1 E1 d1 => ?_
  obtain ⟨ho, c, hc, q1⟩ := q1
  exact ⟨_, _, _, _, c, rfl, .ty _, d1.ty ho, kit_ty hc, k _ _ _ _ q1 f1 E1 (.bl _)⟩
/-! methods of texts -/
def mStr1 (C : Str → Str → Prop) (h : Str → Str → PyData) : Str → List PyData → (PyData → Prop) → Prop := fun z ds P => one ds fun d => strF d fun b => C z b ∧ P (h z b)
theorem strs1_of {G : Hp} {vs : List V} {ds : List PyData} {k : Str → Prop} (r : DqAll K G vs ds) (h : one ds fun d => strF d k) : ∃ b, vs = [.str b] ∧ k b := by
  obtain ⟨v, d, rfl, q, g⟩ := one_of r h
  unfold strF at g
  split at g
  · cases q; exact ⟨_, rfl, g⟩
  · exact g.elim
abbrev mFind := mStr1 (fun _ _ => True) fun a b => .int (Txt.find a b)
theorem rm_find : RM K (fun x xs H Q => ∃ a b, x = .str a ∧ xs = [.str b] ∧ Q (.int (Txt.find a b)) H) mFind := by
  intro A H Q z xs ds P oc r g k
  obtain ⟨b, rfl, g⟩ := strs1_of r g
  exact ⟨_, _, rfl, rfl, k _ _ _ g.2 (Same.refl _) (.int _)⟩
abbrev mCount := mStr1 (fun _ _ => True) fun a b => .int (Txt.count a b)
theorem rm_count : RM K (fun x xs H Q => ∃ a b, x = .str a ∧ xs = [.str b] ∧ Q (.int (Txt.count a b)) H) mCount := by
  intro A H Q z xs ds P oc r g k
  obtain ⟨b, rfl, g⟩ := strs1_of r g
  exact ⟨_, _, rfl, rfl, k _ _ _ g.2 (Same.refl _) (.int _)⟩
abbrev mSplit := mStr1 (fun a b => (b.length == 0) = false ∧ a.length + 2 ≤ sizeLine) fun a b => .list ((Txt.split a b).map .str)
theorem rm_split : RM K (fun x xs H Q => ∃ a b, x = .str a ∧ xs = [.str b] ∧ (b.length == 0) = false ∧ a.length + 2 ≤ sizeLine ∧ rNewStrs (Txt.split a b) H Q) mSplit := by
  intro A H Q z xs ds P oc r g k
  obtain ⟨b, rfl, g⟩ := strs1_of r g
  refine ⟨_, _, rfl, rfl, g.1.1, g.1.2, fun p hp1 => ?_⟩
  exact k _ _ _ g.2 (Same.new hp1) (.lst (SqL.of (hp_mk (fun q => oc _ q hp1) upd_same)) (DqAll.strs _))
abbrev mPart := mStr1 (fun a b => (b.length == 0) = false ∧ a.length ≤ sizeLine) fun a b => .tuple [.str (Txt.partition a b).1, .str (Txt.partition a b).2.1, .str (Txt.partition a b).2.2]
theorem rm_partition : RM K (fun x xs H Q => ∃ a b, x = .str a ∧ xs = [.str b] ∧ (b.length == 0) = false ∧ a.length ≤ sizeLine ∧ ∀ p, H p = none → Q (.ref p) (upd H p (.tup [.str (Txt.partition a b).1, .str (Txt.partition a b).2.1, .str (Txt.partition a b).2.2]))) mPart := by
  intro A H Q z xs ds P oc r g k
  obtain ⟨b, rfl, g⟩ := strs1_of r g
  refine ⟨_, _, rfl, rfl, g.1.1, g.1.2, fun p hp1 => ?_⟩
  exact k _ _ _ g.2 (Same.new hp1) (.tup (SqT.of (hp_mk (fun q => oc _ q hp1) upd_same)) (.cons (.str _) (.cons (.str _) (.cons (.str _) .nil))))
abbrev mRpart := mStr1 (fun a b => (b.length == 0) = false ∧ a.length ≤ sizeLine) fun a b => .tuple [.str (Txt.rpartition a b).1, .str (Txt.rpartition a b).2.1, .str (Txt.rpartition a b).2.2]
theorem rm_rpartition : RM K (fun x xs H Q => ∃ a b, x = .str a ∧ xs = [.str b] ∧ (b.length == 0) = false ∧ a.length ≤ sizeLine ∧ ∀ p, H p = none → Q (.ref p) (upd H p (.tup [.str (Txt.rpartition a b).1, .str (Txt.rpartition a b).2.1, .str (Txt.rpartition a b).2.2]))) mRpart := by
  intro A H Q z xs ds P oc r g k
  obtain ⟨b, rfl, g⟩ := strs1_of r g
  refine ⟨_, _, rfl, rfl, g.1.1, g.1.2, fun p hp1 => ?_⟩
  exact k _ _ _ g.2 (Same.new hp1) (.tup (SqT.of (hp_mk (fun q => oc _ q hp1) upd_same)) (.cons (.str _) (.cons (.str _) (.cons (.str _) .nil))))
def mZfill : Str → List PyData → (PyData → Prop) → Prop := fun z ds P => one ds fun d => intF d fun i => PadOk i = true ∧ P (.str (Txt.zfill z i))
theorem rm_zfill : RM K (fun x xs H Q => ∃ (a : Str) (i : Int), x = .str a ∧ xs = [.int i] ∧ PadOk i = true ∧ Q (.str (Txt.zfill a i)) H) mZfill := by
  intro A H Q z xs ds P oc r g k
  obtain ⟨v, d, rfl, q, g⟩ := one_of r g
  unfold intF at g
  split at g
  · cases q; exact ⟨_, _, rfl, rfl, g.1, k _ _ _ g.2 (Same.refl _) (.str _)⟩
  · exact g.elim
def mJoin : Str → List PyData → (PyData → Prop) → Prop := fun z ds P => one ds fun d => seqF d fun es => strsF es fun ys => (ys.map (·.length)).sum + ys.length * z.length ≤ 16777216 ∧ P (.str (Txt.join z ys))
theorem rm_join : RM K (fun x xs H Q => ∃ a p, ∃ ys : List Str, x = .str a ∧ xs = [.ref p] ∧ (SqL K H p (ys.map V.str) ∨ SqT K H p (ys.map V.str)) ∧ (ys.map (·.length)).sum + ys.length * a.length ≤ 16777216 ∧ Q (.str (Txt.join a ys)) H) mJoin := by
  intro A H Q z xs ds P oc r g k
  obtain ⟨v, d, rfl, q, g⟩ := one_of r g
  obtain ⟨p, xs, es, rfl, s, r, g⟩ := seqF_of q g
  obtain ⟨ys, e, h, g'⟩ := strsF_of g
  subst e
  cases r.strs_of
  exact ⟨_, p, ys, rfl, rfl, s, h, k _ _ _ g' (Same.refl _) (.str _)⟩
/-! x += e -/
def fAug (i : Nat) (a : FE) (h : Int → Int → Int) : FS := fun E ρ => match ρ[i]? with
  | some (.fz (.int x)) => a ρ fun y ρ1 => intF y fun j => gN i (.int (h x j)) ρ1 E.nx
  | _ => False
theorem rs_aug {i : Nat} {te : TE} {a : FE} {h : Int → Int → Int} (ha : RE K J te a) : RS K J (tAug i te (ipI h)) (fAug i a h) := by
  intro O as σ H D ρ E R f C
  unfold fAug at f
  split at f
  · next x hx =>
    obtain ⟨v, e, _, q⟩ := R.fz_at hx
    cases q
    refine ⟨_, e, ?_⟩
    refine ha O as σ H _ ρ _ R f fun d ρ1 v H1 q1 f1 E1 d1 => ?_
    unfold intF at q1
    split at q1
    · cases d1
      exact ⟨_, _, rfl, rfl, C.nx _ _ _ _ q1.2 (.of f1) (E1.setFz q1.1 (.int _))⟩
    · exact q1.elim
  · exact f.elim
def fPar3 (i j l : Nat) (a : FA) : FS := fun E ρ => a ρ fun ds ρ1 => match ds with
  | [x, y, z] => gN i x ρ1 fun ρ2 => gN j y ρ2 fun ρ3 => gN l z ρ3 E.nx
  | _ => False
theorem rs_par3 {i j l : Nat} {t : TA} {a : FA} (ha : RA K J t a) : RS K J (tPar3 i j l t) (fPar3 i j l a) := by
  intro O as σ H D ρ E R f C
  refine ha O as σ H _ ρ _ R f fun ds ρ1 vs H1 q1 f1 E1 d1 => ?_
  split at q1
  · cases d1 with
    | cons d1 r => cases r with
      | cons d2 r => cases r with
        | cons d3 r =>
          cases r
          exact ⟨_, _, _, rfl, C.nx _ _ _ _ q1.2.2.2 (.of f1) (((E1.setFz q1.1 d1).setFz q1.2.1 d2).setFz q1.2.2.1 d3)⟩
  · exact q1.elim
/-! truth -/
theorem DqAll.empty {G : Hp} {xs : List V} {ds : List PyData} (r : DqAll K G xs ds) : xs.isEmpty = ds.isEmpty := by cases r <;> rfl
def truF (d : PyData) (k : Bool → Prop) : Prop := match d with
  | .none => k false
  | .bool b => k b
  | .int i => k (i != 0)
  | .str z => z.length ≤ sizeLine ∧ k ((z.length : Int) != 0)
  | .list ds => k (!ds.isEmpty)
  | .tuple ds => k (!ds.isEmpty)
  | _ => False
def fTru (f : FE) : FT := fun ρ P => f ρ fun d ρ1 => truF d fun b => P b ρ1
theorem rt_tru {t : TE} {f : FE} (h : RE K J t f) : RT K J (fun σ H Q => t σ H fun x H' => ∃ k, TruV K x H' k ∧ Q k H') (fTru f) := by
  intro O as σ H Q ρ P E q k
  refine h O as σ H _ ρ _ E q fun d ρ1 v H1 q1 f1 E1 d1 => ?_
  unfold truF at q1
  split at q1
  · cases d1; exact ⟨_, rfl, k _ _ _ q1 f1 E1⟩
  · cases d1; exact ⟨_, rfl, k _ _ _ q1 f1 E1⟩
  · cases d1; exact ⟨_, rfl, k _ _ _ q1 f1 E1⟩
  · cases d1; exact ⟨_, ⟨q1.1, rfl⟩, k _ _ _ q1.2 f1 E1⟩
  · obtain ⟨p, xs, rfl, s, r⟩ := d1.list_of
    refine ⟨_, .inl ⟨xs, SqL.mono hp_same s, rfl⟩, ?_⟩
    rw [r.empty]
    exact k _ _ _ q1 f1 E1
  · obtain ⟨p, xs, rfl, s, r⟩ := d1.tuple_of
    refine ⟨_, .inr (.inl ⟨xs, SqT.mono hp_same s, rfl⟩), ?_⟩
    rw [r.empty]
    exact k _ _ _ q1 f1 E1
  · exact q1.elim
def fYes : FT := fun ρ P => P true ρ
theorem rt_yes : RT K J tYes fYes := fun O as σ H Q ρ P E f k => k true ρ H f (FrA.refl _ _) E
end
end DL
/-! the box of draws as data; promises weakened -/
namespace DL
open PySem L2 Z PySem.Spec PyProof.Rows
def BoxD (ds : List PyData) (n : Nat) : Prop := ∃ b0 b1 b2 : Int, ds = [.int b0, .int b1, .int b2] ∧ 0 ≤ b0 ∧ 0 ≤ b1 ∧ b1 < 2147483647 ∧ 0 ≤ b2 ∧ b2 ≤ (n : Int)
theorem BoxD.mono {ds : List PyData} {n m : Nat} (b : BoxD ds n) (h : n ≤ m) : BoxD ds m := by
  obtain ⟨b0, b1, b2, e, h0, h1, h2, h3, h4⟩ := b
  exact ⟨b0, b1, b2, e, h0, h1, h2, h3, by omega⟩
/-- a draw: any number below m -/
def takeF (ds : List PyData) (m : Int) (P : Int → List PyData → Prop) : Prop := ∃ n, BoxD ds n ∧ 0 < m ∧ m < 1073741824 ∧ n < 1000000000 ∧ ∀ r ds', 0 ≤ r → r < m → BoxD ds' (n + 1) → P r ds'
def F__law_take : FN := fun sls P => match sls with
  | [.own ds, .fz (.int m)] => takeF ds m fun r ds' => P (.int r) [.own ds', .no]
  | _ => False
section
variable {P : Program} {w : World} {K : PySem.W.Frag} {mg : Str → Option Value} {base : Heap} {k : Nat} {f : Addr} {fd : FuncData} {ps : List Str} {sp sp' : Sp}
theorem _root_.Z.FnG.weak (F : FnG P w K mg base k f fd ps sp) (h : ∀ vs H Q E, sp' vs H Q E → sp vs H Q E) : FnG P w K mg base k f fd ps sp' :=
  ⟨fun vs H Q E q => F.size vs H Q E (h vs H Q E q), fun A outer s H args us vs Q E hr hg e b r q => F.goes A outer s H args us vs Q E hr hg e b r (h vs H Q E q)⟩
theorem _root_.L2.FnOk.guarded (F : FnOk P w K mg base CX0 k f fd ps sp) (h : ∀ vs H Q E, sp' vs H Q E → sp vs H Q E) : FnG P w K mg base k f fd ps sp' := (FnG.of F).weak h
def spTake : Sp := fun vs H Q _ => ∃ (B : Addr) (m : Int) (n : Nat), vs = [.ref B, .int m] ∧ Box H B n ∧ 0 < m ∧ m < 1073741824 ∧ n < 1000000000 ∧ ∀ (r : Int) H', 0 ≤ r → r < m → Fr [B] H H' → Box H' B (n + 1) → Q (.int r) H'
theorem boxD_ints {G : Hp} {xs : List V} {b0 b1 b2 : Int} (h : DqAll K G xs [.int b0, .int b1, .int b2]) : xs = [.int b0, .int b1, .int b2] := by
  cases h with
  | cons a r => cases r with
    | cons b r => cases r with
      | cons c r => cases r; cases a; cases b; cases c; rfl
theorem take_of {vs : List V} {H : Hp} {Q : VK} {E : XK} (h : spF K 2 F__law_take vs H Q E) : spTake vs H Q E := by
  obtain ⟨hv, O, as, ρ, P, R, hF, q⟩ := h
  match vs, hv with
  | [v0, v1], _ =>
    have hl : ρ.length = 2 := R.len
    match ρ, hl with
    | [s0, s1], _ =>
      unfold F__law_take at hF
      split at hF
      · next ds m e =>
        injection e with e1 e2
        injection e2 with e2 _
        subst e1
        subst e2
        obtain ⟨n, hb, m0, m1, hn, st⟩ := hF
        obtain ⟨b0, b1, b2, rfl, h0, h1, h2, h3, h4⟩ := hb
        obtain ⟨B, xs, z1, z2, z3, z4⟩ := R.own_at (i := 0) rfl
        obtain ⟨v, y1, y2, y3⟩ := R.fz_at (i := 1) rfl
        cases boxD_ints z4
        cases z1
        cases y1
        cases y3
        refine ⟨B, m, n, rfl, ⟨b0, b1, b2, z3, h0, h1, h2, h3, h4⟩, m0, m1, hn, fun r H' r0 r1 fr hB => ?_⟩
        obtain ⟨c0, c1, c2, ec, k0, k1, k2, k3, k4⟩ := hB
        have hfr : FrA (Own as) H H' := fun a o na e => fr a o (fun z => na ⟨0, by rw [z2]; simpa using (List.mem_singleton.mp z).symm⟩) e
        refine q _ _ _ _ (st r [.int c0, .int c1, .int c2] r0 r1 ⟨c0, c1, c2, rfl, k0, k1, k2, k3, k4⟩) hfr (fun i a ha => ?_) (.int _)
        have hi := R.bnd i a ha
        match i, hi, ha with
        | 0, _, ha =>
          rw [z2] at ha
          cases ha
          exact ⟨_, _, rfl, ec, .cons (.int _) (.cons (.int _) (.cons (.int _) .nil))⟩
        | 1, _, ha => rw [y2] at ha; cases ha
      · exact hF.elim
def spBox : Sp := fun vs H Q _ => ∃ (B : Addr), vs = [.ref B] ∧ Box H B 0 ∧ ∀ H', Fr [B] H H' → Q (.bl true) H'
/-- a law's def over the box alone -/
theorem box_of {F : FN} (hF : ∀ ds, BoxD ds 0 → F [.own ds] fun d _ => d = .bool true) {vs : List V} {H : Hp} {Q : VK} {E : XK} (h : spBox vs H Q E) : spF K 1 F vs H Q E := by
  obtain ⟨B, rfl, ⟨b0, b1, b2, e, h0, h1, h2, h3, h4⟩, q⟩ := h
  refine ⟨rfl, fun _ => False, fun i => if i = 0 then some B else none, [.own [.int b0, .int b1, .int b2]], _, ⟨rfl, fun i sl o e1 e2 => ?_, fun i j a h1 h2 => ?_, fun _ _ _ z => z, fun i a h => ?_, fun a z => z.elim, trivial, trivial⟩, hF _ ⟨b0, b1, b2, rfl, h0, h1, h2, h3, h4⟩, fun d out v H' hd fr _ dv => ?_⟩
  · match i, e1, e2 with
    | 0, e1, e2 =>
      cases e1; cases e2
      exact .own e (.cons (.int _) (.cons (.int _) (.cons (.int _) .nil)))
  · split at h1
    · split at h2
      · omega
      · cases h2
    · cases h1
  · split at h
    · next z => rw [z]; exact Nat.one_pos
    · cases h
  · subst hd
    cases dv
    refine q H' fun a o na e => fr a o (fun ⟨i, z⟩ => ?_) e
    dsimp only at z
    split at z
    · cases z; exact na (List.mem_singleton.mpr rfl)
    · cases z
end
end DL
/-! going through data -/
namespace DL
open PySem L2 Z PySem.Spec PyProof.Rows
theorem kit_none_int : kitB (kindD .none) "int" = some false := by show kitB "NoneType" "int" = _; decide +kernel
theorem kit_none_bool : kitB (kindD .none) "bool" = some false := by show kitB "NoneType" "bool" = _; decide +kernel
theorem kit_none_str : kitB (kindD .none) "str" = some false := by show kitB "NoneType" "str" = _; decide +kernel
theorem kit_none_list : kitB (kindD .none) "list" = some false := by show kitB "NoneType" "list" = _; decide +kernel
theorem kit_none_tuple : kitB (kindD .none) "tuple" = some false := by show kitB "NoneType" "tuple" = _; decide +kernel
theorem kit_bool_int {b : Bool} : kitB (kindD (.bool b)) "int" = some true := by show kitB "bool" "int" = _; decide +kernel
theorem kit_bool_bool {b : Bool} : kitB (kindD (.bool b)) "bool" = some true := by show kitB "bool" "bool" = _; decide +kernel
theorem kit_bool_str {b : Bool} : kitB (kindD (.bool b)) "str" = some false := by show kitB "bool" "str" = _; decide +kernel
theorem kit_bool_list {b : Bool} : kitB (kindD (.bool b)) "list" = some false := by show kitB "bool" "list" = _; decide +kernel
theorem kit_bool_tuple {b : Bool} : kitB (kindD (.bool b)) "tuple" = some false := by show kitB "bool" "tuple" = _; decide +kernel
theorem kit_int_int {i : Int} : kitB (kindD (.int i)) "int" = some true := by show kitB "int" "int" = _; decide +kernel
theorem kit_int_bool {i : Int} : kitB (kindD (.int i)) "bool" = some false := by show kitB "int" "bool" = _; decide +kernel
theorem kit_int_str {i : Int} : kitB (kindD (.int i)) "str" = some false := by show kitB "int" "str" = _; decide +kernel
theorem kit_int_list {i : Int} : kitB (kindD (.int i)) "list" = some false := by show kitB "int" "list" = _; decide +kernel
theorem kit_int_tuple {i : Int} : kitB (kindD (.int i)) "tuple" = some false := by show kitB "int" "tuple" = _; decide +kernel
theorem kit_str_int {s : Str} : kitB (kindD (.str s)) "int" = some false := by show kitB "str" "int" = _; decide +kernel
theorem kit_str_bool {s : Str} : kitB (kindD (.str s)) "bool" = some false := by show kitB "str" "bool" = _; decide +kernel
theorem kit_str_str {s : Str} : kitB (kindD (.str s)) "str" = some true := by show kitB "str" "str" = _; decide +kernel
theorem kit_str_list {s : Str} : kitB (kindD (.str s)) "list" = some false := by show kitB "str" "list" = _; decide +kernel
theorem kit_str_tuple {s : Str} : kitB (kindD (.str s)) "tuple" = some false := by show kitB "str" "tuple" = _; decide +kernel
theorem kit_list_int {l : List PyData} : kitB (kindD (.list l)) "int" = some false := by show kitB "list" "int" = _; decide +kernel
theorem kit_list_bool {l : List PyData} : kitB (kindD (.list l)) "bool" = some false := by show kitB "list" "bool" = _; decide +kernel
theorem kit_list_str {l : List PyData} : kitB (kindD (.list l)) "str" = some false := by show kitB "list" "str" = _; decide +kernel
theorem kit_list_list {l : List PyData} : kitB (kindD (.list l)) "list" = some true := by show kitB "list" "list" = _; decide +kernel
theorem kit_list_tuple {l : List PyData} : kitB (kindD (.list l)) "tuple" = some false := by show kitB "list" "tuple" = _; decide +kernel
theorem kit_tuple_int {l : List PyData} : kitB (kindD (.tuple l)) "int" = some false := by show kitB "tuple" "int" = _; decide +kernel
theorem kit_tuple_bool {l : List PyData} : kitB (kindD (.tuple l)) "bool" = some false := by show kitB "tuple" "bool" = _; decide +kernel
theorem kit_tuple_str {l : List PyData} : kitB (kindD (.tuple l)) "str" = some false := by show kitB "tuple" "str" = _; decide +kernel
theorem kit_tuple_list {l : List PyData} : kitB (kindD (.tuple l)) "list" = some false := by show kitB "tuple" "list" = _; decide +kernel
theorem kit_tuple_tuple {l : List PyData} : kitB (kindD (.tuple l)) "tuple" = some true := by show kitB "tuple" "tuple" = _; decide +kernel
/-- a comprehension that draws nothing: of xs those of which k tells something -/
theorem lc_map {α : Type} {g : FG} {ft : FT} {fe : FE} {vs : List Nat} {ρ : En} {P : List PyData → En → Prop} {ds : List PyData} (xs : List α) (e : α → PyData) (k : α → Option PyData) (hd : ds = xs.map e) (hv : vs.all (slotF ρ) = true) (hl : xs.length ≤ sizeLine)
    (st : ∀ (x : α) (R : List PyData → En → Prop) (acc : List PyData), x ∈ xs → acc.length < sizeLine → R (acc ++ (k x).toList) (wipeF ρ vs) →
      g (e x) (wipeF ρ vs) fun ρ3 => ft ρ3 fun b ρ4 => if b = true then fe ρ4 fun y ρ5 => acc.length < sizeLine ∧ vs.all (slotF ρ5) = true ∧ R (acc ++ [y]) (wipeF ρ5 vs) else vs.all (slotF ρ4) = true ∧ R acc (wipeF ρ4 vs))
    (q : P (xs.filterMap k) (wipeF ρ vs)) : lcW ds g ft fe vs ρ P := by
  subst hd
  refine ⟨hv, fun i acc ρ2 => acc = (xs.take i).filterMap k ∧ ρ2 = wipeF ρ vs, ⟨rfl, rfl⟩, ?_, ?_⟩
  · rintro i d acc ρ2 hd ⟨rfl, rfl⟩
    rw [List.getElem?_map] at hd
    cases ex : xs[i]? with
    | none => rw [ex] at hd; cases hd
    | some x =>
      rw [ex] at hd
      cases hd
      have hi := (List.getElem?_eq_some_iff.mp ex).1
      refine st x (fun acc ρ2 => acc = (xs.take (i + 1)).filterMap k ∧ ρ2 = wipeF ρ vs) _ (List.mem_of_getElem? ex) ?_ ⟨?_, rfl⟩
      · refine Nat.lt_of_le_of_lt (List.length_filterMap_le _ _) ?_
        rw [List.length_take]
        omega
      · rw [List.take_add_one, ex, List.filterMap_append]
        cases h : k x <;> simp [h]
  · rintro acc ρ2 ⟨rfl, h⟩
    rw [h, List.length_map, List.take_length]
    exact q
/-- a comprehension by its state: W of the turn, what is laid, the slots -/
theorem lc_inv {α : Type} {g : FG} {ft : FT} {fe : FE} {vs : List Nat} {ρ : En} {P : List PyData → En → Prop} {ds : List PyData} (xs : List α) (e : α → PyData) (W : Nat → List PyData → En → Prop) (hd : ds = xs.map e) (hv : vs.all (slotF ρ) = true) (h0 : W 0 [] (wipeF ρ vs))
    (st : ∀ (i : Nat) (x : α) (acc : List PyData) (ρ2 : En), xs[i]? = some x → i < xs.length → W i acc ρ2 →
      g (e x) ρ2 fun ρ3 => ft ρ3 fun b ρ4 => if b = true then fe ρ4 fun y ρ5 => acc.length < sizeLine ∧ vs.all (slotF ρ5) = true ∧ W (i + 1) (acc ++ [y]) (wipeF ρ5 vs) else vs.all (slotF ρ4) = true ∧ W (i + 1) acc (wipeF ρ4 vs))
    (q : ∀ acc ρ2, W xs.length acc (wipeF ρ2 vs) → P acc (wipeF ρ2 vs)) : lcW ds g ft fe vs ρ P := by
  subst hd
  refine ⟨hv, W, h0, ?_, by rw [List.length_map]; exact q⟩
  intro i d acc ρ2 hd w
  rw [List.getElem?_map] at hd
  cases ex : xs[i]? with
  | none => rw [ex] at hd; cases hd
  | some x =>
    rw [ex] at hd
    cases hd
    exact st i x acc ρ2 ex (List.getElem?_eq_some_iff.mp ex).1 w
theorem boolsF_f {α : Type} {f : α → Bool} {xs : List α} {k : List Bool → Prop} (h : k (xs.map f)) : boolsF (xs.map fun x => .bool (f x)) k := by
  have := boolsF_map (bs := xs.map f) (k := k) h
  rw [List.map_map] at this
  exact this
theorem intsF_f {α : Type} {f : α → Int} {xs : List α} {k : List Int → Prop} (h : k (xs.map f)) : intsF (xs.map fun x => .int (f x)) k := by
  have := intsF_map (bs := xs.map f) (k := k) h
  rw [List.map_map] at this
  exact this
theorem strsF_f {α : Type} {f : α → Str} {xs : List α} {k : List Str → Prop} (h : k (xs.map f)) : strsF (xs.map fun x => .str (f x)) k := by
  have := strsF_map (bs := xs.map f) (k := k) h
  rw [List.map_map] at this
  exact this
theorem filterMap_if {α β : Type} (k : α → Bool) (f : α → β) (xs : List α) : xs.filterMap (fun x => if k x = true then some (f x) else none) = (xs.filter k).map f := by
  induction xs with
  | nil => rfl
  | cons x r ih =>
    rw [List.filterMap_cons, List.filter_cons, ih]
    cases h : k x <;> simp
theorem filterMap_some {α β : Type} (f : α → β) (xs : List α) : xs.filterMap (fun x => some (f x)) = xs.map f := by
  induction xs with
  | nil => rfl
  | cons x r ih => rw [List.filterMap_cons, ih]; rfl
/-- a loop by its state -/
theorem for_map {α : Type} {us : List Nat} {g : FG} {b : FS} {E : FEnds} {ρ : En} {ds : List PyData} (xs : List α) (e : α → PyData) (W : Nat → En → Prop) (hd : ds = xs.map e) (h0 : W 0 (fgt ρ us))
    (st : ∀ (i : Nat) (x : α) (ρ2 : En), xs[i]? = some x → i < xs.length → W i ρ2 → g (e x) ρ2 fun ρ3 => b { E with nx := fun ρ4 => W (i + 1) (fgt ρ4 us), ct := fun ρ4 => W (i + 1) (fgt ρ4 us), bk := E.nx } ρ3) (q : ∀ ρ2, W xs.length ρ2 → E.nx ρ2) : forW us ds g b E ρ := by
  subst hd
  refine ⟨W, h0, ?_, by rw [List.length_map]; exact q⟩
  intro i d ρ2 hd w
  rw [List.getElem?_map] at hd
  cases ex : xs[i]? with
  | none => rw [ex] at hd; cases hd
  | some x =>
    rw [ex] at hd
    cases hd
    exact st i x ρ2 ex (List.getElem?_eq_some_iff.mp ex).1 w
/-- a loop over range(m) -/
theorem for_range {us : List Nat} {g : FG} {b : FS} {E : FEnds} {ρ : En} {lo : Int} {m : Nat} (W : Nat → En → Prop) (h0 : W 0 (fgt ρ us))
    (st : ∀ (i : Nat) (ρ2 : En), i < m → W i ρ2 → g (.int (lo + (i : Int))) ρ2 fun ρ3 => b { E with nx := fun ρ4 => W (i + 1) (fgt ρ4 us), ct := fun ρ4 => W (i + 1) (fgt ρ4 us), bk := E.nx } ρ3) (q : ∀ ρ2, W m ρ2 → E.nx ρ2) : forW us (rangeD lo m) g b E ρ := by
  refine for_map (List.range m) (fun k : Nat => .int (lo + (k : Int))) W rfl h0 (fun i x ρ2 hx hi w => ?_) (by rw [List.length_range]; exact q)
  rw [List.length_range] at hi
  rw [List.getElem?_range hi] at hx
  cases hx
  exact st i ρ2 hi w
/-- a draw -/
theorem take_step {ds : List PyData} {m : Int} {n : Nat} {P : Int → List PyData → Prop} (hb : BoxD ds n) (h0 : 0 < m) (h1 : m < 1073741824) (h2 : n < 1000000000) (k : ∀ r ds', 0 ≤ r → r < m → BoxD ds' (n + 1) → P r ds') : takeF ds m P := ⟨n, hb, h0, h1, h2, k⟩
theorem sz0 : (0 ≤ sizeLine) = True := eq_true (by decide)
theorem sz1 : (1 ≤ sizeLine) = True := eq_true (by decide)
theorem sz2 : (2 ≤ sizeLine) = True := eq_true (by decide)
theorem sz3 : (3 ≤ sizeLine) = True := eq_true (by decide)
theorem sz4 : (4 ≤ sizeLine) = True := eq_true (by decide)
theorem sz5 : (5 ≤ sizeLine) = True := eq_true (by decide)
theorem sz6 : (6 ≤ sizeLine) = True := eq_true (by decide)
theorem sz7 : (7 ≤ sizeLine) = True := eq_true (by decide)
theorem sz8 : (8 ≤ sizeLine) = True := eq_true (by decide)
theorem sz9 : (9 ≤ sizeLine) = True := eq_true (by decide)
theorem sz10 : (10 ≤ sizeLine) = True := eq_true (by decide)
theorem sz11 : (11 ≤ sizeLine) = True := eq_true (by decide)
theorem sz12 : (12 ≤ sizeLine) = True := eq_true (by decide)
theorem sz13 : (13 ≤ sizeLine) = True := eq_true (by decide)
theorem sz14 : (14 ≤ sizeLine) = True := eq_true (by decide)
theorem sz15 : (15 ≤ sizeLine) = True := eq_true (by decide)
theorem sz16 : (16 ≤ sizeLine) = True := eq_true (by decide)
theorem sz17 : (17 ≤ sizeLine) = True := eq_true (by decide)
theorem sz18 : (18 ≤ sizeLine) = True := eq_true (by decide)
theorem sz19 : (19 ≤ sizeLine) = True := eq_true (by decide)
theorem sz20 : (20 ≤ sizeLine) = True := eq_true (by decide)
theorem at0 {α : Type} {x : α} {xs : List α} : L2.atI (x :: xs) 0 = some x := by simp [L2.atI, ixN]
theorem at1 {α : Type} {x y : α} {xs : List α} : L2.atI (x :: y :: xs) 1 = some y := by
  unfold L2.atI ixN
  rw [if_pos (by decide), if_pos (by simp only [List.length_cons]; omega)]
  rfl
theorem at2 {α : Type} {x y z : α} {xs : List α} : L2.atI (x :: y :: z :: xs) 2 = some z := by
  unfold L2.atI ixN
  rw [if_pos (by decide), if_pos (by simp only [List.length_cons]; omega)]
  rfl
theorem at3 {α : Type} {x y z w : α} {xs : List α} : L2.atI (x :: y :: z :: w :: xs) 3 = some w := by
  unfold L2.atI ixN
  rw [if_pos (by decide), if_pos (by simp only [List.length_cons]; omega)]
  rfl
theorem at4 {α : Type} {x y z w v : α} {xs : List α} : L2.atI (x :: y :: z :: w :: v :: xs) 4 = some v := by
  unfold L2.atI ixN
  rw [if_pos (by decide), if_pos (by simp only [List.length_cons]; omega)]
  rfl
theorem at_last {α : Type} {xs : List α} {x : α} (h : xs[xs.length - 1]? = some x) : L2.atI xs (-1) = some x := by
  have hl : xs.length - 1 < xs.length := (List.getElem?_eq_some_iff.mp h).1
  unfold L2.atI
  rw [ixN_last (by omega)]
  exact h
/-- a drawn one of a written list -/
theorem at_mem {α : Type} {xs : List α} {r : Int} (h0 : 0 ≤ r) (h1 : r < xs.length) : ∃ v, L2.atI xs r = some v ∧ v ∈ xs := by
  obtain ⟨j, rfl⟩ := Int.eq_ofNat_of_zero_le h0
  have hj : j < xs.length := by omega
  refine ⟨xs[j], ?_, List.getElem_mem hj⟩
  unfold L2.atI
  rw [ixN_nat hj]
  exact List.getElem?_eq_getElem hj
theorem rangeD_eq (lo : Int) (m : Nat) : rangeD lo m = (List.range m).map fun k : Nat => .int (lo + (k : Int)) := rfl
theorem range_at {m i x : Nat} (h : (List.range m)[i]? = some x) : x = i ∧ i < m := by
  have hi := (List.getElem?_eq_some_iff.mp h).1
  rw [List.length_range] at hi
  rw [List.getElem?_range hi] at h
  exact ⟨(Option.some.inj h).symm, hi⟩
theorem zipD_map {α β : Type} (xs : List α) (ys : List β) (e : α → PyData) (f : β → PyData) : zipD (xs.map e) (ys.map f) = (xs.zip ys).map fun z => .tuple [e z.1, f z.2] := by
  unfold zipD
  rw [List.zip_map, List.map_map]
  rfl
theorem cutD_tail {α : Type} (xs : List α) (e : α → PyData) : cutD (xs.map e) (some 1) none = xs.tail.map e := by
  unfold cutD
  have h : HT.sIx (xs.map e).length 0 (some 1) = min 1 (xs.map e).length := HT.sIx_nat _ _ 1
  rw [h, HT.sIx_none, List.length_map]
  cases xs with
  | nil => rfl
  | cons x r =>
    rw [List.length_cons, Nat.min_eq_left (by omega), List.map_cons, List.drop_succ_cons, List.drop_zero, List.take_of_length_le (by rw [List.length_map]; omega)]
    rfl
theorem cutD_take {α : Type} (xs : List α) (e : α → PyData) (k : Nat) : cutD (xs.map e) none (some (k : Int)) = (xs.take k).map e := by
  unfold cutD
  rw [HT.sIx_nat, HT.sIx_none, List.drop_zero, Nat.sub_zero, List.length_map]
  by_cases h : k ≤ xs.length
  · rw [Nat.min_eq_left h, List.map_take]
  · rw [Nat.min_eq_right (by omega), List.take_of_length_le (by rw [List.length_map]; omega), List.take_of_length_le (by omega)]
theorem cutD_drop {α : Type} (xs : List α) (e : α → PyData) (k : Nat) : cutD (xs.map e) (some (k : Int)) none = (xs.drop k).map e := by
  unfold cutD
  rw [HT.sIx_nat, HT.sIx_none, List.length_map]
  by_cases h : k ≤ xs.length
  · rw [Nat.min_eq_left h, List.take_of_length_le (by rw [List.length_drop, List.length_map]; omega), List.map_drop]
  · rw [Nat.min_eq_right (by omega), List.drop_of_length_le (by rw [List.length_map]; omega), List.take_nil, List.drop_of_length_le (by omega)]
    rfl
theorem atI_nat' {α : Type} {xs : List α} {k : Nat} {x : α} (h : xs[k]? = some x) : L2.atI xs (k : Int) = some x := by
  unfold L2.atI
  rw [ixN_nat (List.getElem?_eq_some_iff.mp h).1]
  exact h
theorem atI_map {α β : Type} (f : α → β) (xs : List α) (k : Int) : L2.atI (xs.map f) k = (L2.atI xs k).map f := by
  unfold L2.atI
  rw [List.length_map]
  cases ixN xs.length k with
  | none => rfl
  | some j => exact List.getElem?_map ..
end DL
/-! objects that stay, keywords, own lists in a parallel assignment, more of own lists -/
namespace DL
open PySem L2 Z PySem.Spec PyProof.Rows
section
variable {K : PySem.W.Frag} {n : Nat} {J : Jv n}
def objF (c : Str) (d : PyData) (k : List (PyData × PyData) → Prop) : Prop := match d with
  | .dict ((.str c', .none) :: fs) => c' = c ∧ k fs
  | _ => False
theorem objF_of {H : Hp} {c : Str} {C : Addr} {v : V} {d : PyData} {k : List (PyData × PyData) → Prop} (hc : PySem.W.nsIn K mainGlobals c = some (some (.ref C))) (q : Dq K H v d) (h : objF c d k) : ∃ a dx fv fs, v = .ref a ∧ H a = some (.ins C dx fv) ∧ DqFs K H fv fs ∧ k fs := by
  unfold objF at h
  split at h
  · obtain ⟨rfl, h⟩ := h
    cases q with
    | obj e1 e2 r =>
      rw [hc] at e1
      cases e1
      exact ⟨_, _, _, _, rfl, e2, r, h⟩
  · exact h.elim
/-- e.f -/
def fFld (c f : Str) (a : FE) : FE := fun ρ P => a ρ fun d ρ1 => objF c d fun fs => ∃ v, fldD f fs = some v ∧ P v ρ1
theorem re_fld {C : Addr} {c f : Str} {ta : TE} {a : FE} (hc : PySem.W.nsIn K mainGlobals c = some (some (.ref C))) (cl : Cls K C) (na : NoAttr K C f) (ha : RE K J ta a) : RE K J (tFld K ta f) (fFld c f a) := by
  intro O as σ H Q ρ P E q k
  refine ha O as σ H _ ρ _ E q fun d ρ1 v H1 q1 f1 E1 d1 => ?_
  obtain ⟨x, dx, fv, fs, rfl, e, r, u, hu, p⟩ := objF_of hc d1 q1
  obtain ⟨w, hw, dw⟩ := r.get hu
  exact ⟨x, C, dx, fv, w, rfl, (hp_some e).2, cl, na, hw, k _ _ _ _ p f1 E1 dw⟩
/-- how __init__ lays the fields -/
def RMk (K : PySem.W.Frag) (C : Addr) (sp : Sp) (G : List PyData → (List (PyData × PyData) → Prop) → Prop) : Prop := ∀ (A : Addr → Prop) (H : Hp) (x dx : Addr) (vs : List V) (ds : List PyData) (Q : VK) (E : XK) (P : List (PyData × PyData) → Prop),
  DqAll K (hp A H) vs ds → G ds P → H x = some (.ins C dx []) → (∀ fs fv H', P fs → (∀ a o, a ≠ x → H a = some o → H' a = some o) → H' x = some (.ins C dx fv) → DqFs K (hp A H') fv fs → Q .non H') → sp (.ref x :: vs) H Q E
theorem mk_core {O : Addr → Prop} {as : Nat → Option Addr} {H : Hp} {ρ : En} {σ : L2.St} {C x dx : Addr} {c : Str} {sp : Sp} {G : List PyData → (List (PyData × PyData) → Prop) → Prop} {vs : List V} {ds : List PyData} {Q : VK} {E0 : XK} {P : PyData → En → Prop}
    (hc : PySem.W.nsIn K mainGlobals c = some (some (.ref C))) (h : RMk K C sp G) (E : EnR K J O as H ρ σ) (dv : DqAll K (hp (Hid O as) H) vs ds) (g : G ds fun fs => P (.dict ((.str c, .none) :: fs)) ρ) (hx : H x = none) (hd : H dx = none) (ne : dx ≠ x)
    (k : ∀ d ρ' v H', P d ρ' → FrA (Own as) H H' → EnR K J O as H' ρ' σ → Dq K (hp (Hid O as) H') v d → Q v H') :
    sp (.ref x :: vs) (upd (upd H dx (.own x)) x (.ins C dx [])) (fun v H2 => v = .non ∧ Q (.ref x) H2) E0 := by
  have s1 : Same H (upd (upd H dx (.own x)) x (.ins C dx [])) := fun a o e => by
    rw [upd_ne (ne_of_none e hx), upd_ne (ne_of_none e hd)]
    exact e
  refine h (Hid O as) _ x dx vs ds _ _ _ (dv.mono (hp_grow s1)) g upd_same fun fs fv H' p fr e r => ⟨rfl, ?_⟩
  have s2 : Same H H' := fun a o e => fr a o (ne_of_none e hx) (s1 a o e)
  exact k _ _ _ _ p (FrA.of s2) (E.grow s2) (.obj hc (hp_mk (E.fresh hx) e) r)
def fMk (c : Str) (G : List PyData → (List (PyData × PyData) → Prop) → Prop) (dv : List PyData) (f : FA) : FE := fun ρ P => f ρ fun ds ρ1 => G (ds ++ dv) fun fs => P (.dict ((.str c, .none) :: fs)) ρ1
theorem re_mk {C : Addr} {c : Str} {sp : Sp} {G : List PyData → (List (PyData × PyData) → Prop) → Prop} {dvs : List V} {dv : List PyData} {E0 : XK} {t : TA} {f : FA} (hc : PySem.W.nsIn K mainGlobals c = some (some (.ref C))) (h : RMk K C sp G) (hd : ∀ H, DqAll K H dvs dv) (ha : RA K J t f) : RE K J (tMake C sp dvs E0 t) (fMk c G dv f) := by
  intro O as σ H Q ρ P E q k
  refine ha O as σ H _ ρ _ E q fun ds ρ1 vs H1 q1 f1 E1 d1 => ?_
  intro x dx hx hdx ne
  exact mk_core hc h E1 (d1.append (hd _)) q1 hx hdx ne fun d ρ' v H' p fr E' q' => k d ρ' v H' p (f1.trans fr) E' q'
def fMkN (c : Str) (G : List PyData → (List (PyData × PyData) → Prop) → Prop) (n m : Nat) (gD : List PyData → List PyData → List PyData) (f fk : FA) : FE := fun ρ P => f ρ fun ds ρ1 => fk ρ1 fun es ρ2 => ds.length = n ∧ es.length = m ∧ G (gD ds es) fun fs => P (.dict ((.str c, .none) :: fs)) ρ2
theorem re_mkN {C : Addr} {c : Str} {sp : Sp} {G : List PyData → (List (PyData × PyData) → Prop) → Prop} {n m : Nat} {gV : List V → List V → List V} {gD : List PyData → List PyData → List PyData} {E0 : XK} {t tk : TA} {f fk : FA} (hc : PySem.W.nsIn K mainGlobals c = some (some (.ref C))) (h : RMk K C sp G)
    (hg : ∀ (x : Addr) (vs zs : List V) (ds es : List PyData) (H : Hp), DqAll K H vs ds → DqAll K H zs es → ∃ ws, gV (.ref x :: vs) zs = .ref x :: ws ∧ DqAll K H ws (gD ds es)) (ha : RA K J t f) (hk : RA K J tk fk) : RE K J (tMakeN C n m sp gV E0 t tk) (fMkN c G n m gD f fk) := by
  intro O as σ H Q ρ P E q k
  refine ha O as σ H _ ρ _ E q fun ds ρ1 vs H1 q1 f1 E1 d1 => ?_
  refine hk O as σ H1 _ ρ1 _ E1 q1 fun es ρ2 zs H2 q2 f2 E2 d2 => ?_
  obtain ⟨l1, l2, q2⟩ := q2
  refine ⟨by rw [d1.length]; exact l1, by rw [d2.length]; exact l2, fun x dx hx hdx ne => ?_⟩
  obtain ⟨ws, e, r⟩ := hg x vs zs ds es _ (d1.fr f2) d2
  rw [e]
  exact mk_core hc h E2 r q2 hx hdx ne fun d ρ' v H' p fr E' q' => k d ρ' v H' p ((f1.trans f2).trans fr) E' q'
/-- a call with keywords, data alone -/
def fCallN (F : FN) (n m : Nat) (gD : List PyData → List PyData → List PyData) (f fk : FA) : FE := fun ρ P => f ρ fun ds ρ1 => fk ρ1 fun es ρ2 => ds.length = n ∧ es.length = m ∧ F ((gD ds es).map .fz) fun d _ => P d ρ2
theorem ownIx_dat : ∀ ds : List PyData, ownIx (ds.map .dat) = []
  | [] => rfl
  | _ :: r => ownIx_dat r
theorem wb_dat (ρ : En) : ∀ (ds : List PyData) (r : List Sl), wb ρ (ds.map .dat) r = ρ
  | [], _ => rfl
  | _ :: ds, r => wb_dat ρ ds r.tail
theorem re_callN {l n m : Nat} {F : FN} {gV : List V → List V → List V} {gD : List PyData → List PyData → List PyData} {E0 : XK} {t tk : TA} {f fk : FA}
    (hl : ∀ ds es : List PyData, ds.length = n → es.length = m → (gD ds es).length = l)
    (hg : ∀ (vs zs : List V) (ds es : List PyData) (H : Hp), DqAll K H vs ds → DqAll K H zs es → DqAll K H (gV vs zs) (gD ds es)) (ha : RA K J t f) (hk : RA K J tk fk) : RE K J (tCallN n m (spF K l F) gV E0 t tk) (fCallN F n m gD f fk) := by
  intro O as σ H Q ρ P E q k
  refine ha O as σ H _ ρ _ E q fun ds ρ1 vs H1 q1 f1 E1 d1 => ?_
  refine hk O as σ H1 _ ρ1 _ E1 q1 fun es ρ2 zs H2 q2 f2 E2 d2 => ?_
  obtain ⟨l1, l2, q2⟩ := q2
  refine ⟨by rw [d1.length]; exact l1, by rw [d2.length]; exact l2, ?_⟩
  refine call_core (xs := (gD ds es).map .dat) E2 (fits_dat _) (dat_ars (hg _ _ _ _ _ (d1.fr f2) d2)) (by rw [List.length_map]; exact hl _ _ l1 l2) (by rw [ownIx_dat]; exact .nil) ?_ fun d ρ' v H' p fr E' q' => k d ρ' v H' p ((f1.trans f2).trans fr) E' q'
  simp only [wb_dat]
  exact q2
/-! own lists in a parallel assignment -/
theorem EnR.ownNew {O : Addr → Prop} {as : Nat → Option Addr} {H : Hp} {ρ : En} {σ : L2.St} {p : Addr} {xs : List V} {ds : List PyData} {i : Nat} (E : EnR K J (plus O p) as H ρ σ) (hi : i < ρ.length) (hJ : J.P (upA as i (some p)) H) (hQ : J.Q O) (np : ¬ Hid O as p) (h : H p = some (.lst xs)) (d : DqAll K (hp (Hid (plus O p) as) H) xs ds) :
    EnR K J O (upA as i (some p)) H (ρ.set i (.own ds)) (σ.set i (some (.ref p))) := by
  have hS : Same (hp (Hid (plus O p) as) H) (hp (fun a => Hid O as a ∨ a = p) H) := hp_less fun a q => by
    rcases q with (q | q) | q
    · exact .inl (.inl q)
    · exact .inr q
    · exact .inl (.inr q)
  exact (E.lessO hQ).setOwn hi hJ np h (fun j sl o h1 h2 _ => (E.at_ j sl o h1 h2).mono hS fun b hb => rfl) (d.mono hS)
theorem same_plus {O : Addr → Prop} {as : Nat → Option Addr} {H H' : Hp} {p : Addr} (f : FrA (Own as) H H') (h : H p = none) : Same (hp (Hid O as) H) (hp (Hid (plus O p) as) H') := fun a o e => by
  obtain ⟨na, e⟩ := hp_some e
  refine hp_mk (fun z => ?_) (f a o (fun z => na (.inr z)) e)
  rcases z with (z | z) | z
  · exact na (.inl z)
  · rw [z, h] at e; cases e
  · exact na (.inr z)
theorem ext_own {as : Nat → Option Addr} {H H' : Hp} {p : Addr} {i : Nat} (f : FrA (Own as) H H') (hi : n ≤ i) (h : H p = none) : Ext n as (upA as i (some p)) H H' := by
  refine ⟨f, fun a q => ?_, fun j hj => upA_ne (by omega)⟩
  rcases q.up with q | q
  · rw [← Option.some.inj q]; exact .inr h
  · exact .inl q
/-- i, j = e, [..] -/
def fParO2 (i j : Nat) (a : FE) (b : FA) : FS := fun E ρ => a ρ fun d ρ1 => b ρ1 fun ds ρ2 => gN i d ρ2 fun ρ3 => j < ρ3.length ∧ E.nx (ρ3.set j (.own ds))
theorem none_back {as : Nat → Option Addr} {O : Addr → Prop} {H H1 : Hp} {ρ : En} {σ : L2.St} {p : Addr} (E1 : EnR K J O as H1 ρ σ) (f : FrA (Own as) H H1) (h : H1 p = none) : H p = none := by
  cases e : H p with
  | none => rfl
  | some o =>
    by_cases w : Own as p
    · exact absurd (.inr w) (E1.fresh h)
    · rw [f _ _ w e] at h; cases h
theorem rs_parO2 {i j : Nat} {ta tn : TE} {a : FE} {b : FA} (hj : n ≤ j) (ha : RE K J ta a) (hb : RN K J tn b) : RS K J (tPar i j (tCons ta (tCons tn tNil))) (fParO2 i j a b) := by
  intro O as σ H D ρ E R f C
  refine ha O as σ H _ ρ _ R f fun d ρ1 v H1 q1 f1 E1 d1 => ?_
  refine hb O as σ H1 _ ρ1 _ E1 q1 fun ds ρ2 p xs H2 q2 f2 hp1 E2 hp2 d2 => ?_
  refine ⟨_, _, rfl, ?_⟩
  have x := ext_own (f1.trans f2) hj (none_back E1 f1 hp1)
  exact C.nx _ _ _ _ q2.2.2 x ((E2.setFz q2.1 (d1.mono (same_plus f2 hp1))).ownNew q2.2.1 (J.cl _ _ _ _ R.inv x) R.inq (fun z => E1.fresh hp1 z) hp2 d2)
/-- i, j = [..], e -/
def fParO1 (i j : Nat) (b : FA) (a : FE) : FS := fun E ρ => b ρ fun ds ρ1 => a ρ1 fun d ρ2 => i < ρ2.length ∧ slotF (ρ2.set i (.own ds)) j = true ∧ E.nx ((ρ2.set i (.own ds)).set j (.fz d))
theorem rs_parO1 {i j : Nat} {ta tn : TE} {a : FE} {b : FA} (hi : n ≤ i) (hb : RN K J tn b) (ha : RE K J ta a) : RS K J (tPar i j (tCons tn (tCons ta tNil))) (fParO1 i j b a) := by
  intro O as σ H D ρ E R f C
  refine hb O as σ H _ ρ _ R f fun ds ρ1 p xs H1 q1 f1 hp1 E1 hp2 d1 => ?_
  refine ha (plus O p) as σ H1 _ ρ1 _ E1 q1 fun d ρ2 v H2 q2 f2 E2 d2 => ?_
  refine ⟨_, _, rfl, ?_⟩
  have np := R.fresh hp1
  have hp3 : H2 p = some (.lst xs) := f2 _ _ (fun z => np (.inr z)) hp2
  have x := ext_own (f1.trans f2) hi hp1
  have E3 := E2.ownNew (i := i) q2.1 (J.cl _ _ _ _ R.inv x) R.inq np hp3 (d1.fr f2)
  have E4 := E3.setFz (v := v) q2.2.1 (d2.mono (hp_less fun a z => by
    rcases z with z | z
    · exact .inl (.inl z)
    · rcases z.up with z | z
      · exact .inl (.inr (Option.some.inj z).symm)
      · exact .inr z))
  exact C.nx _ _ _ _ q2.2.2 x E4
/-- i, j = [..], [..] -/
def fParOO (i j : Nat) (a b : FA) : FS := fun E ρ => a ρ fun ds ρ1 => b ρ1 fun es ρ2 => i < ρ2.length ∧ j < ρ2.length ∧ E.nx ((ρ2.set i (.own ds)).set j (.own es))
theorem EnR.ownTwo {O : Addr → Prop} {as : Nat → Option Addr} {H0 H : Hp} {ρ : En} {σ : L2.St} {p q : Addr} {xs ys : List V} {ds es : List PyData} {i j : Nat} (E : EnR K J (plus (plus O p) q) as H ρ σ) (hij : i ≠ j) (hi : i < ρ.length) (hj : j < ρ.length) (ni : n ≤ i) (nj : n ≤ j) (h0 : J.P as H0) (hq0 : J.Q O) (f : FrA (Own as) H0 H)
    (hp : H0 p = none) (hq : H0 q = none) (np : ¬ Hid O as p) (nq : ¬ Hid (plus O p) as q) (h1 : H p = some (.lst xs)) (h2 : H q = some (.lst ys)) (d1 : DqAll K (DL.hp (Hid (plus (plus O p) q) as) H) xs ds) (d2 : DqAll K (DL.hp (Hid (plus (plus O p) q) as) H) ys es) :
    ∃ as', Ext n as as' H0 H ∧ EnR K J O as' H ((ρ.set i (.own ds)).set j (.own es)) ((σ.set i (some (.ref p))).set j (some (.ref q))) := by
  have x1 : Ext n as (upA as j (some q)) H0 H := ext_own f nj hq
  have E1 := E.ownNew (i := j) hj (J.cl _ _ _ _ h0 x1) (J.up _ _ (fun _ z => .inl z) hq0) nq h2 d2
  have x2 : Ext n as (upA (upA as j (some q)) i (some p)) H0 H := ⟨f, fun a z => by
    rcases z.up with z | z
    · rw [← Option.some.inj z]; exact .inr hp
    · exact x1.new a z, fun k hk => by rw [upA_ne (by omega)]; exact x1.fix k hk⟩
  have hne : p ≠ q := fun z => nq (.inl (.inr z.symm))
  have E2 := E1.ownNew (i := i) (by rw [List.length_set]; exact hi) (J.cl _ _ _ _ h0 x2) hq0 (fun z => by
    rcases z with z | z
    · exact np (.inl z)
    · rcases z.up with z | z
      · exact hne (Option.some.inj z).symm
      · exact np (.inr z)) h1 (d1.mono (hp_less fun a z => by
    rcases z with z | z
    · exact .inl (.inl z)
    · rcases z.up with z | z
      · exact .inl (.inr (Option.some.inj z).symm)
      · exact .inr z))
  refine ⟨_, x2, ?_⟩
  rw [List.set_comm _ _ hij, List.set_comm _ _ hij]
  exact E2
theorem rs_parOO {i j : Nat} {ta tb : TE} {a b : FA} (hij : i ≠ j) (hi : n ≤ i) (hj : n ≤ j) (ha : RN K J ta a) (hb : RN K J tb b) : RS K J (tPar i j (tCons ta (tCons tb tNil))) (fParOO i j a b) := by
  intro O as σ H D ρ E R f C
  refine ha O as σ H _ ρ _ R f fun ds ρ1 p xs H1 q1 f1 hp1 E1 hp2 d1 => ?_
  refine hb (plus O p) as σ H1 _ ρ1 _ E1 q1 fun es ρ2 q ys H2 q2 f2 hq1 E2 hq2 d2 => ?_
  refine ⟨_, _, rfl, ?_⟩
  obtain ⟨as', x, E3⟩ := E2.ownTwo hij q2.1 q2.2.1 hi hj R.inv R.inq (f1.trans f2) hp1 (none_back E1 f1 hq1) (fun z => R.fresh hp1 z) (fun z => E1.fresh hq1 z) (f2 _ _ (fun z => R.fresh hp1 (.inr z)) hp2) hq2 (d1.mono (same_plus f2 hq1)) d2
  exact C.nx _ _ _ _ q2.2.2 x E3
/-- i, j, l = e, e', [..] -/
def fPar3O3 (i j l : Nat) (a a' : FE) (b : FA) : FS := fun E ρ => a ρ fun d ρ1 => a' ρ1 fun d' ρ2 => b ρ2 fun ds ρ3 => gN i d ρ3 fun ρ4 => gN j d' ρ4 fun ρ5 => l < ρ5.length ∧ E.nx (ρ5.set l (.own ds))
theorem rs_par3O3 {i j l : Nat} {ta ta' tn : TE} {a a' : FE} {b : FA} (hl : n ≤ l) (ha : RE K J ta a) (ha' : RE K J ta' a') (hb : RN K J tn b) : RS K J (tPar3 i j l (tCons ta (tCons ta' (tCons tn tNil)))) (fPar3O3 i j l a a' b) := by
  intro O as σ H D ρ E R f C
  refine ha O as σ H _ ρ _ R f fun d ρ1 v H1 q1 f1 E1 d1 => ?_
  refine ha' O as σ H1 _ ρ1 _ E1 q1 fun d' ρ2 v' H2 q2 f2 E2 d2 => ?_
  refine hb O as σ H2 _ ρ2 _ E2 q2 fun ds ρ3 p xs H3 q3 f3 hp1 E3 hp2 d3 => ?_
  refine ⟨_, _, _, rfl, ?_⟩
  have x := ext_own ((f1.trans f2).trans f3) hl (none_back E1 f1 (none_back E2 f2 hp1))
  exact C.nx _ _ _ _ q3.2.2.2 x (((E3.setFz q3.1 ((d1.fr f2).mono (same_plus f3 hp1))).setFz q3.2.1 (d2.mono (same_plus f3 hp1))).ownNew q3.2.2.1 (J.cl _ _ _ _ R.inv x) R.inq (fun z => E2.fresh hp1 z) hp2 d3)
/-- own[k] += e -/
def fAugO (i : Nat) (b a : FE) (h : Int → Int → Int) : FS := fun E ρ => ownF ρ i fun _ => b ρ fun x ρ1 => intF x fun k => ownF ρ1 i fun ds => ∃ c, atI ds k = some (.int c) ∧ a ρ1 fun y ρ2 => intF y fun y => ownF ρ2 i fun es => ∃ j, ixN es.length k = some j ∧ E.nx (ρ2.set i (.own (es.set j (.int (h c y)))))
theorem rs_augO {i : Nat} {ti te : TE} {b a : FE} {h : Int → Int → Int} (hb : RE K J ti b) (ha : RE K J te a) : RS K J (tAugS (tVar i) ti te (rIxL K) (ipI h) rSetL) (fAugO i b a h) := by
  intro O as σ H D ρ E R f C
  obtain ⟨ds0, h0, f⟩ := ownF_of f
  obtain ⟨p, xs0, e1, e2, e3, _⟩ := R.own_at h0
  refine ⟨_, e1, ?_⟩
  refine hb O as σ H _ ρ _ R f fun x ρ1 v H1 q1 f1 E1 d1 => ?_
  unfold intF at q1
  split at q1
  · next z =>
    cases d1
    obtain ⟨ds, hds, c, hc, q1⟩ := ownF_of q1
    obtain ⟨p', xs, e1', e2', e3', e4'⟩ := E1.own_at hds
    rw [e2] at e2'
    cases e2'
    obtain ⟨u, hu, du⟩ := e4'.atI hc
    cases du
    refine ⟨p, xs, z, _, rfl, rfl, SqL.of e3', hu, ?_⟩
    refine ha O as σ H1 _ ρ1 _ E1 q1 fun y ρ2 w H2 q2 f2 E2 d2 => ?_
    unfold intF at q2
    split at q2
    · cases d2
      obtain ⟨es, hes, j, hj, q2⟩ := ownF_of q2
      obtain ⟨p'', ys, e1'', e2'', e3'', e4''⟩ := E2.own_at hes
      rw [e2] at e2''
      cases e2''
      refine ⟨_, _, rfl, rfl, p, ys, z, j, rfl, rfl, e3'', by rw [e4''.length]; exact hj, ?_⟩
      refine C.nx _ _ _ _ q2 (.of ((f1.trans f2).trans fun b o nb e => ?_)) (E2.put e2 (e4''.set (.int _) j))
      rw [upd_ne (fun z : b = p => nb (by rw [z]; exact ⟨i, e2⟩))]
      exact e
    · exact q2.elim
  · exact q1.elim
/-- i, j = e, [..] by way of the tuple -/
theorem rs_asgO2 {i j : Nat} {ta tn : TE} {a : FE} {b : FA} (hj : n ≤ j) (ha : RE K J ta a) (hb : RN K J tn b) : RS K J (tAsg (tTup (tCons ta (tCons tn tNil))) (gTup K 2 (gCons (gName i) (gCons (gName j) gNil)))) (fParO2 i j a b) := by
  intro O as σ H D ρ E R f C
  refine ha O as σ H _ ρ _ R f fun d ρ1 v H1 q1 f1 E1 d1 => ?_
  refine hb O as σ H1 _ ρ1 _ E1 q1 fun ds ρ2 p xs H2 q2 f2 hp1 E2 hp2 d2 => ?_
  refine ⟨by show 2 ≤ sizeLine; decide, fun T hT => ?_⟩
  have s3 := Same.new (o := .tup [v, .ref p]) hT
  refine ⟨T, _, rfl, SqT.of upd_same, rfl, _, _, rfl, _, _, rfl, rfl, ?_⟩
  have E3 := E2.grow s3
  have x := ext_own ((f1.trans f2).trans (FrA.of s3)) hj (none_back E1 f1 hp1)
  exact C.nx _ _ _ _ q2.2.2 x ((E3.setFz q2.1 ((d1.mono (same_plus f2 hp1)).mono (hp_grow s3))).ownNew q2.2.1 (J.cl _ _ _ _ R.inv x) R.inq (fun z => E1.fresh hp1 z) (s3 _ _ hp2) (d2.mono (hp_grow s3)))
/-- own == e, own != e -/
def fEqO (h : Bool → Bool) (i : Nat) (b : FE) : FE := fun ρ P => ownF ρ i fun _ => b ρ fun y ρ1 => ownF ρ1 i fun ds => SeqAt.shaped (.list ds) = true ∧ SeqAt.shaped y = true ∧ P (.bool (h (PyData.eqv (.list ds) y))) ρ1
theorem own_dp {O : Addr → Prop} {as : Nat → Option Addr} {H : Hp} {ρ : En} {σ : L2.St} {i : Nat} {ds : List PyData} (E : EnR K J O as H ρ σ) (h : ρ[i]? = some (.own ds)) (sh : SeqAt.shaped (.list ds) = true) : ∃ a, as i = some a ∧ σ[i]? = some (some (.ref a)) ∧ Dp K H (.ref a) (.list ds) := by
  obtain ⟨a, xs, e1, e2, e3, e4⟩ := E.own_at h
  exact ⟨a, e2, e1, .lst (SqL.of e3) (DpAll.mono hp_same (e4.dp (plain_of sh)))⟩
theorem re_eqO {i : Nat} {tb : TE} {b : FE} (hb : RE K J tb b) : RE K J (tOp (rEqD K) (tVar i) tb) (fEqO id i b) := by
  intro O as σ H Q ρ P E q k
  obtain ⟨ds0, h0, q⟩ := ownF_of q
  obtain ⟨a, xs0, e1, e2, _, _⟩ := E.own_at h0
  refine ⟨_, e1, ?_⟩
  refine hb O as σ H _ ρ _ E q fun x ρ1 v H1 q1 f1 E1 d1 => ?_
  obtain ⟨ds, hds, s1, s2, p⟩ := ownF_of q1
  obtain ⟨a', e2', _, dp⟩ := own_dp E1 hds s1
  rw [e2] at e2'
  cases e2'
  exact ⟨_, _, dp, Dp.mono hp_same (d1.dp (plain_of s2)), s1, s2, k _ _ _ _ p f1 E1 (.bl _)⟩
theorem re_neO {i : Nat} {tb : TE} {b : FE} (hb : RE K J tb b) : RE K J (tOp (rNeD K) (tVar i) tb) (fEqO not i b) := by
  intro O as σ H Q ρ P E q k
  obtain ⟨ds0, h0, q⟩ := ownF_of q
  obtain ⟨a, xs0, e1, e2, _, _⟩ := E.own_at h0
  refine ⟨_, e1, ?_⟩
  refine hb O as σ H _ ρ _ E q fun x ρ1 v H1 q1 f1 E1 d1 => ?_
  obtain ⟨ds, hds, s1, s2, p⟩ := ownF_of q1
  obtain ⟨a', e2', _, dp⟩ := own_dp E1 hds s1
  rw [e2] at e2'
  cases e2'
  exact ⟨_, _, dp, Dp.mono hp_same (d1.dp (plain_of s2)), s1, s2, k _ _ _ _ p f1 E1 (.bl _)⟩
end
end DL
/-! new lists handed back; own lists changed by methods; more built-in calls -/
namespace DL
open PySem L2 Z PySem.Spec PyProof.Rows
section
variable {K : PySem.W.Frag} {n : Nat} {J : Jv n}
theorem EnR.release {O : Addr → Prop} {as : Nat → Option Addr} {H : Hp} {ρ : En} {σ : L2.St} {i : Nat} {ds : List PyData} (E : EnR K J O as H ρ σ) (hn : n ≤ i) (h : ρ[i]? = some (.own ds)) :
    ∃ p xs, as i = some p ∧ H p = some (.lst xs) ∧ EnR K J (plus O p) (upA as i none) H (ρ.set i .no) σ ∧ DqAll K (hp (Hid (plus O p) (upA as i none)) H) xs ds := by
  obtain ⟨p, xs, e1, e2, e3, e4⟩ := E.own_at h
  have hS : Same (hp (Hid O as) H) (hp (Hid (plus O p) (upA as i none)) H) := hp_less fun a q => by
    rcases q with (q | q) | q
    · exact .inl q
    · rw [q]; exact .inr ⟨i, e2⟩
    · rcases q.up with q | q
      · cases q
      · exact .inr q
  refine ⟨p, xs, e2, e3, ⟨by rw [List.length_set]; exact E.len, fun j sl o h1 h2 => ?_, fun j k b h1 h2 => ?_, fun j b h => ?_, fun j b h => ?_, fun a q => ?_, J.cl _ _ _ _ E.inv ⟨FrA.refl _ _, fun a q => by
    rcases q.up with q | q
    · cases q
    · exact .inl q, fun j hj => upA_ne (by omega)⟩, J.up _ _ (fun _ z => .inl z) E.inq⟩, e4.mono hS⟩
  · rw [List.getElem?_set] at h1
    by_cases e : i = j
    · subst e
      rw [if_pos rfl] at h1
      split at h1
      · cases h1
        rw [upA_at]
        exact .no
      · cases h1
    · rw [if_neg e] at h1
      rw [upA_ne (fun z => e z.symm)]
      exact (E.at_ j sl o h1 h2).mono hS fun _ _ => rfl
  · by_cases q : j = i
    · rw [q, upA_at] at h1; cases h1
    · by_cases q2 : k = i
      · rw [q2, upA_at] at h2; cases h2
      · rw [upA_ne q] at h1; rw [upA_ne q2] at h2
        exact E.inj j k b h1 h2
  · by_cases q : j = i
    · rw [q, upA_at] at h; cases h
    · rw [upA_ne q] at h
      rintro (z | z)
      · exact E.out j b h z
      · rw [z] at h
        exact q (E.inj j i p h e2)
  · by_cases q : j = i
    · rw [q, upA_at] at h; cases h
    · rw [upA_ne q] at h; rw [List.length_set]; exact E.bnd j b h
  · rcases q with q | q
    · exact E.occ a q
    · rw [q, e3]; exact Option.some_ne_none _
/-- return own -/
def fRetO (i : Nat) : FS := fun E ρ => ownF ρ i fun ds => E.ro ds (ρ.set i .no)
theorem rs_retO {i : Nat} (hi : n ≤ i) : RS K J (tRet (tVar i)) (fRetO i) := by
  intro O as σ H D ρ E R f C
  obtain ⟨ds, h, f⟩ := ownF_of f
  obtain ⟨p, xs, e2, e3, R', d⟩ := R.release hi h
  obtain ⟨a, ys, e1, e2', _, _⟩ := R.own_at h
  rw [e2] at e2'
  cases e2'
  refine ⟨_, e1, C.ro _ _ _ _ _ _ _ f ⟨FrA.refl _ _, fun a q => ?_, fun j hj => upA_ne (by omega)⟩ (.inr ⟨i, e2⟩) R' e3 d⟩
  rcases q.up with q | q
  · cases q
  · exact .inl q
/-- return of a new list -/
def fRetW (f : FA) : FS := fun E ρ => f ρ fun ds ρ1 => E.ro ds ρ1
theorem rs_retW {te : TE} {f : FA} (h : RN K J te f) : RS K J (tRet te) (fRetW f) := by
  intro O as σ H D ρ E R q C
  exact h O as σ H _ ρ _ R q fun ds ρ1 p xs H2 q1 f1 hp1 E1 hp2 d1 => C.ro _ _ _ _ _ _ _ q1 (.of f1) (.inl hp1) E1 hp2 d1
abbrev FM := List Sl → (List PyData → List Sl → Prop) → Prop
/-- a def that hands back a new list -/
def spN (K : PySem.W.Frag) (n : Nat) (F : FM) : Sp := fun vs H Q _ => vs.length = n ∧ ∃ (O : Addr → Prop) (as : Nat → Option Addr) (ρ : En) (P : List PyData → List Sl → Prop), EnR K (J0 : Jv 0) O as H ρ (vs.map some) ∧ F ρ P ∧
  ∀ ds out p xs H', P ds out → FrA (Own as) H H' → H p = none → (∀ i a, as i = some a → ∃ ds xs, out[i]? = some (.own ds) ∧ H' a = some (.lst xs) ∧ DqAll K (hp (Hid (plus O p) as) H') xs ds) → H' p = some (.lst xs) → DqAll K (hp (Hid (plus O p) as) H') xs ds → Q (.ref p) H'
def fnM (n m : Nat) (b : FS) : FM := fun sls P => b { nx := fun _ => False, rt := fun _ _ => False, ro := fun ds ρ' => P ds (ρ'.take n) } (sls ++ List.replicate (m - n) .no)
theorem fn_coreN {ps : List Str} {N : List Str} {b : FS} {t : TS} (rs : ∀ J : Jv ps.length, RS K J t b) {vs : List V} {H : Hp} {Q : VK} {E : XK} (h : spN K ps.length (fnM ps.length N.length b) vs H Q E) : t { nx := fun _ H' => Q .non H', rt := Q } (L2.start N vs) H := by
  obtain ⟨hv, O, as, ρ, P, R, hF, q⟩ := h
  have few : ∀ i a, as i = some a → i < ps.length := fun i a h => by have := R.bnd i a h; have := R.len; rw [List.length_map] at this; omega
  refine rs J0 O as _ H _ _ _ ((R.start N hv).reJ trivial trivial) hF ⟨fun _ _ _ _ p => p.elim, fun _ _ _ _ _ _ p => p.elim, fun _ _ _ _ p => p.elim, fun _ _ _ _ p => p.elim, fun ds ρ' p xs as' σ' H' pr x o R' e d => ?_⟩
  have less : Same (hp (Hid (plus O p) as') H') (hp (Hid (plus O p) as) H') := hp_less fun c hc => by
    rcases hc with hc | ⟨j, hc⟩
    · exact .inl hc
    · exact .inr ⟨j, by rw [x.fix j (few j c hc)]; exact hc⟩
  have new : H p = none := by
    rcases o with o | ⟨j, o⟩
    · exact o
    · have h' : as' j = some p := by rw [x.fix j (few j p o)]; exact o
      exact absurd (.inr rfl) (R'.out j p h')
  refine q _ _ _ _ _ pr x.fr new (fun i a h => ?_) e (d.mono less)
  have h' : as' i = some a := by rw [x.fix i (few i a h)]; exact h
  obtain ⟨es, ys, e1, _, e3, e4⟩ := R'.is_own h'
  exact ⟨es, ys, by rw [List.getElem?_take, if_pos (few i a h)]; exact e1, e3, e4.mono less⟩
section
variable {P : Program} {w : World} {mg : Str → Option Value} {base : Heap} {k : Nat} {f : Addr} {fd : FuncData} {ps : List Str} {x qual : Str} {st : Stmt} {N : List Str} {b : FS}
theorem okN (F : Fun K x qual st f fd) (S : FnScope N ps (defScope st))
    (body : ∀ (cdv : Value) (A : Around) (outer : List Env) (s : Shared) (H : Hp) (E : XK), Room k (A.deeper (envOfC qual (defScope st) s.heap.objs.size f cdv)) →
      (A.deeper (envOfC qual (defScope st) s.heap.objs.size f cdv)).guards = some [] →
      ∃ t, PSs (cxOf CX0 P w K mg base N qual (defScope st) f cdv A outer s H E).nox (defBody st) t ∧ ∀ J : Jv ps.length, RS K J t b) :
    FnG P w K mg base (k + 1) f fd ps (spN K ps.length (fnM ps.length N.length b)) := by
  refine okG F S (fun vs H Q E h => h.1) (fun cdv A outer s H vs Q E hr hg h => ?_)
  obtain ⟨t, pt, rs⟩ := body cdv A outer s H E hr hg
  exact ⟨t, pt, fn_coreN rs h⟩
theorem okN0 (F : Fun K x qual st f fd) (S : FnScope N ps (defScope st))
    (body : ∀ (cdv : Value) (A : Around) (outer : List Env) (s : Shared) (H : Hp) (E : XK), Room k (A.deeper (envOfC qual (defScope st) s.heap.objs.size f cdv)) →
      ∃ t, PSs (cxOf CX0 P w K mg base N qual (defScope st) f cdv A outer s H E).nox (defBody st) t ∧ ∀ J : Jv ps.length, RS K J t b) :
    FnOk P w K mg base CX0 (k + 1) f fd ps (spN K ps.length (fnM ps.length N.length b)) := by
  refine F.ok S (fun vs H Q E h => h.1) (fun cdv A outer s H vs Q E hr h => ?_)
  obtain ⟨t, pt, rs⟩ := body cdv A outer s H E hr
  exact ⟨t, pt, fn_coreN rs h⟩
theorem okND {params : Arguments} {bd : List Stmt} {scope : Scope} {dvs : List V} {kws : List (Str × V)} (F : FunD K x qual params bd scope dvs kws f fd) (S : FnScope N ps scope)
    (body : ∀ (cdv : Value) (A : Around) (outer : List Env) (s : Shared) (H : Hp) (E : XK), Room k (A.deeper (envOfC qual scope s.heap.objs.size f cdv)) →
      ∃ t, PSs (cxOf CX0 P w K mg base N qual scope f cdv A outer s H E).nox bd t ∧ ∀ J : Jv ps.length, RS K J t b) :
    FnOk P w K mg base CX0 (k + 1) f fd ps (spN K ps.length (fnM ps.length N.length b)) := by
  refine okD F S (fun vs H Q E h => h.1) (fun cdv A outer s H vs Q E hr h => ?_)
  obtain ⟨t, pt, rs⟩ := body cdv A outer s H E hr
  exact ⟨t, pt, fn_coreN rs h⟩
end
theorem call_coreN {O : Addr → Prop} {as : Nat → Option Addr} {H : Hp} {ρ : En} {σ : L2.St} {xs : List Ar} {r : List Sl} {vs : List V} {m : Nat} {F : FM} {P : List PyData → En → Prop} {Q : VK} {E0 : XK} (E : EnR K J O as H ρ σ) (fit : Fits ρ xs r) (ar : ArsR K (hp (Hid O as) H) as vs xs) (hm : xs.length = m) (nd : (ownIx xs).Nodup)
    (f : F r fun d out => P d (wb ρ xs out)) (k : ∀ ds ρ' p ys H', P ds ρ' → FrA (Own as) H H' → H p = none → EnR K J (plus O p) as H' ρ' σ → H' p = some (.lst ys) → DqAll K (hp (Hid (plus O p) as) H') ys ds → Q (.ref p) H') : spN K m F vs H Q E0 := by
  have sub : ∀ a, Own (adrs as xs) a → Own as a := fun a ⟨j, h⟩ => by
    obtain ⟨i, _, h⟩ := adrs_own h
    exact ⟨i, h⟩
  have hid : ∀ a, Hid (fun a => Hid O as a ∧ ¬ Own (adrs as xs) a) (adrs as xs) a → Hid O as a := fun a => by
    rintro (h | h)
    · exact h.1
    · exact .inr (sub a h)
  have s1 : Same (hp (Hid O as) H) (hp (Hid (fun a => Hid O as a ∧ ¬ Own (adrs as xs) a) (adrs as xs)) H) := hp_less fun a h => hid a h
  have s2 : ∀ p H', Same (hp (Hid (plus (fun a => Hid O as a ∧ ¬ Own (adrs as xs) a) p) (adrs as xs)) H') (hp (Hid (plus O p) as) H') := fun p H' => hp_less fun a h => by
    by_cases z : a = p
    · exact .inl (.inr z)
    · by_cases q : Own (adrs as xs) a
      · exact .inr q
      · rcases h with (h | h) | h
        · exact .inl (.inl ⟨.inl h, q⟩)
        · exact absurd h z
        · exact .inl (.inl ⟨.inr h, q⟩)
  refine ⟨by rw [ar.len, hm], fun a => Hid O as a ∧ ¬ Own (adrs as xs) a, adrs as xs, r, _, ⟨by rw [List.length_map, fit.len, ar.len], fun j sl o h1 h2 => fits_at E s1 fit ar h1 h2, fun j1 j2 a h1 h2 => ?_, fun j a h q => q.2 ⟨j, h⟩, fun j a h => ?_, fun a h => E.full h.1, trivial, trivial⟩, f, fun d out p ys H' pr fr hp1 ow hp2 dv => ?_⟩
  · obtain ⟨i1, e1, h1⟩ := adrs_own h1
    obtain ⟨i2, e2, h2⟩ := adrs_own h2
    rw [E.inj i1 i2 a h1 h2] at e1
    exact ownIx_inj nd e1 e2
  · obtain ⟨i, e, _⟩ := adrs_own h
    rw [fit.len]
    exact (List.getElem?_eq_some_iff.mp e).1
  · have fr' : FrA (Own as) H H' := fr.up sub
    refine k d _ p ys H' pr fr' hp1 ⟨by rw [wb_len]; exact E.len, fun i sl o h1 h2 => ?_, E.inj, fun i a h => ?_, fun i a h => by rw [wb_len]; exact E.bnd i a h, fun a h => ?_, J.fr E.inv fr', J.up _ _ (fun _ z => .inl z) E.inq⟩ hp2 (dv.mono (s2 p H'))
    · by_cases q : i ∈ ownIx xs
      · obtain ⟨j, e⟩ := ownIx_mem q
        have hi : i < ρ.length := by
          have := (List.getElem?_eq_some_iff.mp h1).1
          rw [wb_len] at this
          exact this
        obtain ⟨a, ha⟩ := ar.own_at e
        have hadr : adrs as xs j = some a := by unfold adrs; rw [e]; exact ha
        obtain ⟨ds, zs, e1, e2, e3⟩ := ow j a hadr
        rw [wb_own ρ hi nd e e1] at h1
        cases h1
        obtain ⟨_, _, _, e4, _⟩ := E.is_own ha
        rw [e4] at h2
        cases h2
        rw [ha]
        exact .own e2 (e3.mono (s2 p H'))
      · rw [wb_other ρ xs out q] at h1
        refine (E.at_ i sl o h1 h2).mono (same_plus fr' hp1) fun b hb => ?_
        obtain ⟨_, _, _, _, e, _⟩ := E.is_own hb
        rw [e]
        refine fr _ _ (fun z => ?_) e
        obtain ⟨j, z⟩ := z
        obtain ⟨i', e', h'⟩ := adrs_own z
        rw [E.inj i' i b h' hb] at e'
        exact q (mem_ownIx e')
    · rintro (z | z)
      · exact E.out i a h z
      · obtain ⟨_, _, _, _, e, _⟩ := E.is_own h
        rw [z, hp1] at e
        cases e
    · rcases h with h | h
      · obtain ⟨o, e⟩ := Option.ne_none_iff_exists'.mp (E.occ a h)
        rw [fr' a o (fun ⟨i, z⟩ => E.out i a z h) e]
        exact Option.some_ne_none _
      · rw [h, hp2]; exact Option.some_ne_none _
def fCallW (m : Nat) (F : FM) (dv : List PyData) (a : FC) : FA := fun ρ P => a ρ fun xs ρ1 => xs.length + dv.length = m ∧ (ownIx xs).Nodup ∧ argF ρ1 xs fun r => F (r ++ dv.map .fz) fun d out => P d (wb ρ1 xs out)
theorem rn_call {m : Nat} {F : FM} {dvs : List V} {dv : List PyData} {E0 : XK} {t : TA} {f : FC} (hd : ∀ H, DqAll K H dvs dv) (ha : RC K J t f) : RN K J (tCall (spN K m F) dvs E0 t) (fCallW m F dv f) := by
  intro O as σ H Q ρ P E q k
  refine ha O as σ H _ ρ _ E q fun xs ρ1 vs H1 q1 f1 E1 d1 => ?_
  obtain ⟨hm, nd, q1⟩ := q1
  obtain ⟨r, fit, q1⟩ := argF_of q1
  refine call_coreN (xs := xs ++ dv.map .dat) E1 (fit.app (fits_dat dv)) (d1.app (dat_ars (hd _))) (by rw [List.length_append, List.length_map]; exact hm) (by rw [ownIx_app]; exact nd) ?_ fun ds ρ' p ys H' pr fr hp1 E' hp2 q' => k ds ρ' p ys H' pr (f1.trans fr) (none_back E1 f1 hp1) E' hp2 q'
  simp only [wb_app]
  exact q1
def fCallNW (F : FM) (n m : Nat) (gD : List PyData → List PyData → List PyData) (f fk : FA) : FA := fun ρ P => f ρ fun ds ρ1 => fk ρ1 fun es ρ2 => ds.length = n ∧ es.length = m ∧ F ((gD ds es).map .fz) fun d _ => P d ρ2
theorem rn_callN {l n m : Nat} {F : FM} {gV : List V → List V → List V} {gD : List PyData → List PyData → List PyData} {E0 : XK} {t tk : TA} {f fk : FA}
    (hl : ∀ ds es : List PyData, ds.length = n → es.length = m → (gD ds es).length = l)
    (hg : ∀ (vs zs : List V) (ds es : List PyData) (H : Hp), DqAll K H vs ds → DqAll K H zs es → DqAll K H (gV vs zs) (gD ds es)) (ha : RA K J t f) (hk : RA K J tk fk) : RN K J (tCallN n m (spN K l F) gV E0 t tk) (fCallNW F n m gD f fk) := by
  intro O as σ H Q ρ P E q k
  refine ha O as σ H _ ρ _ E q fun ds ρ1 vs H1 q1 f1 E1 d1 => ?_
  refine hk O as σ H1 _ ρ1 _ E1 q1 fun es ρ2 zs H2 q2 f2 E2 d2 => ?_
  obtain ⟨l1, l2, q2⟩ := q2
  refine ⟨by rw [d1.length]; exact l1, by rw [d2.length]; exact l2, ?_⟩
  refine call_coreN (xs := (gD ds es).map .dat) E2 (fits_dat _) (dat_ars (hg _ _ _ _ _ (d1.fr f2) d2)) (by rw [List.length_map]; exact hl _ _ l1 l2) (by rw [ownIx_dat]; exact .nil) ?_ fun ds ρ' p ys H' pr fr hp1 E' hp2 q' => k ds ρ' p ys H' pr ((f1.trans f2).trans fr) (none_back E1 f1 (none_back E2 f2 hp1)) E' hp2 q'
  simp only [wb_dat]
  exact q2
/-! built-in calls and operators that make a new list -/
def RBN (K : PySem.W.Frag) (r : List V → Hp → VK → Prop) (g : List PyData → (List PyData → Prop) → Prop) : Prop := ∀ (A : Addr → Prop) (H : Hp) (Q : VK) (xs : List V) (ds : List PyData) (P : List PyData → Prop),
  DqAll K (hp A H) xs ds → g ds P → (∀ es p ys, P es → H p = none → DqAll K (hp A H) ys es → Q (.ref p) (upd H p (.lst ys))) → r xs H Q
theorem new_step {O : Addr → Prop} {as : Nat → Option Addr} {H H1 : Hp} {ρ1 : En} {σ : L2.St} {p : Addr} {ys : List V} {es : List PyData} {P : List PyData → En → Prop} {Q : VK} (f1 : FrA (Own as) H H1) (E1 : EnR K J O as H1 ρ1 σ) (q : P es ρ1) (hp1 : H1 p = none) (d : DqAll K (hp (Hid O as) H1) ys es)
    (k : ∀ ds ρ' p xs H', P ds ρ' → FrA (Own as) H H' → H p = none → EnR K J (plus O p) as H' ρ' σ → H' p = some (.lst xs) → DqAll K (hp (Hid (plus O p) as) H') xs ds → Q (.ref p) H') : Q (.ref p) (upd H1 p (.lst ys)) := by
  obtain ⟨E2, s2⟩ := E1.addO (o := .lst ys) hp1
  exact k _ _ _ _ _ q (f1.trans (FrA.of (Same.new hp1))) (none_back E1 f1 hp1) E2 upd_same (d.mono s2)
def fCBN (g : List PyData → (List PyData → Prop) → Prop) (a : FA) : FA := fun ρ P => a ρ fun ds ρ1 => g ds fun es => P es ρ1
theorem rn_cb {r : List V → Hp → VK → Prop} {g : List PyData → (List PyData → Prop) → Prop} {t : TA} {f : FA} (hr : RBN K r g) (ha : RA K J t f) : RN K J (tCB r t) (fCBN g f) := by
  intro O as σ H Q ρ P E q k
  refine ha O as σ H _ ρ _ E q fun ds ρ1 vs H1 q1 f1 E1 d1 => ?_
  exact hr (Hid O as) H1 _ vs ds _ d1 q1 fun es p ys pr hp1 d => new_step f1 E1 pr hp1 d k
def nList (ds : List PyData) (P : List PyData → Prop) : Prop := one ds fun d => seqF d P
theorem rbn_list : RBN K (fun xs H Q => ∃ p ys, xs = [.ref p] ∧ (SqL K H p ys ∨ SqT K H p ys) ∧ ∀ l, H l = none → Q (.ref l) (upd H l (.lst ys))) nList := by
  intro A H Q xs ds P r g k
  obtain ⟨v, d, rfl, q, g⟩ := one_of r g
  obtain ⟨p, ys, es, rfl, s, r, g⟩ := seqF_of q g
  exact ⟨p, ys, rfl, s, fun l hl => k _ _ _ g hl r⟩
def nSortI (ds : List PyData) (P : List PyData → Prop) : Prop := one ds fun d => listF d fun es => intsF es fun ns => ∀ ms : List Int, ms.Perm ns → ms.Pairwise (· ≤ ·) → P (ms.map .int)
theorem rbn_sortI : RBN K (rSortedI K) nSortI := by
  intro A H Q xs ds P r g k
  obtain ⟨v, d, rfl, q, g⟩ := one_of r g
  unfold listF at g
  split at g
  · obtain ⟨ns, e, g'⟩ := intsF_of g
    subst e
    obtain ⟨a, ys, rfl, s, r⟩ := q.list_of
    cases r.ints_of
    exact ⟨a, ns, rfl, SqL.mono hp_same s, fun ms p h1 h2 hp1 => k _ _ _ (g' ms h1 h2) hp1 (DqAll.ints _)⟩
  · exact g.elim
def nSortS (ds : List PyData) (P : List PyData → Prop) : Prop := one ds fun d => listF d fun es => strsF es fun ns => ns.length < 64 ∧ ∀ ms : List Str, ms.Perm ns → sortedS ms = true → P (ms.map .str)
theorem rbn_sortS : RBN K (rSortedS K) nSortS := by
  intro A H Q xs ds P r g k
  obtain ⟨v, d, rfl, q, g⟩ := one_of r g
  unfold listF at g
  split at g
  · obtain ⟨ns, e, hl, g'⟩ := strsF_of g
    subst e
    obtain ⟨a, ys, rfl, s, r⟩ := q.list_of
    cases r.strs_of
    exact ⟨a, ns, rfl, SqL.mono hp_same s, hl, fun ms p h1 h2 hp1 => k _ _ _ (g' ms h1 h2) hp1 (DqAll.strs _)⟩
  · exact g.elim
def RRN (K : PySem.W.Frag) (r : R2) (g : PyData → PyData → (List PyData → Prop) → Prop) : Prop := ∀ (A : Addr → Prop) (H : Hp) (Q : VK) (x y : V) (a b : PyData) (P : List PyData → Prop),
  Dq K (hp A H) x a → Dq K (hp A H) y b → g a b P → (∀ es p ys, P es → H p = none → DqAll K (hp A H) ys es → Q (.ref p) (upd H p (.lst ys))) → r x y H Q
def fOpN (g : PyData → PyData → (List PyData → Prop) → Prop) (a b : FE) : FA := fun ρ P => a ρ fun x ρ1 => b ρ1 fun y ρ2 => g x y fun es => P es ρ2
theorem rn_op {r : R2} {g : PyData → PyData → (List PyData → Prop) → Prop} {ta tb : TE} {fa fb : FE} (hr : RRN K r g) (ha : RE K J ta fa) (hb : RE K J tb fb) : RN K J (tOp r ta tb) (fOpN g fa fb) := by
  intro O as σ H Q ρ P E q k
  refine ha O as σ H _ ρ _ E q fun a ρ1 x H1 q1 f1 E1 d1 => ?_
  refine hb O as σ H1 _ ρ1 _ E1 q1 fun b ρ2 y H2 q2 f2 E2 d2 => ?_
  exact hr (Hid O as) H2 _ x y a b _ (d1.fr f2) d2 q2 fun es p ys pr hp1 d => new_step (f1.trans f2) E2 pr hp1 d k
def nCat : PyData → PyData → (List PyData → Prop) → Prop := fun a b P => match a, b with
  | .list xs, .list ys => xs.length + ys.length ≤ sizeLine ∧ P (xs ++ ys)
  | _, _ => False
theorem rrn_cat : RRN K (rCatK K) nCat := by
  intro A H Q x y a b P da db g k
  unfold nCat at g
  split at g
  · obtain ⟨p, xs, rfl, s, r⟩ := da.list_of
    obtain ⟨p', xs', rfl, s', r'⟩ := db.list_of
    exact ⟨p, p', xs, xs', rfl, rfl, SqL.mono hp_same s, SqL.mono hp_same s', by rw [r.length, r'.length]; exact g.1, fun l hl => k _ _ _ g.2 hl (r.append r')⟩
  · exact g.elim
theorem own_out {O : Addr → Prop} {as : Nat → Option Addr} {H : Hp} {ρ : En} {σ : L2.St} {p : Addr} (E : EnR K J (plus O p) as H ρ σ) : ¬ Own as p := fun ⟨i, h⟩ => E.out i p h (.inr rfl)
theorem plus_sub {O : Addr → Prop} {p : Addr} : ∀ a, O a → plus O p a := fun _ h => .inl h
/-- [..] * k, the list being written there -/
def fRep (a : FA) (b : FE) : FA := fun ρ P => a ρ fun ds ρ1 => b ρ1 fun y ρ2 => intF y fun k => -(2 ^ 63) ≤ k ∧ k < 2 ^ 63 ∧ ds.length * k.toNat ≤ sizeLine ∧ P (List.replicate k.toNat ds).flatten ρ2
theorem rn_rep {ta tb : TE} {a : FA} {b : FE} (ha : RN K J ta a) (hb : RE K J tb b) : RN K J (tOp rRep ta tb) (fRep a b) := by
  intro O as σ H Q ρ P E q k
  refine ha O as σ H _ ρ _ E q fun ds ρ1 p xs H1 q1 f1 hp1 E1 hp2 d1 => ?_
  refine hb (plus O p) as σ H1 _ ρ1 _ E1 q1 fun y ρ2 v H2 q2 f2 E2 d2 => ?_
  unfold intF at q2
  split at q2
  · cases d2
    refine ⟨p, _, xs, rfl, rfl, f2 _ _ (own_out E1) hp2, q2.1, q2.2.1, by rw [d1.length]; exact q2.2.2.1, fun l hl => ?_⟩
    have E3 := E2.lessO E.inq
    exact new_step (f1.trans f2) E3 q2.2.2.2 hl (((d1.fr f2).mono (hp_less fun _ => hid_plus)).rep _) k
  · exact q2.elim
def fSlN (a : FE) (lo hi : FO) : FA := fun ρ P => a ρ fun x ρ1 => lo ρ1 fun l ρ2 => hi ρ2 fun u ρ3 => listF x fun ds => P (cutD ds l u) ρ3
theorem rn_sl {te : TE} {tl th : TO} {a : FE} {lo hi : FO} (ha : RE K J te a) (hl : RO K J tl lo) (hh : RO K J th hi) : RN K J (tSl (rSlL K) te tl th) (fSlN a lo hi) := by
  intro O as σ H Q ρ P E q k
  refine ha O as σ H _ ρ _ E q fun x ρ1 v H1 q1 f1 E1 d1 => ?_
  refine hl O as σ H1 _ ρ1 _ E1 q1 fun l ρ2 H2 q2 f2 E2 => ?_
  refine hh O as σ H2 _ ρ2 _ E2 q2 fun u ρ3 H3 q3 f3 E3 => ?_
  unfold listF at q3
  split at q3
  · obtain ⟨p, xs, rfl, s, r⟩ := ((d1.fr f2).fr f3).list_of
    exact ⟨p, xs, rfl, SqL.mono hp_same s, fun l hl => new_step ((f1.trans f2).trans f3) E3 q3 hl (r.cut _ _) k⟩
  · exact q3.elim
/-- xs[::-1] -/
def fRev (a : FE) : FA := fun ρ P => a ρ fun x ρ1 => listF x fun ds => P ds.reverse ρ1
theorem rn_rev {te : TE} {a : FE} (ha : RE K J te a) : RN K J (tRevL K te) (fRev a) := by
  intro O as σ H Q ρ P E q k
  refine ha O as σ H _ ρ _ E q fun x ρ1 v H1 q1 f1 E1 d1 => ?_
  unfold listF at q1
  split at q1
  · obtain ⟨p, xs, rfl, s, r⟩ := d1.list_of
    exact ⟨p, xs, rfl, SqL.mono hp_same s, fun l hl => new_step f1 E1 q1 hl r.rev k⟩
  · exact q1.elim
/-! own lists changed by methods -/
theorem put_fr {as : Nat → Option Addr} {H H1 : Hp} {p : Addr} {i : Nat} {o : HO} (f : FrA (Own as) H H1) (e : as i = some p) : FrA (Own as) H (upd H1 p o) := fun b u nb h => by
  rw [upd_ne (fun z : b = p => nb (by rw [z]; exact ⟨i, e⟩))]
  exact f b u nb h
/-- own.pop(k), its value -/
def fPopAt (i : Nat) (a : FE) : FE := fun ρ P => ownF ρ i fun _ => a ρ fun x ρ1 => intF x fun k => ownF ρ1 i fun ds => -(2 ^ 63) ≤ k ∧ k < 2 ^ 63 ∧ ∃ j d, seqIndex? k ds.length = some j ∧ ds[j]? = some d ∧ P d (ρ1.set i (.own (ds.eraseIdx j)))
theorem DqAll.erase {G : Hp} : ∀ {v : List V} {d : List PyData} (m : Nat), DqAll K G v d → DqAll K G (v.eraseIdx m) (d.eraseIdx m)
  | _, _, _, .nil => .nil
  | _, _, 0, .cons _ b => b
  | _, _, m + 1, .cons a b => .cons a (DqAll.erase m b)
theorem re_popAt {i : Nat} {te : TE} {a : FE} (ha : RE K J te a) : RE K J (tBM K "list" rPopAt (tVar i) (tCons te tNil)) (fPopAt i a) := by
  intro O as σ H Q ρ P E q kk
  obtain ⟨ds0, h0, q⟩ := ownF_of q
  obtain ⟨p, xs0, e1, e2, e3, _⟩ := E.own_at h0
  refine ⟨_, e1, .inl ⟨rfl, _, SqL.of e3⟩, ?_⟩
  refine ha O as σ H _ ρ _ E q fun x ρ1 v H1 q1 f1 E1 d1 => ?_
  unfold intF at q1
  split at q1
  · cases d1
    obtain ⟨ds, hds, b1, b2, j, d, hj, hd, pr⟩ := ownF_of q1
    obtain ⟨p', xs, e1', e2', e3', e4'⟩ := E1.own_at hds
    rw [e2] at e2'
    cases e2'
    obtain ⟨y, hy, dy⟩ := e4'.got hd
    have E2 := E1.put (i := i) e2 (e4'.erase j)
    refine ⟨p, xs, _, j, y, rfl, rfl, e3', b1, b2, by rw [e4'.length]; exact hj, hy, kk _ _ _ _ pr (put_fr f1 e2) E2 (dy.mono ?_)⟩
    exact hp_fr (put_fr (FrA.refl _ _) e2) own_hid
  · exact q1.elim
/-- own.pop(), its value -/
def fPop (i : Nat) : FE := fun ρ P => ownF ρ i fun ds => ∃ d, ds[ds.length - 1]? = some d ∧ P d (ρ.set i (.own ds.dropLast))
theorem DqAll.last {G : Hp} {v : List V} {d : List PyData} (h : DqAll K G v d) : DqAll K G v.dropLast d.dropLast := by
  rw [List.dropLast_eq_take, List.dropLast_eq_take, h.length]
  exact h.take _
theorem re_pop {i : Nat} : RE K J (tBM0 K "list" rPop (tVar i)) (fPop i) := by
  intro O as σ H Q ρ P E q k
  obtain ⟨ds, h0, d, hd, q⟩ := ownF_of q
  obtain ⟨p, xs, e1, e2, e3, e4⟩ := E.own_at h0
  obtain ⟨y, hy, dy⟩ := e4.got hd
  refine ⟨_, e1, .inl ⟨rfl, _, SqL.of e3⟩, p, xs, y, rfl, rfl, e3, by rw [e4.length]; exact hy, k _ _ _ _ q (put_fr (FrA.refl _ _) e2) (E.put e2 e4.last) (dy.mono (hp_fr (put_fr (FrA.refl _ _) e2) own_hid))⟩
/-- own.insert(k, e) -/
def fInsert (i : Nat) (a b : FE) : FS := fun E ρ => ownF ρ i fun _ => a ρ fun x ρ1 => intF x fun k => b ρ1 fun d ρ2 => ownF ρ2 i fun ds => ds.length < sizeLine ∧ 0 ≤ k ∧ k < 2 ^ 63 ∧ E.nx (ρ2.set i (.own (ds.take k.toNat ++ [d] ++ ds.drop k.toNat)))
theorem rs_insert {i : Nat} {ta tb : TE} {a b : FE} (ha : RE K J ta a) (hb : RE K J tb b) : RS K J (tDrop (tBM K "list" (fun x vs H Q => ∃ (l : Addr) (xs : List V) (i : Int) (y : V), x = .ref l ∧ vs = [.int i, y] ∧ H l = some (.lst xs) ∧ xs.length < sizeLine ∧ 0 ≤ i ∧ i < 2 ^ 63 ∧ Q .non (upd H l (.lst (xs.take i.toNat ++ [y] ++ xs.drop i.toNat)))) (tVar i) (tCons ta (tCons tb tNil)))) (fInsert i a b) := by
  intro O as σ H D ρ E R f C
  obtain ⟨ds0, h0, f⟩ := ownF_of f
  obtain ⟨p, xs0, e1, e2, e3, _⟩ := R.own_at h0
  refine ⟨_, e1, .inl ⟨rfl, _, SqL.of e3⟩, ?_⟩
  refine ha O as σ H _ ρ _ R f fun x ρ1 v H1 q1 f1 E1 d1 => ?_
  unfold intF at q1
  split at q1
  · cases d1
    refine hb O as σ H1 _ ρ1 _ E1 q1 fun d ρ2 w H2 q2 f2 E2 d2 => ?_
    obtain ⟨ds, hds, hl, k0, k1, q2⟩ := ownF_of q2
    obtain ⟨p', xs, e1', e2', e3', e4'⟩ := E2.own_at hds
    rw [e2] at e2'
    cases e2'
    exact ⟨p, xs, _, w, rfl, rfl, e3', by rw [e4'.length]; exact hl, k0, k1, C.nx _ _ _ _ q2 (.of (put_fr (f1.trans f2) e2)) (E2.put e2 (((e4'.take _).append (.cons d2 .nil)).append (e4'.drop _)))⟩
  · exact q1.elim
/-- own.extend(e), e being a list that is made there -/
def fExtend (i : Nat) (a : FA) : FS := fun E ρ => ownF ρ i fun _ => a ρ fun es ρ1 => ownF ρ1 i fun ds => ds.length + es.length ≤ sizeLine ∧ E.nx (ρ1.set i (.own (ds ++ es)))
theorem rs_extend {i : Nat} {te : TE} {a : FA} (ha : RN K J te a) : RS K J (tDrop (tBM K "list" rExtend (tVar i) (tCons te tNil))) (fExtend i a) := by
  intro O as σ H D ρ E R f C
  obtain ⟨ds0, h0, f⟩ := ownF_of f
  obtain ⟨p, xs0, e1, e2, e3, _⟩ := R.own_at h0
  refine ⟨_, e1, .inl ⟨rfl, _, SqL.of e3⟩, ?_⟩
  refine ha O as σ H _ ρ _ R f fun es ρ1 b zs H1 q1 f1 hb0 E1' hb1 r => ?_
  have E1 := E1'.lessO R.inq
  obtain ⟨ds, hds, hl, q1⟩ := ownF_of q1
  obtain ⟨p', xs, e1', e2', e3', e4'⟩ := E1.own_at hds
  rw [e2] at e2'
  cases e2'
  exact ⟨p, b, xs, zs, rfl, rfl, e3', hb1, by rw [e4'.length, r.length]; exact hl, C.nx _ _ _ _ q1 (.of (put_fr f1 e2)) (E1.put e2 (e4'.append (r.mono (hp_less fun _ => hid_plus))))⟩
/-- own.reverse() -/
def fReverse (i : Nat) : FS := fun E ρ => ownF ρ i fun ds => E.nx (ρ.set i (.own ds.reverse))
theorem rs_reverse {i : Nat} : RS K J (tDrop (tBM0 K "list" rReverse (tVar i))) (fReverse i) := by
  intro O as σ H D ρ E R f C
  obtain ⟨ds, h0, f⟩ := ownF_of f
  obtain ⟨p, xs, e1, e2, e3, e4⟩ := R.own_at h0
  exact ⟨_, e1, .inl ⟨rfl, _, SqL.of e3⟩, p, xs, rfl, rfl, e3, C.nx _ _ _ _ f (.of (put_fr (FrA.refl _ _) e2)) (R.put e2 e4.rev)⟩
/-! isinstance(x, (list, tuple)) -/
def fIsiLT (a : FE) : FE := fun ρ P => a ρ fun d ρ1 => isObjD d = false ∧ ∃ b c, kitB (kindD d) "list" = some b ∧ kitB (kindD d) "tuple" = some c ∧ P (.bool (b || c)) ρ1
theorem re_isiLT {ta : TE} {a : FE} (ha : RE K J ta a) : RE K J (tCB (rIsiT K) (tCons ta (tCons (tTup (tCons (tC (.ty "list")) (tCons (tC (.ty "tuple")) tNil))) tNil))) (fIsiLT a) := by
  intro O as σ H Q ρ P E q k
  refine ha O as σ H _ ρ _ E q fun d ρ1 v H1 q1 f1 E1 d1 => ?_
  obtain ⟨ho, b, c, hb, hc, q1⟩ := q1
  refine ⟨by show 2 ≤ sizeLine; decide, fun T hT => ?_⟩
  have s := Same.new (o := .tup [.ty "list", .ty "tuple"]) hT
  exact ⟨v, T, _, _, _, _, rfl, upd_same, ltC, (d1.mono (hp_grow s)).ty ho, kitLT _ b c hb hc, k _ _ _ _ q1 (f1.trans (FrA.of s)) (E1.grow s) (.bl _)⟩
/-! the greatest of three -/
def bMax3 (ds : List PyData) (P : PyData → Prop) : Prop := match ds with
  | [.int i, .int j, .int k] => P (.int (max3 i j k))
  | _ => False
theorem rb_max3 : RB K (fun xs H Q => ∃ i j k, xs = [.int i, .int j, .int k] ∧ Q (.int (max3 i j k)) H) bMax3 := by
  intro A H Q xs ds P oc r g k
  unfold bMax3 at g
  split at g
  · cases r with
    | cons a r => cases r with
      | cons b r => cases r with
        | cons c r => cases r; cases a; cases b; cases c; exact ⟨_, _, _, rfl, k _ _ _ g (Same.refl _) (.int _)⟩
  · exact g.elim
/-! the law's own likeness -/
def F__law_same : FN := fun sls P => match sls with
  | [.fz a, .fz b] => a = b ∧ SeqAt.shaped a = true ∧ a.depth < 8 ∧ nodes a ≤ 1000000 ∧ ∀ sl, P (.bool true) sl
  | _ => False
def spSame (K : PySem.W.Frag) (n : Nat) : Sp := fun vs H Q _ => ∃ (v1 v2 : V) (d : PyData), vs = [v1, v2] ∧ Dp K H v1 d ∧ Dp K H v2 d ∧ SeqAt.shaped d = true ∧ d.depth < n ∧ nodes d ≤ 1000000 ∧ ∀ H', Same H H' → Q (.bl true) H'
theorem same_of {vs : List V} {H : Hp} {Q : VK} {E : XK} (h : spF K 2 F__law_same vs H Q E) : spSame K 8 vs H Q E := by
  obtain ⟨hv, O, as, ρ, P, R, hF, q⟩ := h
  match vs, hv with
  | [v0, v1], _ =>
    have hl : ρ.length = 2 := R.len
    match ρ, hl with
    | [s0, s1], _ =>
      unfold F__law_same at hF
      split at hF
      · next a b e =>
        injection e with e1 e2
        injection e2 with e2 _
        subst e1
        subst e2
        obtain ⟨rfl, sh, dp, nd, hP⟩ := hF
        obtain ⟨v, y1, y2, y3⟩ := R.fz_at (i := 0) rfl
        obtain ⟨w, z1, z2, z3⟩ := R.fz_at (i := 1) rfl
        cases y1
        cases z1
        have no : ∀ i a, as i = some a → False := fun i a ha => by
          have hi := R.bnd i a ha
          match i, hi, ha with
          | 0, _, ha => rw [y2] at ha; cases ha
          | 1, _, ha => rw [z2] at ha; cases ha
        refine ⟨_, _, a, rfl, Dp.mono hp_same (y3.dp (plain_of sh)), Dp.mono hp_same (z3.dp (plain_of sh)), sh, dp, nd, fun H' s => ?_⟩
        exact q _ _ _ _ (hP []) (FrA.of s) (fun i a ha => (no i a ha).elim) (.bl _)
      · exact hF.elim
end
end DL
/-! exceptions of own classes over any built-in one: made, raised, called for; those of __init__ -/
namespace DL
open PySem L2 Z PySem.Spec PyProof.Rows
section
open Builtin Builtin.ObjectAttr
variable {prog : Program} {w : World} {A : Around} {E : Value → Shared → Prop} {R : Result → Shared → Prop} {hh : Heap} {g : Array GenState} {d : Drawn} {t : Nat} {os : OsState}
/-- what is known of an own exception's class C over B -/
structure OxB (K : PySem.W.Frag) (C : Addr) (B nI iI : String) (bm : List Value) : Prop where
  fb : ExcBaseFacts B nI iI bm
  st : StoreFacts B bm "object.__setattr__" "object"
  ci : PySem.W.excInitIn K C bm nI = true
  co : PySem.W.excOver K C bm = true
  hd : PySem.W.hasDictIn K C = true
  sa : PySem.W.findIn K (.ref C) "__setattr__" = some (some (.builtin "object.__setattr__"))
  exC : PySem.W.subIn K (.ref C) (.type "BaseException") = some true
  tyC : PySem.W.typeIn K (.ref C) = some (.type "type")
  kC : PySem.W.keepIn K (.ref C) = true
  nw : PySem.W.findIn K (.ref C) "what" = some none
/-- the first field of an exception -/
theorem ox_set {K : PySem.W.Frag} {tk : Tok} {v : Value} {x C : Addr} {fv : Array Value} {B nI iI : String} {bm : List Value} (T : OxB K C B nI iI bm) (X : K.In hh) (hx : hh.get? x = some ({ cls := .ref C, data := .fields fv } : Obj))
    (hq : ∀ h' tk' dx, (∀ b o, b ≠ x → hh.get? b = some o → h'.get? b = some o) → hh.objs.size ≤ dx → dx ≠ x → h'.get? x = some ({ cls := .ref C, dict := some dx, data := .fields fv } : Obj) →
      h'.Ns1 dx (fun y => if y = "what" then some v else none) → R (.ok (.ret .none)) ⟨h', g, d, tk', os⟩) :
    codeAny (model prog w) A (.call (.builtin "object.__setattr__") ⟨[.ref x, .str "what" tk, v], []⟩) R ⟨hh, g, d, t, os⟩ := by
  have lx : x ≠ hh.objs.size := Nat.ne_of_lt (Heap.lt_size hx)
  refine PySem.W.osa_openX (od := none) T.st X ⟨hx, rfl, rfl, trivial⟩ T.co (by unfold PySem.W.takerIn; rw [T.nw]; rfl) fun b => ?_
  obtain ⟨cd, hcd, hdc⟩ := PySem.W.any_some T.hd
  have lk : PySem.W.Looks (model prog w) hh (classData C) cd := PySem.W.looks_clsIn X hcd
  obtain ⟨nm, bs, mro, ns, qn, hd, sn, sb, ab, col, del⟩ := cd
  have hdc' : hd = true := hdc
  subst hdc'
  unfold storeInOwnDict ownDictForStores
  repeat (first
    | with_reducible refine HandSPX.store_in_new ?_ ?_
    | with_reducible refine wpAny_loadPart_at hx ?_
    | with_reducible refine lk.at ?_
    | wp_step)
  · refine ⟨_, #[], _, (Heap.get?_update_ne _ _ _ _ lx.symm).trans (Heap.get?_push_at rfl rfl), rfl, fun e he => ?_, fun _ => rfl⟩
    simp at he
  · intro h' tk' hn' hs
    have e1 : (hh.push ({ cls := .type "dict", data := .dict #[] } : Obj)).get? x = some ({ cls := .ref C, data := .fields fv } : Obj) := Heap.get?_push_of_some _ hx
    refine hq h' tk' _ (fun b o nb ho => ?_) (Nat.le_refl _) lx.symm ?_ hn'
    · rw [hs.2 b (Nat.ne_of_lt (Heap.lt_size ho)), Heap.get?_update_ne _ _ _ _ nb]
      exact Heap.get?_push_of_some _ ho
    · rw [hs.2 x lx]
      exact Heap.get?_update_self _ e1 rfl
end
section
variable {X : Cx} {pins : List (Addr × Obj)} {σ : L2.St} {H : Hp} {s : Shared} {a C : Addr} {y : V} {u : Value} {E : Value → Shared → Prop} {A : Around} {B nI iI : String} {bm : List Value}
/-- self.what = y -/
theorem ox_put {Q : Unit → Shared → Prop} (T : OxB X.K C B nI iI bm) (I : Inv X pins σ H s) (e : H a = some (exo a C none)) (ry : RelV y u)
    (h : ∀ dx s', H dx = none → dx ≠ a → Inv X pins σ (upd (upd H dx (exd dx [("what", y)])) a (exo a C (some dx))) s' → Q () s') : wpAny (model X.prog X.w) A (setAttr (.ref a) "what" u) Q E s := by
  obtain ⟨t1, ho⟩ := exo_at I.hok e
  obtain ⟨hh, g, d, t, os⟩ := s
  refine PySem.W.set_plain I.kIn (ox := ({ cls := .ref C, data := .fields #[.ref t1, .none, .none, .none, .bool false, .none] } : Obj)) (od := none) ⟨ho, rfl, rfl, trivial⟩ T.sa (ox_set T I.kIn ho fun h' tk' dx k dn dne hx hn => ?_)
  have fresh : H dx = none := I.hok.fresh dn
  have old : ∀ {b : Addr} {o : Obj}, hh.get? b = some o → b ≠ dx := fun q => Nat.ne_of_lt (Nat.lt_of_lt_of_le (Heap.lt_size q) dn)
  have noa : ∀ {b : Addr}, H b = none → b ≠ a := fun n z => by rw [z, e] at n; cases n
  refine h dx _ fresh dne (I.un (t' := tk') ⟨fun b o q n _ _ => k b o (noa n) q, fun b o q n _ _ => ⟨o.slots, k b o (noa n) q⟩, fun b o q n _ => (upd_ne (noa n)).trans ((upd_ne (old q)).trans n), fun b o q _ => ?_,
    fun b xs q => (upd_ne (at_ne e q exo_tup)).trans ((upd_ne (ne_of_none q fresh)).trans q), fun b o v q => (upd_ne (at_ne e q exo_frz)).trans ((upd_ne (ne_of_none q fresh)).trans q),
    fun b ps q => ⟨#[], (upd_ne (at_ne e q exo_tbl)).trans ((upd_ne (ne_of_none q fresh)).trans (by rw [q, Array.append_empty]))⟩⟩ fun b o q => ?_)
  · by_cases hb : b = a
    · exact ⟨_, by rw [hb]; exact hx⟩
    · exact ⟨o, k b o hb q⟩
  · by_cases hb : b = a
    · subst hb
      rw [upd_same] at q
      cases q
      exact exo_ok hx
    · rw [upd_ne hb] at q
      by_cases hd : b = dx
      · subst hd
        rw [upd_same] at q
        cases q
        exact exd_ok hn (relO_put (fs := []) ry fun _ => True.intro)
      · rw [upd_ne hd] at q
        refine (I.hok b o q).stay (fun c v hc z => k c v ?_ z) (fun c hc => (upd_ne (at_ne e hc exo_own)).trans ((upd_ne (ne_of_none hc fresh)).trans hc)) fun c xs hc => (upd_ne (at_ne e hc exo_tup)).trans ((upd_ne (ne_of_none hc fresh)).trans hc)
        rcases hc with rfl | hc
        · exact hb
        · exact at_ne e hc exo_own
/-- B.__init__(self, ..): nothing of it is told -/
theorem ox_init {us : List Value} {Q : Value → Shared → Prop} (T : OxB X.K C B nI iI bm) (I : Inv X pins σ H s) (e : H a = some (exo a C none)) (hl : us.length ≤ sizeLine) (h : ∀ s', Inv X pins σ H s' → Q .none s') :
    wpAny (model X.prog X.w) A (call (.builtin iI) (.ref a :: us)) Q E s := by
  obtain ⟨nm, N, qn, bs, bm', hdct, sn, sub, ab, col, dd, k0, k1, k2, k3, k5, hC, hT⟩ := PySem.W.excInit_of I.kIn T.ci
  obtain ⟨t1, ho⟩ := exo_at I.hok e
  obtain ⟨hh, g, d, t, os⟩ := s
  refine wpAny_call (HandSPX.init_base T.fb hT hC ho hl fun h' t2 k hx => h _ ?_)
  have z : upd H a (exo a C none) = H := funext fun b => by
    by_cases q : b = a
    · rw [q, upd_same, e]
    · exact upd_ne q
  have W := I.write (t' := t) (x := a) (e := a) (o := exo a C none) (by rw [e]; trivial) (.inl rfl) k ⟨_, hx⟩ (exo_ok hx)
  rwa [z] at W
end
def tBi (K : PySem.W.Frag) (B nI iI : String) (bm : List Value) (ta : TA) : TE := fun σ H Q => ta σ H fun vs H1 => ∃ (a C : Addr) (ws : List V), vs = .ref a :: ws ∧ ws.length ≤ 1000 ∧ OxB K C B nI iI bm ∧ H1 a = some (exo a C none) ∧ Q .non H1
def tOw (K : PySem.W.Frag) (to te : TE) : TS := fun D σ H => te σ H fun y H1 => to σ H1 fun x H2 => ∃ (a C : Addr) (B nI iI : String) (bm : List Value), x = .ref a ∧ OxB K C B nI iI bm ∧ H2 a = some (exo a C none) ∧
  ∀ dx, H2 dx = none → dx ≠ a → D.nx σ (upd (upd H2 dx (exd dx [("what", y)])) a (exo a C (some dx)))
section
variable {X : Cx} {o e : Expr} {es : List Expr} {to te : TE} {ta : TA} {p p' p1 p2 pos : Pos} {B nI iI : String} {bm : List Value} {b : Str}
theorem pe_bi {pl : Sem Bool} (hg : Gl X b) (hm : X.mg b = none) (hv : bootBuiltins b = some (.type B)) (hty : typeOf (.type B) = pure (.type "type")) (hf : PySem.W.findCls X.K (.type B) (.type "type") "__init__" = some (.val (.builtin iI))) (ha : PA X (e :: es) ta)
    (z1 : b ≠ "__name__" := by decide) (z2 : (b == ("__debug__" : Str)) = false := by decide) (hB : Manifest.isStub B = false := by decide +kernel) (hi : PySem.W.handedIn (.builtin iI) = true := by decide +kernel)
    (hc : eval (.Call (.Attribute (.Name b p1) "__init__" p2) (e :: es) [] pos) X.env = (do
      let ov ← eval (.Name b p1) X.env
      standAt p2.atName
      let (f, first) ← holding [ov] (getMethod ov "__init__" pl)
      callWith pos f first (backTo pos (starEach (e :: es) X.env)) (backToKw pos (keywordEach [] X.env))) := by rfl)
    (he : starEach (e :: es) X.env = (false, eval e X.env) :: starEach es X.env := by rfl) (hpl : (backTo pos (starEach es X.env)).any (·.1) = false := by rfl) :
    PE X (.Call (.Attribute (.Name b p1) "__init__" p2) (e :: es) [] pos) (tBi X.K B nI iI bm ta) := by
  refine ⟨fun pins s σ H Q I h => ?_⟩
  refine PySem.W.methodCall_KW (ld_blt I hg hm hv ?_ z1 z2) hc
  obtain ⟨m, fr⟩ := I.fr
  refine PySem.W.method_type fr I.ok.mod.kin hty hB hf hi ?_
  refine PyProof.Rows.callWith_method1 (thn (ha.run pos pins _ σ H _ (I.tok _) h) fun us s1 hh => ?_) he hpl
  obtain ⟨vs, H1, J, rs, a, C, ws, rfl, hz, T, ea, q⟩ := hh
  cases rs with
  | @cons _ u _ ur ra rr =>
    have eu : u = Value.ref a := ra
    subst eu
    exact ox_init T J ea (by rw [← Paired.length rr, sizeLine_eq]; omega) fun s' J' => ⟨.non, H1, J', rfl, q⟩
theorem ps_ow (ho : PE X o to) (he : PE X e te) (hs : swapsWith e (some (.Attribute o "what" p')) pos.line X.env = pure false := by rfl) : PS X (.Assign [.Attribute o "what" p'] e pos) (tOw X.K to te) := by
  refine ⟨fun pins s σ H D I h => plainObj_wpAny_Assign_Attribute (thn (he.run pins s σ H _ I h) fun v s1 q1 => ?_) hs⟩
  obtain ⟨y, H1, I1, r1, q1⟩ := q1
  refine thn (ho.run pins s1 σ H1 _ I1 q1) fun u s2 q2 => ?_
  obtain ⟨x, H2, I2, r2, a, C, B, nI, iI, bm, rfl, T, ea, q⟩ := q2
  have eu : u = Value.ref a := r2
  subst eu
  exact ox_put T I2 ea r1 fun dx s' n ne J => ⟨σ, _, J, q dx n ne⟩
/-- C(e), its __init__ keeping what it is told -/
def tMkB (C : Addr) (te : TE) : L2.St → Hp → XK → Prop := fun σ H Q => te σ H fun y H1 => ∀ d, H1 d = none → Q (.ref C) (some d) (upd H1 d (.xd [("what", y)]))
/-- what __init__ of such a class does -/
def spIn (K : PySem.W.Frag) (C : Addr) : Sp := fun vs H Q _ => ∃ (a : Addr) (y : V), vs = [.ref a, y] ∧ H a = some (exo a C none) ∧ ∀ dx, H dx = none → dx ≠ a → Q .non (upd (upd H dx (exd dx [("what", y)])) a (exo a C (some dx)))
theorem ox_call {C fI : Addr} {k : Nat} {fd : FuncData} {ps : List Str} {pins : List (Addr × Obj)} {σ : L2.St} {H : Hp} {s : Shared} {Q : XK} {y : V} {u : Value} (T : OxB X.K C B nI iI bm) (iC : PySem.W.findIn X.K (.ref C) "__init__" = some (some (.ref fI))) (tI : PySem.W.typeIn X.K (.ref fI) = some (.type "function"))
    (F1 : FnOk X.prog X.w X.K X.mg X.base CX0 k fI fd ps (spIn X.K C)) (hr : Room (k + 1) X.A) (hb : Binds X.K fd ps []) (I : Inv X pins σ H s) (ry : RelV y u) (q1 : ∀ d, H d = none → Q (.ref C) (some d) (upd H d (.xd [("what", y)]))) :
    wpAny (model X.prog X.w) X.A (call (.ref C) [u]) (MkP X pins σ Q) X.xe s := by
  obtain ⟨nm, N, qn, bs, bm', hdct, sn, sub, ab, col, dd, k0, k1, k2, k3, k5, hC, hT⟩ := PySem.W.excInit_of I.kIn T.ci
  obtain ⟨g0, g1, g2, g3, g4⟩ := s
  obtain ⟨z, ez⟩ : ∃ z, z = g0.objs.size + 1 := ⟨_, rfl⟩
  obtain ⟨h1, eh⟩ : ∃ h1, h1 = (g0.push (PySem.W.kdv_tup [u])).push (HandSPX.excO C g0.objs.size) := ⟨_, rfl⟩
  have big : g0.objs.size ≤ z := by rw [ez]; exact Nat.le_succ _
  have fresh : H z = none := I.hok.fresh big
  have kk : ∀ b o, g0.get? b = some o → h1.get? b = some o := fun b o q => by rw [eh]; exact Heap.get?_push_of_some _ (Heap.get?_push_of_some _ q)
  have hx : h1.get? z = some (HandSPX.excO C g0.objs.size) := by rw [ez, eh]; heap_get
  have I2 : Inv X pins σ (upd H z (exo z C none)) ⟨h1, g1, g2, g3, g4⟩ := I.laid (t' := g3) (a := z) (o := exo z C none) (h' := h1) kk big (exo_ok hx)
  have r2 : Vals [V.ref z, y] [Value.ref z, u] := .cons rfl (.cons ry .nil)
  have sp : spIn X.K C [.ref z, y] (upd H z (exo z C none)) (fun v H2 => v = .non ∧ ∃ dx, H2 z = some (exo z C (some dx)) ∧ H2 dx = some (exd dx [("what", y)]) ∧ H dx = none ∧ Q (.ref C) (some dx) (upd (del H2 z) dx (.xd [("what", y)]))) (fun _ _ _ => False) := by
    refine ⟨_, y, rfl, upd_same, fun dx n ne => ⟨rfl, dx, upd_same, (upd_ne ne).trans upd_same, (upd_ne ne).symm.trans n, ?_⟩⟩
    have w := q1 dx ((upd_ne ne).symm.trans n)
    have eq : upd (del (upd (upd (upd H z (exo z C none)) dx (exd dx [("what", y)])) z (exo z C (some dx))) z) dx (.xd [("what", y)]) = upd H dx (.xd [("what", y)]) := funext fun b => by
      by_cases h1 : b = dx
      · rw [h1, upd_same, upd_same]
      · rw [upd_ne h1, upd_ne h1]
        by_cases h2 : b = z
        · rw [h2, del_same, fresh]
        · rw [del_ne h2, upd_ne h2, upd_ne h1, upd_ne h2]
    rw [eq]
    exact w
  have hl : ([Value.ref z, u] ++ []).length = ps.length := by
    rw [List.append_nil, ← r2.length]
    exact F1.len _ _ _ _ sp
  have bd := hb _ [Value.ref z, u] I2.kIn hl
  have run := F1.run _ X.stack _ _ ⟨[Value.ref z, u], []⟩ [Value.ref z, u] _ _ (fun _ _ _ => False) (hr.make C [u] []) (I2.env0.make C [u] []) bd r2 sp
  subst eh
  subst ez
  refine wpAny_call (HandSPX.call_own T.fb hT hC (PySem.W.looks_findIn I.kIn iC) (fun self => PySem.W.bind_fn I.kIn self tI) (by show 1 ≤ sizeLine; rw [sizeLine_eq]; omega) (codeAny_mono run fun r s' hq' => ?_))
  cases r with
  | error er => exact False.elim hq'
  | ok fl =>
    cases fl with
    | ret z =>
      obtain ⟨v, H2, os2, bare2, un2, hok2, rv, rfl, dx, ea, ed, hd1, q2⟩ := hq'
      obtain ⟨f0, f1, f2, f3, f4⟩ := s'
      exact ⟨rv, mk_end (raises_own T.exC T.tyC) I big kk un2 hok2 os2 bare2 ea ed hd1 q2⟩
    | _ => exact False.elim hq'
def one1 : List V → (V → Prop) → Prop
  | [y], k => k y
  | _, _ => False
theorem one1_of {vs : List V} {k : V → Prop} (h : one1 vs k) : ∃ y, vs = [y] ∧ k y := by
  unfold one1 at h
  split at h
  · exact ⟨_, rfl, h⟩
  · exact h.elim
theorem pmk_b {x : Str} {C fI : Addr} {k : Nat} {fd : FuncData} {ps : List Str} (T : OxB X.K C B nI iI bm) (iC : PySem.W.findIn X.K (.ref C) "__init__" = some (some (.ref fI))) (tI : PySem.W.typeIn X.K (.ref fI) = some (.type "function"))
    (F1 : FnOk X.prog X.w X.K X.mg X.base CX0 k fI fd ps (spIn X.K C)) (hr : Room (k + 1) X.A) (hb : Binds X.K fd ps []) (hg : Gl X x) (hm : X.mg x = some (.ref C)) (ha : PE X e te)
    (hdb : (x == ("__debug__" : Str)) = false := by decide) (he : starEach [e] X.env = (false, eval e X.env) :: starEach [] X.env := by rfl) :
    PMk X (.Call (.Name x p) [e] [] pos) (tMkB C te) := by
  intro pins s σ H Q I h
  refine wpAny_Call_Name_kw (ld_glob I hg hm ?_ hdb)
  have pa : PA X [e] (tCons te tNil) := pa_cons ha pa_nil he
  have h' : tCons te tNil σ H fun vs H1 => one1 vs fun y => ∀ d, H1 d = none → Q (.ref C) (some d) (upd H1 d (.xd [("what", y)])) := h
  refine PySem.W.callWith_K (h₀ := X.base) I.ok.mod.kin T.kC (thn (pa.run pos pins s σ H _ I h') fun us s1 hh => ?_) he
  obtain ⟨vs, H1, I1, r1, q1⟩ := hh
  obtain ⟨y, rfl, q1⟩ := one1_of q1
  cases r1 with
  | cons ry rr =>
    cases rr
    exact ⟨I1.kIn, ox_call T iC tI F1 hr hb I1 ry q1⟩
end
end DL
/-! try .. except (C, ..) as e: what is caught is kept -/
namespace DL
open PySem PySem.W
/-- a loop that looks at each and goes on -/
theorem loop_all {M : Model} {A : Around} {E : Value → Shared → Prop} {f : Value → PUnit → Sem (ForInStep PUnit)} {s : Shared} {Q : PUnit → Shared → Prop} : ∀ {cs : List Value}, (∀ c ∈ cs, ∀ Q' : ForInStep PUnit → Shared → Prop, Q' (.yield ⟨⟩) s → wpAny M A (f c ⟨⟩) Q' E s) → Q ⟨⟩ s → wpAny M A (forIn cs ⟨⟩ f) Q E s
  | [], _, q => by rw [List.forIn_nil]; exact wpAny_pure q
  | c :: r, h, q => by
    rw [List.forIn_cons]
    exact wpAny_bind (h c List.mem_cons_self _ (loop_all (fun x hx => h x (List.mem_cons_of_mem _ hx)) q))
/-- a loop that ends at the first one -/
theorem loop_any {M : Model} {A : Around} {E : Value → Shared → Prop} {K : Frag} {cls : Value} {f : Value → Option Bool × Unit → Sem (ForInStep (Option Bool × Unit))} {s : Shared} {Q : Option Bool × Unit → Shared → Prop}
    (hf : ∀ c b, exmOne K cls c = some b → ∀ Q' : ForInStep (Option Bool × Unit) → Shared → Prop, Q' (if b = true then .done (some true, ()) else .yield (none, ())) s → wpAny M A (f c (none, ())) Q' E s) : ∀ {cs : List Value} {b : Bool}, exmAny K cls cs = some b → Q (if b = true then some true else none, ()) s → wpAny M A (forIn cs (none, ()) f) Q E s
  | [], b, e, q => by
    cases (Option.some.inj (show some false = some b from e))
    rw [List.forIn_nil]; exact wpAny_pure q
  | c :: r, b, e, q => by
    obtain ⟨b1, d1, e1, e2, rfl⟩ := exmAny_cons e
    rw [List.forIn_cons]
    refine wpAny_bind (hf c b1 e1 _ ?_)
    cases b1
    · exact loop_any hf e2 (by simpa using q)
    · exact wpAny_pure (by simpa using q)
theorem exm_mem {K : Frag} {cls : Value} : ∀ {cs : List Value} {b : Bool}, exmAny K cls cs = some b → ∀ c ∈ cs, ∃ b1, exmOne K cls c = some b1
  | [], _, _, _, h => by cases h
  | c :: r, b, e, x, h => by
    obtain ⟨b1, d1, e1, e2, _⟩ := exmAny_cons e
    rcases List.mem_cons.mp h with rfl | h
    · exact ⟨b1, e1⟩
    · exact exm_mem e2 x h
theorem exm_all {K : Frag} {M : Model} {cls : Value} {tp e : Addr} {b : Bool} {h : Heap} {cs : List Value} (X : K.In h) (LT : Looks M h (typeOf (.ref e)) cls) (hp : h.get? tp = some { cls := .type "tuple", data := .seq cs.toArray }) (hx : exmAny K cls cs = some b) :
    Looks M h (excMatches (.ref e) (.ref tp)) b := by
  intro A Q E s kk q
  have L0 : Looks M h (isInstance (.ref tp) (.type "tuple")) true := ((Looks.ld hp).andThen .now).andThen (Looks.of_pure isSubtype_tuple_tuple)
  have hp' := kk _ _ hp
  unfold excMatches
  refine wpAny_bind ((L0.keeps kk).here ?_)
  dsimp only
  rw [if_pos rfl]
  refine wpAny_bind (wpAny_seqItems hp' rfl (wpAny_bind (wpAny_pure ?_)))
  dsimp only [Option.getD_some, Option.getD]
  refine wpAny_bind (loop_all (fun c hc Q' q' => ?_) ?_)
  · obtain ⟨b1, e1⟩ := exm_mem hx c hc
    refine wpAny_bind (((exm_cls (M := M) X e1).1.keeps kk).here ?_)
    rw [if_neg (by decide)]
    exact wpAny_pure q'
  · refine wpAny_bind ((LT.keeps kk).here ?_)
    refine wpAny_bind (loop_any (K := K) (cls := cls) (fun c b1 e1 Q' q' => ?_) hx ?_)
    · refine wpAny_bind (((exm_cls (M := M) X e1).2.keeps kk).here ?_)
      cases b1
      · exact wpAny_pure q'
      · exact wpAny_pure q'
    · cases b <;> exact wpAny_pure q
end DL
namespace DL
open PySem L2 Z PySem.Spec PyProof.Rows
/-- the classes that an except clause names -/
inductive ExT (X : Cx) : Expr → List Value → Prop
  | one {x : Str} {c : Value} {p : Pos} : Names X x c → ExT X (.Name x p) [c]
  | many {xs : List (Str × Pos × Value)} {k : Nat} {p : Pos} : (∀ q ∈ xs, Names X q.1 q.2.2) → xs.length ≤ 1000 → ExT X (.Tuple (xs.map fun q => .Name q.1 q.2.1) k p) (xs.map (·.2.2))
section
variable {X : Cx} {pins : List (Addr × Obj)} {σ : L2.St} {H : Hp} {s : Shared} {E : Value → Shared → Prop}
theorem name_run {x : Str} {c : Value} {p : Pos} {Q : Value → Shared → Prop} (I : Inv X pins σ H s) (n : Names X x c) (q : Q c s) : wpAny (model X.prog X.w) X.A (eval (.Name x p) X.env) Q E s := by
  obtain ⟨g, db, m | ⟨m, v, nn⟩⟩ := n
  · exact ld_glob I g m q db
  · exact ld_blt I g m v q nn db
theorem names_run {pos : Pos} (I : Inv X pins σ H s) : ∀ {xs : List (Str × Pos × Value)} {Q : List Value → Shared → Prop}, (∀ q ∈ xs, Names X q.1 q.2.2) → Q (xs.map (·.2.2)) s → wpAny (model X.prog X.w) X.A (spliced (backTo pos (starEach (xs.map fun q => Expr.Name q.1 q.2.1) X.env))) Q E s
  | [], Q, _, q => wpAny_items_nil q
  | z :: r, Q, h, q => wpAny_items_cons (name_run I (h z List.mem_cons_self) (names_run I (fun y hy => h y (List.mem_cons_of_mem _ hy)) q))
/-- the test of an except clause -/
theorem ExT.run {T : Expr} {cs : List Value} {a : Addr} {cls : Value} {b : Bool} {Q : Bool → Shared → Prop} (t : ExT X T cs) (I : Inv X pins σ H s) (LT : PySem.W.Looks (model X.prog X.w) s.heap (typeOf (.ref a)) cls) (e : PySem.W.exmAny X.K cls cs = some b)
    (q : ∀ h', (∀ b o, s.heap.get? b = some o → h'.get? b = some o) → Q b { s with heap := h' }) : wpAny (model X.prog X.w) X.A (eval T X.env) (fun c s₁ => wpAny (model X.prog X.w) X.A (excMatches (.ref a) c) Q E s₁) E s := by
  cases t with
  | one n =>
    obtain ⟨b1, d1, e1, e2, rfl⟩ := PySem.W.exmAny_cons e
    cases (Option.some.inj (show some false = some d1 from e2))
    rw [Bool.or_false] at q
    exact name_run I n ((PySem.W.exm_one I.kIn LT e1).here (q s.heap fun _ _ z => z))
  | @many xs kk pp n l =>
    refine wpAny_Tuple (names_run I n ⟨by rw [List.length_map, sizeLine_eq]; omega, ?_⟩)
    have kp : ∀ b o, s.heap.get? b = some o → (s.heap.push ({ cls := .type "tuple", data := .seq (xs.map (·.2.2)).toArray } : Obj)).get? b = some o := fun _ _ z => Heap.get?_push_of_some _ z
    exact (exm_all (I.kIn.keeps kp) (LT.keeps kp) (Heap.get?_push_size s.heap rfl) e).here (q _ kp)
theorem fly_keeps {B : Heap} {l : List Env} {a : Addr} {Z : Obj → Prop} {h h' : Heap} (f : HandSPX.FlyingZ B l a Z h) (k : ∀ b o, h.get? b = some o → h'.get? b = some o) : HandSPX.FlyingZ B l a Z h' := by
  obtain ⟨z1, z2, z3, oe, vs, T, oT, ts, y1, y2, y3, y4, y5, y6, y7, y8⟩ := f
  exact ⟨fun b o e => k b o (z1 b o e), z2, Heap.FunFrames.of_keeps (fun b o e _ => ⟨o, k b o e, rfl⟩) z3, oe, vs, T, oT, ts, k _ _ y1, y2, y3, y4, y5, y6, k _ _ y7, y8⟩
/-- the pinned exception, tracked from now on -/
theorem absorb {a C dx : Addr} {oe : Obj} {vs : Array Value} (I : Inv X ((a, oe) :: pins) σ H s) (ne : ∀ p ∈ X.pn ++ pins, p.1 ≠ a) (new : X.s_0.heap.get? a = none) (hz : Zc (.ref C) (some dx) oe) (hd : oe.data = .fields vs) : Inv X pins σ (upd H a (exk a C dx)) s := by
  obtain ⟨g, n, nL, nF, nc⟩ := I.pin (a, oe) (List.mem_append.mpr (.inr List.mem_cons_self))
  have na : ∀ {b : Addr} {u : HO}, H b = some u → b ≠ a := fun e => ne_of_none e n
  refine ⟨I.ok, I.os, I.bare, ⟨I.base.keep, I.base.slot, fun b o e n' x => ?_, I.base.there, fun b xs e => ?_, fun b o u e => ?_, fun b ps e => ?_⟩, I.loc, I.cell, ?_, fun x c e => ?_, fun p hp => ?_, fun b u e => ?_, I.len⟩
  · rw [upd_ne (fun z => by rw [z, new] at e; cases e)]
    exact I.base.free b o e n' x
  · have := I.base.tups b xs e
    rw [upd_ne (na this)]; exact this
  · have := I.base.frzs b o u e
    rw [upd_ne (na this)]; exact this
  · obtain ⟨more, this⟩ := I.base.tbls b ps e
    exact ⟨more, by rw [upd_ne (na this)]; exact this⟩
  · rw [upd_ne (Ne.symm nL)]; exact I.free
  · rw [upd_ne]
    · exact I.freeC x c e
    · rintro rfl
      obtain ⟨v, o, e1, e2⟩ := I.cell x _ e
      rw [g] at e1
      cases e1
      exact nc v e2
  · obtain ⟨z1, z2, z3⟩ := I.pin p (by
      rcases List.mem_append.mp hp with h | h
      · exact List.mem_append.mpr (.inl h)
      · exact List.mem_append.mpr (.inr (List.mem_cons_of_mem _ h)))
    exact ⟨z1, by rw [upd_ne (ne p hp)]; exact z2, z3⟩
  · by_cases hb : b = a
    · subst hb
      rw [upd_same] at e
      cases e
      exact ⟨⟨oe, vs, g, hz.1, hz.2, hd⟩, ⟨oe, g⟩, fun h1 h2 ⟨o, v, e1, e2⟩ k => ⟨o, v, k _ e1, e2⟩⟩
    · rw [upd_ne hb] at e
      exact (I.hok b u e).stay (fun c v _ z => z) (fun c z => by rw [upd_ne (na z)]; exact z) fun c xs z => by rw [upd_ne (na z)]; exact z
/-- what the clause 'except T as n' wishes of an exception of the body: what is caught stays -/
def wKeep (K : PySem.W.Frag) (cs : List Value) (i : Nat) (ts : Addr → TS) (Wout : WX) (D : Ends) : WX := fun cls d σ H =>
  ∃ b, PySem.W.exmAny K cls cs = some b ∧ (b = true → ∃ C dx, cls = .ref C ∧ d = some dx ∧ ∀ a, H a = none → ts a { nx := fun σ' H' => D.nx (σ'.set i none) (upd H' a (exk a C dx)), rt := fun v H' => D.rt v (upd H' a (exk a C dx)), bk := fun σ' H' => D.bk (σ'.set i none) (upd H' a (exk a C dx)), ct := fun σ' H' => D.ct (σ'.set i none) (upd H' a (exk a C dx)) } (σ.set i (some (.ref a))) H) ∧
    (b = false → Wout cls d σ H)
theorem keepSuite {a : Addr} {q : Addr × Obj} (I : Inv (X.suite a (q :: (X.pn ++ pins))) [] σ H s) (ok : X.Ok) : Inv X (q :: pins) σ H s :=
  ⟨ok, I.os, I.bare, I.base, I.loc, I.cell, I.free, I.freeC, fun p hp => I.pin p (by
    rw [List.append_nil]
    rcases List.mem_append.mp hp with h | h
    · exact List.mem_cons_of_mem _ (List.mem_append.mpr (.inl h))
    · rcases List.mem_cons.mp h with h | h
      · rw [h]; exact List.mem_cons_self
      · exact List.mem_cons_of_mem _ (List.mem_append.mpr (.inr h))), I.hok, I.len⟩
end
section
variable {X : Cx} {n : Str} {T : Expr} {cs : List Value} {i : Nat} {body suite : List Stmt} {b₀ : Stmt} {pos pos' : Pos} {tb : WX → TS} {ts : Addr → TS} {Wout : WX}
theorem ps_try_keep (hs : X.stack = X.env :: X.outer) (hf : X.env.frame = some X.env.locals) (hex : X.ex = []) (hN : X.N.Nodup) (hi : X.N[i]? = some n) (hln : X.env.kindOf n = some .local) (ht : ExT X T cs) (tk : Takes X Wout)
    (hb : ∀ (W : WX) (pn : List (Addr × Obj)) (xe : Value → Shared → Prop), Takes (X.tr pn xe) W → PassesOwn (model X.prog X.w) X.A X.env xe → PSs (X.tr pn xe) body (tb W))
    (hsu : ∀ (a : Addr) (pn : List (Addr × Obj)), PSs (X.suite a pn) (b₀ :: suite) (ts a)) :
    PS X (.Try body [.ExceptHandler (some T) (some n) (b₀ :: suite) pos'] [] [] pos) (fun D σ H => tb (wKeep X.K cs i ts Wout D) D σ H) := by
  refine ⟨fun pins s σ H D I h => wpAny_Try_except ?_⟩
  have ok := I.ok
  have hfr : X.A.frames = some (X.env :: X.outer) := hs ▸ ok.frames
  refine wpAny_mono ((hb _ (X.pn ++ pins) _ (fun u s' xx => ?_) PassesOwn.looking).run [] s σ H D (I.toTry _) h) (fun f s1 hsp => ?_) (fun e s1 he => he)
  · obtain ⟨a, B, sI, pins', σ', H', cls, d, rfl, J', nb, up, sky, na, os, ag, b, hb1, hyes, hno⟩ := xx
    have J : Inv X pins σ' H' sI := J'.ofTry ok
    rw [show (X.tr (X.pn ++ pins) _).stack = X.env :: X.outer from hs] at sky
    refine Sky.land Zc.steady hfr hf sky fun h3 fl3 up3 => ?_
    have J3 : Inv X pins σ' H' { s' with heap := h3 } := J.landed nb fl3.1 (up.trans up3) os ag
    obtain ⟨o3, v3, g3, z3, d3⟩ := fl3.there
    have out : a ∉ frs (X.env :: X.outer) := fun hm => by
      obtain ⟨_, o', e', hnf⟩ := fl3.2.2.1.mem hm
      rw [g3] at e'
      cases e'
      exact hnf _ d3
    have nL : a ≠ X.env.locals := fun z => out (List.mem_filterMap.mpr ⟨X.env, List.mem_cons_self, by rw [hf, z]⟩)
    have nF : a ∉ X.fs := fun hm => by
      obtain ⟨e, he, q⟩ := List.mem_filterMap.mp hm
      exact out (List.mem_filterMap.mpr ⟨e, List.mem_cons_of_mem _ he, q⟩)
    have inB : ∀ b o, sI.heap.get? b = some o → b ∉ frs (X.env :: X.outer) → b ≠ a := fun b o e hb z => by
      have y := nb b o e (by show b ∉ frs X.stack; rw [hs]; exact hb)
      rw [z, fl3.2.1] at y
      cases y
    have new : X.s_0.heap.get? a = none := by
      cases e : X.s_0.heap.get? a with
      | none => rfl
      | some o =>
        obtain ⟨o', e'⟩ := J.base.there a o e (by rw [hex]; exact List.not_mem_nil)
        exact absurd rfl (inB a o' e' out)
    have pne : ∀ p ∈ X.pn ++ pins, p.1 ≠ a := fun p hp => by
      obtain ⟨z1, _, z3, z4, _⟩ := J.pin p hp
      refine inB _ _ z1 fun hm => ?_
      obtain ⟨e, he, q⟩ := List.mem_filterMap.mp hm
      rcases List.mem_cons.mp he with he | he
      · rw [he, hf] at q
        exact z3 (Option.some.inj q).symm
      · exact z4 (List.mem_filterMap.mpr ⟨e, he, q⟩)
    have S3 := J3.suite g3 d3 na nL nF
    refine wpAny_handleBy_cons (codeAny_handlers_test ?_) (by intro q; cases q)
    refine ExT.run (X := X.suite a _) (by cases ht with | one n => exact .one n | many n l => exact .many n l) S3 (fun A Q E s k q => wpAny_typeOf_ref (k _ _ g3) (by rw [z3.1]; exact q)) hb1 fun h5 k5 => ?_
    have fl5 := fly_keeps fl3 k5
    have up5 : sI.heap.UpToSlots h5 := (up.trans up3).trans (Heap.UpToSlots.of_keeps k5)
    cases b with
    | true =>
      refine codeAny_handlers_suite_as (HandSPX.lands_againZ fl5 fun h4 fl4 up4 => ?_)
      obtain ⟨o4, v4, g4, z4, d4⟩ := fl4.there
      have J4 : Inv X pins σ' H' { s' with heap := h4 } := J.landed nb fl4.1 (up5.trans up4) os ag
      obtain ⟨C, dx, rfl, rfl, hy⟩ := hyes rfl
      refine store_ok (X := X.suite a ((a, o4) :: (X.pn ++ pins))) (v := .ref a) (J4.suite g4 d4 na nL nF) hN hi (.inl hln) rfl (fun s5 S5 => ?_) (.inr hln)
      refine wpAny_mono ((hsu a _).run [] s5 _ H' _ S5 (hy a na)) (fun f s6 hsp => ?_) (fun _ _ z => False.elim z)
      have fin : ∀ {σ6 : L2.St} {H6 : Hp} {Q : Shared → Prop}, Inv (X.suite a ((a, o4) :: (X.pn ++ pins))) [] σ6 H6 s6 → (∀ s7, Inv X pins (σ6.set i none) (upd H6 a (exk a C dx)) s7 → Q s7) →
          wpAny (model X.prog X.w) X.A (do bindName X.env n .none; unbindBehindTheSuite X.env n pos') (fun _ s7 => Q s7) X.xe s6 := fun S6 hq => gone_ok (keepSuite S6 ok) hN hi hln fun s7 J7 => hq s7 (absorb J7 pne new z4 d4)
      cases f with
      | ret u =>
        obtain ⟨v6, σ6, H6, S6, r6, q6⟩ := hsp
        exact fin S6 fun s7 J7 => ⟨_, _, _, J7, r6, q6⟩
      | _ =>
        obtain ⟨σ6, H6, S6, q6⟩ := hsp
        exact fin S6 fun s7 J7 => ⟨_, _, J7, q6⟩
    | false =>
      refine wpAny_handleBy_nil ?_
      obtain ⟨_, _, _, oe, vs, T0, oT, ts', he, hz, hd, h1, _⟩ := id fl5
      unfold PySem.passOn
      refine wpAny_bind (wpAny_field he hd h1 ?_)
      rw [if_neg (show ¬ ((Value.ref T0 == Value.none) = true) from by simp)]
      refine wpAny_bind ?_
      rw [hf]
      refine HandSPX.setFlight_upZ fl5 fun h4 hh4 up4 => wpAny_throw (tk _ _ ⟨a, B, sI, pins, σ', H', cls, d, rfl, J, nb, up5.trans up4, .inr (.inr ?_), na, os, ag, hno rfl⟩)
      rw [hs]
      exact hh4
  · cases f with
    | next =>
      obtain ⟨σ', H', J', q⟩ := hsp
      exact wpAny_execs_nil ⟨σ', H', J'.ofTry ok, q⟩
    | ret u =>
      obtain ⟨v, σ', H', J', r, q⟩ := hsp
      exact ⟨v, σ', H', J'.ofTry ok, r, q⟩
    | _ =>
      obtain ⟨σ', H', J', q⟩ := hsp
      exact ⟨σ', H', J'.ofTry ok, q⟩
end
end DL
/-! kept exceptions asked; what is raised, over data -/
namespace DL
open PySem L2 Z PySem.Spec PyProof.Rows
/-- what is known of the class of a kept exception -/
structure ExK (K : PySem.W.Frag) (C : Addr) : Prop where
  cl : (PySem.W.clsIn K C).isSome = true
  ga : PySem.W.findIn K (.ref C) "__getattribute__" = some (some (.builtin "BaseException.__getattribute__"))
  gt : PySem.W.findIn K (.ref C) "__getattr__" = some none
  ex : PySem.W.subIn K (.ref C) (.type "BaseException") = some true
  ca : PySem.W.findIn K (.ref C) "__class__" = some (some (.builtin "object.__class__"))
  dg : PySem.W.specialIn K (.builtin "object.__class__") "__get__" = some (some (.builtin "getset_descriptor.__get__"))
  tk : PySem.W.takesIn K (.builtin "object.__class__") = some true
  ob : PySem.W.mroIn K C (.type "object") = some true
  hd : PySem.W.hasDictIn K C = true
  nw : PySem.W.findIn K (.ref C) "what" = some none
section
variable {X : Cx} {pins : List (Addr × Obj)} {σ : L2.St} {H : Hp} {s : Shared} {a C dx : Addr} {fv : List (Str × V)}
theorem exk_at (I : Inv X pins σ H s) (ea : H a = some (exk a C dx)) (ed : H dx = some (.xd fv)) : ∃ ox od mA, PySem.W.InstAt s.heap a ox C (some od) ∧ s.heap.Ns1 dx mA ∧ (∀ f, RelO (fv.lookup f) (mA f)) ∧ s.heap.get? dx = some od := by
  obtain ⟨⟨o, vs, e1, e2, e3, e4⟩, _⟩ := (show ObjOk X.prog X.w H s.heap a (exk a C dx) from I.hok a _ ea)
  obtain ⟨mA, hn, hr⟩ := (show ObjOk X.prog X.w H s.heap dx (.xd fv) from I.hok dx _ ed)
  obtain ⟨od, es, ep, e5, e6⟩ := id hn
  refine ⟨o, od, mA, ⟨e1, e2, ?_, ?_⟩, hn, hr, e5⟩
  · unfold PySem.W.notCls
    rw [e4] <;> rfl
  · rw [e3]
    exact e5
/-- isinstance(e, c) of a kept exception -/
def rIsX (K : PySem.W.Frag) : List V → Hp → VK → Prop := fun xs H Q => ∃ (a C dx : Addr) (fv : List (Str × V)) (c : V) (u : Value) (b : Bool), xs = [.ref a, c] ∧ ClsV c u ∧ ExK K C ∧ H a = some (exk a C dx) ∧ H dx = some (.xd fv) ∧ PySem.W.kitOne K (.ref C) u = some b ∧ Q (.bl b) H
theorem call_isX : CallR X (.builtin "isinstance") (rIsX X.K) := by
  intro pins s σ H xs us Q I r h
  obtain ⟨a, C, dx, fv, c, u, b, rfl, k, T, ea, ed, e, q⟩ := h
  obtain ⟨u1, u2, rfl, r1, r2⟩ := vals2 r
  have := k.eq r2
  subst this
  cases (show u1 = Value.ref a from r1)
  obtain ⟨ox, od, mA, J, _⟩ := exk_at I ea ed
  exact PySem.W.kia_one (PySem.W.kitx_exc T.cl T.ga T.gt T.ex T.ca T.dg T.tk T.ob) I.kIn J e (fun z => nomatch z) fun tk => ⟨.bl b, H, I.tok tk, rfl, q⟩
def rIsXT (K : PySem.W.Frag) : List V → Hp → VK → Prop := fun xs H Q => ∃ (a C dx tp : Addr) (fv : List (Str × V)) (cs : List V) (us : List Value) (b : Bool), xs = [.ref a, .ref tp] ∧ H tp = some (.tup cs) ∧ Paired ClsV cs us ∧ ExK K C ∧ H a = some (exk a C dx) ∧ H dx = some (.xd fv) ∧ PySem.W.kitAny K (.ref C) us = some b ∧ Q (.bl b) H
theorem call_isXT : CallR X (.builtin "isinstance") (rIsXT X.K) := by
  intro pins s σ H xs us Q I r h
  obtain ⟨a, C, dx, tp, fv, cs, ws, b, rfl, hT, k, T, ea, ed, e, q⟩ := h
  obtain ⟨u1, u2, rfl, r1, r2⟩ := vals2 r
  cases (show u1 = Value.ref a from r1)
  cases (show u2 = Value.ref tp from r2)
  obtain ⟨ox, od, mA, J, _⟩ := exk_at I ea ed
  obtain ⟨_, its, rv, o, h1, h2, n, h3⟩ := (show ObjOk X.prog X.w H s.heap tp (.tup cs) from I.hok tp _ hT)
  have := ClsV.all k rv
  subst this
  obtain ⟨oc, od', dt, sl⟩ := o
  cases h2
  cases h3
  exact PySem.W.kia_tup (PySem.W.kitx_exc T.cl T.ga T.gt T.ex T.ca T.dg T.tk T.ob) I.kIn J h1 e (fun z => nomatch z) fun tk => ⟨.bl b, H, I.tok tk, rfl, q⟩
/-- e.what -/
def tWhat (K : PySem.W.Frag) (te : TE) : TE := fun σ H Q => te σ H fun x H1 => ∃ (a C dx : Addr) (fv : List (Str × V)) (v : V), x = .ref a ∧ ExK K C ∧ H1 a = some (exk a C dx) ∧ H1 dx = some (.xd fv) ∧ fv.lookup ("what" : Str) = some v ∧ Q v H1
theorem pe_what {e : Expr} {te : TE} {pos : Pos} (he : PE X e te) (hb : attributeBase e "what" X.env (eval e X.env) = eval e X.env := by rfl) : PE X (.Attribute e "what" pos) (tWhat X.K te) := by
  refine ⟨fun pins s σ H Q I h => attr_of hb (thn (he.run pins s σ H _ I h) fun u s1 hh => ?_)⟩
  obtain ⟨x, H1, I1, rx, a, C, dx, fv, v, rfl, T, ea, ed, l, q⟩ := hh
  cases (show u = Value.ref a from rx)
  obtain ⟨ox, od, mA, J, hn, hr, e5⟩ := exk_at I1 ea ed
  obtain ⟨od', e6, hl⟩ := lookIn_ns hn
  rw [e5] at e6
  cases e6
  obtain ⟨w, hw, rw'⟩ := RelO.some_of (v := v) (o := mA "what") (by rw [← l]; exact hr "what")
  exact HandSPX.exc_get I1.kIn J T.ga T.gt T.ex (PySem.W.findObj_own T.hd T.nw rfl (by rw [hl, hw])) (handed_of rw') ⟨v, H1, I1.tok _, rw', q⟩
end
/-! over data -/
section
variable {K : PySem.W.Frag} {n : Nat} {J : Jv n}
def excF (d : PyData) (k : Str → List (PyData × PyData) → Prop) : Prop := match d with
  | .dict ((.str c, .bool true) :: fs) => k c fs
  | _ => False
theorem excF_of {G : Hp} {v : V} {d : PyData} {k : Str → List (PyData × PyData) → Prop} (q : Dq K G v d) (h : excF d k) : ∃ a C dx c fv fs, v = .ref a ∧ PySem.W.nsIn K mainGlobals c = some (some (.ref C)) ∧ G a = some (exk a C dx) ∧ G dx = some (.xd fv) ∧ DqFs K G fv fs ∧ k c fs := by
  unfold excF at h
  split at h
  · cases q with
    | exc c h1 h2 r => exact ⟨_, _, _, _, _, _, rfl, c, h1, h2, r, h⟩
  · exact h.elim
def fIsX (tab : Str → Option Bool) (a : FE) : FE := fun ρ P => a ρ fun d ρ1 => excF d fun c _ => ∃ b, tab c = some b ∧ P (.bool b) ρ1
theorem re_isX {tab : Str → Option Bool} {cv : V} {u : Value} {ta : TE} {a : FE} (hc : ClsV cv u) (ht : ∀ c C b, tab c = some b → PySem.W.nsIn K mainGlobals c = some (some (.ref C)) → ExK K C ∧ PySem.W.kitOne K (.ref C) u = some b) (ha : RE K J ta a) :
    RE K J (tCB (rIsX K) (tCons ta (tCons (tC cv) tNil))) (fIsX tab a) := by
  intro O as σ H Q ρ P E q k
  refine ha O as σ H _ ρ _ E q fun d ρ1 v H1 q1 f1 E1 d1 => ?_
  obtain ⟨p, C, dx, c, fv, fs, rfl, hn, h1, h2, _, b, e, q1⟩ := excF_of d1 q1
  obtain ⟨T, e'⟩ := ht c C b e hn
  exact ⟨p, C, dx, fv, cv, u, b, rfl, hc, T, (hp_some h1).2, (hp_some h2).2, e', k _ _ _ _ q1 f1 E1 (.bl _)⟩
@[reducible] def taC : List V → TA
  | [] => tNil
  | c :: r => tCons (tC c) (taC r)
theorem taC_run {σ : L2.St} {H : Hp} : ∀ {cs : List V} {Q : List V → Hp → Prop}, Q cs H → taC cs σ H Q
  | [], _, q => q
  | _ :: r, Q, q => taC_run (cs := r) (Q := fun xs H2 => Q (_ :: xs) H2) q
theorem re_isXT {tab : Str → Option Bool} {cs : List V} {us : List Value} {ta : TE} {a : FE} (hc : Paired ClsV cs us) (hl : cs.length ≤ sizeLine) (ht : ∀ c C b, tab c = some b → PySem.W.nsIn K mainGlobals c = some (some (.ref C)) → ExK K C ∧ PySem.W.kitAny K (.ref C) us = some b) (ha : RE K J ta a) :
    RE K J (tCB (rIsXT K) (tCons ta (tCons (tTup (taC cs)) tNil))) (fIsX tab a) := by
  intro O as σ H Q ρ P E q k
  refine ha O as σ H _ ρ _ E q fun d ρ1 v H1 q1 f1 E1 d1 => ?_
  refine taC_run ⟨hl, fun T hT => ?_⟩
  have s := Same.new (o := .tup cs) hT
  obtain ⟨p, C, dx, c, fv, fs, rfl, hn, h1, h2, _, b, e, q1⟩ := excF_of (d1.mono (hp_grow s)) q1
  obtain ⟨T', e'⟩ := ht c C b e hn
  exact ⟨p, C, dx, T, fv, cs, us, b, rfl, upd_same, hc, T', (hp_some h1).2, (hp_some h2).2, e', k _ _ _ _ q1 (f1.trans (FrA.of s)) (E1.grow s) (.bl _)⟩
def fWhat (L : List Str) (a : FE) : FE := fun ρ P => a ρ fun d ρ1 => excF d fun c fs => c ∈ L ∧ ∃ w, fldD "what" fs = some w ∧ P w ρ1
theorem re_what {L : List Str} {ta : TE} {a : FE} (ht : ∀ c C, c ∈ L → PySem.W.nsIn K mainGlobals c = some (some (.ref C)) → ExK K C) (ha : RE K J ta a) : RE K J (tWhat K ta) (fWhat L a) := by
  intro O as σ H Q ρ P E q k
  refine ha O as σ H _ ρ _ E q fun d ρ1 v H1 q1 f1 E1 d1 => ?_
  obtain ⟨p, C, dx, c, fv, fs, rfl, hn, h1, h2, r, hL, w, e, q1⟩ := excF_of d1 q1
  obtain ⟨x, hx, dq⟩ := r.get e
  exact ⟨p, C, dx, fv, x, rfl, ht c C hL hn, (hp_some h1).2, (hp_some h2).2, hx, k _ _ _ _ q1 f1 E1 dq⟩
/-- an exception, raised: its class, its dict, as data -/
def XcAt (K : PySem.W.Frag) (G : Hp) (cls : Value) (dd : Option Addr) (d : PyData) : Prop := ∃ (c : Str) (C dx : Addr) (fv : List (Str × V)) (fs : List (PyData × PyData)), d = .dict ((.str c, .bool true) :: fs) ∧ cls = .ref C ∧ dd = some dx ∧ PySem.W.nsIn K mainGlobals c = some (some (.ref C)) ∧ G dx = some (.xd fv) ∧ DqFs K G fv fs
theorem XcAt.mono {G G' : Hp} {cls : Value} {dd : Option Addr} {d : PyData} (x : XcAt K G cls dd d) (s : Same G G') : XcAt K G' cls dd d := by
  obtain ⟨c, C, dx, fv, fs, e1, e2, e3, e4, e5, r⟩ := x
  exact ⟨c, C, dx, fv, fs, e1, e2, e3, e4, s _ _ e5, DqFs.mono s r⟩
/-- a wish over data carries the wish -/
def Lk (K : PySem.W.Frag) {n : Nat} (J : Jv n) (X : PyData → En → Prop) (W : WX) : Prop := ∀ (O : Addr → Prop) (as : Nat → Option Addr) (σ : L2.St) (H : Hp) (ρ : En) (cls : Value) (dd : Option Addr) (d : PyData), EnR K J O as H ρ σ → XcAt K (hp (Hid O as) H) cls dd d → X d ρ → W cls dd σ H
theorem Lk.le {J' : Jv n} {X : PyData → En → Prop} {W : WX} (l : Lk K J X W) (h : J'.le J) : Lk K J' X W := fun O as σ H ρ cls dd d E => l O as σ H ρ cls dd d (E.reJ (h.1 _ _ E.inv) (h.2 _ E.inq))
def excD (c : Str) (w : PyData) : PyData := .dict [(.str c, .bool true), (.str "what", w)]
def fRaise (c : Str) (a : FE) (X : PyData → En → Prop) : FS := fun _ ρ => a ρ fun d ρ1 => X (excD c d) ρ1
theorem rs_raise {c : Str} {C : Addr} {te : TE} {a : FE} {X : PyData → En → Prop} {W : WX} (hn : PySem.W.nsIn K mainGlobals c = some (some (.ref C))) (l : Lk K J X W) (ha : RE K J te a) : RS K J (fun _ σ H => tMkB C te σ H fun cls d H' => W cls d σ H') (fRaise c a X) := by
  intro O as σ H D ρ E R q C'
  refine ha O as σ H _ ρ _ R q fun d ρ1 v H1 q1 f1 E1 d1 => fun dx hdx => ?_
  have s := Same.new (o := .xd [("what", v)]) hdx
  exact l O as σ _ ρ1 _ _ _ (E1.grow s) ⟨c, C, dx, _, _, rfl, rfl, rfl, hn, hp_mk (E1.fresh hdx) upd_same, .cons (d1.mono (hp_grow s)) .nil⟩ q1
end
end DL
/-! defs that raise, over data; try -/
namespace DL
open PySem L2 Z PySem.Spec PyProof.Rows
abbrev FX := List Sl → (PyData → List Sl → Prop) → (PyData → List Sl → Prop) → Prop
def spX (K : PySem.W.Frag) (n : Nat) (F : FX) : Sp := fun vs H Q E => vs.length = n ∧ ∃ (O : Addr → Prop) (as : Nat → Option Addr) (ρ : En) (P X : PyData → List Sl → Prop), EnR K (J0 : Jv 0) O as H ρ (vs.map some) ∧ F ρ P X ∧
  (∀ d out v H', P d out → FrA (Own as) H H' → (∀ i a, as i = some a → ∃ ds xs, out[i]? = some (.own ds) ∧ H' a = some (.lst xs) ∧ DqAll K (hp (Hid O as) H') xs ds) → Dq K (hp (Hid O as) H') v d → Q v H') ∧
  ∀ d out cls dd H', X d out → FrA (Own as) H H' → (∀ i a, as i = some a → ∃ ds xs, out[i]? = some (.own ds) ∧ H' a = some (.lst xs) ∧ DqAll K (hp (Hid O as) H') xs ds) → XcAt K (hp (Hid O as) H') cls dd d → E cls dd H'
def fnX (n m : Nat) (b : (PyData → En → Prop) → FS) : FX := fun sls P X => b (fun d ρ' => X d (ρ'.take n)) { nx := fun ρ' => P .none (ρ'.take n), rt := fun d ρ' => P d (ρ'.take n) } (sls ++ List.replicate (m - n) .no)
section
variable {K : PySem.W.Frag} {n : Nat} {J : Jv n}
theorem EnR.sub {O O2 : Addr → Prop} {as : Nat → Option Addr} {H : Hp} {ρ : En} {σ : L2.St} (E : EnR K J O2 as H ρ σ) (h : ∀ a, O a → O2 a) (hq : J.Q O) : EnR K J O as H ρ σ :=
  ⟨E.len, fun i sl o h1 h2 => (E.at_ i sl o h1 h2).mono (hp_less fun a z => z.imp (h a) id) fun _ _ => rfl, E.inj, fun i a e q => E.out i a e (h a q), E.bnd, fun a q => E.occ a (h a q), E.inv, hq⟩
theorem Car.le {J' : Jv n} {O : Addr → Prop} {as : Nat → Option Addr} {H : Hp} {E : FEnds} {D : Ends} (C : Car K J O as H E D) (h : J'.le J) : Car K J' O as H E D :=
  ⟨fun ρ' as' σ' H' p x R => C.nx ρ' as' σ' H' p x (R.reJ (h.1 _ _ R.inv) (h.2 _ R.inq)), fun d ρ' v as' σ' H' p x R => C.rt d ρ' v as' σ' H' p x (R.reJ (h.1 _ _ R.inv) (h.2 _ R.inq)), fun ρ' as' σ' H' p x R => C.bk ρ' as' σ' H' p x (R.reJ (h.1 _ _ R.inv) (h.2 _ R.inq)),
    fun ρ' as' σ' H' p x R => C.ct ρ' as' σ' H' p x (R.reJ (h.1 _ _ R.inv) (h.2 _ R.inq)), fun ds ρ' p xs as' σ' H' q x o R => C.ro ds ρ' p xs as' σ' H' q x o (R.reJ (h.1 _ _ R.inv) (h.2 _ R.inq))⟩
theorem lkF {W : WX} : Lk K J (fun _ _ => False) W := fun _ _ _ _ _ _ _ _ _ _ h => h.elim
/-- the body of a def that raises -/
theorem fn_coreX {ps : List Str} {N : List Str} {b : (PyData → En → Prop) → FS} {t : WX → TS} (rs : ∀ (J : Jv ps.length) (X : PyData → En → Prop) (W : WX), Lk K J X W → RS K J (t W) (b X)) {vs : List V} {H : Hp} {Q : VK} {E : XK} (h : spX K ps.length (fnX ps.length N.length b) vs H Q E) :
    t (fun cls d _ H => E cls d H) { nx := fun _ H' => Q .non H', rt := Q } (L2.start N vs) H := by
  obtain ⟨hv, O, as, ρ, P, X, R, hF, q, qx⟩ := h
  have few : ∀ i a, as i = some a → i < ps.length := fun i a h => by have := R.bnd i a h; have := R.len; rw [List.length_map] at this; omega
  have less : ∀ {O' : Addr → Prop} {as' : Nat → Option Addr} {H' : Hp}, (∀ a, O a → O' a) → Ext ps.length as as' H H' → Same (hp (Hid O' as') H') (hp (Hid O as) H') := fun hO x => hp_less fun c hc => by
    rcases hc with hc | ⟨j, hc⟩
    · exact .inl (hO c hc)
    · exact .inr ⟨j, by rw [x.fix j (few j c hc)]; exact hc⟩
  have own : ∀ {O' : Addr → Prop} {ρ' : En} {as' : Nat → Option Addr} {σ' : L2.St} {H' : Hp}, (∀ a, O a → O' a) → Ext ps.length as as' H H' → EnR K (Jst ps.length O as H) O' as' H' ρ' σ' → ∀ i a, as i = some a → ∃ ds xs, (ρ'.take ps.length)[i]? = some (.own ds) ∧ H' a = some (.lst xs) ∧ DqAll K (hp (Hid O as) H') xs ds := by
    intro O' ρ' as' σ' H' hO x R' i a h
    have h' : as' i = some a := by rw [x.fix i (few i a h)]; exact h
    obtain ⟨ds, xs, e1, _, e3, e4⟩ := R'.is_own h'
    exact ⟨ds, xs, by rw [List.getElem?_take, if_pos (few i a h)]; exact e1, e3, e4.mono (less hO x)⟩
  refine rs (Jst ps.length O as H) (fun d ρ' => X d (ρ'.take ps.length)) _ (fun O' as' σ' H' ρ' cls dd d R' xc hx => ?_) O as _ H _ _ _ ((R.start N hv).reJ Ext.refl fun _ h => h) hF ⟨fun ρ' as' σ' H' p x R' => ?_, fun d ρ' v as' σ' H' p x R' dv => ?_, fun _ _ _ _ p => p.elim, fun _ _ _ _ p => p.elim, fun _ _ _ _ _ _ _ p => p.elim⟩
  · exact qx d _ cls dd H' hx R'.inv.fr (own R'.inq R'.inv R') (xc.mono (less R'.inq R'.inv))
  · exact q _ _ _ _ p x.fr (own (fun _ h => h) x R') .non
  · exact q _ _ _ _ p x.fr (own (fun _ h => h) x R') (dv.mono (less (fun _ h => h) x))
/-- a call that may raise -/
theorem call_coreX {O : Addr → Prop} {as : Nat → Option Addr} {H : Hp} {ρ : En} {σ : L2.St} {xs : List Ar} {r : List Sl} {vs : List V} {m : Nat} {F : FX} {P X : PyData → En → Prop} {Q : VK} {W : WX} (E : EnR K J O as H ρ σ) (fit : Fits ρ xs r) (ar : ArsR K (hp (Hid O as) H) as vs xs) (hm : xs.length = m) (nd : (ownIx xs).Nodup)
    (f : F r (fun d out => P d (wb ρ xs out)) fun d out => X d (wb ρ xs out)) (l : Lk K J X W) (k : ∀ d ρ' v H', P d ρ' → FrA (Own as) H H' → EnR K J O as H' ρ' σ → Dq K (hp (Hid O as) H') v d → Q v H') : spX K m F vs H Q (WE W σ) := by
  have sub : ∀ a, Own (adrs as xs) a → Own as a := fun a ⟨j, h⟩ => by
    obtain ⟨i, _, h⟩ := adrs_own h
    exact ⟨i, h⟩
  have hid : ∀ a, Hid (fun a => Hid O as a ∧ ¬ Own (adrs as xs) a) (adrs as xs) a ↔ Hid O as a := fun a => by
    constructor
    · rintro (h | h)
      · exact h.1
      · exact .inr (sub a h)
    · intro h
      by_cases q : Own (adrs as xs) a
      · exact .inr q
      · exact .inl ⟨h, q⟩
  have s1 : ∀ H', Same (hp (Hid O as) H') (hp (Hid (fun a => Hid O as a ∧ ¬ Own (adrs as xs) a) (adrs as xs)) H') := fun H' => hp_less fun a h => (hid a).mp h
  have s2 : ∀ H', Same (hp (Hid (fun a => Hid O as a ∧ ¬ Own (adrs as xs) a) (adrs as xs)) H') (hp (Hid O as) H') := fun H' => hp_less fun a h => (hid a).mpr h
  have back : ∀ {out : List Sl} {H' : Hp}, FrA (Own (adrs as xs)) H H' → (∀ i a, adrs as xs i = some a → ∃ ds ys, out[i]? = some (.own ds) ∧ H' a = some (.lst ys) ∧ DqAll K (hp (Hid (fun a => Hid O as a ∧ ¬ Own (adrs as xs) a) (adrs as xs)) H') ys ds) → EnR K J O as H' (wb ρ xs out) σ := by
    intro out H' fr ow
    have fr' : FrA (Own as) H H' := fr.up sub
    refine ⟨by rw [wb_len]; exact E.len, fun i sl o h1 h2 => ?_, E.inj, E.out, fun i a h => by rw [wb_len]; exact E.bnd i a h, fun a h => ?_, J.fr E.inv fr', E.inq⟩
    · by_cases q : i ∈ ownIx xs
      · obtain ⟨j, e⟩ := ownIx_mem q
        have hi : i < ρ.length := by
          have := (List.getElem?_eq_some_iff.mp h1).1
          rw [wb_len] at this
          exact this
        obtain ⟨a, ha⟩ := ar.own_at e
        have hadr : adrs as xs j = some a := by unfold adrs; rw [e]; exact ha
        obtain ⟨ds, ys, e1, e2, e3⟩ := ow j a hadr
        rw [wb_own ρ hi nd e e1] at h1
        cases h1
        obtain ⟨_, _, _, e4, _⟩ := E.is_own ha
        rw [e4] at h2
        cases h2
        rw [ha]
        exact .own e2 (e3.mono (s2 H'))
      · rw [wb_other ρ xs out q] at h1
        refine (E.at_ i sl o h1 h2).mono (hp_fr fr' own_hid) fun b hb => ?_
        obtain ⟨_, _, _, _, e, _⟩ := E.is_own hb
        rw [e]
        refine fr _ _ (fun z => ?_) e
        obtain ⟨j, z⟩ := z
        obtain ⟨i', e', h'⟩ := adrs_own z
        rw [E.inj i' i b h' hb] at e'
        exact q (mem_ownIx e')
    · obtain ⟨o, e⟩ := Option.ne_none_iff_exists'.mp (E.occ a h)
      rw [fr' a o (fun ⟨i, z⟩ => E.out i a z h) e]
      exact Option.some_ne_none _
  refine ⟨by rw [ar.len, hm], fun a => Hid O as a ∧ ¬ Own (adrs as xs) a, adrs as xs, r, _, _, ⟨by rw [List.length_map, fit.len, ar.len], fun j sl o h1 h2 => fits_at E (s1 H) fit ar h1 h2, fun j1 j2 a h1 h2 => ?_, fun j a h q => q.2 ⟨j, h⟩, fun j a h => ?_, fun a h => E.full h.1, trivial, trivial⟩, f, fun d out v H' p fr ow dv => ?_, fun d out cls dd H' p fr ow xc => ?_⟩
  · obtain ⟨i1, e1, h1⟩ := adrs_own h1
    obtain ⟨i2, e2, h2⟩ := adrs_own h2
    rw [E.inj i1 i2 a h1 h2] at e1
    exact ownIx_inj nd e1 e2
  · obtain ⟨i, e, _⟩ := adrs_own h
    rw [fit.len]
    exact (List.getElem?_eq_some_iff.mp e).1
  · exact k d _ v H' p (fr.up sub) (back fr ow) (dv.mono (s2 H'))
  · exact l O as σ H' _ cls dd d (back fr ow) (xc.mono (s2 H')) p
def fCallX (m : Nat) (F : FX) (dv : List PyData) (X : PyData → En → Prop) (a : FC) : FE := fun ρ P => a ρ fun xs ρ1 => xs.length + dv.length = m ∧ (ownIx xs).Nodup ∧ argF ρ1 xs fun r => F (r ++ dv.map .fz) (fun d out => P d (wb ρ1 xs out)) fun d out => X d (wb ρ1 xs out)
theorem re_callX {m : Nat} {F : FX} {dvs : List V} {dv : List PyData} {X : PyData → En → Prop} {W : WX} {t : TA} {f : FC} (l : Lk K J X W) (hd : ∀ H, DqAll K H dvs dv) (ha : RC K J t f) : RE K J (tCallSD (spX K m F) dvs (WE W) t) (fCallX m F dv X f) := by
  intro O as σ H Q ρ P E q k
  refine ha O as σ H _ ρ _ E q fun xs ρ1 vs H1 q1 f1 E1 d1 => ?_
  obtain ⟨hm, nd, q1⟩ := q1
  obtain ⟨r, fit, q1⟩ := argF_of q1
  refine call_coreX (xs := xs ++ dv.map .dat) E1 (fit.app (fits_dat dv)) (d1.app (dat_ars (hd _))) (by rw [List.length_append, List.length_map]; exact hm) (by rw [ownIx_app]; exact nd) ?_ l fun d ρ' v H' p fr E' q' => k d ρ' v H' p (f1.trans fr) E' q'
  simp only [wb_app]
  exact q1
/-- try: body except T as i: j = i -/
def fTryK (i j : Nat) (tab : Str → Option Bool) (X : PyData → En → Prop) (b : (PyData → En → Prop) → FS) : FS := fun E ρ => b (fun d ρ' => excF d fun c _ => ∃ k, tab c = some k ∧ if k = true then slotF ρ' i = true ∧ slotF (ρ'.set i .no) j = true ∧ E.nx ((ρ'.set i .no).set j (.fz d)) else X d ρ') E ρ
theorem rs_tryK {i j : Nat} {tab : Str → Option Bool} {cs : List Value} {X : PyData → En → Prop} {Wout : WX} {tb : WX → TS} {b : (PyData → En → Prop) → FS} (hij : i ≠ j) (l : Lk K J X Wout) (ht : ∀ c C k, tab c = some k → PySem.W.nsIn K mainGlobals c = some (some (.ref C)) → PySem.W.exmAny K (.ref C) cs = some k)
    (hb : ∀ (J' : Jv n) (X' : PyData → En → Prop) (W' : WX), J'.le J → Lk K J' X' W' → RS K J' (tb W') (b X')) : RS K J (fun D σ H => tb (wKeep K cs i (fun _ => tAsg (tVar i) (gName j)) Wout D) D σ H) (fTryK i j tab X b) := by
  intro O as σ H D ρ E R f C
  have le : (J.and (Jst n O as H)).le J := ⟨fun _ _ h => h.1, fun _ h => h.1⟩
  refine hb (J.and (Jst n O as H)) _ _ le (fun O2 as2 σ2 H2 ρ2 cls dd d E2 xc x2 => ?_) O as σ H D ρ E (R.reJ ⟨R.inv, Ext.refl⟩ ⟨R.inq, fun _ h => h⟩) f (C.le le)
  obtain ⟨c, Cc, dx, fv, fs, rfl, rfl, rfl, hn, hd, r⟩ := xc
  obtain ⟨k, ek, x2⟩ := x2
  refine ⟨k, ht c Cc k ek hn, fun hk => ?_, fun hk => ?_⟩
  · rw [if_pos hk] at x2
    obtain ⟨s1, s2, nx⟩ := x2
    refine ⟨Cc, dx, rfl, rfl, fun a ha => ?_⟩
    have s := Same.new (o := exk a Cc dx) ha
    have E3 : EnR K J O as2 H2 ρ2 σ2 := (E2.reJ (E2.inv.1) (E2.inq.1)).sub E2.inq.2 R.inq
    have nh := E3.fresh ha
    have gs : Same (hp (Hid O2 as2) H2) (hp (Hid O as2) (upd H2 a (exk a Cc dx))) := fun b o e => hp_mk (fun z => (hp_some e).1 (z.imp (E2.inq.2 b) id)) (s _ _ (hp_some e).2)
    have dq : Dq K (hp (Hid O as2) (upd H2 a (exk a Cc dx))) (.ref a) (.dict ((.str c, .bool true) :: fs)) := .exc hn (hp_mk nh upd_same) (gs _ _ hd) (DqFs.mono gs r)
    have E4 := ((E3.grow s).setNo s1 none).setFz s2 dq
    have hi : i < σ2.length := by
      obtain ⟨sl, e, _⟩ := slotF_of s1
      rw [← E3.len]
      exact (List.getElem?_eq_some_iff.mp e).1
    refine ⟨.ref a, by rw [List.getElem?_set_self hi], ?_⟩
    show D.nx (((σ2.set i (some (.ref a))).set j (some (.ref a))).set i none) _
    rw [List.set_comm _ _ (Ne.symm hij), List.set_set]
    exact C.nx _ _ _ _ nx (E2.inv.2.trans (.of (FrA.of s))) E4
  · rw [hk, if_neg (by decide)] at x2
    exact l O2 as2 σ2 H2 ρ2 _ _ _ (E2.reJ E2.inv.1 E2.inq.1) ⟨c, Cc, dx, fv, fs, rfl, rfl, rfl, hn, hd, r⟩ x2
end
end DL
/-! defs that raise: the promise; calls by keywords -/
namespace DL
open PySem L2 Z PySem.Spec PyProof.Rows
section
variable {P : Program} {w : World} {K : PySem.W.Frag} {mg : Str → Option Value} {base : Heap} {k : Nat} {f : Addr} {fd : FuncData} {ps : List Str} {x qual : Str} {st : Stmt} {N : List Str} {b : (PyData → En → Prop) → FS}
theorem okX0 (F : Fun K x qual st f fd) (S : FnScope N ps (defScope st))
    (body : ∀ (cdv : Value) (A : Around) (outer : List Env) (s : Shared) (H : Hp) (E : XK), Room k (A.deeper (envOfC qual (defScope st) s.heap.objs.size f cdv)) →
      ∃ t : WX → TS, (∀ W, Takes (cxOf (L2.CX P w) P w K mg base N qual (defScope st) f cdv A outer s H E) W → PSs (cxOf (L2.CX P w) P w K mg base N qual (defScope st) f cdv A outer s H E) (defBody st) (t W)) ∧ ∀ (J : Jv ps.length) (X : PyData → En → Prop) (W : WX), Lk K J X W → RS K J (t W) (b X)) :
    FnOk P w K mg base (L2.CX P w) (k + 1) f fd ps (spX K ps.length (fnX ps.length N.length b)) := by
  refine F.okX S (fun vs H Q E h => h.1) (fun cdv A outer s H vs Q E hr h => ?_)
  obtain ⟨t, pt, rs⟩ := body cdv A outer s H E hr
  exact ⟨_, pt _ (takes_of (E := E) rfl rfl rfl rfl), fn_coreX rs h⟩
theorem okXD {params : Arguments} {bd : List Stmt} {scope : Scope} {dvs : List V} {kws : List (Str × V)} (F : FunD K x qual params bd scope dvs kws f fd) (S : FnScope N ps scope)
    (body : ∀ (cdv : Value) (A : Around) (outer : List Env) (s : Shared) (H : Hp) (E : XK), Room k (A.deeper (envOfC qual scope s.heap.objs.size f cdv)) →
      ∃ t : WX → TS, (∀ W, Takes (cxOf (L2.CX P w) P w K mg base N qual scope f cdv A outer s H E) W → PSs (cxOf (L2.CX P w) P w K mg base N qual scope f cdv A outer s H E) bd (t W)) ∧ ∀ (J : Jv ps.length) (X : PyData → En → Prop) (W : WX), Lk K J X W → RS K J (t W) (b X)) :
    FnOk P w K mg base (L2.CX P w) (k + 1) f fd ps (spX K ps.length (fnX ps.length N.length b)) := by
  refine F.ok S (fun vs H Q E h => h.1) (fun cdv A outer s H vs Q E hr h => ?_)
  obtain ⟨t, pt, rs⟩ := body cdv A outer s H E hr
  exact ⟨_, pt _ (takes_of (E := E) rfl rfl rfl rfl), fn_coreX rs h⟩
/-- a def that raises is passed by its own context -/
theorem passX {cdv : Value} {A : Around} {outer : List Env} {s : Shared} {H : Hp} {E : XK} {scope : Scope} : PassesOwn (model P w) (cxOf (L2.CX P w) P w K mg base N qual scope f cdv A outer s H E).A (cxOf (L2.CX P w) P w K mg base N qual scope f cdv A outer s H E).env (cxOf (L2.CX P w) P w K mg base N qual scope f cdv A outer s H E).xe :=
  passes_of (X := cxOf (L2.CX P w) P w K mg base N qual scope f cdv A outer s H E) rfl
end
/-! the call with keywords, where it may raise -/
def tCallNS (n m : Nat) (sp : Sp) (gV : List V → List V → List V) (E : L2.St → XK) (t tk : TA) : TE := fun σ H Q => t σ H fun vs H1 => tk σ H1 fun zs H2 => vs.length = n ∧ zs.length = m ∧ sp (gV vs zs) H2 Q (E σ)
section
variable {X : Cx} {CX : CXT} {k n : Nat} {f : Addr} {fd : FuncData} {ps ks : List Str} {sp : Sp} {E : L2.St → XK} {x : Str} {p pos : Pos} {e : Expr} {es : List Expr} {kws : List Keyword} {t tk : TA} {g : List Value → List Value → List Value} {gV : List V → List V → List V}
theorem pe_callNS (F : FnOk X.prog X.w X.K X.mg X.base CX k f fd ps sp) (hr : Room k X.A) (hg : Gl X x) (hm : X.mg x = some (.ref f)) (hk : PySem.W.keepIn X.K (.ref f) = true) (hb : KBn X.K fd ps n ks g gV) (hx : ∀ σ, PassesAt CX X σ (E σ))
    (ha : PA X (e :: es) t) (hkw : PK X kws tk) (hall : (backToKw pos (keywordEach kws X.env)).all (·.1.isSome) = true := by rfl) (hks : (backToKw pos (keywordEach kws X.env)).filterMap (·.1) = ks := by rfl)
    (hdb : (x == ("__debug__" : Str)) = false := by decide) (he : starEach (e :: es) X.env = (false, eval e X.env) :: starEach es X.env := by rfl)
    (hpl : ((backTo pos (starEach (e :: es) X.env)).any (·.1) || (backToKw pos (keywordEach kws X.env)).any (·.1.isNone)) = false := by rfl) :
    PE X (.Call (.Name x p) (e :: es) kws pos) (tCallNS n ks.length sp gV E t tk) := by
  refine ⟨fun pins s σ H Q I h => wpAny_Call_Name_kw (ld_glob I hg hm ?_ hdb)⟩
  refine PySem.W.callWith_KW (h₀ := X.base) I.ok.mod.kin hk hall (thn (ha.run pos pins s σ H _ I h) fun us s1 hh => ?_) hpl he
  obtain ⟨vs, H1, I1, r, q⟩ := hh
  refine thn (hkw.run pos pins s1 σ H1 _ I1 q) fun ws s2 hh => ?_
  obtain ⟨zs, H2, I2, rz, l1, l2, q2⟩ := hh
  rw [hks]
  refine ⟨I2.kIn, wpAny_call (codeAny_mono (F.run X.A X.stack s2 H2 ⟨us, ks.zip ws⟩ (g us ws) (gV vs zs) Q (E σ) hr I2.env0 (hb.to s2 us ws I2.kIn (r.length.symm.trans l1) (rz.length.symm.trans l2)) (hb.rel r rz) q2) fun y s' hq => ?_)⟩
  cases y with
  | error er => exact hx σ pins H2 s2 er s' I2 hq
  | ok fl =>
    cases fl with
    | ret u => exact I2.after hq
    | _ => exact False.elim hq
end
section
variable {K : PySem.W.Frag} {n : Nat} {J : Jv n}
def fCallNX (F : FX) (n m : Nat) (gD : List PyData → List PyData → List PyData) (X : PyData → En → Prop) (f fk : FA) : FE := fun ρ P => f ρ fun ds ρ1 => fk ρ1 fun es ρ2 => ds.length = n ∧ es.length = m ∧ F ((gD ds es).map .fz) (fun d _ => P d ρ2) fun d _ => X d ρ2
theorem re_callNX {l n m : Nat} {F : FX} {gV : List V → List V → List V} {gD : List PyData → List PyData → List PyData} {X : PyData → En → Prop} {W : WX} {t tk : TA} {f fk : FA} (lk : Lk K J X W)
    (hl : ∀ ds es : List PyData, ds.length = n → es.length = m → (gD ds es).length = l)
    (hg : ∀ (vs zs : List V) (ds es : List PyData) (H : Hp), DqAll K H vs ds → DqAll K H zs es → DqAll K H (gV vs zs) (gD ds es)) (ha : RA K J t f) (hk : RA K J tk fk) : RE K J (tCallNS n m (spX K l F) gV (WE W) t tk) (fCallNX F n m gD X f fk) := by
  intro O as σ H Q ρ P E q k
  refine ha O as σ H _ ρ _ E q fun ds ρ1 vs H1 q1 f1 E1 d1 => ?_
  refine hk O as σ H1 _ ρ1 _ E1 q1 fun es ρ2 zs H2 q2 f2 E2 d2 => ?_
  obtain ⟨l1, l2, q2⟩ := q2
  refine ⟨by rw [d1.length]; exact l1, by rw [d2.length]; exact l2, ?_⟩
  refine call_coreX (xs := (gD ds es).map .dat) E2 (fits_dat _) (dat_ars (hg _ _ _ _ _ (d1.fr f2) d2)) (by rw [List.length_map]; exact hl _ _ l1 l2) (by rw [ownIx_dat]; exact .nil) ?_ lk fun d ρ' v H' p fr E' q' => k d ρ' v H' p ((f1.trans f2).trans fr) E' q'
  simp only [wb_dat]
  exact q2
/-- a def that raises, where it doesn't -/
def noX (F : FX) : FN := fun ss P => F ss P fun _ _ => False
theorem noX_of {m : Nat} {F : FX} {vs : List V} {H : Hp} {Q : VK} {E : XK} (h : spF K m (noX F) vs H Q E) : spX K m F vs H Q E := by
  obtain ⟨hv, O, as, ρ, P, R, hF, q⟩ := h
  exact ⟨hv, O, as, ρ, P, _, R, hF, q, fun _ _ _ _ _ z => z.elim⟩
end
/-! is True, is False -/
theorem op_isB {X : Cx} : OpR X (compareOp .Is) (fun x y H Q => ∃ b, y = .bl b ∧ (∀ n, x ≠ .ty n) ∧ Q (.bl (decide (x = .bl b))) H) := by
  intro pins s σ H x y v u Q I rx ry h
  obtain ⟨b, rfl, nt, q⟩ := h
  cases ry
  have key : ∀ c : Bool, decide (x = V.bl b) = c → wpAny (model X.prog X.w) X.A (pure (.bool c)) (EP X pins σ Q) X.xe s := fun c e => wpAny_pure ⟨.bl c, H, I, rfl, by rw [← e]; exact q⟩
  cases x with
  | non => cases rx; exact key false rfl
  | bl c => cases rx; cases c <;> cases b <;> first | exact key true rfl | exact key false rfl
  | int i => obtain ⟨t, rfl⟩ := rx; exact key false rfl
  | str i => obtain ⟨t, rfl⟩ := rx; exact key false rfl
  | byt i => obtain ⟨t, rfl⟩ := rx; exact key false rfl
  | flt i => obtain ⟨t, rfl⟩ := rx; exact key false rfl
  | ref a => cases rx; exact key false rfl
  | ty n => exact absurd rfl (nt n)
def isBool (b : Bool) : PyData → Bool
  | .bool c => c == b
  | _ => false
def oIsT : G2 := fun a d P => match d with
  | .bool b => P (.bool (isBool b a))
  | _ => False
section
variable {K : PySem.W.Frag}
theorem rr_isB : RR K (fun x y H Q => ∃ b, y = .bl b ∧ (∀ n, x ≠ .ty n) ∧ Q (.bl (decide (x = .bl b))) H) oIsT := by
  intro A H Q x y a c P oc da db g k
  unfold oIsT at g
  split at g
  · next b =>
    cases db
    refine ⟨b, rfl, fun n => ?_, ?_⟩
    · cases da <;> exact fun z => nomatch z
    · have e : decide (x = V.bl b) = isBool b a := by
        cases da <;> first | rfl | (next z => cases z <;> cases b <;> rfl)
      rw [e]
      exact k _ _ _ g (Same.refl _) (.bl _)
  · exact g.elim
end
/-! what the printed texts use -/
theorem names_nil {X : Cx} : ∀ q ∈ ([] : List (Str × Pos × Value)), Names X q.1 q.2.2 := fun _ h => by cases h
theorem names_cons {X : Cx} {x : Str} {p : Pos} {c : Value} {r : List (Str × Pos × Value)} (h : Names X x c) (t : ∀ q ∈ r, Names X q.1 q.2.2) : ∀ q ∈ (x, p, c) :: r, Names X q.1 q.2.2 := fun q hq => by
  rcases List.mem_cons.mp hq with rfl | hq
  · exact h
  · exact t q hq
def tabL : List (Str × Bool) → Str → Option Bool
  | [], _ => none
  | (x, b) :: r, c => if c = x then some b else tabL r c
section
variable {K : PySem.W.Frag} {p : Addr → Bool → Prop}
theorem tab_nil : ∀ c C b, tabL [] c = some b → PySem.W.nsIn K mainGlobals c = some (some (.ref C)) → p C b := fun _ _ _ h => by cases h
theorem tab_cons {x : Str} {C0 : Addr} {b0 : Bool} {l : List (Str × Bool)} (q : PySem.W.nsIn K mainGlobals x = some (some (.ref C0))) (h : p C0 b0) (r : ∀ c C b, tabL l c = some b → PySem.W.nsIn K mainGlobals c = some (some (.ref C)) → p C b) :
    ∀ c C b, tabL ((x, b0) :: l) c = some b → PySem.W.nsIn K mainGlobals c = some (some (.ref C)) → p C b := fun c C b e n => by
  unfold tabL at e
  split at e
  · next z =>
    subst z
    cases e
    rw [q] at n
    cases n
    exact h
  · exact r c C b e n
theorem cls_nil {q : Addr → Prop} : ∀ c C, c ∈ ([] : List Str) → PySem.W.nsIn K mainGlobals c = some (some (.ref C)) → q C := fun _ _ h => by cases h
theorem cls_cons {q : Addr → Prop} {x : Str} {C0 : Addr} {l : List Str} (n0 : PySem.W.nsIn K mainGlobals x = some (some (.ref C0))) (h : q C0) (r : ∀ c C, c ∈ l → PySem.W.nsIn K mainGlobals c = some (some (.ref C)) → q C) : ∀ c C, c ∈ x :: l → PySem.W.nsIn K mainGlobals c = some (some (.ref C)) → q C := fun c C hc n => by
  rcases List.mem_cons.mp hc with rfl | hc
  · rw [n0] at n
    cases n
    exact h
  · exact r c C hc n
end
end DL
/-! the law's def over data; functions as data -/
namespace DL
open PySem L2 Z PySem.Spec PyProof.Rows
section
variable {P : Program} {w : World} {K : PySem.W.Frag} {mg : Str → Option Value} {base : Heap} {k : Nat} {f : Addr} {fd : FuncData} {ps : List Str} {sp sp' : Sp}
theorem _root_.Z.FnG.imp (F : FnG P w K mg base k f fd ps sp) (h : ∀ vs H Q E, sp' vs H Q E → sp vs H Q E) : FnG P w K mg base k f fd ps sp' :=
  ⟨fun vs H Q E q => F.size vs H Q E (h vs H Q E q), fun A outer s H args us vs Q E hr c e b v q => F.goes A outer s H args us vs Q E hr c e b v (h vs H Q E q)⟩
def spLaw (K : PySem.W.Frag) : Sp := fun vs H Q _ => ∃ (a : Addr) (ns : List Int), vs = [.ref a] ∧ SqL K H a (ns.map V.int) ∧ ns.length ≤ 63 ∧ ∀ H', Q (.bl true) H'
theorem hp_emp {H : Hp} : hp (Hid (fun _ => False) fun _ => none) H = H := by
  funext a
  exact hp_of fun q => q.elim id fun ⟨_, h⟩ => by cases h
/-- the law's def -/
theorem law_of {F : FN} (hF : ∀ ns : List Int, ns.length ≤ 63 → F [.fz (.list (ns.map .int))] fun d _ => d = .bool true) {vs : List V} {H : Hp} {Q : VK} {E : XK} (h : spLaw K vs H Q E) : spF K 1 F vs H Q E := by
  obtain ⟨a, ns, rfl, hS, hl, q⟩ := h
  refine ⟨rfl, fun _ => False, fun _ => none, [.fz (.list (ns.map .int))], _, ⟨rfl, fun i sl o e1 e2 => ?_, fun i j a h1 h2 => ?_, fun _ _ h _ => (by cases h), fun i a h => ?_, fun a z => z.elim, trivial, trivial⟩, hF ns hl, fun d out v H' hd fr _ dv => ?_⟩
  · match i, e1, e2 with
    | 0, e1, e2 =>
      cases e1
      cases e2
      exact .fz (by rw [hp_emp]; exact .lst hS (DqAll.ints _))
  · cases h1
  · cases h
  · subst hd
    cases dv
    exact q _
end
/-! a local name that holds a def which may raise -/
structure HeldX (P : Program) (w : World) (K : PySem.W.Frag) (mg : Str → Option Value) (base : Heap) (k : Nat) (f : Addr) (sp : Sp) : Prop where
  ex : ∃ (fd : FuncData) (ps : List Str), FnOk P w K mg base (L2.CX P w) k f fd ps sp ∧ PySem.W.keepIn K (.ref f) = true ∧ Binds K fd ps []
def tCallV (i : Nat) (S : Addr → Sp → Prop) (E : L2.St → XK) (t : TA) : TE := fun σ H Q => ∃ f sp, σ[i]? = some (some (.ref f)) ∧ S f sp ∧ t σ H fun vs H1 => sp vs H1 Q (E σ)
section
variable {X : Cx} {k i : Nat} {E : L2.St → XK} {x : Str} {p pos : Pos} {e : Expr} {es : List Expr} {t : TA}
theorem pe_callV {S : Addr → Sp → Prop} (A : ∀ f sp, S f sp → HeldX X.prog X.w X.K X.mg X.base k f sp) (hr : Room k X.A) (hN : X.N[i]? = some x) (hv : Vis X.env.scope x) (hx : ∀ σ, PassesAt (L2.CX X.prog X.w) X σ (E σ)) (ha : PA X (e :: es) t)
    (hdb : (x == ("__debug__" : Str)) = false := by decide) (hcd : (x == ("__classdict__" : Str)) = false := by decide)
    (he : starEach (e :: es) X.env = (false, eval e X.env) :: starEach es X.env := by rfl) (hpl : (backTo pos (starEach es X.env)).any (·.1) = false := by rfl) : PE X (.Call (.Name x p) (e :: es) [] pos) (tCallV i S E t) := by
  refine ⟨fun pins s σ H Q I h => ?_⟩
  obtain ⟨f, sp, hs, hS, ht⟩ := h
  obtain ⟨fd, ps, F, hk, hb⟩ := (A f sp hS).ex
  refine wpAny_Call_Name_kw (thn ((pe_var (pos := p) hN hv hdb hcd).run pins s σ H (fun v H1 => v = .ref f ∧ H1 = H) I ⟨.ref f, hs, rfl, rfl⟩) fun u s1 ⟨v, H1, I1, r1, q1⟩ => ?_)
  obtain ⟨rfl, rfl⟩ := q1
  cases r1
  refine PySem.W.callWith_K (h₀ := X.base) I.ok.mod.kin hk (thn (ha.run pos pins s1 σ _ _ I1 ht) fun us s2 ⟨vs, H2, I2, r, q⟩ => ⟨I2.kIn, ?_⟩) he hpl
  exact run_fnSD F hr hb .nil (hx σ) I2 r (by rw [List.append_nil]; exact q)
end
section
variable {K : PySem.W.Frag} {n : Nat} {J : Jv n}
def fnD (x : Str) : PyData := .dict [(.str x, .int 0)]
def funF (ρ : En) (i : Nat) (k : Str → Prop) : Prop := match ρ[i]? with
  | some (.fz (.dict [(.str x, .int 0)])) => k x
  | _ => False
theorem funF_of {ρ : En} {i : Nat} {k : Str → Prop} (h : funF ρ i k) : ∃ x, ρ[i]? = some (.fz (fnD x)) ∧ k x := by
  unfold funF at h
  split at h
  · next x e => exact ⟨x, e, h⟩
  · exact h.elim
def tabF : List (Str × Nat × FX) → Str → (Nat → FX → Prop) → Prop
  | [], _, _ => False
  | (y, m, F) :: l, x, k => if y = x then k m F else tabF l x k
theorem tabF_of {x : Str} {k : Nat → FX → Prop} : ∀ {l : List (Str × Nat × FX)}, tabF l x k → ∃ m F, (x, m, F) ∈ l ∧ k m F
  | [], h => h.elim
  | (y, m, F) :: l, h => by
    unfold tabF at h
    split at h
    · next e => subst e; exact ⟨m, F, List.mem_cons_self, h⟩
    · obtain ⟨m', F', hm, hk⟩ := tabF_of h
      exact ⟨m', F', List.mem_cons_of_mem _ hm, hk⟩
theorem Dq.fn_of {G : Hp} {v : V} {x : Str} (q : Dq K G v (fnD x)) : ∃ f, v = .ref f ∧ PySem.W.nsIn K mainGlobals x = some (some (.ref f)) := by
  unfold fnD at q
  cases q with
  | fnc h => exact ⟨_, rfl, h⟩
/-- the def that a slot holds, called -/
def fCallV (i : Nat) (tab : List (Str × Nat × FX)) (X : PyData → En → Prop) (a : FC) : FE := fun ρ P => funF ρ i fun x => tabF tab x fun m F => a ρ fun xs ρ1 => xs.length = m ∧ (ownIx xs).Nodup ∧ argF ρ1 xs fun r => F r (fun d out => P d (wb ρ1 xs out)) fun d out => X d (wb ρ1 xs out)
theorem re_callV {i : Nat} {S : Addr → Sp → Prop} {tab : List (Str × Nat × FX)} {X : PyData → En → Prop} {W : WX} {t : TA} {f : FC} (l : Lk K J X W) (hS : ∀ x m F a, (x, m, F) ∈ tab → PySem.W.nsIn K mainGlobals x = some (some (.ref a)) → S a (spX K m F)) (ha : RC K J t f) : RE K J (tCallV i S (WE W) t) (fCallV i tab X f) := by
  intro O as σ H Q ρ P E q k
  obtain ⟨x, hx, q⟩ := funF_of q
  obtain ⟨m, F, hm, q⟩ := tabF_of q
  obtain ⟨v, e1, _, d0⟩ := E.fz_at hx
  obtain ⟨a, rfl, hn⟩ := Dq.fn_of d0
  refine ⟨a, _, e1, hS x m F a hm hn, ?_⟩
  refine ha O as σ H _ ρ _ E q fun xs ρ1 vs H1 q1 f1 E1 d1 => ?_
  obtain ⟨hm, nd, q1⟩ := q1
  obtain ⟨r, fit, q1⟩ := argF_of q1
  exact call_coreX E1 fit d1 hm nd q1 l fun d ρ' v H' p fr E' q' => k d ρ' v H' p (f1.trans fr) E' q'
theorem held_nil {S : Addr → Sp → Prop} : ∀ x m F a, (x, m, F) ∈ ([] : List (Str × Nat × FX)) → PySem.W.nsIn K mainGlobals x = some (some (.ref a)) → S a (spX K m F) := fun _ _ _ _ h => by cases h
theorem held_cons {S : Addr → Sp → Prop} {x0 : Str} {m0 : Nat} {F0 : FX} {a0 : Addr} {l : List (Str × Nat × FX)} (q : PySem.W.nsIn K mainGlobals x0 = some (some (.ref a0))) (h : S a0 (spX K m0 F0)) (r : ∀ x m F a, (x, m, F) ∈ l → PySem.W.nsIn K mainGlobals x = some (some (.ref a)) → S a (spX K m F)) :
    ∀ x m F a, (x, m, F) ∈ (x0, m0, F0) :: l → PySem.W.nsIn K mainGlobals x = some (some (.ref a)) → S a (spX K m F) := fun x m F a hm hn => by
  rcases List.mem_cons.mp hm with e | e
  · cases e
    rw [q] at hn
    cases hn
    exact h
  · exact r x m F a e hn
end
/-! a list or a tuple, walked -/
def iAny (K : PySem.W.Frag) (tl : TE) : TI := fun σ H R => tl σ H fun x H1 => ∃ a, x = .ref a ∧ (((∃ xs, SqL K H1 a xs) ∧ R (Itl K a) H1) ∨ ((∃ xs, SqT K H1 a xs) ∧ R (Itt K a) H1))
theorem pi_any {X : Cx} {tg l : Expr} {tl : TE} (hl : PE X l tl) : PI X tg l (iAny X.K tl) := by
  refine ⟨fun pins s σ H R I h => ?_⟩
  refine thn (hl.run pins s σ H _ I h) fun v s1 ⟨x, H1, I1, r1, q1⟩ => ?_
  obtain ⟨a, e, q1⟩ := q1
  subst e
  cases r1
  rcases q1 with ⟨⟨xs, hq⟩, q⟩ | ⟨⟨xs, hq⟩, q⟩
  · obtain ⟨its, rv, p, hz⟩ := I1.list hq
    refine wpAny_pyIter_list p.isList ?_
    refine ⟨s1.heap.objs.size, [s1.heap.objs.size], _, _, H1, rfl, I1.kept (t' := s1.toks) fun b o e => Heap.get?_push_of_some _ e, turn_list a _, ⟨_, Heap.get?_push_size _ rfl, rfl, rfl⟩, fun b hb => ?_, q⟩
    have e : b = s1.heap.objs.size := by simpa using hb
    subst e
    exact I1.fpOk (Nat.le_refl _) (I1.hok.fresh (Nat.le_refl _))
  · obtain ⟨its, rv, p, hz⟩ := I1.tuple hq
    refine wpAny_pyIter_tuple (show s1.heap.IsTuple a its.toArray from p) ?_
    refine ⟨s1.heap.objs.size, [s1.heap.objs.size], _, _, H1, rfl, I1.kept (t' := s1.toks) fun b o e => Heap.get?_push_of_some _ e, turn_tuple a _, ⟨_, Heap.get?_push_size _ rfl, rfl, rfl⟩, fun b hb => ?_, q⟩
    have e : b = s1.heap.objs.size := by simpa using hb
    subst e
    exact I1.fpOk (Nat.le_refl _) (I1.hok.fresh (Nat.le_refl _))
section
variable {K : PySem.W.Frag} {n : Nat} {J : Jv n}
def iA (f : FE) : FA := fun ρ P => f ρ fun d ρ1 => seqF d fun ds => P ds ρ1
theorem ri_any {tl : TE} {f : FE} (h : RE K J tl f) : RI K J (iAny K tl) (iA f) := by
  intro O as σ H R ρ P E q k
  refine h O as σ H _ ρ _ E q fun d ρ1 v H1 q1 f1 E1 d1 => ?_
  unfold seqF at q1
  split at q1
  · next ds =>
    obtain ⟨a, xs, rfl, s, r⟩ := d1.list_of
    refine ⟨a, rfl, .inl ⟨⟨_, SqL.mono hp_same s⟩, k _ _ _ _ q1 f1 E1 ?_⟩⟩
    refine ⟨_, _, by rw [← r.length]; exact walk_list (xs := xs), fun A' H2 s2 => SqL.mono hp_same (SqL.mono s2 s), fun i d A' H2 x H3 hd s2 oc y => ?_⟩
    obtain ⟨rfl, hx⟩ := y
    obtain ⟨d', e, q⟩ := r.get hx
    rw [hd] at e
    cases e
    exact ⟨Same.refl _, q.mono s2⟩
  · next ds =>
    obtain ⟨a, xs, rfl, s, r⟩ := d1.tuple_of
    refine ⟨a, rfl, .inr ⟨⟨_, SqT.mono hp_same s⟩, k _ _ _ _ q1 f1 E1 ?_⟩⟩
    refine ⟨_, _, by rw [← r.length]; exact walk_tup (xs := xs), fun A' H2 s2 => SqT.mono hp_same (SqT.mono s2 s), fun i d A' H2 x H3 hd s2 oc y => ?_⟩
    obtain ⟨rfl, hx⟩ := y
    obtain ⟨d', e, q⟩ := r.get hx
    rw [hd] at e
    cases e
    exact ⟨Same.refl _, q.mono s2⟩
  · exact q1.elim
end
end DL
/-! texts and tuples turned about -/
namespace DL
open PySem L2 Z PySem.Spec PyProof.Rows
section
variable {X : Cx}
def revS (z : Str) : Str := ⟨z.cps.toList.reverse.toArray⟩
theorem rev_picked (z : Str) : ((Builtin.Str.strSliceIndices none none (-1) z.length).filterMap (z.cps[·]?)) = z.cps.toList.reverse := by
  show ((sliceRange ((z.length : Int) - 1) (-1) (-1)).filterMap (z.cps[·]?)) = _
  rw [PySem.W.krv_sliceRange, PySem.W.krv_range, List.filterMap_reverse]
  exact congrArg List.reverse (PySem.W.krv_all z.cps)
def tRevS (te : TE) : TE := fun σ H Q => te σ H fun x H1 => ∃ z, x = .str z ∧ z.length ≤ sizeLine ∧ Q (.str (revS z)) H1
theorem pe_revS {e : Expr} {te : TE} {k : Nat} {p1 p2 p3 pos : Pos} (he : PE X e te) : PE X (.Subscript e (.Slice none none (some (.UnaryOp .USub (.Constant (.int 1) k p1) p2)) p3) pos) (tRevS te) := by
  refine ⟨fun pins s σ H Q I h => ?_⟩
  refine Subscript_ (thn (he.run pins s σ H _ I h) fun v s1 ⟨x, H1, I1, r1, q1⟩ => ?_)
  obtain ⟨z, ex, hz, q⟩ := q1
  subst ex
  obtain ⟨t, rfl⟩ := r1
  have hst : PO X (some (.UnaryOp .USub (.Constant (.int 1) k p1) p2)) (tPart (tUn (rU fun i => .int (-i)) (tC (.int 1)))) := po_some (pe_un un_neg pe_int)
  refine wpAny_Slice (thn (po_none.run pins s1 σ H1 (fun o H2 => o = none ∧ H2 = H1) I1 ⟨rfl, rfl⟩) fun vl s2 ⟨l, H2, I2, pl, el, e2⟩ => ?_)
  subst el e2
  refine thn (po_none.run pins s2 σ H2 (fun o H3 => o = none ∧ H3 = H2) I2 ⟨rfl, rfl⟩) fun vu s3 ⟨u, H3, I3, pu, eu, e3⟩ => ?_
  subst eu e3
  refine thn (hst.run pins s3 σ H3 (fun o H4 => o = some (-1) ∧ H4 = H3) I3 ⟨1, rfl, -1, rfl, rfl, rfl⟩) fun vs s4 ⟨o, H4, I4, ps, eo, e4⟩ => ?_
  subst eo e4
  have I5 : Inv X pins σ H4 { s4 with heap := s4.heap.push { cls := .type "slice", data := .fields #[vl, vu, vs] } } := I4.kept (t' := s4.toks) fun b ob q => Heap.get?_push_of_some _ q
  obtain ⟨l, rfl, hl⟩ := IsPart.raw pl
  obtain ⟨u, rfl, hu⟩ := IsPart.raw pu
  obtain ⟨st, rfl, hs⟩ := IsPart.raw ps
  cases l with
  | some _ => cases hl
  | none =>
  cases u with
  | some _ => cases hu
  | none =>
  cases st with
  | none => cases hs
  | some st =>
  obtain ⟨i, tk⟩ := st
  cases hs
  show wpAny (model X.prog X.w) X.A (subscriptTail e (.Slice none none (some (.UnaryOp .USub (.Constant (.int 1) k p1) p2)) p3) (.str z t) (.ref s4.heap.objs.size)) (EP X pins σ Q) X.xe _
  refine tail_any (ops := [.str z t, .ref s4.heap.objs.size]) (typeIs_str _ _ _) F.slot_str_getitem.lookup ?_ (by with_unfolding_all rfl)
  refine wpAny_getItem_str_slice (l := none) (u := none) (st := some (-1, tk)) ⟨_, Heap.get?_push_size _ rfl, rfl, rfl⟩ rfl ?_
  show Made.post (Made.str ⟨((Builtin.Str.strSliceIndices none none (-1) z.length).filterMap (z.cps[·]?)).toArray⟩) (EP X pins σ Q) _
  rw [rev_picked]
  exact ⟨by show z.cps.toList.reverse.toArray.size ≤ _; rw [List.size_toArray, List.length_reverse]; exact hz, .str _, H4, I5.tok _, ⟨_, rfl⟩, q⟩
end
section
variable {K : PySem.W.Frag} {n : Nat} {J : Jv n}
def fRevS (a : FE) : FE := fun ρ P => a ρ fun d ρ1 => strF d fun z => z.length ≤ sizeLine ∧ P (.str (revS z)) ρ1
theorem re_revS {te : TE} {a : FE} (ha : RE K J te a) : RE K J (tRevS te) (fRevS a) := by
  intro O as σ H Q ρ P E q k
  refine ha O as σ H _ ρ _ E q fun d ρ1 v H1 q1 f1 E1 d1 => ?_
  unfold strF at q1
  split at q1
  · cases d1
    exact ⟨_, rfl, q1.1, k _ _ _ _ q1.2 f1 E1 (.str _)⟩
  · exact q1.elim
end
end DL
/-! how long data's text may be -/
namespace Z
open PySem L2 TL
mutual
def szD : PyData → Nat
  | .none => 4
  | .bool _ => 5
  | .int i => (Str.ofString (toString i)).length
  | .str x => 10 * x.length + 2
  | .list xs => szAll xs + 2
  | .tuple xs => szAll xs + 3
  | .dict _ => 0
def szAll : List PyData → Nat
  | [] => 0
  | x :: r => szD x + 2 + szAll r
end
theorem slen_append (x y : Str) : (x ++ y).length = x.length + y.length := by rw [len_tl, len_tl x, len_tl y, tl_append, List.length_append]
theorem textFrom_le : ∀ (ts : List Str) (k : Nat) (acc : Str), (textFrom k acc ts).length ≤ acc.length + piled ts
  | [], _, acc => Nat.le_add_right _ _
  | t :: ts, k, acc => by
    have ih := textFrom_le ts (k + 1) (acc ++ Str.ofString (if k > 0 then ", " else "" : String) ++ t)
    rw [slen_append, slen_append] at ih
    have e : (Str.ofString (if k > 0 then ", " else "" : String)).length ≤ 2 := by
      split
      · exact (by decide +kernel : (Str.ofString ", ").length ≤ 2)
      · exact (by decide +kernel : (Str.ofString "").length ≤ 2)
    have p : piled (t :: ts) = t.length + 2 + piled ts := by simp [piled]
    show (textFrom (k + 1) (acc ++ Str.ofString (if k > 0 then ", " else "" : String) ++ t) ts).length ≤ _
    rw [p]
    omega
theorem listText_le (ts : List Str) : (listText ts).length ≤ piled ts + 2 := by
  have h := textFrom_le ts 0 (Str.ofString "[")
  have e1 : (Str.ofString "[").length = 1 := by decide +kernel
  have e2 : (Str.ofString "]").length = 1 := by decide +kernel
  show (textFrom 0 (Str.ofString "[") ts ++ Str.ofString "]").length ≤ _
  rw [slen_append]
  omega
theorem join_le : ∀ ts : List Str, (Str.join (Str.ofString ", ") ts).length ≤ piled ts
  | [] => Nat.zero_le _
  | t :: ts => by
    have h := join_length_add (t :: ts) (by simp)
    have h' : (Str.join (Str.ofString ", ") (t :: ts)).length + 2 = piled (t :: ts) := h
    omega
theorem tupleText_le (ts : List Str) : (tupleText ts).length ≤ piled ts + 3 := by
  have h := join_le ts
  have e1 : (Str.ofString "(").length = 1 := by decide +kernel
  have e2 : (Str.ofString (if (ts.length == 1) = true then ",)" else ")" : String)).length ≤ 2 := by
    split
    · exact (by decide +kernel : (Str.ofString ",)").length ≤ 2)
    · exact (by decide +kernel : (Str.ofString ")").length ≤ 2)
  show (Str.ofString "(" ++ Str.join (Str.ofString ", ") ts ++ Str.ofString (if (ts.length == 1) = true then ",)" else ")" : String)).length ≤ _
  rw [slen_append, slen_append]
  omega
mutual
theorem shown_le : ∀ d : PyData, d.canLay0 = true → d.shown.length ≤ szD d
  | .none, _ => (by decide +kernel : (Str.ofString "None").length ≤ 4)
  | .bool true, _ => (by decide +kernel : (Str.ofString "True").length ≤ 5)
  | .bool false, _ => (by decide +kernel : (Str.ofString "False").length ≤ 5)
  | .int i, _ => Nat.le_refl _
  | .str x, h => by
    refine StrLaws.reprText_len x fun c hc => ?_
    have h' : (x.cps.all (· < 0x110000)) = true := h
    have := (Array.all_eq_true_iff_forall_mem.mp h') c (Array.mem_toList_iff.mp hc)
    have := of_decide_eq_true this
    omega
  | .list xs, h => by
    have ih := shownAll_le xs h
    have := listText_le (PyData.shownAll xs)
    show (listText (PyData.shownAll xs)).length ≤ szAll xs + 2
    omega
  | .tuple xs, h => by
    have ih := shownAll_le xs h
    have := tupleText_le (PyData.shownAll xs)
    show (tupleText (PyData.shownAll xs)).length ≤ szAll xs + 3
    omega
  | .dict _, h => by cases h
theorem shownAll_le : ∀ ds : List PyData, PyData.canLayAll0 ds = true → piled (PyData.shownAll ds) ≤ szAll ds
  | [], _ => Nat.zero_le _
  | x :: r, h => by
    have h' : (x.canLay0 && PyData.canLayAll0 r) = true := h
    rw [Bool.and_eq_true] at h'
    have h1 := shown_le x h'.1
    have h2 := shownAll_le r h'.2
    have e : piled (PyData.shownAll (x :: r)) = x.shown.length + 2 + piled (PyData.shownAll r) := by
      show piled (x.shown :: PyData.shownAll r) = _
      simp [piled]
    rw [e]
    show _ ≤ szD x + 2 + szAll r
    omega
end
theorem szInt {i : Int} (h0 : 0 ≤ i) (h : i < 10 ^ 10) : szD (.int i) ≤ 10 := PyProof.Rows.toString_length_le h0 (by decide) h
end Z
/-! sums as texts: plain law -/
namespace Z
open PySem L2 TL
/-- the text of a sum, as sum_text makes it -/
def sumT (a : Int) : Str := ((Str.ofString (toString (a / 100))) ++ (Str.ofString ".")) ++ Txt.zfill (Str.ofString (toString (a % 100))) 2
def figL (n : Nat) : List Nat := numL (n / 100) ++ [46, 48 + n % 100 / 10, 48 + n % 10]
theorem tl_dot : tl (Str.ofString ".") = [46] := by decide +kernel
theorem tl_zfill2 {m : Nat} (h : m < 100) : tl (Txt.zfill (Str.ofString (toString ((m : Nat) : Int))) 2) = [48 + m / 10, 48 + m % 10] := by
  have e : ∀ m : Fin 100, tl (Txt.zfill (Str.ofString (toString (((m : Fin 100).val : Nat) : Int))) 2) = [48 + m.val / 10, 48 + m.val % 10] := by decide +kernel
  exact e ⟨m, h⟩
theorem tl_sumT (n : Nat) : tl (sumT (n : Int)) = figL n := by
  unfold sumT figL
  rw [tl_append, tl_append, tl_dot]
  have e1 : ((n : Nat) : Int) / 100 = ((n / 100 : Nat) : Int) := by omega
  have e2 : ((n : Nat) : Int) % 100 = ((n % 100 : Nat) : Int) := by omega
  rw [e1, e2, tl_num, tl_zfill2 (Nat.mod_lt _ (by decide))]
  have e3 : n % 100 % 10 = n % 10 := by omega
  rw [e3]
  simp
theorem len_sumT {n : Nat} (h : n < 10 ^ 12) : (sumT (n : Int)).length ≤ 13 := by
  rw [len_tl, tl_sumT]
  unfold figL
  have := numL_len (n := n / 100) (k := 10) (by decide) (by omega)
  simp
  omega

/-! figure by figure -/
/-- one turn of the law's own writing -/
def wStep (s : List Nat × Nat) (k : Nat) : List Nat × Nat :=
  let f := if k < 3 ∨ 0 < s.2 then (48 + s.2 % 10) :: s.1 else s.1
  (if k = 1 then 46 :: f else f, s.2 / 10)
def wGo (n k : Nat) : List Nat × Nat := (List.range k).foldl wStep ([], n)
theorem wGo_succ (n k : Nat) : wGo n (k + 1) = wStep (wGo n k) k := by
  unfold wGo
  rw [List.range_succ, List.foldl_append]
  rfl
theorem wGo_3 (n : Nat) : wGo n 3 = ([48 + n / 100 % 10, 46, 48 + n % 100 / 10, 48 + n % 10], n / 1000) := by
  rw [wGo_succ, wGo_succ, wGo_succ]
  unfold wGo
  simp [wStep]
  omega
theorem wGo_more (n : Nat) : ∀ k, 3 ≤ k → n < 10 ^ 12 → ∃ u, wGo n k = (u, n / 10 ^ k) ∧ figL n = (if 0 < n / 10 ^ k then numL (n / 10 ^ k) else []) ++ u := by
  intro k hk hn
  induction k with
  | zero => omega
  | succ k ih =>
    by_cases h3 : k = 2
    · subst h3
      refine ⟨_, wGo_3 n, ?_⟩
      show figL n = _
      unfold figL
      have e : n / 10 ^ (2 + 1) = n / 100 / 10 := by omega
      rw [e]
      by_cases h : n / 100 < 10
      · rw [numL_lt h, if_neg (by omega)]
        have : n / 100 % 10 = n / 100 := by omega
        rw [this]
        rfl
      · rw [numL_step (by omega), if_pos (by omega)]
        simp
    · obtain ⟨u, e1, e2⟩ := ih (by omega)
      have ek : n / 10 ^ (k + 1) = n / 10 ^ k / 10 := by rw [Nat.pow_succ, Nat.div_div_eq_div_mul]
      rw [wGo_succ, e1]
      unfold wStep
      simp only
      rw [if_neg (by omega : ¬ k = 1), ek]
      by_cases h : 0 < n / 10 ^ k
      · rw [if_pos (.inr h)]
        refine ⟨_, rfl, ?_⟩
        rw [e2, if_pos h]
        by_cases h10 : n / 10 ^ k < 10
        · rw [numL_lt h10, if_neg (by omega)]
          have : n / 10 ^ k % 10 = n / 10 ^ k := by omega
          rw [this]
          rfl
        · rw [numL_step (by omega), if_pos (by omega)]
          simp
      · rw [if_neg (by omega)]
        refine ⟨_, rfl, ?_⟩
        rw [e2, if_neg h, if_neg (by omega)]
theorem wGo_12 {n : Nat} (h : n < 10 ^ 12) : (wGo n 12).1 = figL n := by
  obtain ⟨u, e1, e2⟩ := wGo_more n 12 (by decide) h
  rw [e1, e2, if_neg (by omega)]
  rfl
theorem wGo_len (n k : Nat) : (wGo n k).1.length ≤ 2 * k := by
  induction k with
  | zero => exact Nat.zero_le _
  | succ k ih =>
    rw [wGo_succ]
    unfold wStep
    simp only
    split <;> split <;> (try simp only [List.length_cons]) <;> omega

/-! read back -/
theorem rp_one {x : Str} {A B : List Nat} (h : tl x = A ++ 46 :: B) (hB : 46 ∉ B) : Txt.rpartition x (Str.ofString ".") = (⟨A.toArray⟩, Str.ofString ".", ⟨B.toArray⟩) := by
  have hl : (Str.ofString ".").length = 1 := by rw [len_tl, tl_dot]; rfl
  have hne : tl (Str.ofString ".") ≠ [] := by rw [tl_dot]; simp
  have hd : (tl x).drop A.length = 46 :: B := by rw [h, List.drop_left]
  have atA : StrLaws.At x (Str.ofString ".") x.length A.length := by
    refine (at_iff hne _).mpr ?_
    rw [hd, tl_dot]
    rfl
  have no : ∀ k, A.length < k → ¬ StrLaws.At x (Str.ofString ".") x.length k := fun k hk q => by
    have q := (at_iff hne k).mp q
    rw [h, List.drop_append, List.drop_eq_nil_of_le (by omega), List.nil_append] at q
    obtain ⟨j, hj⟩ : ∃ j, k - A.length = j + 1 := ⟨k - A.length - 1, by omega⟩
    rw [hj, List.drop_succ_cons, tl_dot] at q
    cases e : B.drop j with
    | nil => rw [e] at q; exact absurd q (by decide)
    | cons c r =>
      rw [e] at q
      have hc : c = 46 := by
        simp [pre] at q
        exact q
      subst hc
      exact hB (List.mem_of_mem_drop (e ▸ List.mem_cons_self ..))
  unfold Txt.rpartition
  rcases StrLaws.last_spec x (Str.ofString ".") with ⟨h0, hn⟩ | ⟨i, h0, hi, hn⟩
  · exact absurd atA (hn _)
  · have ei : i = A.length := by
      rcases Nat.lt_trichotomy i A.length with q | q | q
      · exact absurd atA (hn _ q)
      · exact q
      · exact absurd hi (no _ q)
    subst ei
    rw [h0]
    show (_, _, _) = _
    have e1 : PySem.Builtin.Str.strSub x 0 A.length = ⟨A.toArray⟩ := by
      refine ext_tl ((tl_strSub ..).trans ?_)
      rw [h]
      simp
    have e2 : PySem.Builtin.Str.strSub x (A.length + (Str.ofString ".").length) x.length = ⟨B.toArray⟩ := by
      refine ext_tl ((tl_strSub_end ..).trans ?_)
      rw [hl, h]
      simp
    rw [e1, e2]
theorem rp_none {x : Str} (h : 46 ∉ tl x) : Txt.rpartition x (Str.ofString ".") = (Str.empty, Str.empty, x) := by
  have hne : tl (Str.ofString ".") ≠ [] := by rw [tl_dot]; simp
  unfold Txt.rpartition
  rcases StrLaws.last_spec x (Str.ofString ".") with ⟨h0, hn⟩ | ⟨i, h0, hi, hn⟩
  · rw [h0]
  · exfalso
    have q := (at_iff hne i).mp hi
    rw [tl_dot] at q
    cases e : (tl x).drop i with
    | nil => rw [e] at q; exact absurd q (by decide)
    | cons c r =>
      rw [e] at q
      have hc : c = 46 := by
        simp [pre] at q
        exact q
      subst hc
      exact h (List.mem_of_mem_drop (e ▸ List.mem_cons_self ..))
/-- are figures -/
def figs (z : List Nat) : Bool := z.all fun c => decide (48 ≤ c ∧ c ≤ 57)
theorem figs_iff {z : List Nat} : figs z = true ↔ NumText.AllDigits z := by
  unfold figs NumText.AllDigits
  simp [List.all_eq_true]
theorem ten_mem (c : Nat) : decide (c ∈ tl (Str.ofString "0123456789")) = decide (48 ≤ c ∧ c ≤ 57) := by
  have e : tl (Str.ofString "0123456789") = [48, 49, 50, 51, 52, 53, 54, 55, 56, 57] := by decide +kernel
  rw [e]
  apply decide_eq_decide.mpr
  simp
  omega
theorem int_of_figs {z : Str} (h : figs (tl z) = true) (h1 : tl z ≠ []) (h2 : z.length ≤ 640) : PySem.intText? z = some ((NumText.digitsVal (tl z) : Nat) : Int) :=
  PySem.intText_digits (figs_iff.mp h) h1 (by omega)
theorem rp_sumT (n : Nat) : Txt.rpartition (sumT (n : Int)) (Str.ofString ".") = (⟨(numL (n / 100)).toArray⟩, Str.ofString ".", ⟨[48 + n % 100 / 10, 48 + n % 10].toArray⟩) := by
  refine rp_one (A := numL (n / 100)) (B := [48 + n % 100 / 10, 48 + n % 10]) ?_ ?_
  · rw [tl_sumT]; rfl
  · simp
    omega
end Z
namespace K
open PySem L2 Z TL DL
local macro_rules | `(tactic| walk_at "z1") => `(tactic| first | with_reducible refine iteT ?_ | with_reducible refine iteF ?_ | with_reducible refine iteDS rfl ?_ | with_reducible refine iteNS rfl ?_ | ((with_reducible refine iteDN ?hN ?_); (case hN => (intro h; cases h; done))) | ((with_reducible refine iteNDN ?hN ?_); (case hN => (intro h; cases h; done))) | ((fail_if_success (with_reducible refine iteD (fun _ => ?_) (fun _ => ?_))); (fail_if_success (with_reducible refine iteND (fun _ => ?_) (fun _ => ?_))); first
  | refine ⟨_, rfl, ?_⟩
  | refine ⟨_, _, rfl, rfl, ?_⟩
  | refine ⟨rfl, ?_⟩
  | refine ⟨(by show (0 : Int) < _; first | decide | omega), ?_⟩
  | refine ⟨⟨by decide, by decide⟩, ?_⟩
  | refine ⟨⟨(by show (0 : Int) < _; omega), (by show _ < (1073741824 : Int); omega)⟩, ?_⟩
  | refine ⟨⟨by decide, by decide, by decide⟩, ?_⟩
  | refine ⟨.inl ⟨by omega, by omega⟩, ?_⟩
  | refine ⟨.inr ⟨by omega, by omega⟩, ?_⟩
  | refine .inl ⟨_, rfl, ?_⟩
  | refine .inr ⟨_, rfl, ?_⟩
  | refine ⟨_, _, _, _, rfl, rfl, SqL.of (by assumption), rfl, ?_⟩
  | refine ⟨_, _, _, _, rfl, rfl, SqL.of upd_same, rfl, ?_⟩
  | refine ⟨_, _, _, _, rfl, rfl, (by assumption), rfl, ?_⟩
  | refine ⟨_, _, _, _, rfl, rfl, upd_same, rfl, ?_⟩
  | refine ⟨_, _, rfl, SqT.of upd_same, rfl, ?_⟩
  | refine ⟨_, _, rfl, ?_⟩
  | refine ⟨Nat.le_of_ble_eq_true rfl, ?_⟩
  | refine ⟨_, _, _, _, true, rfl, .ty _, .base (.str _), kit_ty (by decide +kernel), ?_⟩
  | refine ⟨_, _, _, _, false, rfl, .ty _, .base (.str _), kit_ty (by decide +kernel), ?_⟩
  | refine ⟨_, _, _, _, true, rfl, .ty _, .base (.int _), kit_ty (by decide +kernel), ?_⟩
  | refine ⟨_, _, _, _, false, rfl, .ty _, .base (.int _), kit_ty (by decide +kernel), ?_⟩))
local macro_rules | `(tactic| walk_at "z") => `(tactic| repeat walk_at "z1")
/-! ### texts of sums, read: plain part -/
structure Good (z : Str) (A B : List Nat) : Prop where
  eq : tl z = A ++ 46 :: B
  fa : figs A = true
  fb : figs B = true
  a1 : 1 ≤ A.length
  a5 : A.length ≤ 5
  b2 : B.length = 2
  lead : A.length = 1 ∨ A.head? ≠ some 48
def TextOk (z : Str) : Prop := z.length ≤ 100000 ∧ ∀ c ∈ tl z, c < 0x110000
theorem figs_free {A : List Nat} (h : figs A = true) : 46 ∉ A := fun hm => by
  have := figs_iff.mp h 46 hm
  omega
theorem dot_uniq {A B A' B' : List Nat} (h : A ++ 46 :: B = A' ++ 46 :: B') (hA : 46 ∉ A) (hA' : 46 ∉ A') : A = A' ∧ B = B' := by
  induction A generalizing A' with
  | nil =>
    cases A' with
    | nil => exact ⟨rfl, (List.cons.inj h).2⟩
    | cons c A' => exact absurd (by rw [(List.cons.inj h).1]; exact List.mem_cons_self) hA'
  | cons c A ih =>
    cases A' with
    | nil => exact absurd (by rw [← (List.cons.inj h).1]; exact List.mem_cons_self) hA
    | cons c' A' =>
      obtain ⟨e1, e2⟩ := List.cons.inj h
      obtain ⟨e3, e4⟩ := ih e2 (fun m => hA (List.mem_cons_of_mem _ m)) (fun m => hA' (List.mem_cons_of_mem _ m))
      exact ⟨by rw [e1, e3], e4⟩
theorem Good.uniq {z : Str} {A B A' B' : List Nat} (g : Good z A B) (g' : Good z A' B') : A = A' ∧ B = B' := dot_uniq (g.eq.symm.trans g'.eq) (figs_free g.fa) (figs_free g'.fa)
theorem dotS : Str.ofString "." = (⟨#[46]⟩ : Str) := by decide +kernel
theorem split_two {z : Str} (h : (Txt.split z (Str.ofString ".")).length = 2) : ∃ p q : Str, Txt.split z (Str.ofString ".") = [p, q] ∧ tl z = tl p ++ 46 :: tl q ∧ 46 ∉ tl p ∧ 46 ∉ tl q := by
  have j := StrLaws.join_split z (Str.ofString ".")
  have f := StrLaws.split_free z 46
  rw [← dotS] at f
  generalize Txt.split z (Str.ofString ".") = l at h j f
  match l, h with
  | [p, q], _ =>
    refine ⟨p, q, rfl, ?_, f p List.mem_cons_self, f q (List.mem_cons_of_mem _ List.mem_cons_self)⟩
    rw [← j, show Str.join (Str.ofString ".") [p, q] = p ++ Str.ofString "." ++ q from rfl, tl_append, tl_append, tl_dot, List.append_assoc]
    rfl
theorem cnt_out {A : List Nat} {c : Nat} (h : c ∉ A) : PyProof.Rows.cnt c A = 0 := by
  induction A with
  | nil => rfl
  | cons d A ih =>
    rw [PyProof.Rows.cnt_cons, if_neg (fun e => h (by rw [e]; exact List.mem_cons_self)), ih fun m => h (List.mem_cons_of_mem _ m)]
    rfl
theorem cnt_app {A B : List Nat} {c : Nat} : PyProof.Rows.cnt c (A ++ B) = PyProof.Rows.cnt c A + PyProof.Rows.cnt c B := by
  induction A with
  | nil => rw [List.nil_append, PyProof.Rows.cnt_nil, Int.zero_add]
  | cons d A ih => rw [List.cons_append, PyProof.Rows.cnt_cons, PyProof.Rows.cnt_cons, ih, Int.add_assoc]
theorem split_not {z : Str} (h : (Txt.split z (Str.ofString ".")).length ≠ 2) : ¬ ∃ A B, Good z A B := by
  rintro ⟨A, B, g⟩
  have l := PyProof.Rows.split_len z 46
  rw [← dotS, show z.cps.toList = A ++ 46 :: B from g.eq, cnt_app, PyProof.Rows.cnt_cons, cnt_out (figs_free g.fa), cnt_out (figs_free g.fb), if_pos rfl] at l
  omega
theorem ofNat_toNat {c : Nat} (h : c < 128) : (Char.ofNat c).toNat = c := by
  have h' : ∀ c : Fin 128, (Char.ofNat c.1).toNat = c.1 := by decide
  exact h' ⟨c, h⟩
theorem numL_back {A : List Nat} (h : figs A = true) (h1 : 1 ≤ A.length) (hl : A.length = 1 ∨ A.head? ≠ some 48) : numL (NumText.digitsVal A) = A := by
  have hd := figs_iff.mp h
  unfold numL
  rw [NumText.toDigits_digitsVal (A.length - 1) A (by omega) hd ?_, List.map_map]
  · refine (List.map_congr_left fun c hc => ?_).trans (List.map_id _)
    have := hd c hc
    show (Char.ofNat c).toNat = c
    exact ofNat_toNat (by omega)
  · rcases hl with hl | hl
    · exact .inl (by omega)
    · cases A with
      | nil => cases h1
      | cons c r =>
        refine .inr ⟨c, r, rfl, ?_⟩
        have := hd c List.mem_cons_self
        have : c ≠ 48 := fun e => hl (by rw [e]; rfl)
        omega
theorem numL_lead {n : Nat} {A : List Nat} (h : numL n = A) : A.length = 1 ∨ A.head? ≠ some 48 := by
  by_cases hn : n < 10
  · left
    rw [← h, numL_lt hn]
    rfl
  · right
    rw [← h]
    clear h
    induction n using Nat.strongRecOn with
    | _ n ih =>
      rw [numL_step (by omega)]
      by_cases h2 : n / 10 < 10
      · rw [numL_lt h2]
        show some (48 + n / 10) ≠ some 48
        intro e
        have := Option.some.inj e
        omega
      · have := ih (n / 10) (by omega) h2
        cases hc : numL (n / 10) with
        | nil => exact absurd hc (numL_ne _)
        | cons c r => rw [hc] at this; exact this
theorem val_two {A B : List Nat} (hb : figs B = true) (h2 : B.length = 2) : NumText.digitsVal (A ++ B) = NumText.digitsVal A * 100 + NumText.digitsVal B ∧ NumText.digitsVal B < 100 ∧ B = [48 + NumText.digitsVal B / 10, 48 + NumText.digitsVal B % 10] := by
  match B, h2 with
  | [c, d], _ =>
    have hd := figs_iff.mp hb
    have hc := hd c List.mem_cons_self
    have hd' := hd d (List.mem_cons_of_mem _ List.mem_cons_self)
    have e : NumText.digitsVal [c, d] = (c - 48) * 10 + (d - 48) := by
      show (0 * 10 + (c - 48)) * 10 + (d - 48) = _
      omega
    rw [show A ++ [c, d] = (A ++ [c]) ++ [d] from by simp, NumText.digitsVal_snoc, NumText.digitsVal_snoc, e]
    refine ⟨by omega, by omega, ?_⟩
    congr 1
    · omega
    · congr 1; omega
/-! functions over data -/
def F__law_box_1 : FS := (fRetW (fLst (fCons (fOp oMul (fCB bAbs (fCons (fV 2) fNil)) (fCB bInt (fCons (fOp oGe (fCB bAbs (fCons (fV 2) fNil)) (fOp oPow (fC (.int 10)) (fC (.int 18)))) fNil))) (fCons (fOp oMod (fOp oMul (fOp oAdd (fOp oAdd (fOp oMod (fV 2) (fC (.int 2147483629))) (fOp oMul (fC (.int 15485863)) (fV 1))) (fC (.int 43))) (fC (.int 48271))) (fC (.int 2147483647))) (fCons (fC (.int 0)) fNil)))))
def F__law_box : FM := fnM 2 3 (fSeq (fAsg (fIf (fB (fOp oLt (fV 1) (fCB bLen (fCons (fV 0) fNil)))) (fOp oIxL (fV 0) (fV 1)) (fC (.int 0))) (gN 2))
    F__law_box_1)
def F__law_spoilt_1 : FS := (fSeq (fAsg (fOp oIxS (fC (.str (Str.ofString "0123456789"))) (fCall 2 F__law_take [] (cOwn 0 (cDat (fC (.int 10)) cNil)))) (gN 6))
    (fRet (fOp oIxL (fNew (fLst (fCons (fOp oAddS (fC (.str (Str.ofString "0"))) (fV 1)) (fCons (fOp oAddS (fV 6) (fV 1)) (fCons (fOp oAddS (fV 1) (fV 6)) (fCons (fOp oAddS (fC (.str (Str.ofString "-"))) (fV 1)) fNil)))))) (fOp oSub (fV 3) (fC (.int 5))))))
def F__law_spoilt_2 : FS := (fSeq (fIfS (fB (fOp oEq (fV 3) (fC (.int 4)))) (fRet (fOp oAddS (fOp oAddS (fSl sS (fV 1) pNo (pSo (fV 4))) (fRevS (fSl sS (fV 1) (pSo (fV 4)) (pSo (fOp oAdd (fV 4) (fC (.int 2))))))) (fSl sS (fV 1) (pSo (fOp oAdd (fV 4) (fC (.int 2)))) pNo))) fNext)
    F__law_spoilt_1)
def F__law_spoilt_3 : FS := (fSeq (fIfS (fB (fOp oEq (fV 3) (fC (.int 3)))) (fRet (fOp oAddS (fOp oAddS (fSl sS (fV 1) pNo (pSo (fV 4))) (fV 5)) (fSl sS (fV 1) (pSo (fOp oAdd (fV 4) (fC (.int 1)))) pNo))) fNext)
    F__law_spoilt_2)
def F__law_spoilt_4 : FS := (fSeq (fIfS (fB (fOp oEq (fV 3) (fC (.int 2)))) (fRet (fOp oAddS (fSl sS (fV 1) pNo (pSo (fV 4))) (fSl sS (fV 1) (pSo (fOp oAdd (fV 4) (fC (.int 1)))) pNo))) fNext)
    F__law_spoilt_3)
def F__law_spoilt : FN := fnF 2 7 (fSeq (fAsg (fC (.str (Str.ofString " !\"#$&'()*+,-./0123456789:;<=>?@ABCDEFGHIJKLMNOPQRSTUVWXYZ[\\]^_`abcdefghijklmnopqrstuvwxyz{|}~\n"))) (gN 2))
    (fSeq (fPar3 3 4 5 (fCons (fCall 2 F__law_take [] (cOwn 0 (cDat (fC (.int 9)) cNil))) (fCons (fCall 2 F__law_take [] (cOwn 0 (cDat (fOp oAdd (fCB bLenS (fCons (fV 1) fNil)) (fC (.int 1))) cNil))) (fCons (fOp oIxS (fV 2) (fCall 2 F__law_take [] (cOwn 0 (cDat (fCB bLenS (fCons (fV 2) fNil)) cNil)))) fNil))))
    (fSeq (fAsg (fOp oIxL (fNew (fLst (fCons (fV 5) (fCons (fOp oIxS (fC (.str (Str.ofString "0123456789.-"))) (fCall 2 F__law_take [] (cOwn 0 (cDat (fC (.int 12)) cNil)))) fNil)))) (fCall 2 F__law_take [] (cOwn 0 (cDat (fC (.int 2)) cNil)))) (gN 5))
    (fSeq (fIfS (fB (fOp oLt (fV 3) (fC (.int 2)))) (fRet (fOp oAddS (fOp oAddS (fSl sS (fV 1) pNo (pSo (fV 4))) (fV 5)) (fSl sS (fV 1) (pSo (fV 4)) pNo))) fNext)
    F__law_spoilt_4))))
def F__law_read_1 : FS := (fRet (fCB bIntS (fCons (fOp oAddS (fOp oIxL (fV 1) (fC (.int 0))) (fOp oIxL (fV 1) (fC (.int 1)))) fNil)))
def F__law_read_2 : FS := (fSeq (fIfS (fAnd (fB (fOp oGt (fCB bLenS (fCons (fOp oIxL (fV 1) (fC (.int 0))) fNil)) (fC (.int 1)))) (fB (fOp oEq (fOp oIxS (fOp oIxL (fV 1) (fC (.int 0))) (fC (.int 0))) (fC (.str (Str.ofString "0")))))) (fRet (fC .none)) fNext)
    F__law_read_1)
def F__law_read_3 : FE := (fOp oInS (fV 2) (fC (.str (Str.ofString "0123456789"))))
def F__law_read_4 : FS := (fSeq (fIfS (fNot (fB (fCB bAll (fCons (fNew (fLc (iS (fOp oAddS (fOp oIxL (fV 1) (fC (.int 0))) (fOp oIxL (fV 1) (fC (.int 1))))) (gN 2) fYes F__law_read_3 [2])) fNil)))) (fRet (fC .none)) fNext)
    F__law_read_2)
def F__law_read : FN := fnF 1 3 (fSeq (fAsg (fBM mSplit (fV 0) (fCons (fC (.str (Str.ofString "."))) fNil)) (gN 1))
    (fSeq (fIfS (fOr (fB (fOp oNe (fCB bLen (fCons (fV 1) fNil)) (fC (.int 2)))) (fOr (fNot (fB (fChain oLt oLt (fC (.int 0)) (fCB bLenS (fCons (fOp oIxL (fV 1) (fC (.int 0))) fNil)) (fC (.int 6))))) (fB (fOp oNe (fCB bLenS (fCons (fOp oIxL (fV 1) (fC (.int 1))) fNil)) (fC (.int 2)))))) (fRet (fC .none)) fNext)
    F__law_read_4))
-- BadSum
def F_sum_text : FN := fnF 1 3 (fSeq (fAsg (fCB bDivmod (fCons (fV 0) (fCons (fC (.int 100)) fNil))) (gT 2 (gsCons (gN 1) (gsCons (gN 2) gsNil))))
    (fRet (fOp oAddS (fOp oAddS (fCB bStrI (fCons (fV 1) fNil)) (fC (.str (Str.ofString ".")))) (fBM mZfill (fCB bStrI (fCons (fV 2) fNil)) (fCons (fC (.int 2)) fNil)))))
def F_are_figures_1 : FE := (fOp oInS (fV 3) (fC (.str (Str.ofString "0123456789"))))
def F_are_figures : FN := fnF 3 4 (fRet (fAndV (fChain oLe oLe (fV 1) (fCB bLenS (fCons (fV 0) fNil)) (fV 2)) (fCB bAll (fCons (fNew (fLc (iS (fV 0)) (gN 3) fYes F_are_figures_1 [3])) fNil))))
def F_sum_in_1 : FS := (fRet (fV 4))
def F_sum_in_2 (Xw : PyData → En → Prop) : FS := (fSeq (fAsg (fOp oAdd (fOp oMul (fCB bIntS (fCons (fV 1) fNil)) (fC (.int 100))) (fCB bIntS (fCons (fV 3) fNil))) (gN 4))
    (fSeq (fIfS (fB (fOp oNe (fCall 1 F_sum_text [] (cDat (fV 4) cNil)) (fV 0))) (fRaise "BadSum" (fV 0) Xw) fNext)
    F_sum_in_1))
def F_sum_in : FX := fnX 1 5 fun Xw => (fSeq (fAsg (fBM mRpart (fV 0) (fCons (fC (.str (Str.ofString "."))) fNil)) (gT 3 (gsCons (gN 1) (gsCons (gN 2) (gsCons (gN 3) gsNil)))))
    (fSeq (fIfS (fOr (fNot (fB (fCall 3 F_are_figures [] (cDat (fV 1) (cDat (fC (.int 1)) (cDat (fC (.int 5)) cNil)))))) (fNot (fB (fCall 3 F_are_figures [] (cDat (fV 3) (cDat (fC (.int 2)) (cDat (fC (.int 2)) cNil))))))) (fRaise "BadSum" (fV 0) Xw) fNext)
    (F_sum_in_2 Xw)))
def F__law_classes_1 : FT := (fB (fV 4))
def F__law_classes : FN := fnF 1 5 (fSeq (fAsg (fNew (fLst (fCons (fIsX (tabL [("BadSum", true)]) (fV 0)) (fCons (fIsX (tabL [("BadSum", false)]) (fV 0)) (fCons (fIsX (tabL [("BadSum", false)]) (fV 0)) fNil))))) (gN 1))
    (fSeq (fAsg (fOp oCatL (fV 1) (fNew (fLst (fCons (fIsX (tabL [("BadSum", false)]) (fV 0)) (fCons (fIsX (tabL [("BadSum", false)]) (fV 0)) (fCons (fIsX (tabL [("BadSum", false)]) (fV 0)) fNil)))))) (gN 1))
    (fSeq (fAsg (fOp oCatL (fV 1) (fNew (fLst (fCons (fIsX (tabL [("BadSum", false)]) (fV 0)) (fCons (fIsX (tabL [("BadSum", false)]) (fV 0)) (fCons (fIsX (tabL [("BadSum", false)]) (fV 0)) fNil)))))) (gN 1))
    (fSeq (fAsg (fOp oCatL (fV 1) (fNew (fLst (fCons (fIsX (tabL [("BadSum", false)]) (fV 0)) (fCons (fIsX (tabL [("BadSum", false)]) (fV 0)) (fCons (fIsX (tabL [("BadSum", false)]) (fV 0)) fNil)))))) (gN 1))
    (fSeq (fAsg (fOp oCatL (fV 1) (fNew (fLst (fCons (fIsX (tabL [("BadSum", false)]) (fV 0)) (fCons (fIsX (tabL [("BadSum", false)]) (fV 0)) (fCons (fIsX (tabL [("BadSum", false)]) (fV 0)) fNil)))))) (gN 1))
    (fSeq (fAsg (fOp oCatL (fV 1) (fNew (fLst (fCons (fIsX (tabL [("BadSum", false)]) (fV 0)) (fCons (fIsX (tabL [("BadSum", false)]) (fV 0)) fNil))))) (gN 1))
    (fSeq (fAsg (fC (.str (Str.ofString "BadSum BadTag BadText BadOrder BadQuery BadColumn BadRow NoCoin NoEntry NoThing NoChange"))) (gN 2))
    (fSeq (fAsg (fOp oAddS (fV 2) (fC (.str (Str.ofString " BadDay TooLow TooLittle TooMany TooEarly BadDeed")))) (gN 2))
    (fRet (fNew (fLc (iZ (fCons (fBM mSplit (fV 2) (fCons (fC (.str (Str.ofString " "))) fNil)) (fCons (fV 1) fNil))) (gT 2 (gsCons (gN 3) (gsCons (gN 4) gsNil))) F__law_classes_1 (fV 3) [3, 4])))))))))))
def F__law_told_1 : FS := (fRet (fTup (fCons (fOp oCatL (fCall 1 F__law_classes [] (cDat (fV 2) cNil)) (fNew (fRep (fLst (fCons (fC (.str (Str.ofString "ValueError"))) fNil)) (fCB bInt (fCons (fIsX (tabL [("BadSum", true)]) (fV 2)) fNil))))) (fCons (fWhat ["BadSum"] (fV 2)) fNil))))
def F__law_told_2 : FS := (fSeq (fIfS (fB (fOp oIs (fV 2) (fC .none))) (fRet (fTup (fCons (fC (.str (Str.ofString "told"))) (fCons (fV 1) fNil)))) fNext)
    F__law_told_1)
def F__law_told : FN := fnF 1 4 (fSeq (fAsg (fTup (fCons (fC .none) (fCons (fC .none) fNil))) (gT 2 (gsCons (gN 1) (gsCons (gN 2) gsNil))))
    (fSeq (fTryK 3 2 (tabL [("BadSum", true)]) (fun _ _ => False) (fun Xt1 => (fAsg (fCallX 1 F_sum_in [] Xt1 (cDat (fV 0) cNil)) (gN 1))))
    F__law_told_2))
def F__law_right_1 : FS := (fRet (fCall 2 F__law_same [] (cDat (fCall 1 F__law_told [] (cDat (fV 0) cNil)) (cDat (fV 2) cNil))))
def F__law_right : FN := fnF 1 3 (fSeq (fAsg (fCall 1 F__law_read [] (cDat (fV 0) cNil)) (gN 1))
    (fSeq (fAsg (fIf (fB (fOp oIs (fV 1) (fC .none))) (fTup (fCons (fNew (fLst (fCons (fC (.str (Str.ofString "BadSum"))) (fCons (fC (.str (Str.ofString "ValueError"))) fNil)))) (fCons (fV 0) fNil))) (fTup (fCons (fC (.str (Str.ofString "told"))) (fCons (fV 1) fNil)))) (gN 2))
    F__law_right_1))
def F_law_1 : FS := (fRet (fC (.bool true)))
def F_law_2 : FS := (fIfS (fOr (fNot (fB (fCall 1 F__law_right [] (cDat (fV 8) cNil)))) (fOr (fNot (fB (fCall 1 F__law_right [] (cDat (fV 8) cNil)))) (fNot (fB (fCall 1 F__law_right [] (cDat (fV 2) cNil)))))) (fRet (fC (.bool false))) fNext)
def F_law_3 : FS := (fSeq (fAsg (fOp oEq (fCall 2 F__law_take [] (cOwn 4 (cDat (fC (.int 3)) cNil))) (fC (.int 0))) (gN 7))
    (fSeq (fAsg (fCall 2 F__law_spoilt [] (cOwn 4 (cDat (fV 2) cNil))) (gN 8))
    (fSeq (fAsg (fIf (fB (fV 7)) (fCall 2 F__law_spoilt [] (cOwn 4 (cDat (fV 8) cNil))) (fV 8)) (gN 8))
    F_law_2)))
def F_law_4 : FS := (fSeq (fOwn 4 (fCallW 2 F__law_box [] (cDat (fV 0) (cDat (fV 3) cNil))))
    (fSeq (fAsg (fCall 2 F__law_take [] (cOwn 4 (cDat (fOp oIxL (fNew (fLst (fCons (fC (.int 100)) (fCons (fC (.int 10000)) (fCons (fOp oPow (fC (.int 10)) (fC (.int 7))) fNil))))) (fCall 2 F__law_take [] (cOwn 4 (cDat (fC (.int 3)) cNil)))) cNil))) (gN 5))
    (fSeq (fAsg (fOp oAddS (fOp oAddS (fCB bStrI (fCons (fOp oDiv (fV 5) (fC (.int 100))) fNil)) (fC (.str (Str.ofString ".")))) (fSl sS (fCB bStrI (fCons (fOp oAdd (fC (.int 100)) (fOp oMod (fV 5) (fC (.int 100)))) fNil)) (pSo (fC (.int 1))) pNo)) (gN 2))
    (fFor [6, 7, 8] (iR1 (fCons (fC (.int 12)) fNil)) (gN 6) F_law_3))))
def F_law_5 : FS := (fSeq (fFor [2, 3, 4, 5, 6, 7, 8] (iR1 (fCons (fOp oAdd (fC (.int 1)) (fCB bMin (fCons (fC (.int 6)) (fCons (fCB bLen (fCons (fV 0) fNil)) fNil)))) fNil)) (gN 3) F_law_4)
    F_law_1)
def F_law_6 : FE := (fCall 1 F__law_right [] (cDat (fV 2) cNil))
def F_law : FN := fnF 1 9 (fSeq (fAsg (fNew (fLst (fCons (fC (.str (Str.ofString ""))) (fCons (fC (.str (Str.ofString "."))) (fCons (fC (.str (Str.ofString "0"))) (fCons (fC (.str (Str.ofString "0.0"))) (fCons (fC (.str (Str.ofString "0.000"))) (fCons (fC (.str (Str.ofString ".05"))) (fCons (fC (.str (Str.ofString "5."))) (fCons (fC (.str (Str.ofString "00.05"))) (fCons (fC (.str (Str.ofString "1.2.3"))) (fCons (fC (.str (Str.ofString " 1.00"))) (fCons (fC (.str (Str.ofString "1.00 "))) (fCons (fC (.str (Str.ofString "+1.00"))) (fCons (fC (.str (Str.ofString "1,00"))) (fCons (fC (.str (Str.ofString "1.00\n"))) fNil)))))))))))))))) (gN 1))
    (fSeq (fAsg (fOp oCatL (fV 1) (fNew (fLst (fCons (fC (.str (Str.ofString "100000.00"))) (fCons (fC (.str (Str.ofString "1234567890123456789.00"))) (fCons (fC (.str (Str.ofString "1_0.00"))) (fCons (fC (.str (Str.ofString "1e1.00"))) (fCons (fC (.str (Str.ofString "1.-5"))) (fCons (fC (.str (Str.ofString "1.+5"))) (fCons (fC (.str (Str.ofString "-0.00"))) (fCons (fC (.str (Str.ofString "-1.00"))) fNil))))))))))) (gN 1))
    (fSeq (fIfS (fNot (fB (fCB bAll (fCons (fNew (fLc (iL (fV 1)) (gN 2) fYes F_law_6 [2])) fNil)))) (fRet (fC (.bool false))) fNext)
    F_law_5)))
local macro_rules | `(tactic| walk_at "f") => `(tactic| simp only [fnF, fSeq, fNext, fRet, fRetN, fAsg, fDrop, fIfS, fAnd, fOr, fNot, fAndV, fOrV, fNotV, fB, fTru, truF, boolF, fOp, fUn, fV, fC, fCons, fNil, fCB, fBM, fCall, cNil, cDat, cOwn, argF, wb, ownIx, fTup, fNew, fLst, fIf, fChain, o2, o2c, oStr, oEqB, oEqD, oNeD, oIsB, isNone, oInSB, oIn, seqF, oIxL, oIxT, oIxS, oIx, fSl, pNo, pSo, sL, sT, sS, listF, tupleF, strF, intF, ownF, fIxO, fLenO, fInO, fAppend, gSubO, gN, gT, gsCons, gsNil, fPar, fPar3, fAug, fFreeze, fOwn, slotF, sz0, sz1, sz2, sz3, sz4, sz5, sz6, sz7, sz8, sz9, sz10, sz11, sz12, sz13, sz14, sz15, sz16, sz17, sz18, sz19, sz20, Nat.reduceLT, Nat.reduceLeDiff, isObjD, fParO1, fParO2, fPar3O3, fAugO, fEqO, fFld, fMk, fMkN, fCallN, List.drop_zero, List.drop_succ_cons, Int.reduceToNat, Int.reducePow, Int.reduceNeg, Int.reduceLE, Int.reduceLT, Int.cast_ofNat_Int, F__law_take, fgt, List.tail_cons, List.headD_cons, at0, at1, at2, at3, at4, Int.zero_add, Int.not_lt, Int.not_le, Nat.not_lt, Nat.not_le, ite_not, fYes, fIsi, oCatL, oCatT, fRep, uNeg, bLenS, bLen, bAbs, bMin, bMax, bDivmod, bAll, bAny, bSum, bInt, bBool, bList, bTuple, one, two, iL, iT, iS, iR1, iR2, iR3, iE, iZ, fBreak, fCont, fNever, fnM, fRetO, fRetW, fCallW, fCallNW, fCBN, nList, nSortI, nSortS, fOpN, nCat, fSlN, fRev, fPopAt, fPop, fInsert, fExtend, fReverse, fIsiLT, bMax3, F__law_same, fParOO, fnX, fCallX, fCallNX, fRaise, fTryK, fIsX, fWhat, excF, excD, tabL, fldD, noX, oIsT, isBool, fCallV, funF, tabF, fnD, iA, fRevS,
  List.getElem?_cons_zero, List.getElem?_cons_succ, List.getElem?_nil, List.cons_append, List.nil_append, List.append_nil, List.set_cons_zero, List.set_cons_succ, List.map_cons, List.map_nil, List.length_cons, List.length_nil, List.nodup_nil, List.nodup_cons, List.not_mem_nil, not_false_eq_true, and_self, and_true, true_and, List.replicate_succ, List.replicate_zero, List.take_succ_cons, List.take_zero, Nat.reduceSub, Nat.reduceAdd, Nat.zero_add, decide_eq_true_eq, Bool.not_eq_true', decide_eq_false_iff_not, if_true, if_false, Bool.not_true, Bool.not_false, Bool.false_eq_true, reduceIte, id, not_true_eq_false, reduceCtorEq, fFor, fLc, fWhile, wipeF, kit_none_int, kit_none_bool, kit_none_str, kit_none_list, kit_none_tuple, kit_bool_int, kit_bool_bool, kit_bool_str, kit_bool_list, kit_bool_tuple, kit_int_int, kit_int_bool, kit_int_str, kit_int_list, kit_int_tuple, kit_str_int, kit_str_bool, kit_str_str, kit_str_list, kit_str_tuple, kit_list_int, kit_list_bool, kit_list_str, kit_list_list, kit_list_tuple, kit_tuple_int, kit_tuple_bool, kit_tuple_str, kit_tuple_list, kit_tuple_tuple, Option.some.injEq, exists_eq_left', exists_eq_left, List.all_cons, List.all_nil, Bool.and_true, Bool.and_self, List.cons.injEq, Nat.reduceMul , bStrI, mZfill, mStr1, bIntS])

local macro_rules | `(tactic| walk_at "w") => `(tactic| try walk_at "f")
/-! ### how a law begins, over data -/
theorem one_or (p : Prop) [Decidable p] : (if p then (1 : Int) else 0) = 0 ∨ (if p then (1 : Int) else 0) = 1 := by
  by_cases h : p
  · exact .inr (if_pos h)
  · exact .inl (if_neg h)
theorem f_box {ns : List Int} {k : Nat} (hk : k < 1000) {P : List PyData → List Sl → Prop} (h : ∀ ds sl, BoxD ds 0 → P ds sl) : F__law_box [.fz (.list (ns.map .int)), .fz (.int k)] P := by
  have fin : ∀ c : Int, F__law_box_1 { nx := fun _ => False, rt := fun _ _ => False, ro := fun ds ρ' => P ds (ρ'.take 2) } [.fz (.list (ns.map .int)), .fz (.int k), .fz (.int c)] := by
    intro c
    unfold F__law_box_1
    walk_at "f"
    refine ⟨⟨by decide, by decide, by decide⟩, ?_⟩
    have hz : ∀ z : Int, (z = 0 ∨ z = 1) → (CMul (if c < 0 then -c else c) z) ∧ 0 ≤ (if c < 0 then -c else c) * z := by
      intro z hz
      refine ⟨.inr (by rcases hz with rfl | rfl <;> decide), ?_⟩
      rcases hz with rfl | rfl
      · rw [Int.mul_zero]; exact Int.le_refl _
      · rw [Int.mul_one]; split <;> omega
    have hz' := hz (if 1000000000000000000 ≤ (if c < 0 then -c else c) then 1 else 0) (one_or _)
    have m0 : 0 ≤ c % 2147483629 := Int.emod_nonneg _ (by decide)
    have m1 : c % 2147483629 < 2147483629 := Int.emod_lt_of_pos _ (by decide)
    exact ⟨hz'.1, .inl ⟨by decide, by decide⟩, .inr ⟨by decide, by decide⟩, h _ _ ⟨_, _, _, rfl, hz'.2, Int.emod_nonneg _ (by decide), Int.emod_lt_of_pos _ (by decide), by decide, by decide⟩⟩
  unfold F__law_box
  walk_at "f"
  rw [List.length_map]
  by_cases hl : (k : Int) < ns.length
  · rw [if_pos hl]
    have hkn : k < ns.length := by omega
    refine ⟨.int ns[k], by rw [atI_map, atI_nat' (List.getElem?_eq_getElem hkn)]; rfl, ?_⟩
    exact fin _
  · rw [if_neg hl]
    exact fin _
theorem f_figs {w : Str} {lo hi : Int} (hw : w.length ≤ 100000) {P : PyData → List Sl → Prop} (h : ∀ sl, P (.bool (decide (lo ≤ w.length) && (decide ((w.length : Int) ≤ hi) && figs (tl w)))) sl) : F_are_figures [.fz (.str w), .fz (.int lo), .fz (.int hi)] P := by
  have lin : sizeLine = 16777216 := by decide +kernel
  unfold F_are_figures
  walk_at "w"
  refine ⟨by omega, ?_⟩
  by_cases c1 : lo ≤ w.length
  · rw [if_pos c1]
    rw [decide_eq_true c1, Bool.true_and] at h
    by_cases c2 : (w.length : Int) ≤ hi
    · rw [if_pos c2]
      rw [decide_eq_true c2, Bool.true_and] at h
      refine lc_map (tl w) (fun c => .str ⟨#[c]⟩) (fun c => some (.bool (decide (48 ≤ c ∧ c ≤ 57)))) rfl rfl (by rw [← len_tl]; omega) (fun c R acc _ hacc hR => ?_) ?_
      · unfold F_are_figures_1
        walk_at "w"
        refine ⟨c, rfl, hacc, ?_⟩
        rw [show decide (c ∈ (Str.ofString "0123456789").cps.toList) = decide (48 ≤ c ∧ c ≤ 57) from ten_mem c]
        exact hR
      · rw [filterMap_some, show ((tl w).map fun c => PyData.bool (decide (48 ≤ c ∧ c ≤ 57))) = ((tl w).map fun c => decide (48 ≤ c ∧ c ≤ 57)).map PyData.bool from by rw [List.map_map]; rfl]
        refine boolsF_map ?_
        rw [List.all_map]
        exact h _
    · rw [if_neg c2]
      rw [decide_eq_false c2, Bool.false_and] at h
      exact h _
  · rw [if_neg c1]
    rw [decide_eq_false c1, Bool.false_and] at h
    exact h _
theorem slen_app (x y : Str) : (x ++ y).length = x.length + y.length := by rw [len_tl, len_tl x, len_tl y, tl_append, List.length_append]
theorem f_sum_text {n : Nat} (hn : n < 10 ^ 12) {P : PyData → List Sl → Prop} (h : ∀ sl, P (.str (sumT n)) sl) : F_sum_text [.fz (.int n)] P := by
  have l1 : (Str.ofString (toString ((n : Int) / 100))).length ≤ 10 := by
    have e : ((n : Nat) : Int) / 100 = ((n / 100 : Nat) : Int) := by omega
    rw [e, len_tl, tl_num]
    exact numL_len (by decide) (by omega)
  have l2 : (Txt.zfill (Str.ofString (toString ((n : Int) % 100))) 2).length = 2 := by
    have e : ((n : Nat) : Int) % 100 = ((n % 100 : Nat) : Int) := by omega
    rw [e, len_tl, tl_zfill2 (Nat.mod_lt _ (by decide))]
    rfl
  have l3 : (Str.ofString ".").length = 1 := by decide +kernel
  have l4 : sizeLine = 16777216 := by decide +kernel
  unfold F_sum_text
  walk_at "w"
  refine ⟨⟨by decide, by decide⟩, log2_ok18 (by omega), by rw [l3, l4]; omega, log2_ok18 (by omega), rfl, by rw [slen_app, l2, l3, l4]; omega, ?_⟩
  exact h _
theorem last_dot {l : List Nat} (h : 46 ∈ l) : ∃ A B, l = A ++ 46 :: B ∧ 46 ∉ B := by
  induction l with
  | nil => cases h
  | cons c l ih =>
    by_cases hl : 46 ∈ l
    · obtain ⟨A, B, e, hB⟩ := ih hl
      exact ⟨c :: A, B, by rw [e]; rfl, hB⟩
    · rcases List.mem_cons.mp h with e | e
      · exact ⟨[], l, by rw [← e]; rfl, hl⟩
      · exact absurd e hl
theorem dot_last {A B A' B' : List Nat} (h : A ++ 46 :: B = A' ++ 46 :: B') (hB : 46 ∉ B) (hB' : 46 ∉ B') : A = A' ∧ B = B' := by
  have h2 := congrArg List.reverse h
  rw [List.reverse_append, List.reverse_append, List.reverse_cons, List.reverse_cons, List.append_assoc, List.append_assoc] at h2
  obtain ⟨e1, e2⟩ := dot_uniq (A := B.reverse) (B := A.reverse) (A' := B'.reverse) (B' := A'.reverse) h2 (fun m => hB (List.mem_reverse.mp m)) (fun m => hB' (List.mem_reverse.mp m))
  exact ⟨List.reverse_inj.mp e2, List.reverse_inj.mp e1⟩
theorem val_lt : ∀ {cs : List Nat}, NumText.AllDigits cs → ∀ a : Nat, cs.foldl (fun acc c => acc * 10 + (c - 48)) a < (a + 1) * 10 ^ cs.length
  | [], _, a => by show a < (a + 1) * 1; omega
  | c :: cs, h, a => by
    have hc := h.head
    have ih := val_lt h.tail (a * 10 + (c - 48))
    have e : (a * 10 + (c - 48) + 1) * 10 ^ cs.length ≤ ((a + 1) * 10) * 10 ^ cs.length := Nat.mul_le_mul_right _ (by omega)
    rw [List.foldl_cons, List.length_cons, Nat.pow_succ, Nat.mul_comm (10 ^ cs.length), ← Nat.mul_assoc]
    omega
theorem tl_inj' {x y : Str} (h : tl x = tl y) : x = y := by
  cases x; cases y
  exact congrArg Str.mk (Array.toList_inj.mp h)
theorem mkS (A : List Nat) : (⟨A.toArray⟩ : Str).length = A.length ∧ tl (⟨A.toArray⟩ : Str) = A := ⟨List.size_toArray .., rfl⟩
/-- what a text tells, by the program -/
theorem f_sum_in {z : Str} (hz : TextOk z) {P X : PyData → List Sl → Prop} (hg : ∀ A B, Good z A B → ∀ sl, P (.int (NumText.digitsVal (A ++ B) : Nat)) sl) (hx : (¬ ∃ A B, Good z A B) → ∀ sl, X (excD "BadSum" (.str z)) sl) : F_sum_in [.fz (.str z)] P X := by
  have lin : sizeLine = 16777216 := by decide +kernel
  have z1 := hz.1
  rw [len_tl] at z1
  unfold F_sum_in
  walk_at "w"
  refine ⟨⟨by decide +kernel, by rw [len_tl]; omega⟩, ?_⟩
  by_cases hd : 46 ∈ tl z
  · obtain ⟨A, B, e, hB⟩ := last_dot hd
    rw [e, List.length_append, List.length_cons] at z1
    rw [rp_one e hB]
    walk_at "w"
    refine f_figs (by rw [(mkS A).1]; omega) fun _ => ?_
    rw [(mkS A).1, (mkS A).2]
    walk_at "w"
    have no : ¬ (1 ≤ A.length ∧ A.length ≤ 5 ∧ figs A = true ∧ B.length = 2 ∧ figs B = true) → ¬ ∃ A B, Good z A B := fun n ⟨A', B', g⟩ => by
      obtain ⟨rfl, rfl⟩ := dot_last (e.symm.trans g.eq) hB (figs_free g.fb)
      exact n ⟨g.a1, g.a5, g.fa, g.b2, g.fb⟩
    refine ite2 (fun c => hx (no fun ⟨h1, h2, h3, _, _⟩ => ?_) _) (fun c => ?_)
    · rw [decide_eq_true (by omega), decide_eq_true (by omega), h3] at c
      cases c
    obtain ⟨c1, c2, c3⟩ : 1 ≤ A.length ∧ A.length ≤ 5 ∧ figs A = true := by
      rw [Bool.not_eq_false, Bool.and_eq_true, Bool.and_eq_true, decide_eq_true_eq, decide_eq_true_eq] at c
      exact ⟨by omega, by omega, c.2.2⟩
    refine f_figs (by rw [(mkS B).1]; omega) fun _ => ?_
    rw [(mkS B).1, (mkS B).2]
    walk_at "w"
    refine ite2 (fun c => hx (no fun ⟨_, _, _, h4, h5⟩ => ?_) _) (fun c => ?_)
    · rw [decide_eq_true (by omega), decide_eq_true (by omega), h5] at c
      cases c
    obtain ⟨c4, c5⟩ : B.length = 2 ∧ figs B = true := by
      rw [Bool.not_eq_false, Bool.and_eq_true, Bool.and_eq_true, decide_eq_true_eq, decide_eq_true_eq] at c
      exact ⟨by omega, c.2.2⟩
    obtain ⟨v1, v2, v3⟩ := val_two (A := A) c5 c4
    have v4 : NumText.digitsVal A < 100000 := by
      have := val_lt (figs_iff.mp c3) 0
      have p5 : 10 ^ A.length ≤ 10 ^ 5 := Nat.pow_le_pow_right (by decide) c2
      have e0 : NumText.digitsVal A = A.foldl (fun acc c => acc * 10 + (c - 48)) 0 := rfl
      omega
    unfold F_sum_in_2
    walk_at "w"
    refine ⟨_, int_of_figs (z := ⟨A.toArray⟩) c3 (List.ne_nil_of_length_pos c1) (by rw [(mkS A).1]; omega), by rw [(mkS A).1]; omega, .inr ⟨by decide, by decide⟩, _, int_of_figs (z := ⟨B.toArray⟩) c5 (show B ≠ [] from List.ne_nil_of_length_pos (by omega)) (by rw [(mkS B).1]; omega), by rw [(mkS B).1]; omega, ?_⟩
    rw [(mkS A).2, (mkS B).2, show ((NumText.digitsVal A : Nat) : Int) * 100 + (NumText.digitsVal B : Nat) = ((NumText.digitsVal A * 100 + NumText.digitsVal B : Nat) : Int) from by rw [Int.natCast_add, Int.natCast_mul]; rfl, ← v1]
    refine f_sum_text (by omega) fun _ => ?_
    walk_at "w"
    have key : sumT (NumText.digitsVal (A ++ B) : Nat) = z ↔ (A.length = 1 ∨ A.head? ≠ some 48) := by
      have e1 : tl (sumT (NumText.digitsVal (A ++ B) : Nat)) = numL (NumText.digitsVal A) ++ 46 :: B := by
        rw [tl_sumT, v1]
        unfold figL
        rw [show (NumText.digitsVal A * 100 + NumText.digitsVal B) / 100 = NumText.digitsVal A from by omega, show (NumText.digitsVal A * 100 + NumText.digitsVal B) % 100 = NumText.digitsVal B from by omega, show (NumText.digitsVal A * 100 + NumText.digitsVal B) % 10 = NumText.digitsVal B % 10 from by omega, ← v3]
      constructor
      · intro h
        rw [h, e] at e1
        exact numL_lead (dot_last e1 hB hB).1.symm
      · intro h
        rw [numL_back c3 c1 h, ← e] at e1
        exact tl_inj' e1
    refine ite2 (fun c => ?_) fun c => hx (fun ⟨A', B', g⟩ => ?_) _
    · unfold F_sum_in_1
      walk_at "w"
      exact hg A B ⟨e, c3, c5, c1, c2, c4, key.mp c⟩ _
    · obtain ⟨rfl, rfl⟩ := dot_last (e.symm.trans g.eq) hB (figs_free g.fb)
      exact c (key.mpr g.lead)
  · have nz : ¬ ∃ A B, Good z A B := fun ⟨A, B, g⟩ => hd (by rw [g.eq]; exact List.mem_append_right _ List.mem_cons_self)
    rw [rp_none hd]
    walk_at "w"
    refine f_figs (by show 0 ≤ 100000; decide) fun _ => ?_
    walk_at "w"
    exact hx nz _
/-- what a text tells, by the law -/
theorem f_read {z : Str} (hz : TextOk z) {P : PyData → List Sl → Prop} (hg : ∀ A B, Good z A B → ∀ sl, P (.int (NumText.digitsVal (A ++ B) : Nat)) sl) (hn : (¬ ∃ A B, Good z A B) → ∀ sl, P .none sl) : F__law_read [.fz (.str z)] P := by
  have lin : sizeLine = 16777216 := by decide +kernel
  have z1 := hz.1
  unfold F__law_read
  walk_at "w"
  refine ⟨⟨by decide +kernel, by omega⟩, ?_⟩
  walk_at "w"
  rw [List.length_map]
  by_cases h2 : (Txt.split z (Str.ofString ".")).length = 2
  · obtain ⟨p, q, es, e, hp, hq⟩ := split_two h2
    have zl : p.length + q.length + 1 = z.length := by rw [len_tl z, e, List.length_append, List.length_cons, len_tl p, len_tl q]; omega
    rw [if_pos (by omega), es]
    have no : ¬ (1 ≤ (tl p).length ∧ (tl p).length ≤ 5 ∧ figs (tl p) = true ∧ (tl q).length = 2 ∧ figs (tl q) = true ∧ ((tl p).length = 1 ∨ (tl p).head? ≠ some 48)) → ¬ ∃ A B, Good z A B := fun n ⟨A', B', g⟩ => by
      obtain ⟨e1, e2⟩ := dot_last (e.symm.trans g.eq) hq (figs_free g.fb)
      exact n (by rw [e1, e2]; exact ⟨g.a1, g.a5, g.fa, g.b2, g.fb, g.lead⟩)
    refine ⟨.str p, rfl, ?_⟩
    walk_at "w"
    have lp := len_tl p
    have lq := len_tl q
    refine ⟨by omega, ?_⟩
    refine ite2 (fun c1 => ?_) fun c1 => hn (no fun n => by omega) _
    refine ite2 (fun c2 => hn (no fun n => by omega) _) fun c2 => ?_
    refine ⟨by omega, ?_⟩
    refine ite2 (fun c3 => ?_) fun c3 => hn (no fun n => by omega) _
    unfold F__law_read_4
    walk_at "w"
    refine ⟨by omega, ?_⟩
    refine lc_map (tl (p ++ q)) (fun c => .str ⟨#[c]⟩) (fun c => some (.bool (decide (48 ≤ c ∧ c ≤ 57)))) rfl rfl (by rw [tl_append, List.length_append]; omega) (fun c R acc _ hacc hR => ?_) ?_
    · unfold F__law_read_3
      walk_at "w"
      refine ⟨c, rfl, hacc, ?_⟩
      rw [show decide (c ∈ (Str.ofString "0123456789").cps.toList) = decide (48 ≤ c ∧ c ≤ 57) from ten_mem c]
      exact hR
    rw [filterMap_some, show ((tl (p ++ q)).map fun c => PyData.bool (decide (48 ≤ c ∧ c ≤ 57))) = ((tl (p ++ q)).map fun c => decide (48 ≤ c ∧ c ≤ 57)).map PyData.bool from by rw [List.map_map]; rfl]
    refine boolsF_map ?_
    rw [List.all_map, tl_append, List.all_append, show (tl p).all (id ∘ fun c => decide (48 ≤ c ∧ c ≤ 57)) = figs (tl p) from rfl, show (tl q).all (id ∘ fun c => decide (48 ≤ c ∧ c ≤ 57)) = figs (tl q) from rfl]
    refine ite2 (fun c4 => hn (no fun n => ?_) _) fun c4 => ?_
    · rw [n.2.2.1, n.2.2.2.2.1] at c4
      cases c4
    obtain ⟨c5, c6⟩ : figs (tl p) = true ∧ figs (tl q) = true := by
      rw [Bool.not_eq_false, Bool.and_eq_true] at c4
      exact c4
    unfold F__law_read_2
    walk_at "w"
    refine ⟨by omega, ?_⟩
    have fin : ((tl p).length = 1 ∨ (tl p).head? ≠ some 48) → F__law_read_1 { nx := fun ρ' => P .none (ρ'.take 1), rt := fun d ρ' => P d (ρ'.take 1) } [.fz (.str z), .fz (.list [.str p, .str q]), .no] := by
      intro ld
      unfold F__law_read_1
      walk_at "w"
      refine ⟨by omega, ?_⟩
      have g : Good z (tl p) (tl q) := ⟨e, c5, c6, by omega, by omega, by omega, ld⟩
      have fpq : figs (tl (p ++ q)) = true := by
        rw [tl_append]
        unfold figs at c5 c6 ⊢
        rw [List.all_append, c5, c6]
        rfl
      refine ⟨_, int_of_figs fpq (List.ne_nil_of_length_pos (by rw [tl_append, List.length_append]; omega)) (by rw [slen_app]; omega), by rw [slen_app]; omega, ?_⟩
      rw [tl_append]
      exact hg _ _ g _
    refine ite2 (fun c7 => ?_) fun c7 => fin (.inl (by omega))
    obtain ⟨c, r, ec⟩ : ∃ c r, tl p = c :: r := by
      cases hh : tl p with
      | nil => rw [hh] at lp; exact absurd lp (by show ¬ _ = 0; omega)
      | cons c r => exact ⟨c, r, rfl⟩
    refine ⟨by omega, c, by show atI (tl p) ((0 : Nat) : Int) = some c; rw [ec]; exact atI_nat' rfl, ?_⟩
    refine ite2 (fun c8 => hn (no fun n => ?_) _) fun c8 => fin (.inr fun z => ?_)
    · have h0 : c = 48 := by
        have := congrArg tl c8
        rw [show tl (Str.ofString "0") = [48] from by decide +kernel] at this
        exact (List.cons.inj this).1
      rcases n.2.2.2.2.2 with n | n
      · omega
      · exact n (by rw [ec, h0]; rfl)
    · rw [ec] at z
      have h0 : c = 48 := Option.some.inj z
      exact c8 (by rw [h0]; decide +kernel)
  · rw [if_neg (by omega)]
    exact hn (split_not h2) _
def clsWords : List Str := [Str.ofString "BadSum", Str.ofString "BadTag", Str.ofString "BadText", Str.ofString "BadOrder", Str.ofString "BadQuery", Str.ofString "BadColumn", Str.ofString "BadRow", Str.ofString "NoCoin", Str.ofString "NoEntry", Str.ofString "NoThing", Str.ofString "NoChange", Str.ofString "BadDay", Str.ofString "TooLow", Str.ofString "TooLittle", Str.ofString "TooMany", Str.ofString "TooEarly", Str.ofString "BadDeed"]
theorem clsWords_split : Txt.split (Str.ofString "BadSum BadTag BadText BadOrder BadQuery BadColumn BadRow NoCoin NoEntry NoThing NoChange" ++ Str.ofString " BadDay TooLow TooLittle TooMany TooEarly BadDeed") (Str.ofString " ") = clsWords := by decide +kernel
theorem zipD_wb (ws : List Str) (bs : List Bool) : zipD (ws.map PyData.str) (bs.map PyData.bool) = (ws.zip bs).map fun z => .tuple [.str z.1, .bool z.2] := by
  unfold zipD
  rw [List.zip_map, List.map_map]
  rfl
theorem f_classes {z : Str} {P : PyData → List Sl → Prop} (h : ∀ sl, P (.list [.str (Str.ofString "BadSum")]) sl) : F__law_classes [.fz (excD "BadSum" (.str z))] P := by
  have lin : sizeLine = 16777216 := by decide +kernel
  unfold F__law_classes
  walk_at "w"
  refine ⟨by decide +kernel, ⟨by decide +kernel, by decide +kernel⟩, ?_⟩
  rw [clsWords_split]
  refine lc_map (clsWords.zip (true :: List.replicate 16 false)) (fun z => .tuple [.str z.1, .bool z.2]) (fun z => if z.2 = true then some (.str z.1) else none) (zipD_wb clsWords (true :: List.replicate 16 false)) rfl (by show 17 ≤ _; omega) (fun w R acc _ hacc hR => ?_) ?_
  · unfold F__law_classes_1
    walk_at "w"
    cases hw : w.2 with
    | true =>
      rw [hw] at hR
      exact ⟨hacc, hR⟩
    | false =>
      rw [hw, if_neg (by decide), Option.toList_none, List.append_nil] at hR
      exact hR
  · exact h _
theorem f_told {z : Str} (hz : TextOk z) {P : PyData → List Sl → Prop} (hg : ∀ A B, Good z A B → ∀ sl, P (.tuple [.str (Str.ofString "told"), .int (NumText.digitsVal (A ++ B) : Nat)]) sl) (hn : (¬ ∃ A B, Good z A B) → ∀ sl, P (.tuple [.list [.str (Str.ofString "BadSum"), .str (Str.ofString "ValueError")], .str z]) sl) : F__law_told [.fz (.str z)] P := by
  have lin : sizeLine = 16777216 := by decide +kernel
  unfold F__law_told
  walk_at "w"
  refine f_sum_in hz (fun A B g _ => ?_) fun n _ => ?_
  · unfold F__law_told_2
    walk_at "w"
    exact hg A B g _
  · refine ⟨true, rfl, ?_⟩
    unfold F__law_told_2
    walk_at "w"
    unfold F__law_told_1
    walk_at "w"
    refine f_classes fun _ => ?_
    walk_at "w"
    exact ⟨by show 2 ≤ _; omega, List.mem_cons_self, hn n _⟩
theorem shaped_told {z : Str} (hz : TextOk z) : SeqAt.shaped (.tuple [.list [.str (Str.ofString "BadSum"), .str (Str.ofString "ValueError")], .str z]) = true ∧ ∀ n : Int, SeqAt.shaped (.tuple [.str (Str.ofString "told"), .int n]) = true := by
  have h : PyData.strOk z = true := by
    show z.cps.all (· < 0x110000) = true
    refine Array.all_eq_true_iff_forall_mem.mpr fun c hc => ?_
    exact decide_eq_true (hz.2 c (Array.mem_toList_iff.mpr hc))
  constructor
  · show (((PyData.strOk (Str.ofString "BadSum") && (PyData.strOk (Str.ofString "ValueError") && true)) && (PyData.strOk z && true)) && decide _) = true
    rw [h, show PyData.strOk (Str.ofString "BadSum") = true from by decide +kernel, show PyData.strOk (Str.ofString "ValueError") = true from by decide +kernel]
    rfl
  · intro n
    show ((PyData.strOk (Str.ofString "told") && (true && true)) && decide _) = true
    rw [show PyData.strOk (Str.ofString "told") = true from by decide +kernel]
    rfl
theorem f_right {z : Str} (hz : TextOk z) {P : PyData → List Sl → Prop} (h : ∀ sl, P (.bool true) sl) : F__law_right [.fz (.str z)] P := by
  obtain ⟨s1, s2⟩ := shaped_told hz
  unfold F__law_right
  walk_at "w"
  refine f_read hz (fun A B g _ => ?_) fun n _ => ?_
  · walk_at "w"
    unfold F__law_right_1
    walk_at "w"
    refine f_told hz (fun A' B' g' _ => ?_) fun n => absurd ⟨A, B, g⟩ n
    obtain ⟨rfl, rfl⟩ := g.uniq g'
    exact ⟨rfl, s2 _, by show (1 : Nat) < 8; decide, by show 3 ≤ 1000000; decide, fun _ => h _⟩
  · walk_at "w"
    unfold F__law_right_1
    walk_at "w"
    refine f_told hz (fun A' B' g' => absurd ⟨A', B', g'⟩ n) fun n _ => ?_
    exact ⟨rfl, s1, by show (2 : Nat) < 8; decide, by show 5 ≤ 1000000; decide, fun _ => h _⟩
def CharsOk (z : Str) : Prop := ∀ c ∈ tl z, c < 0x110000
theorem CharsOk.app {x y : Str} (a : CharsOk x) (b : CharsOk y) : CharsOk (x ++ y) := fun c hc => by
  rw [tl_append] at hc
  rcases List.mem_append.mp hc with h | h
  · exact a c h
  · exact b c h
theorem CharsOk.cut {x : Str} (a : CharsOk x) (lo hi : Option Int) : CharsOk (cutS x lo hi) := fun c hc => a c (List.mem_of_mem_drop (List.mem_of_mem_take hc))
theorem CharsOk.rev {x : Str} (a : CharsOk x) : CharsOk (revS x) := fun c hc => a c (List.mem_reverse.mp hc)
theorem revS_len (x : Str) : (revS x).length = x.length := by
  show x.cps.toList.reverse.toArray.size = x.cps.size
  rw [List.size_toArray, List.length_reverse, Array.length_toList]
theorem sign_ok {l : List Nat} (hl : l.all (fun c => decide (c < 128)) = true) {k : Int} {c : Nat} (h : atI l k = some c) : CharsOk ⟨#[c]⟩ := fun d hd => by
  have e : d = c := by simpa using hd
  have hm : c ∈ l := by
    unfold atI at h
    cases hk : ixN l.length k with
    | none => rw [hk] at h; cases h
    | some j => rw [hk] at h; exact List.mem_of_getElem? h
  have := of_decide_eq_true (List.all_eq_true.mp hl c hm)
  rw [e]
  omega
theorem f_spoilt {ds : List PyData} {n : Nat} {z : Str} (hb : BoxD ds n) (hn : n < 1000000) (zl : z.length ≤ 50000) (zc : CharsOk z) {P : PyData → List Sl → Prop} (h : ∀ z' ds' sl, z'.length ≤ 3 * z.length + 3 → CharsOk z' → BoxD ds' (n + 6) → P (.str z') (.own ds' :: sl)) : F__law_spoilt [.own ds, .fz (.str z)] P := by
  have lin : sizeLine = 16777216 := by decide +kernel
  unfold F__law_spoilt
  walk_at "w"
  refine take_step hb (by decide) (by decide) (by omega) fun r1 d1 x1 c1 b1 => ⟨by omega, ?_⟩
  refine take_step b1 (by omega) (by omega) (by omega) fun r2 d2 x2 c2 b2 => ⟨by decide +kernel, ?_⟩
  refine take_step b2 (by decide +kernel) (by decide +kernel) (by omega) fun r3 d3 x3 c3 b3 => ⟨by decide +kernel, ?_⟩
  obtain ⟨c, ec, _⟩ := at_mem (xs := (Str.ofString " !\"#$&'()*+,-./0123456789:;<=>?@ABCDEFGHIJKLMNOPQRSTUVWXYZ[\\]^_`abcdefghijklmnopqrstuvwxyz{|}~\n").cps.toList) x3 c3
  refine ⟨c, ec, ?_⟩
  refine take_step b3 (by decide) (by decide) (by omega) fun r4 d4 x4 c4 b4 => ⟨by decide +kernel, ?_⟩
  obtain ⟨c', ec', _⟩ := at_mem (xs := (Str.ofString "0123456789.-").cps.toList) x4 c4
  refine ⟨c', ec', ?_⟩
  refine take_step b4 (by decide) (by decide) (by omega) fun r5 d5 x5 c5 b5 => ?_
  have k1 := sign_ok (by decide +kernel) ec
  have k2 := sign_ok (by decide +kernel) ec'
  obtain ⟨v, e, mm⟩ := at_mem (xs := [PyData.str ⟨#[c]⟩, PyData.str ⟨#[c']⟩]) x5 c5
  obtain ⟨g, rfl, gl, gc⟩ : ∃ g : Str, v = .str g ∧ g.length = 1 ∧ CharsOk g := by
    simp only [List.mem_cons, List.not_mem_nil, or_false] at mm
    rcases mm with rfl | rfl
    · exact ⟨_, rfl, rfl, k1⟩
    · exact ⟨_, rfl, rfl, k2⟩
  refine ⟨_, e, ?_⟩
  have L := cutS_length z
  refine ite2 (fun w1 => ?_) fun w1 => ?_
  · have l1 := L none (some r2)
    have l2 := L (some r2) none
    walk_at "w"
    refine ⟨by omega, by omega, by omega, by rw [slen_app]; omega, ?_⟩
    exact h _ _ _ (by rw [slen_app, slen_app]; omega) (((zc.cut _ _).app gc).app (zc.cut _ _)) (b5.mono (by omega))
  unfold F__law_spoilt_4
  walk_at "w"
  refine ite2 (fun w2 => ?_) fun w2 => ?_
  · have l1 := L none (some r2)
    have l2 := L (some (r2 + 1)) none
    refine ⟨by omega, by omega, by omega, ?_⟩
    exact h _ _ _ (by rw [slen_app]; omega) ((zc.cut _ _).app (zc.cut _ _)) (b5.mono (by omega))
  unfold F__law_spoilt_3
  walk_at "w"
  refine ite2 (fun w3 => ?_) fun w3 => ?_
  · have l1 := L none (some r2)
    have l2 := L (some (r2 + 1)) none
    refine ⟨by omega, by omega, by omega, by rw [slen_app]; omega, ?_⟩
    exact h _ _ _ (by rw [slen_app, slen_app]; omega) (((zc.cut _ _).app gc).app (zc.cut _ _)) (b5.mono (by omega))
  unfold F__law_spoilt_2
  walk_at "w"
  refine ite2 (fun w4 => ?_) fun w4 => ?_
  · have l1 := L none (some r2)
    have l2 := L (some (r2 + 2)) none
    have l3 := L (some r2) (some (r2 + 2))
    refine ⟨by omega, by omega, by omega, by rw [revS_len]; omega, by omega, by rw [slen_app, revS_len]; omega, ?_⟩
    exact h _ _ _ (by rw [slen_app, slen_app, revS_len]; omega) (((zc.cut _ _).app (zc.cut _ _).rev).app (zc.cut _ _)) (b5.mono (by omega))
  unfold F__law_spoilt_1
  walk_at "w"
  refine take_step b5 (by decide) (by decide) (by omega) fun r6 d6 x6 c6 b6 => ⟨by decide +kernel, ?_⟩
  obtain ⟨f, ef, _⟩ := at_mem (xs := (Str.ofString "0123456789").cps.toList) x6 c6
  have k3 := sign_ok (by decide +kernel) ef
  have k4 : CharsOk (Str.ofString "0") := by unfold CharsOk; decide +kernel
  have k5 : CharsOk (Str.ofString "-") := by unfold CharsOk; decide +kernel
  have l6 : (Str.ofString "0").length = 1 := by decide +kernel
  have l7 : (Str.ofString "-").length = 1 := by decide +kernel
  have l8 : (⟨#[f]⟩ : Str).length = 1 := rfl
  refine ⟨f, ef, by rw [l6]; omega, by rw [l8]; omega, by rw [l8]; omega, by rw [l7]; omega, ?_⟩
  obtain ⟨v, e, mm⟩ := at_mem (xs := [PyData.str (Str.ofString "0" ++ z), PyData.str (⟨#[f]⟩ ++ z), PyData.str (z ++ ⟨#[f]⟩), PyData.str (Str.ofString "-" ++ z)]) (r := r1 - 5) (by omega) (by show _ < (4 : Int); omega)
  obtain ⟨y, rfl, yl, yc⟩ : ∃ y : Str, v = .str y ∧ y.length = z.length + 1 ∧ CharsOk y := by
    simp only [List.mem_cons, List.not_mem_nil, or_false] at mm
    rcases mm with rfl | rfl | rfl | rfl
    · exact ⟨_, rfl, by rw [slen_app, l6]; omega, k4.app zc⟩
    · exact ⟨_, rfl, by rw [slen_app, l8]; omega, k3.app zc⟩
    · exact ⟨_, rfl, by rw [slen_app, l8], zc.app k3⟩
    · exact ⟨_, rfl, by rw [slen_app, l7]; omega, k5.app zc⟩
  exact ⟨_, e, h _ _ _ (by omega) yc b6⟩
def someT : List Str := [Str.ofString "", Str.ofString ".", Str.ofString "0", Str.ofString "0.0", Str.ofString "0.000", Str.ofString ".05", Str.ofString "5.", Str.ofString "00.05", Str.ofString "1.2.3", Str.ofString " 1.00", Str.ofString "1.00 ", Str.ofString "+1.00", Str.ofString "1,00", Str.ofString "1.00\n", Str.ofString "100000.00", Str.ofString "1234567890123456789.00", Str.ofString "1_0.00", Str.ofString "1e1.00", Str.ofString "1.-5", Str.ofString "1.+5", Str.ofString "-0.00", Str.ofString "-1.00"]
theorem someT_ok : ∀ z ∈ someT, TextOk z := by unfold TextOk; decide +kernel
theorem f_l2 {E : FEnds} {y z : Str} {a0 a1 a3 a4 a5 a6 a7 : Sl} (hy : TextOk y) (hz : TextOk z) (h : E.nx [a0, a1, .fz (.str z), a3, a4, a5, a6, a7, .fz (.str y)]) : F_law_2 E [a0, a1, .fz (.str z), a3, a4, a5, a6, a7, .fz (.str y)] := by
  unfold F_law_2
  walk_at "w"
  refine f_right hy fun _ => ?_
  walk_at "w"
  refine f_right hy fun _ => ?_
  walk_at "w"
  refine f_right hz fun _ => ?_
  walk_at "w"
  exact h
theorem f_l3 {E : FEnds} {z : Str} {a0 a1 a3 a5 a6 : Sl} {ds : List PyData} {n : Nat} (hb : BoxD ds n) (hn : n < 100000) (zl : z.length ≤ 20) (zc : CharsOk z) (h : ∀ ds' a7 a8, BoxD ds' (n + 20) → E.nx [a0, a1, .fz (.str z), a3, .own ds', a5, a6, .fz a7, .fz a8]) : F_law_3 E [a0, a1, .fz (.str z), a3, .own ds, a5, a6, .no, .no] := by
  unfold F_law_3
  walk_at "w"
  refine take_step hb (by decide) (by decide) (by omega) fun r1 d1 x1 c1 b1 => ?_
  refine f_spoilt b1 (by omega) (by omega) zc fun y d2 _ yl yc b2 => ?_
  walk_at "w"
  refine ite2 (fun c => ?_) fun c => ?_
  · refine f_spoilt b2 (by omega) (by omega) yc fun x d3 _ xl xc b3 => ?_
    walk_at "w"
    exact f_l2 ⟨by omega, xc⟩ ⟨by omega, zc⟩ (h _ _ _ (b3.mono (by omega)))
  · exact f_l2 ⟨by omega, yc⟩ ⟨by omega, zc⟩ (h _ _ _ (b2.mono (by omega)))
theorem f_l4 {E : FEnds} {ns : List Int} {k : Nat} {a1 : Sl} (hk : k < 1000) (h : ∀ a2 a4 a5, E.nx [.fz (.list (ns.map .int)), a1, .fz a2, .fz (.int k), .own a4, .fz a5, .no, .no, .no]) : F_law_4 E [.fz (.list (ns.map .int)), a1, .no, .fz (.int k), .no, .no, .no, .no, .no] := by
  have lin : sizeLine = 16777216 := by decide +kernel
  unfold F_law_4
  walk_at "w"
  refine f_box hk fun ds _ hb => ?_
  walk_at "w"
  refine ⟨⟨by decide, by decide, by decide⟩, ?_⟩
  refine take_step hb (by decide) (by decide) (by omega) fun r1 d1 x1 c1 b1 => ?_
  obtain ⟨v, e, mm⟩ := at_mem (xs := [PyData.int 100, PyData.int 10000, PyData.int 10000000]) x1 c1
  obtain ⟨a, rfl, a0, a1'⟩ : ∃ a, v = .int a ∧ 1 ≤ a ∧ a ≤ 10000000 := by
    simp only [List.mem_cons, List.not_mem_nil, or_false] at mm
    rcases mm with rfl | rfl | rfl <;> exact ⟨_, rfl, by omega, by omega⟩
  refine ⟨_, e, ?_⟩
  walk_at "w"
  refine take_step b1 (by omega) (by omega) (by omega) fun r2 d2 x2 c2 b2 => ?_
  have num : ∀ i : Int, 0 ≤ i → i < 10000000 → (Str.ofString (toString i)).length ≤ 7 ∧ CharsOk (Str.ofString (toString i)) := by
    intro i i0 i1
    obtain ⟨m, rfl⟩ := Int.eq_ofNat_of_zero_le i0
    refine ⟨by rw [len_tl, tl_num]; exact numL_len (by decide) (by omega), fun c hc => ?_⟩
    rw [tl_num] at hc
    have := numL_digits m c hc
    omega
  obtain ⟨n1, n2⟩ := num (r2 / 100) (by omega) (by omega)
  obtain ⟨n3, n4⟩ := num (100 + r2 % 100) (by omega) (by omega)
  have n5 := cutS_length (Str.ofString (toString (100 + r2 % 100))) (some 1) none
  have l3 : (Str.ofString ".").length = 1 := by decide +kernel
  have k3 : CharsOk (Str.ofString ".") := by unfold CharsOk; decide +kernel
  refine ⟨⟨by decide, by decide⟩, log2_ok18 (by omega), by omega, log2_ok18 (by omega), by omega, by rw [slen_app]; omega, ?_⟩
  refine for_range (fun i ρ => ∃ ds', BoxD ds' (2 + 20 * i) ∧ ρ = [.fz (.list (ns.map .int)), a1, .fz (.str (Str.ofString (toString (r2 / 100)) ++ Str.ofString "." ++ cutS (Str.ofString (toString (100 + r2 % 100))) (some 1) none)), .fz (.int k), .own ds', .fz (.int r2), .no, .no, .no]) ⟨d2, b2, rfl⟩ ?_ ?_
  · rintro i ρ hi ⟨d3, b3, rfl⟩
    walk_at "w"
    exact f_l3 b3 (by omega) (by rw [slen_app, slen_app]; omega) ((n2.app k3).app (n4.cut _ _)) fun d4 _ _ b4 => ⟨d4, b4.mono (by omega), rfl⟩
  · rintro ρ ⟨d3, b3, rfl⟩
    exact h _ _ _
theorem f_law {ns : List Int} (hn : ns.length ≤ 63) : F_law [.fz (.list (ns.map .int))] fun d _ => d = .bool true := by
  have lin : sizeLine = 16777216 := by decide +kernel
  unfold F_law
  walk_at "w"
  refine ⟨by omega, ?_⟩
  refine lc_map someT PyData.str (fun _ => some (.bool true)) rfl rfl (by show 22 ≤ _; omega) (fun z R acc hz hacc hR => ?_) ?_
  · unfold F_law_6
    walk_at "w"
    exact f_right (someT_ok z hz) fun _ => ⟨hacc, hR⟩
  refine boolsF_map (bs := List.replicate 22 true) ?_
  refine ite2 (fun z => by cases z) fun _ => ?_
  unfold F_law_5
  walk_at "w"
  rw [List.length_map]
  refine ⟨by split <;> omega, by split <;> omega, ?_⟩
  refine for_range (fun i ρ => ρ = [.fz (.list (ns.map .int)), .fz (.list (someT.map .str)), .no, .no, .no, .no, .no, .no, .no]) rfl ?_ ?_
  · rintro i ρ hi rfl
    walk_at "w"
    exact f_l4 (by split at hi <;> omega) fun _ _ _ => rfl
  · rintro ρ rfl
    rfl
def top (i : Nat) : Stmt := PySem.Challenge.pw_stallshares_k02_sum_texts_spoilt_anywher.main.body.getD i (.Pass ⟨0, 0, 0, 0⟩)
abbrev s__law_box : Stmt := top 27
abbrev N__law_box : List Str := ["_law_script", "_law_k", "_law_cell"]
theorem sc__law_box : FnScope N__law_box ["_law_script", "_law_k"] (defScope s__law_box) := ⟨rfl, rfl, rfl, by decide +kernel, rfl, by decide +kernel, by decide +kernel⟩
abbrev s__law_take : Stmt := top 28
abbrev N__law_take : List Str := ["_law_box_here", "_law_size", "_law_found", "_law_step", "_law_once", "_law_twice"]
theorem sc__law_take : FnScope N__law_take ["_law_box_here", "_law_size"] (defScope s__law_take) := ⟨rfl, rfl, rfl, by decide +kernel, rfl, by decide +kernel, by decide +kernel⟩
abbrev s__law_spoilt : Stmt := top 32
abbrev N__law_spoilt : List Str := ["_law_box_here", "_law_text", "_law_signs", "_law_way", "_law_at", "_law_sign", "_law_figure"]
theorem sc__law_spoilt : FnScope N__law_spoilt ["_law_box_here", "_law_text"] (defScope s__law_spoilt) := ⟨rfl, rfl, rfl, by decide +kernel, rfl, by decide +kernel, by decide +kernel⟩
abbrev s__law_read : Stmt := top 31
abbrev N__law_read : List Str := ["_law_text", "_law_parts", "_law_sign"]
theorem sc__law_read : FnScope N__law_read ["_law_text"] (defScope s__law_read) := ⟨rfl, rfl, rfl, by decide +kernel, rfl, by decide +kernel, by decide +kernel⟩
abbrev s__law_same : Stmt := top 30
abbrev N__law_same : List Str := ["_law_found", "_law_due", "_law_one", "_law_other"]
theorem sc__law_same : FnScope N__law_same ["_law_found", "_law_due"] (defScope s__law_same) := ⟨rfl, rfl, rfl, by decide +kernel, rfl, by decide +kernel, by decide +kernel⟩
abbrev s_BadSum_init : Stmt := inClass (top 1) 0
abbrev N_BadSum_init : List Str := ["self", "what"]
theorem sc_BadSum_init : FnScope N_BadSum_init ["self", "what"] (defScope s_BadSum_init) := ⟨rfl, rfl, rfl, by decide +kernel, rfl, by decide +kernel, by decide +kernel⟩
abbrev s_sum_text : Stmt := top 23
abbrev N_sum_text : List Str := ["amount", "pounds", "pennies"]
theorem sc_sum_text : FnScope N_sum_text ["amount"] (defScope s_sum_text) := ⟨rfl, rfl, rfl, by decide +kernel, rfl, by decide +kernel, by decide +kernel⟩
abbrev s_are_figures : Stmt := top 24
abbrev N_are_figures : List Str := ["word", "least", "most", "sign"]
theorem sc_are_figures : FnScope N_are_figures ["word", "least", "most"] (defScope s_are_figures) := ⟨rfl, rfl, rfl, by decide +kernel, rfl, by decide +kernel, by decide +kernel⟩
abbrev s_sum_in : Stmt := top 25
abbrev N_sum_in : List Str := ["text", "pounds", "point", "pennies", "amount"]
theorem sc_sum_in : FnScope N_sum_in ["text"] (defScope s_sum_in) := ⟨rfl, rfl, rfl, by decide +kernel, rfl, by decide +kernel, by decide +kernel⟩
abbrev s__law_classes : Stmt := top 29
abbrev N__law_classes : List Str := ["_law_caught", "_law_some", "_law_words", "_law_word", "_law_one"]
theorem sc__law_classes : FnScope N__law_classes ["_law_caught"] (defScope s__law_classes) := ⟨rfl, rfl, rfl, by decide +kernel, rfl, by decide +kernel, by decide +kernel⟩
abbrev s__law_told : Stmt := top 33
abbrev N__law_told : List Str := ["_law_text", "_law_found", "_law_caught", "error"]
theorem sc__law_told : FnScope N__law_told ["_law_text"] (defScope s__law_told) := ⟨rfl, rfl, rfl, by decide +kernel, rfl, by decide +kernel, by decide +kernel⟩
abbrev s__law_right : Stmt := top 34
abbrev N__law_right : List Str := ["_law_text", "_law_amount", "_law_due"]
theorem sc__law_right : FnScope N__law_right ["_law_text"] (defScope s__law_right) := ⟨rfl, rfl, rfl, by decide +kernel, rfl, by decide +kernel, by decide +kernel⟩
abbrev s_law : Stmt := top 35
abbrev N_law : List Str := ["_law_script", "_law_some", "_law_text", "_law_k", "_law_box_here", "_law_amount", "_law_turn", "_law_twice", "_law_bent"]
theorem sc_law : FnScope N_law ["_law_script"] (defScope s_law) := ⟨rfl, rfl, rfl, by decide +kernel, rfl, by decide +kernel, by decide +kernel⟩
structure Ad where
  C_BadSum : Addr
  C_BadTag : Addr
  C_BadText : Addr
  C_BadOrder : Addr
  C_BadQuery : Addr
  C_BadColumn : Addr
  C_BadRow : Addr
  C_NoCoin : Addr
  C_NoEntry : Addr
  C_NoThing : Addr
  C_NoChange : Addr
  C_BadDay : Addr
  C_TooLow : Addr
  C_TooLittle : Addr
  C_TooMany : Addr
  C_TooEarly : Addr
  C_BadDeed : Addr
  f__law_box : Addr
  d__law_box : FuncData
  f__law_take : Addr
  d__law_take : FuncData
  f__law_spoilt : Addr
  d__law_spoilt : FuncData
  f__law_read : Addr
  d__law_read : FuncData
  f__law_same : Addr
  d__law_same : FuncData
  f_BadSum_init : Addr
  d_BadSum_init : FuncData
  f_sum_text : Addr
  d_sum_text : FuncData
  f_are_figures : Addr
  d_are_figures : FuncData
  f_sum_in : Addr
  d_sum_in : FuncData
  f__law_classes : Addr
  d__law_classes : FuncData
  f__law_told : Addr
  d__law_told : FuncData
  f__law_right : Addr
  d__law_right : FuncData
  f_law : Addr
  d_law : FuncData
structure Txt (K : PySem.W.Frag) (mg : Str → Option Value) (a : Ad) : Prop where
  n_len : mg "len" = none
  n_abs : mg "abs" = none
  n_int : mg "int" = none
  n_divmod : mg "divmod" = none
  n_all : mg "all" = none
  n_isinstance : mg "isinstance" = none
  n_list : mg "list" = none
  n_tuple : mg "tuple" = none
  n_str : mg "str" = none
  n_bool : mg "bool" = none
  n_zip : mg "zip" = none
  n_ValueError : mg "ValueError" = none
  n_range : mg "range" = none
  n_min : mg "min" = none
  c_PLAIN_FIGURES : ∃ u, mg "PLAIN_FIGURES" = some u ∧ RelV (.str "0123456789") u
  c_POUND_POINT : ∃ u, mg "POUND_POINT" = some u ∧ RelV (.str ".") u
  c_POUND_PENNIES : ∃ u, mg "POUND_PENNIES" = some u ∧ RelV (.int 100) u
  c_MOST_POUND_FIGURES : ∃ u, mg "MOST_POUND_FIGURES" = some u ∧ RelV (.int 5) u
  F__law_box : Fun K "_law_box" "_law_box" s__law_box a.f__law_box a.d__law_box
  g__law_box : mg "_law_box" = some (.ref a.f__law_box)
  b__law_box : Binds K a.d__law_box ["_law_script", "_law_k"] []
  F__law_take : Fun K "_law_take" "_law_take" s__law_take a.f__law_take a.d__law_take
  g__law_take : mg "_law_take" = some (.ref a.f__law_take)
  b__law_take : Binds K a.d__law_take ["_law_box_here", "_law_size"] []
  F__law_spoilt : Fun K "_law_spoilt" "_law_spoilt" s__law_spoilt a.f__law_spoilt a.d__law_spoilt
  g__law_spoilt : mg "_law_spoilt" = some (.ref a.f__law_spoilt)
  b__law_spoilt : Binds K a.d__law_spoilt ["_law_box_here", "_law_text"] []
  F__law_read : Fun K "_law_read" "_law_read" s__law_read a.f__law_read a.d__law_read
  g__law_read : mg "_law_read" = some (.ref a.f__law_read)
  b__law_read : Binds K a.d__law_read ["_law_text"] []
  F__law_same : Fun K "_law_same" "_law_same" s__law_same a.f__law_same a.d__law_same
  g__law_same : mg "_law_same" = some (.ref a.f__law_same)
  b__law_same : Binds K a.d__law_same ["_law_found", "_law_due"] []
  F_BadSum_init : Fun K "__init__" "BadSum.__init__" s_BadSum_init a.f_BadSum_init a.d_BadSum_init
  b_BadSum_init : Binds K a.d_BadSum_init ["self", "what"] []
  F_sum_text : Fun K "sum_text" "sum_text" s_sum_text a.f_sum_text a.d_sum_text
  g_sum_text : mg "sum_text" = some (.ref a.f_sum_text)
  b_sum_text : Binds K a.d_sum_text ["amount"] []
  F_are_figures : Fun K "are_figures" "are_figures" s_are_figures a.f_are_figures a.d_are_figures
  g_are_figures : mg "are_figures" = some (.ref a.f_are_figures)
  b_are_figures : Binds K a.d_are_figures ["word", "least", "most"] []
  F_sum_in : Fun K "sum_in" "sum_in" s_sum_in a.f_sum_in a.d_sum_in
  g_sum_in : mg "sum_in" = some (.ref a.f_sum_in)
  b_sum_in : Binds K a.d_sum_in ["text"] []
  F__law_classes : Fun K "_law_classes" "_law_classes" s__law_classes a.f__law_classes a.d__law_classes
  g__law_classes : mg "_law_classes" = some (.ref a.f__law_classes)
  b__law_classes : Binds K a.d__law_classes ["_law_caught"] []
  F__law_told : Fun K "_law_told" "_law_told" s__law_told a.f__law_told a.d__law_told
  g__law_told : mg "_law_told" = some (.ref a.f__law_told)
  b__law_told : Binds K a.d__law_told ["_law_text"] []
  F__law_right : Fun K "_law_right" "_law_right" s__law_right a.f__law_right a.d__law_right
  g__law_right : mg "_law_right" = some (.ref a.f__law_right)
  b__law_right : Binds K a.d__law_right ["_law_text"] []
  F_law : Fun K "law" "law" s_law a.f_law a.d_law
  g_BadSum : mg "BadSum" = some (.ref a.C_BadSum)
  q_BadSum : PySem.W.nsIn K mainGlobals "BadSum" = some (some (.ref a.C_BadSum))
  g_BadTag : mg "BadTag" = some (.ref a.C_BadTag)
  q_BadTag : PySem.W.nsIn K mainGlobals "BadTag" = some (some (.ref a.C_BadTag))
  g_BadText : mg "BadText" = some (.ref a.C_BadText)
  q_BadText : PySem.W.nsIn K mainGlobals "BadText" = some (some (.ref a.C_BadText))
  g_BadOrder : mg "BadOrder" = some (.ref a.C_BadOrder)
  q_BadOrder : PySem.W.nsIn K mainGlobals "BadOrder" = some (some (.ref a.C_BadOrder))
  g_BadQuery : mg "BadQuery" = some (.ref a.C_BadQuery)
  q_BadQuery : PySem.W.nsIn K mainGlobals "BadQuery" = some (some (.ref a.C_BadQuery))
  g_BadColumn : mg "BadColumn" = some (.ref a.C_BadColumn)
  q_BadColumn : PySem.W.nsIn K mainGlobals "BadColumn" = some (some (.ref a.C_BadColumn))
  g_BadRow : mg "BadRow" = some (.ref a.C_BadRow)
  q_BadRow : PySem.W.nsIn K mainGlobals "BadRow" = some (some (.ref a.C_BadRow))
  g_NoCoin : mg "NoCoin" = some (.ref a.C_NoCoin)
  q_NoCoin : PySem.W.nsIn K mainGlobals "NoCoin" = some (some (.ref a.C_NoCoin))
  g_NoEntry : mg "NoEntry" = some (.ref a.C_NoEntry)
  q_NoEntry : PySem.W.nsIn K mainGlobals "NoEntry" = some (some (.ref a.C_NoEntry))
  g_NoThing : mg "NoThing" = some (.ref a.C_NoThing)
  q_NoThing : PySem.W.nsIn K mainGlobals "NoThing" = some (some (.ref a.C_NoThing))
  g_NoChange : mg "NoChange" = some (.ref a.C_NoChange)
  q_NoChange : PySem.W.nsIn K mainGlobals "NoChange" = some (some (.ref a.C_NoChange))
  g_BadDay : mg "BadDay" = some (.ref a.C_BadDay)
  q_BadDay : PySem.W.nsIn K mainGlobals "BadDay" = some (some (.ref a.C_BadDay))
  g_TooLow : mg "TooLow" = some (.ref a.C_TooLow)
  q_TooLow : PySem.W.nsIn K mainGlobals "TooLow" = some (some (.ref a.C_TooLow))
  g_TooLittle : mg "TooLittle" = some (.ref a.C_TooLittle)
  q_TooLittle : PySem.W.nsIn K mainGlobals "TooLittle" = some (some (.ref a.C_TooLittle))
  g_TooMany : mg "TooMany" = some (.ref a.C_TooMany)
  q_TooMany : PySem.W.nsIn K mainGlobals "TooMany" = some (some (.ref a.C_TooMany))
  g_TooEarly : mg "TooEarly" = some (.ref a.C_TooEarly)
  q_TooEarly : PySem.W.nsIn K mainGlobals "TooEarly" = some (some (.ref a.C_TooEarly))
  g_BadDeed : mg "BadDeed" = some (.ref a.C_BadDeed)
  q_BadDeed : PySem.W.nsIn K mainGlobals "BadDeed" = some (some (.ref a.C_BadDeed))
  ob_BadSum : OxB K a.C_BadSum "ValueError" "ValueError.__new__" "ValueError.__init__" [.type "ValueError", .type "Exception", .type "BaseException", .type "object"]
  xk_BadSum : ExK K a.C_BadSum
  in_BadSum : PySem.W.findIn K (.ref a.C_BadSum) "__init__" = some (some (.ref a.f_BadSum_init))
  ty_BadSum : PySem.W.typeIn K (.ref a.f_BadSum_init) = some (.type "function")
  vb_BadSum : PySem.W.findCls K (.type "ValueError") (.type "type") "__init__" = some (.val (.builtin "ValueError.__init__"))
  ts_0_BadSum : PySem.W.kitOne K (.ref a.C_BadSum) (.ref a.C_BadDeed) = some false
  ts_1_BadSum : PySem.W.kitOne K (.ref a.C_BadSum) (.ref a.C_TooEarly) = some false
  ts_2_BadSum : PySem.W.kitOne K (.ref a.C_BadSum) (.ref a.C_TooMany) = some false
  ts_3_BadSum : PySem.W.kitOne K (.ref a.C_BadSum) (.ref a.C_TooLittle) = some false
  ts_4_BadSum : PySem.W.kitOne K (.ref a.C_BadSum) (.ref a.C_TooLow) = some false
  ts_5_BadSum : PySem.W.kitOne K (.ref a.C_BadSum) (.ref a.C_BadDay) = some false
  ts_6_BadSum : PySem.W.kitOne K (.ref a.C_BadSum) (.ref a.C_NoChange) = some false
  ts_7_BadSum : PySem.W.kitOne K (.ref a.C_BadSum) (.ref a.C_NoThing) = some false
  ts_8_BadSum : PySem.W.kitOne K (.ref a.C_BadSum) (.ref a.C_NoEntry) = some false
  ts_9_BadSum : PySem.W.kitOne K (.ref a.C_BadSum) (.ref a.C_NoCoin) = some false
  ts_10_BadSum : PySem.W.kitOne K (.ref a.C_BadSum) (.ref a.C_BadRow) = some false
  ts_11_BadSum : PySem.W.kitOne K (.ref a.C_BadSum) (.ref a.C_BadColumn) = some false
  ts_12_BadSum : PySem.W.kitOne K (.ref a.C_BadSum) (.ref a.C_BadQuery) = some false
  ts_13_BadSum : PySem.W.kitOne K (.ref a.C_BadSum) (.ref a.C_BadOrder) = some false
  ts_14_BadSum : PySem.W.kitOne K (.ref a.C_BadSum) (.ref a.C_BadText) = some false
  ts_15_BadSum : PySem.W.kitOne K (.ref a.C_BadSum) (.ref a.C_BadTag) = some false
  ts_16_BadSum : PySem.W.kitOne K (.ref a.C_BadSum) (.ref a.C_BadSum) = some true
  ts_17_BadSum : PySem.W.kitOne K (.ref a.C_BadSum) (.type "ValueError") = some true
  ts_18_BadSum : PySem.W.exmAny K (.ref a.C_BadSum) [.ref a.C_BadSum] = some true
/-! ### the draw -/
def sp__law_take : Sp := fun vs H Q _ => ∃ (B : Addr) (m : Int) (n : Nat), vs = [.ref B, .int m] ∧ Box H B n ∧ 0 < m ∧ m < 1073741824 ∧ n < 1000000000 ∧
  ∀ r H', 0 ≤ r → r < m → Fr [B] H H' → Box H' B (n + 1) → Q (.int r) H'
theorem ok__law_take {P : Program} {w : World} {K : PySem.W.Frag} {mg : Str → Option Value} {base : Heap} {ad : Ad} (T : Txt K mg ad) : FnOk P w K mg base CX0 1 ad.f__law_take ad.d__law_take ["_law_box_here", "_law_size"] sp__law_take := by
  refine T.F__law_take.ok sc__law_take (fun vs H Q E h => ?_) (fun cdv A outer s H vs Q E hr h => ?_)
  · obtain ⟨a, ns, k, rfl, _⟩ := h
    rfl
  · obtain ⟨B, m, n, rfl, ⟨b0, b1, b2, hB, h0, h1, h2, h3, h4⟩, m0, m1, hn, q⟩ := h
    refine ⟨_, (pss_cons (ps_if (pt_cmpR op_gt (pe_ix ix_list (pv 0) pe_int (fun _ _ => rfl)) pe_int (nomark _)) (pss_cons (ps_asg (pe_callB call_divmod (by rfl) T.n_divmod (by decide +kernel) (pa_cons (pe_ix ix_list (pv 0) pe_int (fun _ _ => rfl)) (pa_cons (pv 1) pa_nil))) (pg_tup (by rfl) (pgs_cons (pg_sub (pv 0) pe_int set_list) (pgs_cons (pg_name (i := 2) sc__law_take.nd rfl (Or.inl rfl)) pgs_nil))))
    (pss_one (ps_ret (pv 2)))) pss_nil)
    (pss_cons (ps_asg (pe_op op_add (pe_ix ix_list (pv 0) pe_int (fun _ _ => rfl)) pe_int) (pg_sub (pv 0) pe_int set_list))
    (pss_cons (ps_set (i := 3) sc__law_take.nd rfl (Or.inl rfl) (pe_op op_add pe_int (pe_op op_mul (pe_ix ix_list (pv 0) pe_int (fun _ _ => rfl)) (pe_ix ix_list (pv 0) pe_int (fun _ _ => rfl)))))
    (pss_cons (ps_set (i := 4) sc__law_take.nd rfl (Or.inl rfl) (pe_op op_mod (pe_op op_mul (pe_op op_add (pe_ix ix_list (pv 0) pe_int (fun _ _ => rfl)) (pe_op op_mul pe_int (pe_ix ix_list (pv 0) pe_int (fun _ _ => rfl)))) (pv 3)) pe_int))
    (pss_cons (ps_set (i := 5) sc__law_take.nd rfl (Or.inl rfl) (pe_op op_mod (pe_op op_add (pe_op op_mul (pv 4) (pe_op op_add (pe_op op_mod (pv 4) pe_int) pe_int)) (pe_ix ix_list (pv 0) pe_int (fun _ _ => rfl))) pe_int))
    (pss_one (ps_ret (pe_op op_mod (pe_op op_fdiv (pe_op op_mod (pe_op op_mul (pv 5) (pe_op op_add (pe_op op_mod (pv 5) pe_int) pe_int)) pe_int) pe_int) (pv 1))))))))), ?_⟩
    walk_at "z"
    refine ite2 (fun h => ?_) (fun h => ?_)
    · walk_at "z"
      refine fun p hp => ?_
      have hBp : B ≠ p := ne_of_none hB hp
      have hB' : upd H p (.tup [.int (b0 / m), .int (b0 % m)]) B = some (.lst [.int b0, .int b1, .int b2]) := by rw [upd_ne hBp]; exact hB
      walk_at "z"
      refine q _ _ (Int.emod_nonneg _ (by omega)) (Int.emod_lt_of_pos _ m0) ?_ ?_
      · exact (Fr.new hp).put (by simp)
      · exact ⟨_, _, _, upd_same, Int.ediv_nonneg h0 (by omega), h1, h2, h3, by omega⟩
    · walk_at "z"
      refine q _ _ (Int.emod_nonneg _ (by omega)) (Int.emod_lt_of_pos _ m0) ((Fr.refl _ _).put (by simp)) ⟨_, _, _, upd_same, h0, h1, h2, by omega, by omega⟩

theorem okD__law_take {P : Program} {w : World} {K : PySem.W.Frag} {mg : Str → Option Value} {base : Heap} {ad : Ad} (T : Txt K mg ad) : FnOk P w K mg base CX0 1 ad.f__law_take ad.d__law_take ["_law_box_here", "_law_size"] (spF K 2 F__law_take) :=
  (ok__law_take T).imp fun _ _ _ _ h => take_of h

/-! ### the law's own likeness, kind by kind -/
def sp__law_same (K : PySem.W.Frag) (n : Nat) : Sp := fun vs H Q _ => ∃ (v1 v2 : V) (d : PyData), vs = [v1, v2] ∧ Dp K H v1 d ∧ Dp K H v2 d ∧ SeqAt.shaped d = true ∧ d.depth < n ∧ nodes d ≤ 1000000 ∧ ∀ H', Same H H' → Q (.bl true) H'
theorem ok__law_same {P : Program} {w : World} {K : PySem.W.Frag} {mg : Str → Option Value} {base : Heap} {ad : Ad} (T : Txt K mg ad) : ∀ n : Nat, FnOk P w K mg base CX0 n ad.f__law_same ad.d__law_same ["_law_found", "_law_due"] (sp__law_same K n)
  | 0 => ⟨fun vs H Q E ⟨_, _, _, _, _, _, _, h, _, _⟩ => absurd h (Nat.not_lt_zero _), fun _ _ _ _ _ _ _ _ _ _ _ _ _ ⟨_, _, _, _, _, _, _, h, _, _⟩ => absurd h (Nat.not_lt_zero _)⟩
  | n + 1 => by
    have G__law_same := ok__law_same (P := P) (w := w) (base := base) T n
    refine T.F__law_same.ok sc__law_same (fun vs H Q E h => ?_) (fun cdv A outer s H vs Q E hr h => ?_)
    · obtain ⟨v1, v2, d, rfl, _⟩ := h
      rfl
    · obtain ⟨v1, v2, d, rfl, d1, d2, sh, dep, nod, q⟩ := h
      refine ⟨_, (pss_cons (ps_if (pt_val (pe_callB call_isiT (by rfl) T.n_isinstance (by decide +kernel) (pa_cons (pv 1) (pa_cons (pe_tup (pa_cons (pe_bltn (v := .ty "list") (by rfl) T.n_list (by decide +kernel) rfl) (pa_cons (pe_bltn (v := .ty "tuple") (by rfl) T.n_tuple (by decide +kernel) rfl) pa_nil))) pa_nil)))) (pss_cons (ps_if (PW.pt (pw_or (pt_cmpR op_ne (pe_callB call_isi (by rfl) T.n_isinstance (by decide +kernel) (pa_cons (pv 0) (pa_cons (pe_bltn (v := .ty "list") (by rfl) T.n_list (by decide +kernel) rfl) pa_nil))) (pe_callB call_isi (by rfl) T.n_isinstance (by decide +kernel) (pa_cons (pv 1) (pa_cons (pe_bltn (v := .ty "list") (by rfl) T.n_list (by decide +kernel) rfl) pa_nil))) (nomark _)) (pw_or1 (pt_cmpR op_ne (pe_callB call_isi (by rfl) T.n_isinstance (by decide +kernel) (pa_cons (pv 0) (pa_cons (pe_bltn (v := .ty "tuple") (by rfl) T.n_tuple (by decide +kernel) rfl) pa_nil))) (pe_callB call_isi (by rfl) T.n_isinstance (by decide +kernel) (pa_cons (pv 1) (pa_cons (pe_bltn (v := .ty "tuple") (by rfl) T.n_tuple (by decide +kernel) rfl) pa_nil))) (nomark _))))) (pss_one (ps_ret pe_bl)) pss_nil)
    (pss_one (ps_ret (pe_and (pe_cmpR op_eq (pe_callB call_len_seq (by rfl) T.n_len PySem.boot_len (pa_cons (pv 0) pa_nil)) (pe_callB call_len_seq (by rfl) T.n_len PySem.boot_len (pa_cons (pv 1) pa_nil)) (nomark _)) (pe_one (pe_callB (cr_all rfl) (by rfl) T.n_all (by decide +kernel) (pa_cons (pe_lc (own := [("_law_one", 2), ("_law_other", 3)]) (g := gTup K 2 (gCons (gName 2) (gCons (gName 3) gNil))) (by rfl) sc__law_same.nd (RZ.pi_zipA (by rfl) T.n_zip (pa_cons (pv 0) (pa_cons (pv 1) pa_nil))) (blkOk_by (own := [("_law_one", 2), ("_law_other", 3)]) (N := N__law_same) (sc := defScope s__law_same) (by decide +kernel)) (fun _ _ _ _ _ => (pg_tup (by rfl) (pgs_cons (pg_name (i := 2) sc__law_same.nd rfl (Or.inl rfl)) (pgs_cons (pg_name (i := 3) sc__law_same.nd rfl (Or.inl rfl)) pgs_nil)))) (fun _ _ _ _ _ => pts_nil) (fun _ _ _ _ _ => (pe_call G__law_same hr rfl T.g__law_same T.F__law_same.kp T.b__law_same .nil pass0 (pa_cons (pv 2) (pa_cons (pv 3) pa_nil))))) pa_nil))))))) pss_nil)
    (pss_cons (ps_if (PW.pt (pw_or (pt_cmpR op_isN (pv 1) pe_non (nomark _)) (pw_or1 (pt_val (pe_callB call_isi (by rfl) T.n_isinstance (by decide +kernel) (pa_cons (pv 1) (pa_cons (pe_bltn (v := .ty "str") (by rfl) T.n_str (by decide +kernel) rfl) pa_nil))))))) (pss_one (ps_ret (pe_and (pe_cmpR (op_eqD hr.units) (pv 0) (pv 1) (nomark _)) (pe_one (pe_cmpR op_eq (pe_callB call_isi (by rfl) T.n_isinstance (by decide +kernel) (pa_cons (pv 0) (pa_cons (pe_bltn (v := .ty "str") (by rfl) T.n_str (by decide +kernel) rfl) pa_nil))) (pe_callB call_isi (by rfl) T.n_isinstance (by decide +kernel) (pa_cons (pv 1) (pa_cons (pe_bltn (v := .ty "str") (by rfl) T.n_str (by decide +kernel) rfl) pa_nil))) (nomark _)))))) pss_nil)
    (pss_one (ps_ret (pe_and (pe_callB call_isi (by rfl) T.n_isinstance (by decide +kernel) (pa_cons (pv 0) (pa_cons (pe_bltn (v := .ty "int") (by rfl) T.n_int (by decide +kernel) rfl) pa_nil))) (pe_and (pe_cmpR op_eq (pe_callB call_isi (by rfl) T.n_isinstance (by decide +kernel) (pa_cons (pv 0) (pa_cons (pe_bltn (v := .ty "bool") (by rfl) T.n_bool (by decide +kernel) rfl) pa_nil))) (pe_callB call_isi (by rfl) T.n_isinstance (by decide +kernel) (pa_cons (pv 1) (pa_cons (pe_bltn (v := .ty "bool") (by rfl) T.n_bool (by decide +kernel) rfl) pa_nil))) (nomark _)) (pe_one (pe_cmpR (op_eqD hr.units) (pv 0) (pv 1) (nomark _))))))))), ?_⟩
      have fin : ∀ {p : Addr} {o : HO}, H p = none → Q (.bl true) (upd H p o) := fun hp => q _ (Same.new hp)
      cases d with
      | dict _ => cases d1
      | none =>
        refine ⟨_, rfl, Nat.le_of_ble_eq_true rfl, fun p hp => ?_⟩
        have d1' := Dp.mono (Same.new (o := .tup [.ty "list", .ty "tuple"]) hp) d1
        have d2' := Dp.mono (Same.new (o := .tup [.ty "list", .ty "tuple"]) hp) d2
        refine ⟨_, _, _, _, _, false, rfl, upd_same, ltC, tyD "NoneType" d2' rfl, kitLT "NoneType" false false (by decide +kernel) (by decide +kernel), ?_⟩
        cases d1
        cases d2
        walk_at "z"
        refine ⟨.none, .none, .non, .non, rfl, rfl, ?_⟩
        walk_at "z"
        refine ⟨_, _, _, _, false, rfl, .ty _, tyD "NoneType" d1' rfl, kit_ty (by decide +kernel), ?_⟩
        walk_at "z"
        refine ⟨_, _, _, _, false, rfl, .ty _, tyD "NoneType" d2' rfl, kit_ty (by decide +kernel), ?_⟩
        walk_at "z"
        exact fin hp
      | bool b =>
        refine ⟨_, rfl, Nat.le_of_ble_eq_true rfl, fun p hp => ?_⟩
        have d1' := Dp.mono (Same.new (o := .tup [.ty "list", .ty "tuple"]) hp) d1
        have d2' := Dp.mono (Same.new (o := .tup [.ty "list", .ty "tuple"]) hp) d2
        refine ⟨_, _, _, _, _, false, rfl, upd_same, ltC, tyD "bool" d2' rfl, kitLT "bool" false false (by decide +kernel) (by decide +kernel), ?_⟩
        cases d1
        cases d2
        walk_at "z"
        refine ⟨_, _, _, _, false, rfl, .ty _, tyD "bool" d2' rfl, kit_ty (by decide +kernel), ?_⟩
        walk_at "z"
        refine ⟨_, _, _, _, true, rfl, .ty _, tyD "bool" d1' rfl, kit_ty (by decide +kernel), ?_⟩
        walk_at "z"
        refine ⟨_, _, _, _, true, rfl, .ty _, tyD "bool" d1' rfl, kit_ty (by decide +kernel), ?_⟩
        walk_at "z"
        refine ⟨_, _, _, _, true, rfl, .ty _, tyD "bool" d2' rfl, kit_ty (by decide +kernel), ?_⟩
        walk_at "z"
        refine ⟨.bool b, .bool b, .bl _, .bl _, rfl, rfl, ?_⟩
        rw [SeqAt.eqv_refl _ rfl]
        exact fin hp
      | int i =>
        refine ⟨_, rfl, Nat.le_of_ble_eq_true rfl, fun p hp => ?_⟩
        have d1' := Dp.mono (Same.new (o := .tup [.ty "list", .ty "tuple"]) hp) d1
        have d2' := Dp.mono (Same.new (o := .tup [.ty "list", .ty "tuple"]) hp) d2
        refine ⟨_, _, _, _, _, false, rfl, upd_same, ltC, tyD "int" d2' rfl, kitLT "int" false false (by decide +kernel) (by decide +kernel), ?_⟩
        cases d1
        cases d2
        walk_at "z"
        refine ⟨.int i, .int i, .int _, .int _, rfl, rfl, ?_⟩
        rw [SeqAt.eqv_refl _ rfl]
        exact fin hp
      | str x =>
        refine ⟨_, rfl, Nat.le_of_ble_eq_true rfl, fun p hp => ?_⟩
        have d1' := Dp.mono (Same.new (o := .tup [.ty "list", .ty "tuple"]) hp) d1
        have d2' := Dp.mono (Same.new (o := .tup [.ty "list", .ty "tuple"]) hp) d2
        refine ⟨_, _, _, _, _, false, rfl, upd_same, ltC, tyD "str" d2' rfl, kitLT "str" false false (by decide +kernel) (by decide +kernel), ?_⟩
        cases d1
        cases d2
        walk_at "z"
        refine ⟨.str x, .str x, .str _, .str _, sh, sh, ?_⟩
        rw [SeqAt.eqv_refl _ (SeqAt.canLay_of_shaped sh)]
        walk_at "z"
        exact fin hp
      | list ds =>
        obtain ⟨a1, xs, rfl, s1, r1⟩ := Dp.list_of d1
        obtain ⟨a2, ys, rfl, s2, r2⟩ := Dp.list_of d2
        refine ⟨_, rfl, Nat.le_of_ble_eq_true rfl, fun p hp => ?_⟩
        have sm := Same.new (o := .tup [.ty "list", .ty "tuple"]) hp
        have d1' := Dp.mono sm d1
        have d2' := Dp.mono sm d2
        refine ⟨_, _, _, _, _, true, rfl, upd_same, ltC, tyD "list" d2' rfl, kitLT "list" true false (by decide +kernel) (by decide +kernel), ?_⟩
        walk_at "z"
        refine ⟨_, _, _, _, true, rfl, .ty _, tyD "list" d1' rfl, kit_ty (by decide +kernel), ?_⟩
        walk_at "z"
        refine ⟨_, _, _, _, true, rfl, .ty _, tyD "list" d2' rfl, kit_ty (by decide +kernel), ?_⟩
        walk_at "z"
        refine ⟨_, _, _, _, false, rfl, .ty _, tyD "list" d1' rfl, kit_ty (by decide +kernel), ?_⟩
        walk_at "z"
        refine ⟨_, _, _, _, false, rfl, .ty _, tyD "list" d2' rfl, kit_ty (by decide +kernel), ?_⟩
        walk_at "z"
        have hl : xs.length = ys.length := by rw [DpAll.length r1, DpAll.length r2]
        refine ⟨a1, _, rfl, .inl (SqL.mono sm s1), ?_⟩
        refine ⟨_, rfl, a2, _, rfl, .inl (SqL.mono sm s2), ?_⟩
        refine ⟨rfl, _, rfl, ?_⟩
        with_reducible refine iteDS (by rw [hl]) ?_
        refine ⟨_, rfl, _, rfl, a1, a2, xs, ys, rfl, .inl ⟨SqL.mono sm s1, SqL.mono sm s2, fun D hD => ?_⟩⟩
        refine lc_it (walk_zip (xs := xs) (ys := ys) (n := xs.length) (by omega)) (fun i H' => LcP (upd H p (.tup [.ty "list", .ty "tuple"])) D xs (fun _ => V.bl true) i H') (LcP.start hD) ?_ ?_ ?_
        · intro i H' _ lp
          exact ⟨SqL.mono (sm.trans lp.same) s1, SqL.mono (sm.trans lp.same) s2⟩
        · rintro i x H' _ hi lp ⟨t, x, y, rfl, ht, rfl, hx, hy⟩
          walk_at "z"
          obtain ⟨dd, hd, dx⟩ := DpAll.get r1 hx
          obtain ⟨dd', hd', dy⟩ := DpAll.get r2 hy
          have ed : dd' = dd := Option.some.inj (hd'.symm.trans hd)
          subst ed
          have sx : Same H (upd H' t (.tup [x, y])) := (sm.trans lp.same).trans (Same.new ht)
          obtain ⟨c1, c2⟩ := shaped_mem (.inl sh) (List.mem_of_getElem? hd)
          refine ⟨x, y, _, rfl, Dp.mono sx dx, Dp.mono sx dy, c1, ?_, ?_, fun H4 s4 => ?_⟩
          · have : PyData.depthAll ds + 1 < n + 1 := dep
            omega
          · have h1 := nodes_mem (List.mem_of_getElem? hd)
            have h2 : nodesAll ds + 1 ≤ 1000000 := nod
            omega
          · refine lp.step ((Same.new ht).trans s4) hx rfl ?_
            have h1 := len_nodes ds
            have h2 : nodesAll ds + 1 ≤ 1000000 := nod
            have h3 : sizeLine = 16777216 := by decide +kernel
            rw [DpAll.length r1]
            omega
        · intro H' lp
          refine ⟨D, xs.map fun _ => true, rfl, SqL.of (by rw [lp.done, List.map_map]; rfl), ?_⟩
          have e : (xs.map fun _ => true).all id = true := by simp
          rw [e]
          exact q _ (sm.trans lp.same)
      | tuple ds =>
        obtain ⟨a1, xs, rfl, s1, r1⟩ := Dp.tuple_of d1
        obtain ⟨a2, ys, rfl, s2, r2⟩ := Dp.tuple_of d2
        refine ⟨_, rfl, Nat.le_of_ble_eq_true rfl, fun p hp => ?_⟩
        have sm := Same.new (o := .tup [.ty "list", .ty "tuple"]) hp
        have d1' := Dp.mono sm d1
        have d2' := Dp.mono sm d2
        refine ⟨_, _, _, _, _, true, rfl, upd_same, ltC, tyD "tuple" d2' rfl, kitLT "tuple" false true (by decide +kernel) (by decide +kernel), ?_⟩
        walk_at "z"
        refine ⟨_, _, _, _, false, rfl, .ty _, tyD "tuple" d1' rfl, kit_ty (by decide +kernel), ?_⟩
        walk_at "z"
        refine ⟨_, _, _, _, false, rfl, .ty _, tyD "tuple" d2' rfl, kit_ty (by decide +kernel), ?_⟩
        walk_at "z"
        refine ⟨_, _, _, _, true, rfl, .ty _, tyD "tuple" d1' rfl, kit_ty (by decide +kernel), ?_⟩
        walk_at "z"
        refine ⟨_, _, _, _, true, rfl, .ty _, tyD "tuple" d2' rfl, kit_ty (by decide +kernel), ?_⟩
        walk_at "z"
        have hl : xs.length = ys.length := by rw [DpAll.length r1, DpAll.length r2]
        refine ⟨a1, _, rfl, .inr (SqT.mono sm s1), ?_⟩
        refine ⟨_, rfl, a2, _, rfl, .inr (SqT.mono sm s2), ?_⟩
        refine ⟨rfl, _, rfl, ?_⟩
        with_reducible refine iteDS (by rw [hl]) ?_
        refine ⟨_, rfl, _, rfl, a1, a2, xs, ys, rfl, .inr ⟨SqT.mono sm s1, SqT.mono sm s2, fun D hD => ?_⟩⟩
        refine lc_it (walk_zipT (xs := xs) (ys := ys) (n := xs.length) (by omega)) (fun i H' => LcP (upd H p (.tup [.ty "list", .ty "tuple"])) D xs (fun _ => V.bl true) i H') (LcP.start hD) ?_ ?_ ?_
        · intro i H' _ lp
          exact ⟨SqT.mono (sm.trans lp.same) s1, SqT.mono (sm.trans lp.same) s2⟩
        · rintro i x H' _ hi lp ⟨t, x, y, rfl, ht, rfl, hx, hy⟩
          walk_at "z"
          obtain ⟨dd, hd, dx⟩ := DpAll.get r1 hx
          obtain ⟨dd', hd', dy⟩ := DpAll.get r2 hy
          have ed : dd' = dd := Option.some.inj (hd'.symm.trans hd)
          subst ed
          have sx : Same H (upd H' t (.tup [x, y])) := (sm.trans lp.same).trans (Same.new ht)
          obtain ⟨c1, c2⟩ := shaped_mem (.inr sh) (List.mem_of_getElem? hd)
          refine ⟨x, y, _, rfl, Dp.mono sx dx, Dp.mono sx dy, c1, ?_, ?_, fun H4 s4 => ?_⟩
          · have : PyData.depthAll ds + 1 < n + 1 := dep
            omega
          · have h1 := nodes_mem (List.mem_of_getElem? hd)
            have h2 : nodesAll ds + 1 ≤ 1000000 := nod
            omega
          · refine lp.step ((Same.new ht).trans s4) hx rfl ?_
            have h1 := len_nodes ds
            have h2 : nodesAll ds + 1 ≤ 1000000 := nod
            have h3 : sizeLine = 16777216 := by decide +kernel
            rw [DpAll.length r1]
            omega
        · intro H' lp
          refine ⟨D, xs.map fun _ => true, rfl, SqL.of (by rw [lp.done, List.map_map]; rfl), ?_⟩
          have e : (xs.map fun _ => true).all id = true := by simp
          rw [e]
          exact q _ (sm.trans lp.same)

theorem okD__law_same {P : Program} {w : World} {K : PySem.W.Frag} {mg : Str → Option Value} {base : Heap} {ad : Ad} (T : Txt K mg ad) (_ : Nat) : FnOk P w K mg base CX0 8 ad.f__law_same ad.d__law_same ["_law_found", "_law_due"] (spF K 2 F__law_same) :=
  (ok__law_same T 8).imp fun _ _ _ _ h => same_of h

theorem okD__law_box {P : Program} {w : World} {K : PySem.W.Frag} {mg : Str → Option Value} {base : Heap} {ad : Ad} (T : Txt K mg ad) : FnOk P w K mg base CX0 1 ad.f__law_box ad.d__law_box ["_law_script", "_law_k"] (spN K 2 F__law_box) := by
  refine okN0 T.F__law_box sc__law_box fun cdv A outer s H E hr => ⟨_, (pss_cons (ps_set (i := 2) sc__law_box.nd rfl (Or.inl rfl) (pe_ifExp (pt_cmpR op_lt (pv 1) (pe_callB call_len_seq (by rfl) T.n_len PySem.boot_len (pa_cons (pv 0) pa_nil)) (nomark _)) (pe_ix ix_list (pv 0) (pv 1) (fun _ _ => rfl)) pe_int))
    (pss_one (ps_ret (pe_lst (pa_cons (pe_op op_mul (pe_callB call_abs (by rfl) T.n_abs (by decide +kernel) (pa_cons (pv 2) pa_nil)) (pe_callTy call_int1 (by rfl) T.n_int (by decide +kernel) (pa_cons (pe_cmpR op_ge (pe_callB call_abs (by rfl) T.n_abs (by decide +kernel) (pa_cons (pv 2) pa_nil)) (pe_op op_pow pe_int pe_int) (nomark _)) pa_nil))) (pa_cons (pe_op op_mod (pe_op op_mul (pe_op op_add (pe_op op_add (pe_op op_mod (pv 2) pe_int) (pe_op op_mul pe_int (pv 1))) pe_int) pe_int) pe_int) (pa_cons pe_int pa_nil))))))), ?_⟩
  intro J
  exact (rs_seq (rs_asg (re_if (rt_test (re_op rr_lt re_v (re_cb rb_len (ra_cons re_v ra_nil)))) (re_op rr_ixL re_v re_v) (re_c fun _ => .int _)) rg_name)
    (rs_retW (rn_lst (ra_cons (re_op rr_mul (re_cb rb_abs (ra_cons re_v ra_nil)) (re_cb rb_int (ra_cons (re_op rr_ge (re_cb rb_abs (ra_cons re_v ra_nil)) (re_op rr_pow (re_c fun _ => .int _) (re_c fun _ => .int _))) ra_nil))) (ra_cons (re_op rr_mod (re_op rr_mul (re_op rr_add (re_op rr_add (re_op rr_mod re_v (re_c fun _ => .int _)) (re_op rr_mul (re_c fun _ => .int _) re_v)) (re_c fun _ => .int _)) (re_c fun _ => .int _)) (re_c fun _ => .int _)) (ra_cons (re_c fun _ => .int _) ra_nil))))))
theorem okD__law_spoilt {P : Program} {w : World} {K : PySem.W.Frag} {mg : Str → Option Value} {base : Heap} {ad : Ad} (T : Txt K mg ad) : FnOk P w K mg base CX0 2 ad.f__law_spoilt ad.d__law_spoilt ["_law_box_here", "_law_text"] (spF K 2 F__law_spoilt) := by
  have G__law_take := okD__law_take (P := P) (w := w) (base := base) T
  refine okF0 T.F__law_spoilt sc__law_spoilt fun cdv A outer s H E hr => ⟨_, (pss_cons (ps_set (i := 2) sc__law_spoilt.nd rfl (Or.inl rfl) pe_str)
    (pss_cons (ps_par3 (i := 3) (j := 4) (l := 5) (by rfl) sc__law_spoilt.nd rfl rfl rfl (by decide) (by decide) (by decide) rfl rfl rfl (pa_cons (pe_call G__law_take (hr.mono (by decide)) rfl T.g__law_take T.F__law_take.kp T.b__law_take .nil pass0 (pa_cons (pv 0) (pa_cons pe_int pa_nil))) (pa_cons (pe_call G__law_take (hr.mono (by decide)) rfl T.g__law_take T.F__law_take.kp T.b__law_take .nil pass0 (pa_cons (pv 0) (pa_cons (pe_op op_add (pe_callB call_len_str (by rfl) T.n_len PySem.boot_len (pa_cons (pv 1) pa_nil)) pe_int) pa_nil))) (pa_cons (pe_ix ix_str (pv 2) (pe_call G__law_take (hr.mono (by decide)) rfl T.g__law_take T.F__law_take.kp T.b__law_take .nil pass0 (pa_cons (pv 0) (pa_cons (pe_callB call_len_str (by rfl) T.n_len PySem.boot_len (pa_cons (pv 2) pa_nil)) pa_nil))) (fun _ _ => rfl)) pa_nil))) (by rfl))
    (pss_cons (ps_set (i := 5) sc__law_spoilt.nd rfl (Or.inl rfl) (pe_ix ix_list (pe_lst (pa_cons (pv 5) (pa_cons (pe_ix ix_str pe_str (pe_call G__law_take (hr.mono (by decide)) rfl T.g__law_take T.F__law_take.kp T.b__law_take .nil pass0 (pa_cons (pv 0) (pa_cons pe_int pa_nil))) (fun _ _ => rfl)) pa_nil))) (pe_call G__law_take (hr.mono (by decide)) rfl T.g__law_take T.F__law_take.kp T.b__law_take .nil pass0 (pa_cons (pv 0) (pa_cons pe_int pa_nil))) (fun _ _ => rfl)))
    (pss_cons (ps_if (pt_cmpR op_lt (pv 3) pe_int (nomark _)) (pss_one (ps_ret (pe_op op_add_str (pe_op op_add_str (pe_slice sl_str (pv 1) po_none (po_some (pv 4))) (pv 5)) (pe_slice sl_str (pv 1) (po_some (pv 4)) po_none)))) pss_nil)
    (pss_cons (ps_if (pt_cmpR op_eq (pv 3) pe_int (nomark _)) (pss_one (ps_ret (pe_op op_add_str (pe_slice sl_str (pv 1) po_none (po_some (pv 4))) (pe_slice sl_str (pv 1) (po_some (pe_op op_add (pv 4) pe_int)) po_none)))) pss_nil)
    (pss_cons (ps_if (pt_cmpR op_eq (pv 3) pe_int (nomark _)) (pss_one (ps_ret (pe_op op_add_str (pe_op op_add_str (pe_slice sl_str (pv 1) po_none (po_some (pv 4))) (pv 5)) (pe_slice sl_str (pv 1) (po_some (pe_op op_add (pv 4) pe_int)) po_none)))) pss_nil)
    (pss_cons (ps_if (pt_cmpR op_eq (pv 3) pe_int (nomark _)) (pss_one (ps_ret (pe_op op_add_str (pe_op op_add_str (pe_slice sl_str (pv 1) po_none (po_some (pv 4))) (pe_revS (pe_slice sl_str (pv 1) (po_some (pv 4)) (po_some (pe_op op_add (pv 4) pe_int))))) (pe_slice sl_str (pv 1) (po_some (pe_op op_add (pv 4) pe_int)) po_none)))) pss_nil)
    (pss_cons (ps_set (i := 6) sc__law_spoilt.nd rfl (Or.inl rfl) (pe_ix ix_str pe_str (pe_call G__law_take (hr.mono (by decide)) rfl T.g__law_take T.F__law_take.kp T.b__law_take .nil pass0 (pa_cons (pv 0) (pa_cons pe_int pa_nil))) (fun _ _ => rfl)))
    (pss_one (ps_ret (pe_ix ix_list (pe_lst (pa_cons (pe_op op_add_str pe_str (pv 1)) (pa_cons (pe_op op_add_str (pv 6) (pv 1)) (pa_cons (pe_op op_add_str (pv 1) (pv 6)) (pa_cons (pe_op op_add_str pe_str (pv 1)) pa_nil))))) (pe_op op_sub (pv 3) pe_int) (fun _ _ => rfl)))))))))))), ?_⟩
  intro J
  exact (rs_seq (rs_asg (re_c fun _ => .str _) rg_name)
    (rs_seq (rs_par3 (ra_cons (re_call (fun _ => .nil) (rc_own (rc_dat (re_c fun _ => .int _) rc_nil))) (ra_cons (re_call (fun _ => .nil) (rc_own (rc_dat (re_op rr_add (re_cb rb_len_str (ra_cons re_v ra_nil)) (re_c fun _ => .int _)) rc_nil))) (ra_cons (re_op rr_ixS re_v (re_call (fun _ => .nil) (rc_own (rc_dat (re_cb rb_len_str (ra_cons re_v ra_nil)) rc_nil)))) ra_nil))))
    (rs_seq (rs_asg (re_op rr_ixL (RN.re (rn_lst (ra_cons re_v (ra_cons (re_op rr_ixS (re_c fun _ => .str _) (re_call (fun _ => .nil) (rc_own (rc_dat (re_c fun _ => .int _) rc_nil)))) ra_nil)))) (re_call (fun _ => .nil) (rc_own (rc_dat (re_c fun _ => .int _) rc_nil)))) rg_name)
    (rs_seq (rs_if (rt_test (re_op rr_lt re_v (re_c fun _ => .int _))) (rs_ret (re_op rr_add_str (re_op rr_add_str (re_sl rl_str re_v ro_no (ro_so re_v)) re_v) (re_sl rl_str re_v (ro_so re_v) ro_no))) rs_next)
    (rs_seq (rs_if (rt_test (re_op rr_eq re_v (re_c fun _ => .int _))) (rs_ret (re_op rr_add_str (re_sl rl_str re_v ro_no (ro_so re_v)) (re_sl rl_str re_v (ro_so (re_op rr_add re_v (re_c fun _ => .int _))) ro_no))) rs_next)
    (rs_seq (rs_if (rt_test (re_op rr_eq re_v (re_c fun _ => .int _))) (rs_ret (re_op rr_add_str (re_op rr_add_str (re_sl rl_str re_v ro_no (ro_so re_v)) re_v) (re_sl rl_str re_v (ro_so (re_op rr_add re_v (re_c fun _ => .int _))) ro_no))) rs_next)
    (rs_seq (rs_if (rt_test (re_op rr_eq re_v (re_c fun _ => .int _))) (rs_ret (re_op rr_add_str (re_op rr_add_str (re_sl rl_str re_v ro_no (ro_so re_v)) (re_revS (re_sl rl_str re_v (ro_so re_v) (ro_so (re_op rr_add re_v (re_c fun _ => .int _)))))) (re_sl rl_str re_v (ro_so (re_op rr_add re_v (re_c fun _ => .int _))) ro_no))) rs_next)
    (rs_seq (rs_asg (re_op rr_ixS (re_c fun _ => .str _) (re_call (fun _ => .nil) (rc_own (rc_dat (re_c fun _ => .int _) rc_nil)))) rg_name)
    (rs_ret (re_op rr_ixL (RN.re (rn_lst (ra_cons (re_op rr_add_str (re_c fun _ => .str _) re_v) (ra_cons (re_op rr_add_str re_v re_v) (ra_cons (re_op rr_add_str re_v re_v) (ra_cons (re_op rr_add_str (re_c fun _ => .str _) re_v) ra_nil)))))) (re_op rr_sub re_v (re_c fun _ => .int _))))))))))))
theorem okD__law_read {P : Program} {w : World} {K : PySem.W.Frag} {mg : Str → Option Value} {base : Heap} {ad : Ad} (T : Txt K mg ad) : FnOk P w K mg base CX0 1 ad.f__law_read ad.d__law_read ["_law_text"] (spF K 1 F__law_read) := by
  refine okF0 T.F__law_read sc__law_read fun cdv A outer s H E hr => ⟨_, (pss_cons (ps_set (i := 1) sc__law_read.nd rfl (Or.inl rfl) (pe_bm PySem.F.plainAttrs_str PySem.F.slot_str_split PySem.F.type_str_split mt_split (pv 0) (pa_cons pe_str pa_nil)))
    (pss_cons (ps_if (PW.pt (pw_or (pt_cmpR op_ne (pe_callB call_len_seq (by rfl) T.n_len PySem.boot_len (pa_cons (pv 1) pa_nil)) pe_int (nomark _)) (pw_or (pt_not (pt_chain op_lt op_lt pe_int (pe_callB call_len_str (by rfl) T.n_len PySem.boot_len (pa_cons (pe_ix ix_list (pv 1) pe_int (fun _ _ => rfl)) pa_nil)) pe_int)) (pw_or1 (pt_cmpR op_ne (pe_callB call_len_str (by rfl) T.n_len PySem.boot_len (pa_cons (pe_ix ix_list (pv 1) pe_int (fun _ _ => rfl)) pa_nil)) pe_int (nomark _)))))) (pss_one (ps_ret pe_non)) pss_nil)
    (pss_cons (ps_if (pt_not (pt_val (pe_callB (cr_all rfl) (by rfl) T.n_all (by decide +kernel) (pa_cons (pe_lc (own := [("_law_sign", 2)]) (g := gName 2) (by rfl) sc__law_read.nd (pi_str (pe_op op_add_str (pe_ix ix_list (pv 1) pe_int (fun _ _ => rfl)) (pe_ix ix_list (pv 1) pe_int (fun _ _ => rfl)))) (blkOk_by (own := [("_law_sign", 2)]) (N := N__law_read) (sc := defScope s__law_read) (by decide +kernel)) (fun _ _ _ _ _ => (pg_name (i := 2) sc__law_read.nd rfl (Or.inl rfl))) (fun _ _ _ _ _ => pts_nil) (fun _ _ _ _ _ => (pe_cmpR op_in_sign (pv 2) pe_str rfl))) pa_nil)))) (pss_one (ps_ret pe_non)) pss_nil)
    (pss_cons (ps_if (PW.pt (pw_and (pt_cmpR op_gt (pe_callB call_len_str (by rfl) T.n_len PySem.boot_len (pa_cons (pe_ix ix_list (pv 1) pe_int (fun _ _ => rfl)) pa_nil)) pe_int (nomark _)) (pw_and1 (pt_cmpR op_eq (pe_ix ix_str (pe_ix ix_list (pv 1) pe_int (fun _ _ => rfl)) pe_int (fun _ _ => rfl)) pe_str (nomark _))))) (pss_one (ps_ret pe_non)) pss_nil)
    (pss_one (ps_ret (pe_callTy call_int_str (by rfl) T.n_int (by decide +kernel) (pa_cons (pe_op op_add_str (pe_ix ix_list (pv 1) pe_int (fun _ _ => rfl)) (pe_ix ix_list (pv 1) pe_int (fun _ _ => rfl))) pa_nil)))))))), ?_⟩
  intro J
  exact (rs_seq (rs_asg (re_bm rm_split re_v (ra_cons (re_c fun _ => .str _) ra_nil)) rg_name)
    (rs_seq (rs_if (rt_or (rt_test (re_op rr_ne (re_cb rb_len (ra_cons re_v ra_nil)) (re_c fun _ => .int _))) (rt_or (rt_not (rt_test (re_chain rr_lt rr_lt (re_c fun _ => .int _) (re_cb rb_len_str (ra_cons (re_op rr_ixL re_v (re_c fun _ => .int _)) ra_nil)) (re_c fun _ => .int _)))) (rt_test (re_op rr_ne (re_cb rb_len_str (ra_cons (re_op rr_ixL re_v (re_c fun _ => .int _)) ra_nil)) (re_c fun _ => .int _))))) (rs_ret (re_c fun _ => .non)) rs_next)
    (rs_seq (rs_if (rt_not (rt_b (re_cb rb_all (ra_cons (RN.re (rn_lc (by decide) (ri_str (re_op rr_add_str (re_op rr_ixL re_v (re_c fun _ => .int _)) (re_op rr_ixL re_v (re_c fun _ => .int _)))) (fun _ le => rg_name) (fun _ le => rt_yes) (fun _ le => (re_op rr_in_sign re_v (re_c fun _ => .str _))))) ra_nil)))) (rs_ret (re_c fun _ => .non)) rs_next)
    (rs_seq (rs_if (rt_and (rt_test (re_op rr_gt (re_cb rb_len_str (ra_cons (re_op rr_ixL re_v (re_c fun _ => .int _)) ra_nil)) (re_c fun _ => .int _))) (rt_test (re_op rr_eq (re_op rr_ixS (re_op rr_ixL re_v (re_c fun _ => .int _)) (re_c fun _ => .int _)) (re_c fun _ => .str _)))) (rs_ret (re_c fun _ => .non)) rs_next)
    (rs_ret (re_cb rb_int_str (ra_cons (re_op rr_add_str (re_op rr_ixL re_v (re_c fun _ => .int _)) (re_op rr_ixL re_v (re_c fun _ => .int _))) ra_nil)))))))
theorem okD_BadSum_init {P : Program} {w : World} {K : PySem.W.Frag} {mg : Str → Option Value} {base : Heap} {ad : Ad} (T : Txt K mg ad) : FnOk P w K mg base CX0 1 ad.f_BadSum_init ad.d_BadSum_init ["self", "what"] (spIn K ad.C_BadSum) := by
  refine T.F_BadSum_init.ok sc_BadSum_init (fun vs H Q E h => ?_) (fun cdv A outer s H vs Q E hr h => ?_)
  · obtain ⟨a, y, rfl, _⟩ := h
    rfl
  · obtain ⟨a, y, rfl, ea, q⟩ := h
    refine ⟨_, pss_cons (ps_expr (pe_bi (B := "ValueError") (nI := "ValueError.__new__") (iI := "ValueError.__init__") (bm := [.type "ValueError", .type "Exception", .type "BaseException", .type "object"]) rfl T.n_ValueError (by decide +kernel) (by kernel_rfl) T.vb_BadSum (pa_cons (pv 0) (pa_cons pe_str pa_nil)))) (pss_one (ps_ow (pv 0) (pv 1))), ?_⟩
    exact ⟨_, rfl, a, ad.C_BadSum, _, rfl, (by show 1 ≤ 1000; decide), T.ob_BadSum, ea, _, rfl, _, rfl, a, ad.C_BadSum, _, _, _, _, rfl, T.ob_BadSum, ea, q⟩
theorem okD_sum_text {P : Program} {w : World} {K : PySem.W.Frag} {mg : Str → Option Value} {base : Heap} {ad : Ad} (T : Txt K mg ad) : FnOk P w K mg base CX0 1 ad.f_sum_text ad.d_sum_text ["amount"] (spF K 1 F_sum_text) := by
  refine okF0 T.F_sum_text sc_sum_text fun cdv A outer s H E hr => ⟨_, (pss_cons (ps_asg (pe_callB call_divmod (by rfl) T.n_divmod (by decide +kernel) (pa_cons (pv 0) (pa_cons (pe_globE rfl T.c_POUND_PENNIES) pa_nil))) (pg_tup (by rfl) (pgs_cons (pg_name (i := 1) sc_sum_text.nd rfl (Or.inl rfl)) (pgs_cons (pg_name (i := 2) sc_sum_text.nd rfl (Or.inl rfl)) pgs_nil))))
    (pss_one (ps_ret (pe_op op_add_str (pe_op op_add_str (pe_callTy call_str_int (by rfl) T.n_str (by decide +kernel) (pa_cons (pv 1) pa_nil)) (pe_globE rfl T.c_POUND_POINT)) (pe_bm PySem.F.plainAttrs_str PySem.F.slot_str_zfill PySem.F.type_str_zfill mt_zfill (pe_callTy call_str_int (by rfl) T.n_str (by decide +kernel) (pa_cons (pv 2) pa_nil)) (pa_cons pe_int pa_nil)))))), ?_⟩
  intro J
  exact (rs_seq (rs_asg (re_cb rb_divmod (ra_cons re_v (ra_cons (re_c fun _ => .int _) ra_nil))) (rg_tup (rgs_cons rg_name (rgs_cons rg_name rgs_nil))))
    (rs_ret (re_op rr_add_str (re_op rr_add_str (re_cb rb_str_int (ra_cons re_v ra_nil)) (re_c fun _ => .str _)) (re_bm rm_zfill (re_cb rb_str_int (ra_cons re_v ra_nil)) (ra_cons (re_c fun _ => .int _) ra_nil)))))
theorem okD_are_figures {P : Program} {w : World} {K : PySem.W.Frag} {mg : Str → Option Value} {base : Heap} {ad : Ad} (T : Txt K mg ad) : FnOk P w K mg base CX0 1 ad.f_are_figures ad.d_are_figures ["word", "least", "most"] (spF K 3 F_are_figures) := by
  refine okF0 T.F_are_figures sc_are_figures fun cdv A outer s H E hr => ⟨_, (pss_one (ps_ret (pe_and (pe_chain op_le op_le (pv 1) (pe_callB call_len_str (by rfl) T.n_len PySem.boot_len (pa_cons (pv 0) pa_nil)) (pv 2)) (pe_one (pe_callB (cr_all rfl) (by rfl) T.n_all (by decide +kernel) (pa_cons (pe_lc (own := [("sign", 3)]) (g := gName 3) (by rfl) sc_are_figures.nd (pi_str (pv 0)) (blkOk_by (own := [("sign", 3)]) (N := N_are_figures) (sc := defScope s_are_figures) (by decide +kernel)) (fun _ _ _ _ _ => (pg_name (i := 3) sc_are_figures.nd rfl (Or.inl rfl))) (fun _ _ _ _ _ => pts_nil) (fun _ _ _ _ _ => (pe_cmpR op_in_sign (pv 3) (pe_globE rfl T.c_PLAIN_FIGURES) rfl))) pa_nil)))))), ?_⟩
  intro J
  exact (rs_ret (re_and (re_chain rr_le rr_le re_v (re_cb rb_len_str (ra_cons re_v ra_nil)) re_v) (re_cb rb_all (ra_cons (RN.re (rn_lc (by decide) (ri_str re_v) (fun _ le => rg_name) (fun _ le => rt_yes) (fun _ le => (re_op rr_in_sign re_v (re_c fun _ => .str _))))) ra_nil))))
theorem okD_sum_in {P : Program} {w : World} {K : PySem.W.Frag} {mg : Str → Option Value} {base : Heap} {ad : Ad} (T : Txt K mg ad) : FnOk P w K mg base (L2.CX P w) 3 ad.f_sum_in ad.d_sum_in ["text"] (spX K 1 F_sum_in) := by
  have G_BadSum_init := okD_BadSum_init (P := P) (w := w) (base := base) T
  have G_sum_text := okD_sum_text (P := P) (w := w) (base := base) T
  have G_are_figures := okD_are_figures (P := P) (w := w) (base := base) T
  refine okX0 T.F_sum_in sc_sum_in fun cdv A outer s H E hr => ⟨_, fun _ tk => (pss_cons (ps_asg (pe_bm PySem.F.plainAttrs_str PySem.F.slot_str_rpartition PySem.F.type_str_rpartition mt_rpartition (pv 0) (pa_cons (pe_globE rfl T.c_POUND_POINT) pa_nil)) (pg_tup (by rfl) (pgs_cons (pg_name (i := 1) sc_sum_in.nd rfl (Or.inl rfl)) (pgs_cons (pg_name (i := 2) sc_sum_in.nd rfl (Or.inl rfl)) (pgs_cons (pg_name (i := 3) sc_sum_in.nd rfl (Or.inl rfl)) pgs_nil)))))
    (pss_cons (ps_if (PW.pt (pw_or (pt_not (pt_val (pe_call G_are_figures (hr.mono (by decide)) rfl T.g_are_figures T.F_are_figures.kp T.b_are_figures .nil pass0 (pa_cons (pv 1) (pa_cons pe_int (pa_cons (pe_globE rfl T.c_MOST_POUND_FIGURES) pa_nil)))))) (pw_or1 (pt_not (pt_val (pe_call G_are_figures (hr.mono (by decide)) rfl T.g_are_figures T.F_are_figures.kp T.b_are_figures .nil pass0 (pa_cons (pv 3) (pa_cons pe_int (pa_cons pe_int pa_nil))))))))) (pss_one (ps_raise rfl tk (pmk_b T.ob_BadSum T.in_BadSum T.ty_BadSum G_BadSum_init (hr.mono (by decide)) (T.b_BadSum_init) rfl T.g_BadSum (pv 0)))) pss_nil)
    (pss_cons (ps_set (i := 4) sc_sum_in.nd rfl (Or.inl rfl) (pe_op op_add (pe_op op_mul (pe_callTy call_int_str (by rfl) T.n_int (by decide +kernel) (pa_cons (pv 1) pa_nil)) (pe_globE rfl T.c_POUND_PENNIES)) (pe_callTy call_int_str (by rfl) T.n_int (by decide +kernel) (pa_cons (pv 3) pa_nil))))
    (pss_cons (ps_if (pt_cmpR op_ne (pe_call G_sum_text (hr.mono (by decide)) rfl T.g_sum_text T.F_sum_text.kp T.b_sum_text .nil pass0 (pa_cons (pv 4) pa_nil)) (pv 0) (nomark _)) (pss_one (ps_raise rfl tk (pmk_b T.ob_BadSum T.in_BadSum T.ty_BadSum G_BadSum_init (hr.mono (by decide)) (T.b_BadSum_init) rfl T.g_BadSum (pv 0)))) pss_nil)
    (pss_one (ps_ret (pv 4))))))), ?_⟩
  intro J Xw W l
  exact (rs_seq (rs_asg (re_bm rm_rpartition re_v (ra_cons (re_c fun _ => .str _) ra_nil)) (rg_tup (rgs_cons rg_name (rgs_cons rg_name (rgs_cons rg_name rgs_nil)))))
    (rs_seq (rs_if (rt_or (rt_not (rt_b (re_call (fun _ => .nil) (rc_dat re_v (rc_dat (re_c fun _ => .int _) (rc_dat (re_c fun _ => .int _) rc_nil)))))) (rt_not (rt_b (re_call (fun _ => .nil) (rc_dat re_v (rc_dat (re_c fun _ => .int _) (rc_dat (re_c fun _ => .int _) rc_nil))))))) (rs_raise T.q_BadSum l re_v) rs_next)
    (rs_seq (rs_asg (re_op rr_add (re_op rr_mul (re_cb rb_int_str (ra_cons re_v ra_nil)) (re_c fun _ => .int _)) (re_cb rb_int_str (ra_cons re_v ra_nil))) rg_name)
    (rs_seq (rs_if (rt_test (re_op rr_ne (re_call (fun _ => .nil) (rc_dat re_v rc_nil)) re_v)) (rs_raise T.q_BadSum l re_v) rs_next)
    (rs_ret re_v)))))
theorem okD__law_classes {P : Program} {w : World} {K : PySem.W.Frag} {mg : Str → Option Value} {base : Heap} {ad : Ad} (T : Txt K mg ad) : FnOk P w K mg base CX0 1 ad.f__law_classes ad.d__law_classes ["_law_caught"] (spF K 1 F__law_classes) := by
  refine okF0 T.F__law_classes sc__law_classes fun cdv A outer s H E hr => ⟨_, (pss_cons (ps_set (i := 1) sc__law_classes.nd rfl (Or.inl rfl) (pe_lst (pa_cons (pe_callB call_isX (by rfl) T.n_isinstance (by decide +kernel) (pa_cons (pv 0) (pa_cons (pe_glob (v := .ref ad.C_BadSum) rfl T.g_BadSum rfl) pa_nil))) (pa_cons (pe_callB call_isX (by rfl) T.n_isinstance (by decide +kernel) (pa_cons (pv 0) (pa_cons (pe_glob (v := .ref ad.C_BadTag) rfl T.g_BadTag rfl) pa_nil))) (pa_cons (pe_callB call_isX (by rfl) T.n_isinstance (by decide +kernel) (pa_cons (pv 0) (pa_cons (pe_glob (v := .ref ad.C_BadText) rfl T.g_BadText rfl) pa_nil))) pa_nil)))))
    (pss_cons (ps_set (i := 1) sc__law_classes.nd rfl (Or.inl rfl) (pe_op op_catK (pv 1) (pe_lst (pa_cons (pe_callB call_isX (by rfl) T.n_isinstance (by decide +kernel) (pa_cons (pv 0) (pa_cons (pe_glob (v := .ref ad.C_BadOrder) rfl T.g_BadOrder rfl) pa_nil))) (pa_cons (pe_callB call_isX (by rfl) T.n_isinstance (by decide +kernel) (pa_cons (pv 0) (pa_cons (pe_glob (v := .ref ad.C_BadQuery) rfl T.g_BadQuery rfl) pa_nil))) (pa_cons (pe_callB call_isX (by rfl) T.n_isinstance (by decide +kernel) (pa_cons (pv 0) (pa_cons (pe_glob (v := .ref ad.C_BadColumn) rfl T.g_BadColumn rfl) pa_nil))) pa_nil))))))
    (pss_cons (ps_set (i := 1) sc__law_classes.nd rfl (Or.inl rfl) (pe_op op_catK (pv 1) (pe_lst (pa_cons (pe_callB call_isX (by rfl) T.n_isinstance (by decide +kernel) (pa_cons (pv 0) (pa_cons (pe_glob (v := .ref ad.C_BadRow) rfl T.g_BadRow rfl) pa_nil))) (pa_cons (pe_callB call_isX (by rfl) T.n_isinstance (by decide +kernel) (pa_cons (pv 0) (pa_cons (pe_glob (v := .ref ad.C_NoCoin) rfl T.g_NoCoin rfl) pa_nil))) (pa_cons (pe_callB call_isX (by rfl) T.n_isinstance (by decide +kernel) (pa_cons (pv 0) (pa_cons (pe_glob (v := .ref ad.C_NoEntry) rfl T.g_NoEntry rfl) pa_nil))) pa_nil))))))
    (pss_cons (ps_set (i := 1) sc__law_classes.nd rfl (Or.inl rfl) (pe_op op_catK (pv 1) (pe_lst (pa_cons (pe_callB call_isX (by rfl) T.n_isinstance (by decide +kernel) (pa_cons (pv 0) (pa_cons (pe_glob (v := .ref ad.C_NoThing) rfl T.g_NoThing rfl) pa_nil))) (pa_cons (pe_callB call_isX (by rfl) T.n_isinstance (by decide +kernel) (pa_cons (pv 0) (pa_cons (pe_glob (v := .ref ad.C_NoChange) rfl T.g_NoChange rfl) pa_nil))) (pa_cons (pe_callB call_isX (by rfl) T.n_isinstance (by decide +kernel) (pa_cons (pv 0) (pa_cons (pe_glob (v := .ref ad.C_BadDay) rfl T.g_BadDay rfl) pa_nil))) pa_nil))))))
    (pss_cons (ps_set (i := 1) sc__law_classes.nd rfl (Or.inl rfl) (pe_op op_catK (pv 1) (pe_lst (pa_cons (pe_callB call_isX (by rfl) T.n_isinstance (by decide +kernel) (pa_cons (pv 0) (pa_cons (pe_glob (v := .ref ad.C_TooLow) rfl T.g_TooLow rfl) pa_nil))) (pa_cons (pe_callB call_isX (by rfl) T.n_isinstance (by decide +kernel) (pa_cons (pv 0) (pa_cons (pe_glob (v := .ref ad.C_TooLittle) rfl T.g_TooLittle rfl) pa_nil))) (pa_cons (pe_callB call_isX (by rfl) T.n_isinstance (by decide +kernel) (pa_cons (pv 0) (pa_cons (pe_glob (v := .ref ad.C_TooMany) rfl T.g_TooMany rfl) pa_nil))) pa_nil))))))
    (pss_cons (ps_set (i := 1) sc__law_classes.nd rfl (Or.inl rfl) (pe_op op_catK (pv 1) (pe_lst (pa_cons (pe_callB call_isX (by rfl) T.n_isinstance (by decide +kernel) (pa_cons (pv 0) (pa_cons (pe_glob (v := .ref ad.C_TooEarly) rfl T.g_TooEarly rfl) pa_nil))) (pa_cons (pe_callB call_isX (by rfl) T.n_isinstance (by decide +kernel) (pa_cons (pv 0) (pa_cons (pe_glob (v := .ref ad.C_BadDeed) rfl T.g_BadDeed rfl) pa_nil))) pa_nil)))))
    (pss_cons (ps_set (i := 2) sc__law_classes.nd rfl (Or.inl rfl) pe_str)
    (pss_cons (ps_set (i := 2) sc__law_classes.nd rfl (Or.inl rfl) (pe_op op_add_str (pv 2) pe_str))
    (pss_one (ps_ret (pe_lc (own := [("_law_word", 3), ("_law_one", 4)]) (g := gTup K 2 (gCons (gName 3) (gCons (gName 4) gNil))) (by rfl) sc__law_classes.nd (RZ.pi_zipA (by rfl) T.n_zip (pa_cons (pe_bm PySem.F.plainAttrs_str PySem.F.slot_str_split PySem.F.type_str_split mt_split (pv 2) (pa_cons pe_str pa_nil)) (pa_cons (pv 1) pa_nil))) (blkOk_by (own := [("_law_word", 3), ("_law_one", 4)]) (N := N__law_classes) (sc := defScope s__law_classes) (by decide +kernel)) (fun _ _ _ _ _ => (pg_tup (by rfl) (pgs_cons (pg_name (i := 3) sc__law_classes.nd rfl (Or.inl rfl)) (pgs_cons (pg_name (i := 4) sc__law_classes.nd rfl (Or.inl rfl)) pgs_nil)))) (fun _ _ _ _ _ => (pts_one (pt_val (pv 4)))) (fun _ _ _ _ _ => (pv 3))))))))))))), ?_⟩
  intro J
  exact (rs_seq (rs_asg (RN.re (rn_lst (ra_cons (re_isX (.own _) (tab_cons T.q_BadSum ⟨T.xk_BadSum, T.ts_16_BadSum⟩ tab_nil) re_v) (ra_cons (re_isX (.own _) (tab_cons T.q_BadSum ⟨T.xk_BadSum, T.ts_15_BadSum⟩ tab_nil) re_v) (ra_cons (re_isX (.own _) (tab_cons T.q_BadSum ⟨T.xk_BadSum, T.ts_14_BadSum⟩ tab_nil) re_v) ra_nil))))) rg_name)
    (rs_seq (rs_asg (re_op rr_cat re_v (RN.re (rn_lst (ra_cons (re_isX (.own _) (tab_cons T.q_BadSum ⟨T.xk_BadSum, T.ts_13_BadSum⟩ tab_nil) re_v) (ra_cons (re_isX (.own _) (tab_cons T.q_BadSum ⟨T.xk_BadSum, T.ts_12_BadSum⟩ tab_nil) re_v) (ra_cons (re_isX (.own _) (tab_cons T.q_BadSum ⟨T.xk_BadSum, T.ts_11_BadSum⟩ tab_nil) re_v) ra_nil)))))) rg_name)
    (rs_seq (rs_asg (re_op rr_cat re_v (RN.re (rn_lst (ra_cons (re_isX (.own _) (tab_cons T.q_BadSum ⟨T.xk_BadSum, T.ts_10_BadSum⟩ tab_nil) re_v) (ra_cons (re_isX (.own _) (tab_cons T.q_BadSum ⟨T.xk_BadSum, T.ts_9_BadSum⟩ tab_nil) re_v) (ra_cons (re_isX (.own _) (tab_cons T.q_BadSum ⟨T.xk_BadSum, T.ts_8_BadSum⟩ tab_nil) re_v) ra_nil)))))) rg_name)
    (rs_seq (rs_asg (re_op rr_cat re_v (RN.re (rn_lst (ra_cons (re_isX (.own _) (tab_cons T.q_BadSum ⟨T.xk_BadSum, T.ts_7_BadSum⟩ tab_nil) re_v) (ra_cons (re_isX (.own _) (tab_cons T.q_BadSum ⟨T.xk_BadSum, T.ts_6_BadSum⟩ tab_nil) re_v) (ra_cons (re_isX (.own _) (tab_cons T.q_BadSum ⟨T.xk_BadSum, T.ts_5_BadSum⟩ tab_nil) re_v) ra_nil)))))) rg_name)
    (rs_seq (rs_asg (re_op rr_cat re_v (RN.re (rn_lst (ra_cons (re_isX (.own _) (tab_cons T.q_BadSum ⟨T.xk_BadSum, T.ts_4_BadSum⟩ tab_nil) re_v) (ra_cons (re_isX (.own _) (tab_cons T.q_BadSum ⟨T.xk_BadSum, T.ts_3_BadSum⟩ tab_nil) re_v) (ra_cons (re_isX (.own _) (tab_cons T.q_BadSum ⟨T.xk_BadSum, T.ts_2_BadSum⟩ tab_nil) re_v) ra_nil)))))) rg_name)
    (rs_seq (rs_asg (re_op rr_cat re_v (RN.re (rn_lst (ra_cons (re_isX (.own _) (tab_cons T.q_BadSum ⟨T.xk_BadSum, T.ts_1_BadSum⟩ tab_nil) re_v) (ra_cons (re_isX (.own _) (tab_cons T.q_BadSum ⟨T.xk_BadSum, T.ts_0_BadSum⟩ tab_nil) re_v) ra_nil))))) rg_name)
    (rs_seq (rs_asg (re_c fun _ => .str _) rg_name)
    (rs_seq (rs_asg (re_op rr_add_str re_v (re_c fun _ => .str _)) rg_name)
    (rs_ret (RN.re (rn_lc (by decide) (ri_zip (ra_cons (re_bm rm_split re_v (ra_cons (re_c fun _ => .str _) ra_nil)) (ra_cons re_v ra_nil))) (fun _ le => (rg_tup (rgs_cons rg_name (rgs_cons rg_name rgs_nil)))) (fun _ le => (rt_b re_v)) (fun _ le => re_v))))))))))))
theorem okD__law_told {P : Program} {w : World} {K : PySem.W.Frag} {mg : Str → Option Value} {base : Heap} {ad : Ad} (T : Txt K mg ad) : FnOk P w K mg base CX0 4 ad.f__law_told ad.d__law_told ["_law_text"] (spF K 1 F__law_told) := by
  have G_sum_in := okD_sum_in (P := P) (w := w) (base := base) T
  have G__law_classes := okD__law_classes (P := P) (w := w) (base := base) T
  refine okF0 T.F__law_told sc__law_told fun cdv A outer s H E hr => ⟨_, (pss_cons (ps_asg (pe_tup (pa_cons pe_non (pa_cons pe_non pa_nil))) (pg_tup (by rfl) (pgs_cons (pg_name (i := 1) sc__law_told.nd rfl (Or.inl rfl)) (pgs_cons (pg_name (i := 2) sc__law_told.nd rfl (Or.inl rfl)) pgs_nil))))
    (pss_cons (ps_try_keep (i := 3) rfl rfl rfl sc__law_told.nd rfl rfl (.one (by exact ⟨rfl, by decide, .inl T.g_BadSum⟩)) takes0 (fun _ _ _ tk1 po1 => (pss_one (ps_set (i := 1) sc__law_told.nd rfl (Or.inl rfl) (pe_callSD G_sum_in (hr.mono (by decide)) rfl T.g_sum_in T.F_sum_in.kp T.b_sum_in .nil (fun σ => passAt tk1 σ) (pa_cons (pv 0) pa_nil))))) (fun _ _ => pss_one (ps_set (i := 2) sc__law_told.nd rfl (Or.inl rfl) (pv 3))))
    (pss_cons (ps_if (pt_cmpR op_isN (pv 2) pe_non (nomark _)) (pss_one (ps_ret (pe_tup (pa_cons pe_str (pa_cons (pv 1) pa_nil))))) pss_nil)
    (pss_one (ps_ret (pe_tup (pa_cons (pe_op op_catK (pe_call G__law_classes (hr.mono (by decide)) rfl T.g__law_classes T.F__law_classes.kp T.b__law_classes .nil pass0 (pa_cons (pv 2) pa_nil)) (pe_op op_rep (pe_lst (pa_cons pe_str pa_nil)) (pe_callTy call_int1 (by rfl) T.n_int (by decide +kernel) (pa_cons (pe_callB call_isX (by rfl) T.n_isinstance (by decide +kernel) (pa_cons (pv 2) (pa_cons (pe_bltn (v := .ty "ValueError") (by rfl) T.n_ValueError (by decide +kernel) rfl) pa_nil))) pa_nil)))) (pa_cons (pe_what (pv 2)) pa_nil)))))))), ?_⟩
  intro J
  exact (rs_seq (rs_asg (re_tup (ra_cons (re_c fun _ => .non) (ra_cons (re_c fun _ => .non) ra_nil))) (rg_tup (rgs_cons rg_name (rgs_cons rg_name rgs_nil))))
    (rs_seq (rs_tryK (by decide) lkF (tab_cons T.q_BadSum T.ts_18_BadSum tab_nil) (fun _ _ _ _ l1 => (rs_asg (re_callX l1 (fun _ => .nil) (rc_dat re_v rc_nil)) rg_name)))
    (rs_seq (rs_if (rt_test (re_op rr_isN re_v (re_c fun _ => .non))) (rs_ret (re_tup (ra_cons (re_c fun _ => .str _) (ra_cons re_v ra_nil)))) rs_next)
    (rs_ret (re_tup (ra_cons (re_op rr_cat (re_call (fun _ => .nil) (rc_dat re_v rc_nil)) (RN.re (rn_rep (rn_lst (ra_cons (re_c fun _ => .str _) ra_nil)) (re_cb rb_int (ra_cons (re_isX (.ty _) (tab_cons T.q_BadSum ⟨T.xk_BadSum, T.ts_17_BadSum⟩ tab_nil) re_v) ra_nil))))) (ra_cons (re_what (cls_cons T.q_BadSum T.xk_BadSum cls_nil) re_v) ra_nil)))))))
theorem okD__law_right {P : Program} {w : World} {K : PySem.W.Frag} {mg : Str → Option Value} {base : Heap} {ad : Ad} (T : Txt K mg ad) : FnOk P w K mg base CX0 9 ad.f__law_right ad.d__law_right ["_law_text"] (spF K 1 F__law_right) := by
  have G__law_read := okD__law_read (P := P) (w := w) (base := base) T
  have G__law_same := okD__law_same (P := P) (w := w) (base := base) T 8
  have G__law_told := okD__law_told (P := P) (w := w) (base := base) T
  refine okF0 T.F__law_right sc__law_right fun cdv A outer s H E hr => ⟨_, (pss_cons (ps_set (i := 1) sc__law_right.nd rfl (Or.inl rfl) (pe_call G__law_read (hr.mono (by decide)) rfl T.g__law_read T.F__law_read.kp T.b__law_read .nil pass0 (pa_cons (pv 0) pa_nil)))
    (pss_cons (ps_set (i := 2) sc__law_right.nd rfl (Or.inl rfl) (pe_ifExp (pt_cmpR op_isN (pv 1) pe_non (nomark _)) (pe_tup (pa_cons (pe_lst (pa_cons pe_str (pa_cons pe_str pa_nil))) (pa_cons (pv 0) pa_nil))) (pe_tup (pa_cons pe_str (pa_cons (pv 1) pa_nil)))))
    (pss_one (ps_ret (pe_call G__law_same (hr.mono (by decide)) rfl T.g__law_same T.F__law_same.kp T.b__law_same .nil pass0 (pa_cons (pe_call G__law_told (hr.mono (by decide)) rfl T.g__law_told T.F__law_told.kp T.b__law_told .nil pass0 (pa_cons (pv 0) pa_nil)) (pa_cons (pv 2) pa_nil))))))), ?_⟩
  intro J
  exact (rs_seq (rs_asg (re_call (fun _ => .nil) (rc_dat re_v rc_nil)) rg_name)
    (rs_seq (rs_asg (re_if (rt_test (re_op rr_isN re_v (re_c fun _ => .non))) (re_tup (ra_cons (RN.re (rn_lst (ra_cons (re_c fun _ => .str _) (ra_cons (re_c fun _ => .str _) ra_nil)))) (ra_cons re_v ra_nil))) (re_tup (ra_cons (re_c fun _ => .str _) (ra_cons re_v ra_nil)))) rg_name)
    (rs_ret (re_call (fun _ => .nil) (rc_dat (re_call (fun _ => .nil) (rc_dat re_v rc_nil)) (rc_dat re_v rc_nil))))))
theorem okD_law {P : Program} {w : World} {K : PySem.W.Frag} {mg : Str → Option Value} {base : Heap} {ad : Ad} (T : Txt K mg ad) : FnOk P w K mg base CX0 10 ad.f_law ad.d_law ["_law_script"] (spF K 1 F_law) := by
  have G__law_box := okD__law_box (P := P) (w := w) (base := base) T
  have G__law_take := okD__law_take (P := P) (w := w) (base := base) T
  have G__law_spoilt := okD__law_spoilt (P := P) (w := w) (base := base) T
  have G__law_right := okD__law_right (P := P) (w := w) (base := base) T
  refine okF0 T.F_law sc_law fun cdv A outer s H E hr => ⟨_, (pss_cons (ps_set (i := 1) sc_law.nd rfl (Or.inl rfl) (pe_lst (pa_cons pe_str (pa_cons pe_str (pa_cons pe_str (pa_cons pe_str (pa_cons pe_str (pa_cons pe_str (pa_cons pe_str (pa_cons pe_str (pa_cons pe_str (pa_cons pe_str (pa_cons pe_str (pa_cons pe_str (pa_cons pe_str (pa_cons pe_str pa_nil))))))))))))))))
    (pss_cons (ps_set (i := 1) sc_law.nd rfl (Or.inl rfl) (pe_op op_catK (pv 1) (pe_lst (pa_cons pe_str (pa_cons pe_str (pa_cons pe_str (pa_cons pe_str (pa_cons pe_str (pa_cons pe_str (pa_cons pe_str (pa_cons pe_str pa_nil)))))))))))
    (pss_cons (ps_if (pt_not (pt_val (pe_callB (cr_all rfl) (by rfl) T.n_all (by decide +kernel) (pa_cons (pe_lc (own := [("_law_text", 2)]) (g := gName 2) (by rfl) sc_law.nd (pi_list (pv 1)) (blkOk_by (own := [("_law_text", 2)]) (N := N_law) (sc := defScope s_law) (by decide +kernel)) (fun _ _ _ _ _ => (pg_name (i := 2) sc_law.nd rfl (Or.inl rfl))) (fun _ _ _ _ _ => pts_nil) (fun _ _ _ _ _ => (pe_call G__law_right (hr.mono (by decide)) rfl T.g__law_right T.F__law_right.kp T.b__law_right .nil pass0 (pa_cons (pv 2) pa_nil)))) pa_nil)))) (pss_one (ps_ret pe_bl)) pss_nil)
    (pss_cons (ps_for PassesOwn.never rfl (pi_range1 rfl T.n_range (pa_cons (pe_op op_add pe_int (pe_callB (call_min2 rfl) (by rfl) T.n_min (by decide +kernel) (pa_cons pe_int (pa_cons (pe_callB call_len_seq (by rfl) T.n_len PySem.boot_len (pa_cons (pv 0) pa_nil)) pa_nil)))) pa_nil)) (pg_name (i := 3) sc_law.nd rfl (Or.inl rfl)) (pss_cons (ps_set (i := 4) sc_law.nd rfl (Or.inl rfl) (pe_call G__law_box (hr.mono (by decide)) rfl T.g__law_box T.F__law_box.kp T.b__law_box .nil pass0 (pa_cons (pv 0) (pa_cons (pv 3) pa_nil))))
    (pss_cons (ps_set (i := 5) sc_law.nd rfl (Or.inl rfl) (pe_call G__law_take (hr.mono (by decide)) rfl T.g__law_take T.F__law_take.kp T.b__law_take .nil pass0 (pa_cons (pv 4) (pa_cons (pe_ix ix_list (pe_lst (pa_cons pe_int (pa_cons pe_int (pa_cons (pe_op op_pow pe_int pe_int) pa_nil)))) (pe_call G__law_take (hr.mono (by decide)) rfl T.g__law_take T.F__law_take.kp T.b__law_take .nil pass0 (pa_cons (pv 4) (pa_cons pe_int pa_nil))) (fun _ _ => rfl)) pa_nil))))
    (pss_cons (ps_set (i := 2) sc_law.nd rfl (Or.inl rfl) (pe_op op_add_str (pe_op op_add_str (pe_callTy call_str_int (by rfl) T.n_str (by decide +kernel) (pa_cons (pe_op op_fdiv (pv 5) pe_int) pa_nil)) pe_str) (pe_slice sl_str (pe_callTy call_str_int (by rfl) T.n_str (by decide +kernel) (pa_cons (pe_op op_add pe_int (pe_op op_mod (pv 5) pe_int)) pa_nil)) (po_some pe_int) po_none)))
    (pss_one (ps_for PassesOwn.never rfl (pi_range1 rfl T.n_range (pa_cons pe_int pa_nil)) (pg_name (i := 6) sc_law.nd rfl (Or.inl rfl)) (pss_cons (ps_set (i := 7) sc_law.nd rfl (Or.inl rfl) (pe_cmpR op_eq (pe_call G__law_take (hr.mono (by decide)) rfl T.g__law_take T.F__law_take.kp T.b__law_take .nil pass0 (pa_cons (pv 4) (pa_cons pe_int pa_nil))) pe_int (nomark _)))
    (pss_cons (ps_set (i := 8) sc_law.nd rfl (Or.inl rfl) (pe_call G__law_spoilt (hr.mono (by decide)) rfl T.g__law_spoilt T.F__law_spoilt.kp T.b__law_spoilt .nil pass0 (pa_cons (pv 4) (pa_cons (pv 2) pa_nil))))
    (pss_cons (ps_set (i := 8) sc_law.nd rfl (Or.inl rfl) (pe_ifExp (pt_val (pv 7)) (pe_call G__law_spoilt (hr.mono (by decide)) rfl T.g__law_spoilt T.F__law_spoilt.kp T.b__law_spoilt .nil pass0 (pa_cons (pv 4) (pa_cons (pv 8) pa_nil))) (pv 8)))
    (pss_one (ps_if (PW.pt (pw_or (pt_not (pt_val (pe_call G__law_right (hr.mono (by decide)) rfl T.g__law_right T.F__law_right.kp T.b__law_right .nil pass0 (pa_cons (pv 8) pa_nil)))) (pw_or (pt_not (pt_val (pe_call G__law_right (hr.mono (by decide)) rfl T.g__law_right T.F__law_right.kp T.b__law_right .nil pass0 (pa_cons (pv 8) pa_nil)))) (pw_or1 (pt_not (pt_val (pe_call G__law_right (hr.mono (by decide)) rfl T.g__law_right T.F__law_right.kp T.b__law_right .nil pass0 (pa_cons (pv 2) pa_nil)))))))) (pss_one (ps_ret pe_bl)) pss_nil)))))))))))
    (pss_one (ps_ret pe_bl)))))), ?_⟩
  intro J
  exact (rs_seq (rs_asg (RN.re (rn_lst (ra_cons (re_c fun _ => .str _) (ra_cons (re_c fun _ => .str _) (ra_cons (re_c fun _ => .str _) (ra_cons (re_c fun _ => .str _) (ra_cons (re_c fun _ => .str _) (ra_cons (re_c fun _ => .str _) (ra_cons (re_c fun _ => .str _) (ra_cons (re_c fun _ => .str _) (ra_cons (re_c fun _ => .str _) (ra_cons (re_c fun _ => .str _) (ra_cons (re_c fun _ => .str _) (ra_cons (re_c fun _ => .str _) (ra_cons (re_c fun _ => .str _) (ra_cons (re_c fun _ => .str _) ra_nil)))))))))))))))) rg_name)
    (rs_seq (rs_asg (re_op rr_cat re_v (RN.re (rn_lst (ra_cons (re_c fun _ => .str _) (ra_cons (re_c fun _ => .str _) (ra_cons (re_c fun _ => .str _) (ra_cons (re_c fun _ => .str _) (ra_cons (re_c fun _ => .str _) (ra_cons (re_c fun _ => .str _) (ra_cons (re_c fun _ => .str _) (ra_cons (re_c fun _ => .str _) ra_nil))))))))))) rg_name)
    (rs_seq (rs_if (rt_not (rt_b (re_cb rb_all (ra_cons (RN.re (rn_lc (by decide) (ri_list re_v) (fun _ le => rg_name) (fun _ le => rt_yes) (fun _ le => (re_call (fun _ => .nil) (rc_dat re_v rc_nil))))) ra_nil)))) (rs_ret (re_c fun _ => .bl _)) rs_next)
    (rs_seq (rs_for (by decide) (ri_rng1 (ra_cons (re_op rr_add (re_c fun _ => .int _) (re_cb rb_min2 (ra_cons (re_c fun _ => .int _) (ra_cons (re_cb rb_len (ra_cons re_v ra_nil)) ra_nil)))) ra_nil)) rg_name (rs_seq (rs_own (by decide) (rn_call (fun _ => .nil) (rc_dat re_v (rc_dat re_v rc_nil))))
    (rs_seq (rs_asg (re_call (fun _ => .nil) (rc_own (rc_dat (re_op rr_ixL (RN.re (rn_lst (ra_cons (re_c fun _ => .int _) (ra_cons (re_c fun _ => .int _) (ra_cons (re_op rr_pow (re_c fun _ => .int _) (re_c fun _ => .int _)) ra_nil))))) (re_call (fun _ => .nil) (rc_own (rc_dat (re_c fun _ => .int _) rc_nil)))) rc_nil))) rg_name)
    (rs_seq (rs_asg (re_op rr_add_str (re_op rr_add_str (re_cb rb_str_int (ra_cons (re_op rr_fdiv re_v (re_c fun _ => .int _)) ra_nil)) (re_c fun _ => .str _)) (re_sl rl_str (re_cb rb_str_int (ra_cons (re_op rr_add (re_c fun _ => .int _) (re_op rr_mod re_v (re_c fun _ => .int _))) ra_nil)) (ro_so (re_c fun _ => .int _)) ro_no)) rg_name)
    (rs_for (by decide) (ri_rng1 (ra_cons (re_c fun _ => .int _) ra_nil)) rg_name (rs_seq (rs_asg (re_op rr_eq (re_call (fun _ => .nil) (rc_own (rc_dat (re_c fun _ => .int _) rc_nil))) (re_c fun _ => .int _)) rg_name)
    (rs_seq (rs_asg (re_call (fun _ => .nil) (rc_own (rc_dat re_v rc_nil))) rg_name)
    (rs_seq (rs_asg (re_if (rt_b re_v) (re_call (fun _ => .nil) (rc_own (rc_dat re_v rc_nil))) re_v) rg_name)
    (rs_if (rt_or (rt_not (rt_b (re_call (fun _ => .nil) (rc_dat re_v rc_nil)))) (rt_or (rt_not (rt_b (re_call (fun _ => .nil) (rc_dat re_v rc_nil)))) (rt_not (rt_b (re_call (fun _ => .nil) (rc_dat re_v rc_nil)))))) (rs_ret (re_c fun _ => .bl _)) rs_next)))))))))
    (rs_ret (re_c fun _ => .bl _))))))
abbrev sp_law (K : PySem.W.Frag) : Sp := spLaw K
theorem ok_law {P : Program} {w : World} {K : PySem.W.Frag} {mg : Str → Option Value} {base : Heap} {ad : Ad} (T : Txt K mg ad) : FnOk P w K mg base CX0 10 ad.f_law ad.d_law ["_law_script"] (sp_law K) :=
  (okD_law T).imp fun _ _ _ _ h => law_of (fun ns hl => f_law hl) h

theorem all_mk {l : PySem.W.OpenLaw} {w : World} {K : PySem.W.Frag} {h : Heap} {mg : Str → Option Value} {fa : Addr} (X : K.In h) (G : h.Ns mainGlobals mg) (hfa : mg "law" = some (.ref fa))
    {C_BadSum : Addr}
    {C_BadTag : Addr}
    {C_BadText : Addr}
    {C_BadOrder : Addr}
    {C_BadQuery : Addr}
    {C_BadColumn : Addr}
    {C_BadRow : Addr}
    {C_NoCoin : Addr}
    {C_NoEntry : Addr}
    {C_NoThing : Addr}
    {C_NoChange : Addr}
    {C_BadDay : Addr}
    {C_TooLow : Addr}
    {C_TooLittle : Addr}
    {C_TooMany : Addr}
    {C_TooEarly : Addr}
    {C_BadDeed : Addr}
    {f__law_box : Addr} {od__law_box an__law_box : Option Addr} {sl__law_box : Array (Option Value)} {oc__law_box kV__law_box dc__law_box pm__law_box cd__law_box ct__law_box : Value}
    {f__law_take : Addr} {od__law_take an__law_take : Option Addr} {sl__law_take : Array (Option Value)} {oc__law_take kV__law_take dc__law_take pm__law_take cd__law_take ct__law_take : Value}
    {f__law_spoilt : Addr} {od__law_spoilt an__law_spoilt : Option Addr} {sl__law_spoilt : Array (Option Value)} {oc__law_spoilt kV__law_spoilt dc__law_spoilt pm__law_spoilt cd__law_spoilt ct__law_spoilt : Value}
    {f__law_read : Addr} {od__law_read an__law_read : Option Addr} {sl__law_read : Array (Option Value)} {oc__law_read kV__law_read dc__law_read pm__law_read cd__law_read ct__law_read : Value}
    {f__law_same : Addr} {od__law_same an__law_same : Option Addr} {sl__law_same : Array (Option Value)} {oc__law_same kV__law_same dc__law_same pm__law_same cd__law_same ct__law_same : Value}
    {f_BadSum_init : Addr} {od_BadSum_init an_BadSum_init : Option Addr} {sl_BadSum_init : Array (Option Value)} {oc_BadSum_init kV_BadSum_init dc_BadSum_init pm_BadSum_init cd_BadSum_init ct_BadSum_init : Value}
    {f_sum_text : Addr} {od_sum_text an_sum_text : Option Addr} {sl_sum_text : Array (Option Value)} {oc_sum_text kV_sum_text dc_sum_text pm_sum_text cd_sum_text ct_sum_text : Value}
    {f_are_figures : Addr} {od_are_figures an_are_figures : Option Addr} {sl_are_figures : Array (Option Value)} {oc_are_figures kV_are_figures dc_are_figures pm_are_figures cd_are_figures ct_are_figures : Value}
    {f_sum_in : Addr} {od_sum_in an_sum_in : Option Addr} {sl_sum_in : Array (Option Value)} {oc_sum_in kV_sum_in dc_sum_in pm_sum_in cd_sum_in ct_sum_in : Value}
    {f__law_classes : Addr} {od__law_classes an__law_classes : Option Addr} {sl__law_classes : Array (Option Value)} {oc__law_classes kV__law_classes dc__law_classes pm__law_classes cd__law_classes ct__law_classes : Value}
    {f__law_told : Addr} {od__law_told an__law_told : Option Addr} {sl__law_told : Array (Option Value)} {oc__law_told kV__law_told dc__law_told pm__law_told cd__law_told ct__law_told : Value}
    {f__law_right : Addr} {od__law_right an__law_right : Option Addr} {sl__law_right : Array (Option Value)} {oc__law_right kV__law_right dc__law_right pm__law_right cd__law_right ct__law_right : Value}
    {f_law : Addr} {od_law an_law : Option Addr} {sl_law : Array (Option Value)} {oc_law kV_law dc_law pm_law cd_law ct_law : Value}
    {t_PLAIN_FIGURES : Tok}
    {t_POUND_POINT : Tok}
    {t_POUND_PENNIES : Tok}
    {t_MOST_POUND_FIGURES : Tok}
    {cd_BadSum : ClassData}
    (a_BadSum : PySem.W.nsIn K mainGlobals "BadSum" = some (some (.ref C_BadSum)))
    (a_BadTag : PySem.W.nsIn K mainGlobals "BadTag" = some (some (.ref C_BadTag)))
    (a_BadText : PySem.W.nsIn K mainGlobals "BadText" = some (some (.ref C_BadText)))
    (a_BadOrder : PySem.W.nsIn K mainGlobals "BadOrder" = some (some (.ref C_BadOrder)))
    (a_BadQuery : PySem.W.nsIn K mainGlobals "BadQuery" = some (some (.ref C_BadQuery)))
    (a_BadColumn : PySem.W.nsIn K mainGlobals "BadColumn" = some (some (.ref C_BadColumn)))
    (a_BadRow : PySem.W.nsIn K mainGlobals "BadRow" = some (some (.ref C_BadRow)))
    (a_NoCoin : PySem.W.nsIn K mainGlobals "NoCoin" = some (some (.ref C_NoCoin)))
    (a_NoEntry : PySem.W.nsIn K mainGlobals "NoEntry" = some (some (.ref C_NoEntry)))
    (a_NoThing : PySem.W.nsIn K mainGlobals "NoThing" = some (some (.ref C_NoThing)))
    (a_NoChange : PySem.W.nsIn K mainGlobals "NoChange" = some (some (.ref C_NoChange)))
    (a_BadDay : PySem.W.nsIn K mainGlobals "BadDay" = some (some (.ref C_BadDay)))
    (a_TooLow : PySem.W.nsIn K mainGlobals "TooLow" = some (some (.ref C_TooLow)))
    (a_TooLittle : PySem.W.nsIn K mainGlobals "TooLittle" = some (some (.ref C_TooLittle)))
    (a_TooMany : PySem.W.nsIn K mainGlobals "TooMany" = some (some (.ref C_TooMany)))
    (a_TooEarly : PySem.W.nsIn K mainGlobals "TooEarly" = some (some (.ref C_TooEarly)))
    (a_BadDeed : PySem.W.nsIn K mainGlobals "BadDeed" = some (some (.ref C_BadDeed)))
    (a__law_box : PySem.W.nsIn K mainGlobals "_law_box" = some (some (.ref f__law_box)))
    (l__law_box : K.lookup f__law_box = some ⟨oc__law_box, od__law_box, .func (PySem.W.fnOf "_law_box" "_law_box" (defArgs s__law_box) (defBody s__law_box) (defScope s__law_box) .none kV__law_box dc__law_box pm__law_box an__law_box cd__law_box ct__law_box), sl__law_box⟩)
    (e__law_box : PySem.W.codeIn K cd__law_box "_law_box" = true)
    (k__law_box : PySem.W.keepIn K (.ref f__law_box) = true)
    (a__law_take : PySem.W.nsIn K mainGlobals "_law_take" = some (some (.ref f__law_take)))
    (l__law_take : K.lookup f__law_take = some ⟨oc__law_take, od__law_take, .func (PySem.W.fnOf "_law_take" "_law_take" (defArgs s__law_take) (defBody s__law_take) (defScope s__law_take) .none kV__law_take dc__law_take pm__law_take an__law_take cd__law_take ct__law_take), sl__law_take⟩)
    (e__law_take : PySem.W.codeIn K cd__law_take "_law_take" = true)
    (k__law_take : PySem.W.keepIn K (.ref f__law_take) = true)
    (a__law_spoilt : PySem.W.nsIn K mainGlobals "_law_spoilt" = some (some (.ref f__law_spoilt)))
    (l__law_spoilt : K.lookup f__law_spoilt = some ⟨oc__law_spoilt, od__law_spoilt, .func (PySem.W.fnOf "_law_spoilt" "_law_spoilt" (defArgs s__law_spoilt) (defBody s__law_spoilt) (defScope s__law_spoilt) .none kV__law_spoilt dc__law_spoilt pm__law_spoilt an__law_spoilt cd__law_spoilt ct__law_spoilt), sl__law_spoilt⟩)
    (e__law_spoilt : PySem.W.codeIn K cd__law_spoilt "_law_spoilt" = true)
    (k__law_spoilt : PySem.W.keepIn K (.ref f__law_spoilt) = true)
    (a__law_read : PySem.W.nsIn K mainGlobals "_law_read" = some (some (.ref f__law_read)))
    (l__law_read : K.lookup f__law_read = some ⟨oc__law_read, od__law_read, .func (PySem.W.fnOf "_law_read" "_law_read" (defArgs s__law_read) (defBody s__law_read) (defScope s__law_read) .none kV__law_read dc__law_read pm__law_read an__law_read cd__law_read ct__law_read), sl__law_read⟩)
    (e__law_read : PySem.W.codeIn K cd__law_read "_law_read" = true)
    (k__law_read : PySem.W.keepIn K (.ref f__law_read) = true)
    (a__law_same : PySem.W.nsIn K mainGlobals "_law_same" = some (some (.ref f__law_same)))
    (l__law_same : K.lookup f__law_same = some ⟨oc__law_same, od__law_same, .func (PySem.W.fnOf "_law_same" "_law_same" (defArgs s__law_same) (defBody s__law_same) (defScope s__law_same) .none kV__law_same dc__law_same pm__law_same an__law_same cd__law_same ct__law_same), sl__law_same⟩)
    (e__law_same : PySem.W.codeIn K cd__law_same "_law_same" = true)
    (k__law_same : PySem.W.keepIn K (.ref f__law_same) = true)
    (a_BadSum_init : PySem.W.findIn K (.ref C_BadSum) "__init__" = some (some (.ref f_BadSum_init)))
    (i_BadSum_init : PySem.W.isFn K (.ref f_BadSum_init) = true)
    (l_BadSum_init : K.lookup f_BadSum_init = some ⟨oc_BadSum_init, od_BadSum_init, .func (PySem.W.fnOf "__init__" "BadSum.__init__" (defArgs s_BadSum_init) (defBody s_BadSum_init) (defScope s_BadSum_init) .none kV_BadSum_init dc_BadSum_init pm_BadSum_init an_BadSum_init cd_BadSum_init ct_BadSum_init), sl_BadSum_init⟩)
    (e_BadSum_init : PySem.W.codeIn K cd_BadSum_init "BadSum.__init__" = true)
    (k_BadSum_init : PySem.W.keepIn K (.ref f_BadSum_init) = true)
    (a_sum_text : PySem.W.nsIn K mainGlobals "sum_text" = some (some (.ref f_sum_text)))
    (l_sum_text : K.lookup f_sum_text = some ⟨oc_sum_text, od_sum_text, .func (PySem.W.fnOf "sum_text" "sum_text" (defArgs s_sum_text) (defBody s_sum_text) (defScope s_sum_text) .none kV_sum_text dc_sum_text pm_sum_text an_sum_text cd_sum_text ct_sum_text), sl_sum_text⟩)
    (e_sum_text : PySem.W.codeIn K cd_sum_text "sum_text" = true)
    (k_sum_text : PySem.W.keepIn K (.ref f_sum_text) = true)
    (a_are_figures : PySem.W.nsIn K mainGlobals "are_figures" = some (some (.ref f_are_figures)))
    (l_are_figures : K.lookup f_are_figures = some ⟨oc_are_figures, od_are_figures, .func (PySem.W.fnOf "are_figures" "are_figures" (defArgs s_are_figures) (defBody s_are_figures) (defScope s_are_figures) .none kV_are_figures dc_are_figures pm_are_figures an_are_figures cd_are_figures ct_are_figures), sl_are_figures⟩)
    (e_are_figures : PySem.W.codeIn K cd_are_figures "are_figures" = true)
    (k_are_figures : PySem.W.keepIn K (.ref f_are_figures) = true)
    (a_sum_in : PySem.W.nsIn K mainGlobals "sum_in" = some (some (.ref f_sum_in)))
    (l_sum_in : K.lookup f_sum_in = some ⟨oc_sum_in, od_sum_in, .func (PySem.W.fnOf "sum_in" "sum_in" (defArgs s_sum_in) (defBody s_sum_in) (defScope s_sum_in) .none kV_sum_in dc_sum_in pm_sum_in an_sum_in cd_sum_in ct_sum_in), sl_sum_in⟩)
    (e_sum_in : PySem.W.codeIn K cd_sum_in "sum_in" = true)
    (k_sum_in : PySem.W.keepIn K (.ref f_sum_in) = true)
    (a__law_classes : PySem.W.nsIn K mainGlobals "_law_classes" = some (some (.ref f__law_classes)))
    (l__law_classes : K.lookup f__law_classes = some ⟨oc__law_classes, od__law_classes, .func (PySem.W.fnOf "_law_classes" "_law_classes" (defArgs s__law_classes) (defBody s__law_classes) (defScope s__law_classes) .none kV__law_classes dc__law_classes pm__law_classes an__law_classes cd__law_classes ct__law_classes), sl__law_classes⟩)
    (e__law_classes : PySem.W.codeIn K cd__law_classes "_law_classes" = true)
    (k__law_classes : PySem.W.keepIn K (.ref f__law_classes) = true)
    (a__law_told : PySem.W.nsIn K mainGlobals "_law_told" = some (some (.ref f__law_told)))
    (l__law_told : K.lookup f__law_told = some ⟨oc__law_told, od__law_told, .func (PySem.W.fnOf "_law_told" "_law_told" (defArgs s__law_told) (defBody s__law_told) (defScope s__law_told) .none kV__law_told dc__law_told pm__law_told an__law_told cd__law_told ct__law_told), sl__law_told⟩)
    (e__law_told : PySem.W.codeIn K cd__law_told "_law_told" = true)
    (k__law_told : PySem.W.keepIn K (.ref f__law_told) = true)
    (a__law_right : PySem.W.nsIn K mainGlobals "_law_right" = some (some (.ref f__law_right)))
    (l__law_right : K.lookup f__law_right = some ⟨oc__law_right, od__law_right, .func (PySem.W.fnOf "_law_right" "_law_right" (defArgs s__law_right) (defBody s__law_right) (defScope s__law_right) .none kV__law_right dc__law_right pm__law_right an__law_right cd__law_right ct__law_right), sl__law_right⟩)
    (e__law_right : PySem.W.codeIn K cd__law_right "_law_right" = true)
    (k__law_right : PySem.W.keepIn K (.ref f__law_right) = true)
    (a_law : PySem.W.nsIn K mainGlobals "law" = some (some (.ref f_law)))
    (l_law : K.lookup f_law = some ⟨oc_law, od_law, .func (PySem.W.fnOf "law" "law" (defArgs s_law) (defBody s_law) (defScope s_law) .none kV_law dc_law pm_law an_law cd_law ct_law), sl_law⟩)
    (e_law : PySem.W.codeIn K cd_law "law" = true)
    (k_law : PySem.W.keepIn K (.ref f_law) = true)
    (z_len : PySem.W.nsIn K mainGlobals "len" = some none)
    (z_abs : PySem.W.nsIn K mainGlobals "abs" = some none)
    (z_int : PySem.W.nsIn K mainGlobals "int" = some none)
    (z_divmod : PySem.W.nsIn K mainGlobals "divmod" = some none)
    (z_all : PySem.W.nsIn K mainGlobals "all" = some none)
    (z_isinstance : PySem.W.nsIn K mainGlobals "isinstance" = some none)
    (z_list : PySem.W.nsIn K mainGlobals "list" = some none)
    (z_tuple : PySem.W.nsIn K mainGlobals "tuple" = some none)
    (z_str : PySem.W.nsIn K mainGlobals "str" = some none)
    (z_bool : PySem.W.nsIn K mainGlobals "bool" = some none)
    (z_zip : PySem.W.nsIn K mainGlobals "zip" = some none)
    (z_ValueError : PySem.W.nsIn K mainGlobals "ValueError" = some none)
    (z_range : PySem.W.nsIn K mainGlobals "range" = some none)
    (z_min : PySem.W.nsIn K mainGlobals "min" = some none)
    (y_PLAIN_FIGURES : PySem.W.nsIn K mainGlobals "PLAIN_FIGURES" = some (some (.str "0123456789" t_PLAIN_FIGURES)))
    (y_POUND_POINT : PySem.W.nsIn K mainGlobals "POUND_POINT" = some (some (.str "." t_POUND_POINT)))
    (y_POUND_PENNIES : PySem.W.nsIn K mainGlobals "POUND_PENNIES" = some (some (.int 100 t_POUND_PENNIES)))
    (y_MOST_POUND_FIGURES : PySem.W.nsIn K mainGlobals "MOST_POUND_FIGURES" = some (some (.int 5 t_MOST_POUND_FIGURES)))
    (ci_BadSum : PySem.W.excInitIn K C_BadSum [.type "ValueError", .type "Exception", .type "BaseException", .type "object"] "ValueError.__new__" = true)
    (co_BadSum : PySem.W.excOver K C_BadSum [.type "ValueError", .type "Exception", .type "BaseException", .type "object"] = true)
    (hd_BadSum : PySem.W.hasDictIn K C_BadSum = true)
    (sa_BadSum : PySem.W.findIn K (.ref C_BadSum) "__setattr__" = some (some (.builtin "object.__setattr__")))
    (xc_BadSum : PySem.W.subIn K (.ref C_BadSum) (.type "BaseException") = some true)
    (tc_BadSum : PySem.W.typeIn K (.ref C_BadSum) = some (.type "type"))
    (kc_BadSum : PySem.W.keepIn K (.ref C_BadSum) = true)
    (nw_BadSum : PySem.W.findIn K (.ref C_BadSum) "what" = some none)
    (cc_BadSum : PySem.W.clsIn K C_BadSum = some cd_BadSum)
    (ga_BadSum : PySem.W.findIn K (.ref C_BadSum) "__getattribute__" = some (some (.builtin "BaseException.__getattribute__")))
    (gt_BadSum : PySem.W.findIn K (.ref C_BadSum) "__getattr__" = some none)
    (ca_BadSum : PySem.W.findIn K (.ref C_BadSum) "__class__" = some (some (.builtin "object.__class__")))
    (mo_BadSum : PySem.W.mroIn K C_BadSum (.type "object") = some true)
    (tf_BadSum : PySem.W.typeIn K (.ref f_BadSum_init) = some (.type "function"))
    (vb_BadSum : PySem.W.findCls K (.type "ValueError") (.type "type") "__init__" = some (.val (.builtin "ValueError.__init__")))
    (dg_exc : PySem.W.specialIn K (.builtin "object.__class__") "__get__" = some (some (.builtin "getset_descriptor.__get__")))
    (tk_exc : PySem.W.takesIn K (.builtin "object.__class__") = some true)
    (ts_0_BadSum : PySem.W.kitOne K (.ref C_BadSum) (.ref C_BadDeed) = some false)
    (ts_1_BadSum : PySem.W.kitOne K (.ref C_BadSum) (.ref C_TooEarly) = some false)
    (ts_2_BadSum : PySem.W.kitOne K (.ref C_BadSum) (.ref C_TooMany) = some false)
    (ts_3_BadSum : PySem.W.kitOne K (.ref C_BadSum) (.ref C_TooLittle) = some false)
    (ts_4_BadSum : PySem.W.kitOne K (.ref C_BadSum) (.ref C_TooLow) = some false)
    (ts_5_BadSum : PySem.W.kitOne K (.ref C_BadSum) (.ref C_BadDay) = some false)
    (ts_6_BadSum : PySem.W.kitOne K (.ref C_BadSum) (.ref C_NoChange) = some false)
    (ts_7_BadSum : PySem.W.kitOne K (.ref C_BadSum) (.ref C_NoThing) = some false)
    (ts_8_BadSum : PySem.W.kitOne K (.ref C_BadSum) (.ref C_NoEntry) = some false)
    (ts_9_BadSum : PySem.W.kitOne K (.ref C_BadSum) (.ref C_NoCoin) = some false)
    (ts_10_BadSum : PySem.W.kitOne K (.ref C_BadSum) (.ref C_BadRow) = some false)
    (ts_11_BadSum : PySem.W.kitOne K (.ref C_BadSum) (.ref C_BadColumn) = some false)
    (ts_12_BadSum : PySem.W.kitOne K (.ref C_BadSum) (.ref C_BadQuery) = some false)
    (ts_13_BadSum : PySem.W.kitOne K (.ref C_BadSum) (.ref C_BadOrder) = some false)
    (ts_14_BadSum : PySem.W.kitOne K (.ref C_BadSum) (.ref C_BadText) = some false)
    (ts_15_BadSum : PySem.W.kitOne K (.ref C_BadSum) (.ref C_BadTag) = some false)
    (ts_16_BadSum : PySem.W.kitOne K (.ref C_BadSum) (.ref C_BadSum) = some true)
    (ts_17_BadSum : PySem.W.kitOne K (.ref C_BadSum) (.type "ValueError") = some true)
    (ts_18_BadSum : PySem.W.exmAny K (.ref C_BadSum) [.ref C_BadSum] = some true)
    : ∃ fd : FuncData, (∀ (s : Shared) (v : Value), BindsTo s fd ⟨[v], []⟩ [("_law_script", v)]) ∧ ∀ base : Heap, K.In base → base.Ns mainGlobals mg → FnOk l.prog w K mg base CX0 10 fa fd ["_law_script"] (sp_law K) := by
  have e := hfa.symm.trans (PySem.W.mg_of X G a_law)
  cases e
  have F__law_box := fun_mk (st := s__law_box) l__law_box e__law_box k__law_box
  have b__law_box := F__law_box.binds (ps := ["_law_script", "_law_k"]) fun _ _ _ _ _ _ us hl => match us, hl with | [_, _], _ => rfl
  have F__law_take := fun_mk (st := s__law_take) l__law_take e__law_take k__law_take
  have b__law_take := F__law_take.binds (ps := ["_law_box_here", "_law_size"]) fun _ _ _ _ _ _ us hl => match us, hl with | [_, _], _ => rfl
  have F__law_spoilt := fun_mk (st := s__law_spoilt) l__law_spoilt e__law_spoilt k__law_spoilt
  have b__law_spoilt := F__law_spoilt.binds (ps := ["_law_box_here", "_law_text"]) fun _ _ _ _ _ _ us hl => match us, hl with | [_, _], _ => rfl
  have F__law_read := fun_mk (st := s__law_read) l__law_read e__law_read k__law_read
  have b__law_read := F__law_read.binds (ps := ["_law_text"]) fun _ _ _ _ _ _ us hl => match us, hl with | [_], _ => rfl
  have F__law_same := fun_mk (st := s__law_same) l__law_same e__law_same k__law_same
  have b__law_same := F__law_same.binds (ps := ["_law_found", "_law_due"]) fun _ _ _ _ _ _ us hl => match us, hl with | [_, _], _ => rfl
  have F_BadSum_init := fun_mk (st := s_BadSum_init) l_BadSum_init e_BadSum_init k_BadSum_init
  have b_BadSum_init := F_BadSum_init.binds (ps := ["self", "what"]) fun _ _ _ _ _ _ us hl => match us, hl with | [_, _], _ => rfl
  have F_sum_text := fun_mk (st := s_sum_text) l_sum_text e_sum_text k_sum_text
  have b_sum_text := F_sum_text.binds (ps := ["amount"]) fun _ _ _ _ _ _ us hl => match us, hl with | [_], _ => rfl
  have F_are_figures := fun_mk (st := s_are_figures) l_are_figures e_are_figures k_are_figures
  have b_are_figures := F_are_figures.binds (ps := ["word", "least", "most"]) fun _ _ _ _ _ _ us hl => match us, hl with | [_, _, _], _ => rfl
  have F_sum_in := fun_mk (st := s_sum_in) l_sum_in e_sum_in k_sum_in
  have b_sum_in := F_sum_in.binds (ps := ["text"]) fun _ _ _ _ _ _ us hl => match us, hl with | [_], _ => rfl
  have F__law_classes := fun_mk (st := s__law_classes) l__law_classes e__law_classes k__law_classes
  have b__law_classes := F__law_classes.binds (ps := ["_law_caught"]) fun _ _ _ _ _ _ us hl => match us, hl with | [_], _ => rfl
  have F__law_told := fun_mk (st := s__law_told) l__law_told e__law_told k__law_told
  have b__law_told := F__law_told.binds (ps := ["_law_text"]) fun _ _ _ _ _ _ us hl => match us, hl with | [_], _ => rfl
  have F__law_right := fun_mk (st := s__law_right) l__law_right e__law_right k__law_right
  have b__law_right := F__law_right.binds (ps := ["_law_text"]) fun _ _ _ _ _ _ us hl => match us, hl with | [_], _ => rfl
  have F_law := fun_mk (st := s_law) l_law e_law k_law
  have T : Txt K mg ⟨C_BadSum, C_BadTag, C_BadText, C_BadOrder, C_BadQuery, C_BadColumn, C_BadRow, C_NoCoin, C_NoEntry, C_NoThing, C_NoChange, C_BadDay, C_TooLow, C_TooLittle, C_TooMany, C_TooEarly, C_BadDeed, f__law_box, PySem.W.fnOf "_law_box" "_law_box" (defArgs s__law_box) (defBody s__law_box) (defScope s__law_box) .none kV__law_box dc__law_box pm__law_box an__law_box cd__law_box ct__law_box, f__law_take, PySem.W.fnOf "_law_take" "_law_take" (defArgs s__law_take) (defBody s__law_take) (defScope s__law_take) .none kV__law_take dc__law_take pm__law_take an__law_take cd__law_take ct__law_take, f__law_spoilt, PySem.W.fnOf "_law_spoilt" "_law_spoilt" (defArgs s__law_spoilt) (defBody s__law_spoilt) (defScope s__law_spoilt) .none kV__law_spoilt dc__law_spoilt pm__law_spoilt an__law_spoilt cd__law_spoilt ct__law_spoilt, f__law_read, PySem.W.fnOf "_law_read" "_law_read" (defArgs s__law_read) (defBody s__law_read) (defScope s__law_read) .none kV__law_read dc__law_read pm__law_read an__law_read cd__law_read ct__law_read, f__law_same, PySem.W.fnOf "_law_same" "_law_same" (defArgs s__law_same) (defBody s__law_same) (defScope s__law_same) .none kV__law_same dc__law_same pm__law_same an__law_same cd__law_same ct__law_same, f_BadSum_init, PySem.W.fnOf "__init__" "BadSum.__init__" (defArgs s_BadSum_init) (defBody s_BadSum_init) (defScope s_BadSum_init) .none kV_BadSum_init dc_BadSum_init pm_BadSum_init an_BadSum_init cd_BadSum_init ct_BadSum_init, f_sum_text, PySem.W.fnOf "sum_text" "sum_text" (defArgs s_sum_text) (defBody s_sum_text) (defScope s_sum_text) .none kV_sum_text dc_sum_text pm_sum_text an_sum_text cd_sum_text ct_sum_text, f_are_figures, PySem.W.fnOf "are_figures" "are_figures" (defArgs s_are_figures) (defBody s_are_figures) (defScope s_are_figures) .none kV_are_figures dc_are_figures pm_are_figures an_are_figures cd_are_figures ct_are_figures, f_sum_in, PySem.W.fnOf "sum_in" "sum_in" (defArgs s_sum_in) (defBody s_sum_in) (defScope s_sum_in) .none kV_sum_in dc_sum_in pm_sum_in an_sum_in cd_sum_in ct_sum_in, f__law_classes, PySem.W.fnOf "_law_classes" "_law_classes" (defArgs s__law_classes) (defBody s__law_classes) (defScope s__law_classes) .none kV__law_classes dc__law_classes pm__law_classes an__law_classes cd__law_classes ct__law_classes, f__law_told, PySem.W.fnOf "_law_told" "_law_told" (defArgs s__law_told) (defBody s__law_told) (defScope s__law_told) .none kV__law_told dc__law_told pm__law_told an__law_told cd__law_told ct__law_told, f__law_right, PySem.W.fnOf "_law_right" "_law_right" (defArgs s__law_right) (defBody s__law_right) (defScope s__law_right) .none kV__law_right dc__law_right pm__law_right an__law_right cd__law_right ct__law_right, fa, PySem.W.fnOf "law" "law" (defArgs s_law) (defBody s_law) (defScope s_law) .none kV_law dc_law pm_law an_law cd_law ct_law⟩ := ⟨PySem.W.mg_none_of X G z_len, PySem.W.mg_none_of X G z_abs, PySem.W.mg_none_of X G z_int, PySem.W.mg_none_of X G z_divmod, PySem.W.mg_none_of X G z_all, PySem.W.mg_none_of X G z_isinstance, PySem.W.mg_none_of X G z_list, PySem.W.mg_none_of X G z_tuple, PySem.W.mg_none_of X G z_str, PySem.W.mg_none_of X G z_bool, PySem.W.mg_none_of X G z_zip, PySem.W.mg_none_of X G z_ValueError, PySem.W.mg_none_of X G z_range, PySem.W.mg_none_of X G z_min, ⟨_, PySem.W.mg_of X G y_PLAIN_FIGURES, ⟨_, rfl⟩⟩, ⟨_, PySem.W.mg_of X G y_POUND_POINT, ⟨_, rfl⟩⟩, ⟨_, PySem.W.mg_of X G y_POUND_PENNIES, ⟨_, rfl⟩⟩, ⟨_, PySem.W.mg_of X G y_MOST_POUND_FIGURES, ⟨_, rfl⟩⟩, F__law_box, PySem.W.mg_of X G a__law_box, b__law_box, F__law_take, PySem.W.mg_of X G a__law_take, b__law_take, F__law_spoilt, PySem.W.mg_of X G a__law_spoilt, b__law_spoilt, F__law_read, PySem.W.mg_of X G a__law_read, b__law_read, F__law_same, PySem.W.mg_of X G a__law_same, b__law_same, F_BadSum_init, b_BadSum_init, F_sum_text, PySem.W.mg_of X G a_sum_text, b_sum_text, F_are_figures, PySem.W.mg_of X G a_are_figures, b_are_figures, F_sum_in, PySem.W.mg_of X G a_sum_in, b_sum_in, F__law_classes, PySem.W.mg_of X G a__law_classes, b__law_classes, F__law_told, PySem.W.mg_of X G a__law_told, b__law_told, F__law_right, PySem.W.mg_of X G a__law_right, b__law_right, F_law, PySem.W.mg_of X G a_BadSum, a_BadSum, PySem.W.mg_of X G a_BadTag, a_BadTag, PySem.W.mg_of X G a_BadText, a_BadText, PySem.W.mg_of X G a_BadOrder, a_BadOrder, PySem.W.mg_of X G a_BadQuery, a_BadQuery, PySem.W.mg_of X G a_BadColumn, a_BadColumn, PySem.W.mg_of X G a_BadRow, a_BadRow, PySem.W.mg_of X G a_NoCoin, a_NoCoin, PySem.W.mg_of X G a_NoEntry, a_NoEntry, PySem.W.mg_of X G a_NoThing, a_NoThing, PySem.W.mg_of X G a_NoChange, a_NoChange, PySem.W.mg_of X G a_BadDay, a_BadDay, PySem.W.mg_of X G a_TooLow, a_TooLow, PySem.W.mg_of X G a_TooLittle, a_TooLittle, PySem.W.mg_of X G a_TooMany, a_TooMany, PySem.W.mg_of X G a_TooEarly, a_TooEarly, PySem.W.mg_of X G a_BadDeed, a_BadDeed, ⟨PySem.F.excBase_ValueError, PySem.F.store_ValueError, ci_BadSum, co_BadSum, hd_BadSum, sa_BadSum, xc_BadSum, tc_BadSum, kc_BadSum, nw_BadSum⟩, ⟨by rw [cc_BadSum]; rfl, ga_BadSum, gt_BadSum, xc_BadSum, ca_BadSum, dg_exc, tk_exc, mo_BadSum, hd_BadSum, nw_BadSum⟩, a_BadSum_init, tf_BadSum, vb_BadSum, ts_0_BadSum, ts_1_BadSum, ts_2_BadSum, ts_3_BadSum, ts_4_BadSum, ts_5_BadSum, ts_6_BadSum, ts_7_BadSum, ts_8_BadSum, ts_9_BadSum, ts_10_BadSum, ts_11_BadSum, ts_12_BadSum, ts_13_BadSum, ts_14_BadSum, ts_15_BadSum, ts_16_BadSum, ts_17_BadSum, ts_18_BadSum⟩
  exact ⟨_, fun s v => .of_eq rfl, fun base _ _ => ok_law T⟩
theorem walk {l : PySem.W.OpenLaw} {q : Program} {loose : List Str} {XP : (Str → Option Value) → Heap → Prop} {YP : World → Heap → Prop} {d : DefRec} {K : Params → PySem.W.Frag} (hn : l.most = some 63) (hdf : d.params.defaults = [])
    (hY : ∀ (w : World) (h : Heap), YP w h → (K w.params).In h)
    (F : ∀ (w : World) (mg : Str → Option Value) (fa : Addr) (h : Heap), (K w.params).In h → h.Ns mainGlobals mg → mg d.name = some (.ref fa) →
      ∃ fd : FuncData, (∀ (s : Shared) (u : Value), BindsTo s fd ⟨[u], []⟩ [("_law_script", u)]) ∧ ∀ base : Heap, (K w.params).In base → base.Ns mainGlobals mg → FnOk l.prog w (K w.params) mg base CX0 10 fa fd ["_law_script"] (sp_law (K w.params))) :
    PySem.W.WalkO q loose XP YP l.row.toRowW d [] (fun f vs => PySem.call f vs) :=
  L2.walk_of (n := 63) (k := 10) (x := "_law_script") (CX := fun _ => CX0) (sp := fun w => sp_law (K w.params)) hn (by decide) hdf ⟨rfl, by decide, by decide⟩ hY F (fun _ _ a ns hl _ hS => ⟨a, ns, rfl, hS, hl, fun _ => rfl⟩) fun _ _ _ _ _ z => z
end K

open PySem PySem.W PyProof.Rows in
set_option maxRecDepth 100000 in
set_option maxHeartbeats 0 in
theorem PySem.Challenge.cw_stallshares_k02_sum_texts_spoilt_anywher_holds : PySem.Challenge.rw_stallshares_k02_sum_texts_spoilt_anywher.Holds := by
  w_on; o_law; k_head; (case hw => w_witness2)
  k_fill
  refine K.walk (l := PySem.Challenge.rw_stallshares_k02_sum_texts_spoilt_anywher) rfl rfl (fun w h Y => PySem.W.kIn_of Y) ?F
  case F =>
    intro w mg fa h KX G hmg
    refine' K.all_mk KX G hmg ?a_BadSum ?a_BadTag ?a_BadText ?a_BadOrder ?a_BadQuery ?a_BadColumn ?a_BadRow ?a_NoCoin ?a_NoEntry ?a_NoThing ?a_NoChange ?a_BadDay ?a_TooLow ?a_TooLittle ?a_TooMany ?a_TooEarly ?a_BadDeed ?a__law_box ?l__law_box ?e__law_box ?k__law_box ?a__law_take ?l__law_take ?e__law_take ?k__law_take ?a__law_spoilt ?l__law_spoilt ?e__law_spoilt ?k__law_spoilt ?a__law_read ?l__law_read ?e__law_read ?k__law_read ?a__law_same ?l__law_same ?e__law_same ?k__law_same ?a_BadSum_init ?i_BadSum_init ?l_BadSum_init ?e_BadSum_init ?k_BadSum_init ?a_sum_text ?l_sum_text ?e_sum_text ?k_sum_text ?a_are_figures ?l_are_figures ?e_are_figures ?k_are_figures ?a_sum_in ?l_sum_in ?e_sum_in ?k_sum_in ?a__law_classes ?l__law_classes ?e__law_classes ?k__law_classes ?a__law_told ?l__law_told ?e__law_told ?k__law_told ?a__law_right ?l__law_right ?e__law_right ?k__law_right ?a_law ?l_law ?e_law ?k_law ?z_len ?z_abs ?z_int ?z_divmod ?z_all ?z_isinstance ?z_list ?z_tuple ?z_str ?z_bool ?z_zip ?z_ValueError ?z_range ?z_min ?y_PLAIN_FIGURES ?y_POUND_POINT ?y_POUND_PENNIES ?y_MOST_POUND_FIGURES ?ci_BadSum ?co_BadSum ?hd_BadSum ?sa_BadSum ?xc_BadSum ?tc_BadSum ?kc_BadSum ?nw_BadSum ?cc_BadSum ?ga_BadSum ?gt_BadSum ?ca_BadSum ?mo_BadSum ?tf_BadSum ?vb_BadSum ?dg_exc ?tk_exc ?ts_0_BadSum ?ts_1_BadSum ?ts_2_BadSum ?ts_3_BadSum ?ts_4_BadSum ?ts_5_BadSum ?ts_6_BadSum ?ts_7_BadSum ?ts_8_BadSum ?ts_9_BadSum ?ts_10_BadSum ?ts_11_BadSum ?ts_12_BadSum ?ts_13_BadSum ?ts_14_BadSum ?ts_15_BadSum ?ts_16_BadSum ?ts_17_BadSum ?ts_18_BadSum
    (case a_BadSum => k_is)
    (case a_BadTag => k_is)
    (case a_BadText => k_is)
    (case a_BadOrder => k_is)
    (case a_BadQuery => k_is)
    (case a_BadColumn => k_is)
    (case a_BadRow => k_is)
    (case a_NoCoin => k_is)
    (case a_NoEntry => k_is)
    (case a_NoThing => k_is)
    (case a_NoChange => k_is)
    (case a_BadDay => k_is)
    (case a_TooLow => k_is)
    (case a_TooLittle => k_is)
    (case a_TooMany => k_is)
    (case a_TooEarly => k_is)
    (case a_BadDeed => k_is)
    (case a__law_box => k_is)
    (case l__law_box => k_is)
    (case e__law_box => k_is)
    (case k__law_box => k_is)
    (case a__law_take => k_is)
    (case l__law_take => k_is)
    (case e__law_take => k_is)
    (case k__law_take => k_is)
    (case a__law_spoilt => k_is)
    (case l__law_spoilt => k_is)
    (case e__law_spoilt => k_is)
    (case k__law_spoilt => k_is)
    (case a__law_read => k_is)
    (case l__law_read => k_is)
    (case e__law_read => k_is)
    (case k__law_read => k_is)
    (case a__law_same => k_is)
    (case l__law_same => k_is)
    (case e__law_same => k_is)
    (case k__law_same => k_is)
    (case a_BadSum_init => k_is)
    (case i_BadSum_init => k_is)
    (case l_BadSum_init => k_is)
    (case e_BadSum_init => k_is)
    (case k_BadSum_init => k_is)
    (case a_sum_text => k_is)
    (case l_sum_text => k_is)
    (case e_sum_text => k_is)
    (case k_sum_text => k_is)
    (case a_are_figures => k_is)
    (case l_are_figures => k_is)
    (case e_are_figures => k_is)
    (case k_are_figures => k_is)
    (case a_sum_in => k_is)
    (case l_sum_in => k_is)
    (case e_sum_in => k_is)
    (case k_sum_in => k_is)
    (case a__law_classes => k_is)
    (case l__law_classes => k_is)
    (case e__law_classes => k_is)
    (case k__law_classes => k_is)
    (case a__law_told => k_is)
    (case l__law_told => k_is)
    (case e__law_told => k_is)
    (case k__law_told => k_is)
    (case a__law_right => k_is)
    (case l__law_right => k_is)
    (case e__law_right => k_is)
    (case k__law_right => k_is)
    (case a_law => k_is)
    (case l_law => k_is)
    (case e_law => k_is)
    (case k_law => k_is)
    (case z_len => k_is)
    (case z_abs => k_is)
    (case z_int => k_is)
    (case z_divmod => k_is)
    (case z_all => k_is)
    (case z_isinstance => k_is)
    (case z_list => k_is)
    (case z_tuple => k_is)
    (case z_str => k_is)
    (case z_bool => k_is)
    (case z_zip => k_is)
    (case z_ValueError => k_is)
    (case z_range => k_is)
    (case z_min => k_is)
    (case y_PLAIN_FIGURES => k_is)
    (case y_POUND_POINT => k_is)
    (case y_POUND_PENNIES => k_is)
    (case y_MOST_POUND_FIGURES => k_is)
    (case ci_BadSum => kx_is)
    (case co_BadSum => kx_is)
    (case hd_BadSum => k_is)
    (case sa_BadSum => k_is)
    (case xc_BadSum => k_is)
    (case tc_BadSum => k_is)
    (case kc_BadSum => k_is)
    (case nw_BadSum => k_is)
    (case cc_BadSum => k_is)
    (case ga_BadSum => k_is)
    (case gt_BadSum => k_is)
    (case ca_BadSum => k_is)
    (case mo_BadSum => k_is)
    (case tf_BadSum => k_is)
    (case vb_BadSum => k_is)
    (case dg_exc => k_is)
    (case tk_exc => k_is)
    (case ts_0_BadSum => kit_is)
    (case ts_1_BadSum => kit_is)
    (case ts_2_BadSum => kit_is)
    (case ts_3_BadSum => kit_is)
    (case ts_4_BadSum => kit_is)
    (case ts_5_BadSum => kit_is)
    (case ts_6_BadSum => kit_is)
    (case ts_7_BadSum => kit_is)
    (case ts_8_BadSum => kit_is)
    (case ts_9_BadSum => kit_is)
    (case ts_10_BadSum => kit_is)
    (case ts_11_BadSum => kit_is)
    (case ts_12_BadSum => kit_is)
    (case ts_13_BadSum => kit_is)
    (case ts_14_BadSum => kit_is)
    (case ts_15_BadSum => kit_is)
    (case ts_16_BadSum => kit_is)
    (case ts_17_BadSum => kit_is)
    (case ts_18_BadSum => kts_exm)
