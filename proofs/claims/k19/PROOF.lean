import PyProof.Rows.All
import Wide.All
import OpenK.AllK
import Wide.FinOn
import HandS.ForMost
import HandS.IsInst
import HandS.StrMore
import HandS.Walk
import HandS.SortInts
import HandS.Zip
import HandS.Style
import HandS.MakeKw
import PySem.Challenge.RW_stallshares_k19_first_days
set_option Elab.async false
set_option linter.all false
set_option maxRecDepth 100000
set_option maxHeartbeats 4000000
/-! the shared layer: heaps but for some mutable places, the box of draws -/
namespace Z
open PySem L2

/-- H without the places of M -/
def hid (M : List Addr) (H : Hp) : Hp := fun a => if a ∈ M then none else H a
theorem hid_of {M : List Addr} {H : Hp} {a : Addr} (h : a ∉ M) : hid M H a = H a := if_neg h
theorem hid_none {M : List Addr} {H : Hp} {a : Addr} (h : H a = none) : hid M H a = none := by
  unfold hid; split <;> simp_all
theorem hid_same {M : List Addr} {H : Hp} : Same (hid M H) H := fun a o h => by
  unfold hid at h
  split at h
  · cases h
  · exact h
/-- what stands outside M is as it was -/
def Fr (M : List Addr) (H H' : Hp) : Prop := ∀ a o, a ∉ M → H a = some o → H' a = some o
theorem Fr.refl (M : List Addr) (H : Hp) : Fr M H H := fun _ _ _ h => h
theorem Fr.trans {M : List Addr} {H H1 H2 : Hp} (a : Fr M H H1) (b : Fr M H1 H2) : Fr M H H2 := fun x o n h => b x o n (a x o n h)
theorem Same.fr {M : List Addr} {H H' : Hp} (s : Same H H') : Fr M H H' := fun a o _ h => s a o h
theorem Fr.same {M : List Addr} {H H' : Hp} (f : Fr M H H') : Same (hid M H) (hid M H') := fun a o h => by
  unfold hid at h ⊢
  split at h
  · cases h
  · next n => rw [if_neg n]; exact f a o n h
theorem Fr.new {M : List Addr} {H : Hp} {p : Addr} {o : HO} (h : H p = none) : Fr M H (upd H p o) := fun a u _ e => by
  rw [upd_ne (ne_of_none e h)]; exact e
theorem Same.new {H : Hp} {p : Addr} {o : HO} (h : H p = none) : Same H (upd H p o) := fun a u e => by
  rw [upd_ne (ne_of_none e h)]; exact e
theorem Fr.put {M : List Addr} {H H' : Hp} {p : Addr} {o : HO} (f : Fr M H H') (h : p ∈ M) : Fr M H (upd H' p o) := fun a u n e => by
  rw [upd_ne (fun q : a = p => n (by rw [q]; exact h))]; exact f a u n e
theorem Fr.mono {M N : List Addr} {H H' : Hp} (f : Fr M H H') (s : ∀ a ∈ M, a ∈ N) : Fr N H H' := fun a o n h => f a o (fun q => n (s a q)) h
theorem Fr.nil {H H' : Hp} (f : Fr [] H H') : Same H H' := fun a o h => f a o (by simp) h
theorem Fr.back {M : List Addr} {H H' : Hp} {p : Addr} (f : Fr M H H') (hp : p ∉ M) (h : H' p = none) : H p = none := by
  cases q : H p with
  | none => rfl
  | some o => rw [f p o hp q] at h; cases h
theorem Fr.out {M : List Addr} {H H1 H2 : Hp} (f : Fr M H1 H2) (s : Same H H1) (hM : ∀ b ∈ M, H b = none) : Same H H2 := fun a o h => f a o (fun q => by rw [hM a q] at h; cases h) (s a o h)
theorem Fr.drop {M : List Addr} {H H' : Hp} {f : Addr} (fr : Fr (M ++ [f]) H H') (h : H f = none) : Fr M H H' := fun a o n e => fr a o (by
  simp only [List.mem_append, List.mem_singleton, not_or]
  exact ⟨n, ne_of_none e h⟩) e
theorem SqL.mono {K : PySem.W.Frag} {H H' : Hp} {a : Addr} {xs : List V} (e : Same H H') (h : SqL K H a xs) : SqL K H' a xs := e.seq h
theorem SqT.mono {K : PySem.W.Frag} {H H' : Hp} {a : Addr} {xs : List V} (e : Same H H') (h : SqT K H a xs) : SqT K H' a xs := by
  rcases h with (h | ⟨o, h⟩) | h
  · exact .inl (.inl (e _ _ h))
  · exact .inl (.inr ⟨o, e _ _ h⟩)
  · exact .inr h
mutual
theorem Dp.mono {K : PySem.W.Frag} {H H' : Hp} (e : Same H H') : ∀ {v : V} {d : PyData}, Dp K H v d → Dp K H' v d
  | _, _, .non => .non
  | _, _, .bl b => .bl b
  | _, _, .int i => .int i
  | _, _, .str x => .str x
  | _, _, .lst h r => .lst (SqL.mono e h) (DpAll.mono e r)
  | _, _, .tup h r => .tup (SqT.mono e h) (DpAll.mono e r)
theorem DpAll.mono {K : PySem.W.Frag} {H H' : Hp} (e : Same H H') : ∀ {v : List V} {d : List PyData}, DpAll K H v d → DpAll K H' v d
  | _, _, .nil => .nil
  | _, _, .cons a b => .cons (Dp.mono e a) (DpAll.mono e b)
end

theorem DpAll.length {K : PySem.W.Frag} {H : Hp} : ∀ {v : List V} {d : List PyData}, DpAll K H v d → v.length = d.length
  | _, _, .nil => rfl
  | _, _, .cons _ b => by rw [List.length_cons, List.length_cons, DpAll.length b]
theorem DpAll.get {K : PySem.W.Frag} {H : Hp} : ∀ {v : List V} {d : List PyData} {i : Nat} {x : V}, DpAll K H v d → v[i]? = some x → ∃ y, d[i]? = some y ∧ Dp K H x y
  | _, _, _, _, .nil, h => by simp at h
  | _, _, 0, _, .cons a _, h => by simp at h; subst h; exact ⟨_, rfl, a⟩
  | _, _, i + 1, _, .cons _ b, h => by
    obtain ⟨y, e, q⟩ := DpAll.get (i := i) b (by simpa using h)
    exact ⟨y, by simpa using e, q⟩
theorem Dp.list_of {K : PySem.W.Frag} {H : Hp} {v : V} {ds : List PyData} (h : Dp K H v (.list ds)) : ∃ a xs, v = .ref a ∧ SqL K H a xs ∧ DpAll K H xs ds := by
  cases h with
  | lst s r => exact ⟨_, _, rfl, s, r⟩
theorem Dp.tuple_of {K : PySem.W.Frag} {H : Hp} {v : V} {ds : List PyData} (h : Dp K H v (.tuple ds)) : ∃ a xs, v = .ref a ∧ SqT K H a xs ∧ DpAll K H xs ds := by
  cases h with
  | tup s r => exact ⟨_, _, rfl, s, r⟩
/-- the built-in class of data -/
def kindD : PyData → String
  | .none => "NoneType"
  | .bool _ => "bool"
  | .int _ => "int"
  | .str _ => "str"
  | .list _ => "list"
  | .tuple _ => "tuple"
  | .dict _ => "dict"
theorem SqL.ty {K : PySem.W.Frag} {H : Hp} {a : Addr} {xs : List V} (h : SqL K H a xs) : TyX K H (.ref a) (.type "list") := by
  rcases h with (h | ⟨o, h⟩) | ⟨o, its, n, e, c, _⟩
  · exact .base (.lst h)
  · exact .base (.frz h)
  · exact .kList e c
theorem SqT.ty {K : PySem.W.Frag} {H : Hp} {a : Addr} {xs : List V} (h : SqT K H a xs) : TyX K H (.ref a) (.type "tuple") := by
  rcases h with (h | ⟨o, h⟩) | ⟨o, its, n, e, c, _⟩
  · exact .base (.tup h)
  · exact .fTuple h
  · exact .kTuple e c
theorem Dp.ty {K : PySem.W.Frag} {H : Hp} {v : V} {d : PyData} (h : Dp K H v d) : TyX K H v (.type (kindD d)) := by
  cases h with
  | non => exact .base .non
  | bl b => exact .base (.bl b)
  | int i => exact .base (.int i)
  | str x => exact .base (.str x)
  | lst s _ => exact SqL.ty s
  | tup s _ => exact SqT.ty s
theorem tyD {K : PySem.W.Frag} {H : Hp} {v : V} {d : PyData} (A : String) (h : Dp K H v d) (e : kindD d = A) : TyX K H v (.type A) := e ▸ Dp.ty h
theorem ltC : Paired ClsV [.ty "list", .ty "tuple"] [.type "list", .type "tuple"] := .cons (.ty _) (.cons (.ty _) .nil)
theorem kitLT {K : PySem.W.Frag} (A : String) (b c : Bool) (k : kitB A "list" = some b) (k2 : kitB A "tuple" = some c) : PySem.W.kitAny K (.type A) [.type "list", .type "tuple"] = some (b || c) := by
  refine kitAny_cons (kit_ty k) (fun e => ?_) (fun e => by rw [e]; rfl)
  subst e
  exact kitAny_cons (kit_ty k2) (fun e => by subst e; exact kitAny_nil) (fun e => by rw [e]; rfl)
theorem lay_mem : ∀ {ds : List PyData} {d : PyData}, PyData.canLayAll0 ds = true → d ∈ ds → d.canLay0 = true
  | [], _, _, h => by cases h
  | x :: r, d, h, hm => by
    have h' : (x.canLay0 && PyData.canLayAll0 r) = true := h
    rw [Bool.and_eq_true] at h'
    rcases List.mem_cons.mp hm with rfl | hm
    · exact h'.1
    · exact lay_mem h'.2 hm
theorem depth_mem : ∀ {ds : List PyData} {d : PyData}, d ∈ ds → d.depth ≤ PyData.depthAll ds
  | [], _, h => by cases h
  | x :: r, d, hm => by
    show _ ≤ max x.depth (PyData.depthAll r)
    rcases List.mem_cons.mp hm with rfl | hm
    · exact Nat.le_max_left _ _
    · exact Nat.le_trans (depth_mem hm) (Nat.le_max_right _ _)
theorem shaped_mem {ds : List PyData} {d : PyData} (h : SeqAt.shaped (.list ds) = true ∨ SeqAt.shaped (.tuple ds) = true) (hm : d ∈ ds) : SeqAt.shaped d = true ∧ d.depth ≤ PyData.depthAll ds := by
  have h1 : PyData.canLayAll0 ds = true ∧ PyData.depthAll ds + 1 ≤ 64 := by
    rcases h with h | h
    · exact ⟨SeqAt.canLay_of_shaped h, SeqAt.depth_of_shaped h⟩
    · exact ⟨SeqAt.canLay_of_shaped h, SeqAt.depth_of_shaped h⟩
  have h2 := depth_mem hm
  refine ⟨?_, h2⟩
  unfold SeqAt.shaped
  rw [lay_mem h1.1 hm, decide_eq_true (by omega)]
  rfl
mutual
/-- how many things data is made of -/
def nodes : PyData → Nat
  | .list xs => nodesAll xs + 1
  | .tuple xs => nodesAll xs + 1
  | _ => 1
def nodesAll : List PyData → Nat
  | [] => 0
  | x :: r => nodes x + nodesAll r
end
theorem nodes_pos (d : PyData) : 1 ≤ nodes d := by cases d <;> simp [nodes]
theorem len_nodes : ∀ ds : List PyData, ds.length ≤ nodesAll ds
  | [] => Nat.le_refl _
  | x :: r => by
    have h1 := nodes_pos x
    have h2 := len_nodes r
    show r.length + 1 ≤ nodes x + nodesAll r
    omega
theorem nodes_mem : ∀ {ds : List PyData} {d : PyData}, d ∈ ds → nodes d ≤ nodesAll ds
  | [], _, h => by cases h
  | x :: r, d, hm => by
    show _ ≤ nodes x + nodesAll r
    rcases List.mem_cons.mp hm with rfl | hm
    · omega
    · have := nodes_mem hm
      omega
theorem walk_zipT {K : PySem.W.Frag} {a b : Addr} {xs ys : List V} {n : Nat} (hn : n = min xs.length ys.length) :
    Walk (RZ.ItzT K a b) n (fun H => SqT K H a xs ∧ SqT K H b ys) (YPair (fun i => xs[i]?) (fun i => ys[i]?)) := by
  refine ⟨fun i H hi q => ?_, fun H q => ⟨xs, ys, q.1, q.2, by omega⟩, fun i H v H' hi q y => ?_⟩
  · exact ⟨xs, ys, xs[i]'(by omega), ys[i]'(by omega), q.1, q.2, List.getElem?_eq_getElem (by omega), List.getElem?_eq_getElem (by omega)⟩
  · obtain ⟨t, x, z, e1, e2, e3, e4, e5⟩ := y
    exact ⟨t, x, z, e1, e2, e3, e4 xs q.1, e5 ys q.2⟩
/-- a comprehension that lays g of each, nothing else being changed -/
structure LcP {α : Type} (H1 : Hp) (D : Addr) (xs : List α) (g : α → V) (i : Nat) (H : Hp) : Prop where
  new : H1 D = none
  same : Same H1 H
  at_ : H D = some (.lst ((xs.take i).map g))
theorem LcP.start {α : Type} {H1 : Hp} {D : Addr} {xs : List α} {g : α → V} (h : H1 D = none) : LcP H1 D xs g 0 (upd H1 D (.lst [])) := ⟨h, Same.new h, upd_same⟩
theorem LcP.step {α : Type} {H1 H H4 : Hp} {D : Addr} {xs : List α} {g : α → V} {i : Nat} {x : α} {y : V} (p : LcP H1 D xs g i H) (s : Same H H4) (hx : xs[i]? = some x) (hy : y = g x) (hl : xs.length ≤ sizeLine) :
    ∃ acc, H4 D = some (.lst acc) ∧ acc.length < sizeLine ∧ LcP H1 D xs g (i + 1) (upd H4 D (.lst (acc ++ [y]))) := by
  have hi : i < xs.length := (List.getElem?_eq_some_iff.mp hx).1
  refine ⟨_, s _ _ p.at_, by simp; omega, p.new, fun b o e => ?_, ?_⟩
  · rw [upd_ne (ne_of_none e p.new)]
    exact s _ _ (p.same _ _ e)
  · rw [upd_same, hy, List.take_add_one, hx, List.map_append]
    rfl
theorem LcP.done {α : Type} {H1 H : Hp} {D : Addr} {xs : List α} {g : α → V} (p : LcP H1 D xs g xs.length H) : H D = some (.lst (xs.map g)) := by
  have h := p.at_
  rw [List.take_length] at h
  exact h

/-- a comprehension: what is laid so far is told by A -/
structure LcA (H1 : Hp) (D : Addr) (A : Nat → List V) (i : Nat) (H : Hp) : Prop where
  new : H1 D = none
  same : Same H1 H
  at_ : H D = some (.lst (A i))
theorem LcA.start {H1 : Hp} {D : Addr} {A : Nat → List V} (h : H1 D = none) (h0 : A 0 = []) : LcA H1 D A 0 (upd H1 D (.lst [])) := ⟨h, Same.new h, by rw [upd_same, h0]⟩
theorem LcA.put {H1 H H4 : Hp} {D : Addr} {A : Nat → List V} {i : Nat} {y : V} (p : LcA H1 D A i H) (s : Same H H4) (hA : A (i + 1) = A i ++ [y]) (hl : (A i).length < sizeLine) :
    ∃ acc, H4 D = some (.lst acc) ∧ acc.length < sizeLine ∧ LcA H1 D A (i + 1) (upd H4 D (.lst (acc ++ [y]))) := by
  refine ⟨_, s _ _ p.at_, hl, p.new, fun b o e => ?_, by rw [upd_same, hA]⟩
  rw [upd_ne (ne_of_none e p.new)]
  exact s _ _ (p.same _ _ e)
theorem LcA.skip {H1 H H4 : Hp} {D : Addr} {A : Nat → List V} {i : Nat} (p : LcA H1 D A i H) (s : Same H H4) (hA : A (i + 1) = A i) : LcA H1 D A (i + 1) H4 :=
  ⟨p.new, p.same.trans s, by rw [hA]; exact s _ _ p.at_⟩

/-- tuples and locked things stay -/
def Immut : HO → Prop
  | .tup _ => True
  | .frz _ _ => True
  | .ins _ _ _ => True
  | .own _ => True
  | _ => False
def KeepT (H H' : Hp) : Prop := ∀ t u, Immut u → H t = some u → H' t = some u
theorem KeepT.refl (H : Hp) : KeepT H H := fun _ _ _ h => h
theorem KeepT.trans {H H1 H2 : Hp} (a : KeepT H H1) (b : KeepT H1 H2) : KeepT H H2 := fun t u i h => b t u i (a t u i h)
theorem Same.kt {H H' : Hp} (s : Same H H') : KeepT H H' := fun t u _ h => s t u h
theorem KeepT.new {H : Hp} {p : Addr} {o : HO} (h : H p = none) : KeepT H (upd H p o) := Same.kt (Same.new h)
theorem KeepT.lst {H : Hp} {p : Addr} {xs : List V} {o : HO} (h : H p = some (.lst xs)) : KeepT H (upd H p o) := fun t u i e => by
  have hn : t ≠ p := fun q => by
    rw [q, h] at e
    cases e
    exact i
  rw [upd_ne hn]
  exact e
mutual
def noList : PyData → Bool
  | .list _ => false
  | .dict _ => false
  | .tuple xs => noLists xs
  | _ => true
def noLists : List PyData → Bool
  | [] => true
  | x :: r => noList x && noLists r
end
theorem SqT.keep {K : PySem.W.Frag} {H H' : Hp} {a : Addr} {xs : List V} (e : KeepT H H') (h : SqT K H a xs) : SqT K H' a xs := by
  rcases h with (h | ⟨o, h⟩) | h
  · exact .inl (.inl (e _ _ trivial h))
  · exact .inl (.inr ⟨o, e _ _ trivial h⟩)
  · exact .inr h
mutual
theorem Dp.keep {K : PySem.W.Frag} {H H' : Hp} (e : KeepT H H') : ∀ {v : V} {d : PyData}, Dp K H v d → noList d = true → Dp K H' v d
  | _, _, .non, _ => .non
  | _, _, .bl b, _ => .bl b
  | _, _, .int i, _ => .int i
  | _, _, .str x, _ => .str x
  | _, _, .lst _ _, h => by cases h
  | _, _, .tup s r, h => .tup (SqT.keep e s) (DpAll.keep e r h)
theorem DpAll.keep {K : PySem.W.Frag} {H H' : Hp} (e : KeepT H H') : ∀ {v : List V} {d : List PyData}, DpAll K H v d → noLists d = true → DpAll K H' v d
  | _, _, .nil, _ => .nil
  | _, _, .cons a b, h => by
    have h' := Bool.and_eq_true_iff.mp h
    exact .cons (Dp.keep e a h'.1) (DpAll.keep e b h'.2)
end
theorem DpAll.snoc {K : PySem.W.Frag} {H : Hp} {y : V} {c : PyData} (hy : Dp K H y c) : ∀ {v : List V} {d : List PyData}, DpAll K H v d → DpAll K H (v ++ [y]) (d ++ [c])
  | _, _, .nil => .cons hy .nil
  | _, _, .cons a b => .cons a (DpAll.snoc hy b)
theorem DpAll.take {K : PySem.W.Frag} {H : Hp} : ∀ {v : List V} {d : List PyData} (n : Nat), DpAll K H v d → DpAll K H (v.take n) (d.take n)
  | _, _, 0, _ => .nil
  | _, _, _ + 1, .nil => .nil
  | _, _, n + 1, .cons a b => .cons a (DpAll.take n b)
theorem DpAll.set {K : PySem.W.Frag} {H : Hp} {y : V} {c : PyData} (hy : Dp K H y c) : ∀ {v : List V} {d : List PyData} (n : Nat), DpAll K H v d → DpAll K H (v.set n y) (d.set n c)
  | _, _, _, .nil => .nil
  | _, _, 0, .cons _ b => .cons hy b
  | _, _, n + 1, .cons a b => .cons a (DpAll.set hy n b)

theorem DpAll.ints {K : PySem.W.Frag} {H : Hp} : ∀ ns : List Int, DpAll K H (ns.map V.int) (ns.map .int)
  | [] => .nil
  | n :: r => .cons (.int n) (DpAll.ints r)
theorem lay_ints (ns : List Int) : PyData.canLayAll0 (ns.map .int) = true ∧ PyData.depthAll (ns.map .int) = 0 ∧ nodesAll (ns.map .int) = ns.length := by
  induction ns with
  | nil => exact ⟨rfl, rfl, rfl⟩
  | cons n r ih =>
    refine ⟨ih.1, ?_, ?_⟩
    · show max 0 (PyData.depthAll (r.map .int)) = 0
      rw [ih.2.1]
      rfl
    · show 1 + nodesAll (r.map .int) = r.length + 1
      rw [ih.2.2]
      omega
theorem shaped_ints (ns : List Int) : SeqAt.shaped (.list (ns.map .int)) = true := by
  obtain ⟨h1, h2, _⟩ := lay_ints ns
  show (PyData.canLayAll0 (ns.map .int) && decide (PyData.depthAll (ns.map .int) + 1 ≤ 64)) = true
  rw [h1, h2]
  rfl
/-- those of xs whose data is kept -/
def selV {α : Type} (k : α → Bool) (xs : List V) (ps : List α) : List V := ((xs.zip ps).filter fun z => k z.2).map Prod.fst
theorem DpAll.sel {α : Type} {K : PySem.W.Frag} {H : Hp} {k : α → Bool} {g : α → PyData} : ∀ {xs : List V} {ps : List α}, DpAll K H xs (ps.map g) → DpAll K H (selV k xs ps) ((ps.filter k).map g)
  | [], [], _ => .nil
  | _ :: _, [], h => by cases h
  | [], _ :: _, h => by cases h
  | x :: xs, p :: ps, h => by
    cases h with
    | cons a b =>
      have ih := DpAll.sel (k := k) b
      unfold selV at ih ⊢
      rw [List.zip_cons_cons, List.filter_cons, List.filter_cons]
      cases hk : k p
      · rw [if_neg (by simp [hk]), if_neg (by simp)]
        exact ih
      · rw [if_pos (by simp [hk]), if_pos rfl]
        exact .cons a ih
theorem selV_take {α : Type} {k : α → Bool} {xs : List V} {ps : List α} {i : Nat} {x : V} {p : α} (hx : xs[i]? = some x) (hp : ps[i]? = some p) :
    selV k (xs.take (i + 1)) (ps.take (i + 1)) = selV k (xs.take i) (ps.take i) ++ (if k p then [x] else []) := by
  unfold selV
  have tz : ∀ n, (xs.take n).zip (ps.take n) = (xs.zip ps).take n := fun n => by rw [List.zip_eq_zipWith, List.zip_eq_zipWith, List.take_zipWith]
  rw [tz, tz, List.take_add_one, (List.getElem?_zip_eq_some (z := (x, p))).mpr ⟨hx, hp⟩, List.filter_append, List.map_append]
  congr 1
  cases hk : k p <;> simp [hk]
theorem selV_len {α : Type} {k : α → Bool} {xs : List V} {ps : List α} : (selV k xs ps).length ≤ xs.length := by
  unfold selV
  rw [List.length_map]
  exact Nat.le_trans (List.length_filter_le _ _) (by rw [List.length_zip]; omega)

/-- the box of draws at B, n draws behind it at most -/
def Box (H : Hp) (B : Addr) (n : Nat) : Prop := ∃ b0 b1 b2 : Int, H B = some (.lst [.int b0, .int b1, .int b2]) ∧ 0 ≤ b0 ∧ 0 ≤ b1 ∧ b1 < 2147483647 ∧ 0 ≤ b2 ∧ b2 ≤ (n : Int)
theorem Box.mono {H : Hp} {B : Addr} {n m : Nat} (b : Box H B n) (h : n ≤ m) : Box H B m := by
  obtain ⟨b0, b1, b2, e, h0, h1, h2, h3, h4⟩ := b
  exact ⟨b0, b1, b2, e, h0, h1, h2, h3, by omega⟩
theorem Box.some {H : Hp} {B : Addr} {n : Nat} (b : Box H B n) : ∃ o, H B = some o := by
  obtain ⟨b0, b1, b2, e, _⟩ := b
  exact ⟨_, e⟩
theorem Box.keep {H H' : Hp} {B : Addr} {n : Nat} (b : Box H B n) (s : Same H H') : Box H' B n := by
  obtain ⟨b0, b1, b2, e, h⟩ := b
  exact ⟨b0, b1, b2, s _ _ e, h⟩
theorem Box.put {H : Hp} {B p : Addr} {n : Nat} {o : HO} (b : Box H B n) (h : p ≠ B) : Box (upd H p o) B n := by
  obtain ⟨b0, b1, b2, e, r⟩ := b
  exact ⟨b0, b1, b2, by rw [upd_ne h.symm]; exact e, r⟩
theorem Box.ne {H : Hp} {B p : Addr} {n : Nat} (b : Box H B n) (h : H p = none) : p ≠ B := by
  obtain ⟨o, e⟩ := b.some
  exact (ne_of_none e h).symm
theorem Fr.kt {H H' : Hp} {B : Addr} {n : Nat} (f : Fr [B] H H') (b : Box H B n) : KeepT H H' := fun t u i e => by
  have hn : t ≠ B := fun q => by
    obtain ⟨b0, b1, b2, hB, _⟩ := b
    rw [q, hB] at e
    cases e
    exact i
  exact f t u (by simp [hn]) e
theorem atI_in {xs : List V} {r : Int} (h0 : 0 ≤ r) (h1 : r < xs.length) : ∃ v, atI xs r = some v ∧ v ∈ xs := by
  obtain ⟨j, rfl⟩ := Int.eq_ofNat_of_zero_le h0
  have hj : j < xs.length := by omega
  exact ⟨xs[j], atI_nat (List.getElem?_eq_getElem hj), List.getElem_mem hj⟩
theorem walk_range0 {n : Nat} : Walk (Itr 0 n) n (fun _ => True) (YFn fun i => .int ((i : Nat) : Int)) :=
  walk_range.mono (fun _ h => h) fun i H x H' _ _ y => ⟨y.1, by rw [y.2]; show V.int (0 + (i : Int)) = V.int (i : Int); rw [Int.zero_add]⟩
theorem iteD {p A B : Prop} [Decidable p] (h1 : p → A) (h2 : ¬ p → B) : if decide p = true then A else B := by
  by_cases h : p
  · rw [if_pos (decide_eq_true h)]; exact h1 h
  · rw [if_neg (by rw [decide_eq_false h]; exact Bool.false_ne_true)]; exact h2 h
theorem iteND {p A B : Prop} [Decidable p] (h1 : ¬ p → A) (h2 : p → B) : if (!decide p) = true then A else B := by
  by_cases h : p
  · rw [decide_eq_true h]; exact iteF (h2 h)
  · rw [decide_eq_false h]; exact iteT (h1 h)
theorem iteDS {p A B : Prop} [Decidable p] (h : p) (a : A) : if decide p = true then A else B := by rw [if_pos (decide_eq_true h)]; exact a
theorem iteDN {p A B : Prop} [Decidable p] (h : ¬ p) (b : B) : if decide p = true then A else B := by rw [decide_eq_false h]; exact iteF b
theorem iteNDN {p A B : Prop} [Decidable p] (h : ¬ p) (a : A) : if (!decide p) = true then A else B := by rw [decide_eq_false h]; exact iteT a
theorem ixN_nat {n j : Nat} (h : j < n) : ixN n (j : Int) = some j := by
  unfold ixN
  rw [if_pos (by omega), if_pos (by omega), Int.toNat_natCast]
def rLenK (K : PySem.W.Frag) : List V → Hp → VK → Prop := fun xs H Q => ∃ p ys, xs = [.ref p] ∧ (SqL K H p ys ∨ SqT K H p ys) ∧ Q (.int ys.length) H
theorem call_len_seqK {X : Cx} {K : PySem.W.Frag} (h : X.K = K) : CallR X (.builtin "len") (rLenK K) := by
  subst h
  exact call_len_seq
theorem atI_last {xs : List V} {x : V} (h : xs[xs.length - 1]? = some x) : atI xs (-1) = some x := by
  have hl : xs.length - 1 < xs.length := (List.getElem?_eq_some_iff.mp h).1
  have e : ixN xs.length (-1) = some (xs.length - 1) := by
    unfold ixN
    rw [if_neg (by decide), if_pos (by omega)]
    congr 1
    omega
  unfold atI
  rw [e]
  exact h
theorem ixN_last {n : Nat} (h : 0 < n) : ixN n (-1) = some (n - 1) := by
  unfold ixN
  rw [if_neg (by decide), if_pos (by omega)]
  congr 1
  omega
theorem vals3 {a b c : V} {us : List Value} (r : Vals [a, b, c] us) : ∃ x y z, us = [x, y, z] ∧ RelV a x ∧ RelV b y ∧ RelV c z := by
  cases r with
  | cons r1 r => cases r with
    | cons r2 r => cases r with
      | cons r3 r => cases r; exact ⟨_, _, _, rfl, r1, r2, r3⟩
def max3 (i j k : Int) : Int := if k > (if j > i then j else i) then k else (if j > i then j else i)
theorem call_max3 {X : Cx} (hc : X.calm = true) : CallR X (.builtin "max") (fun xs H Q => ∃ i j k, xs = [.int i, .int j, .int k] ∧ Q (.int (max3 i j k)) H) := by
  intro pins s σ H xs us Q I r h
  obtain ⟨i, j, k, rfl, q⟩ := h
  obtain ⟨u, v, w', rfl, ⟨t, rfl⟩, ⟨t', rfl⟩, ⟨t'', rfl⟩⟩ := vals3 r
  refine max_three_ints (I.ok.hd hc) fun h' tk kk => ⟨_, H, I.kept kk, ?_, q⟩
  unfold max3
  by_cases h1 : j > i
  · rw [if_pos h1, if_pos h1]
    by_cases h2 : k > j
    · rw [if_pos h2, if_pos h2]; exact ⟨_, rfl⟩
    · rw [if_neg h2, if_neg h2]; exact ⟨_, rfl⟩
  · rw [if_neg h1, if_neg h1]
    by_cases h2 : k > i
    · rw [if_pos h2, if_pos h2]; exact ⟨_, rfl⟩
    · rw [if_neg h2, if_neg h2]; exact ⟨_, rfl⟩
theorem putF_len (f : Str) (v : V) : ∀ l : List (Str × V), (putF f v l).length ≤ l.length + 1
  | [] => Nat.le_refl _
  | (g, w) :: r => by
    unfold putF
    split
    · exact Nat.le_succ _
    · have := putF_len f v r
      simp only [List.length_cons]
      omega
theorem putF_few {f : Str} {v : V} {l : List (Str × V)} {n : Nat} (h : l.length ≤ n) : (putF f v l).length ≤ n + 1 := Nat.le_trans (putF_len f v l) (Nat.succ_le_succ h)
theorem putF_ok {l : List (Str × V)} {n : Nat} (h : l.length ≤ n) (hn : n < 1000) : l.length < 1000 := Nat.lt_of_le_of_lt h hn
theorem ix3 {a b c : V} : (atI [a, b, c] 0 = some a ∧ atI [a, b, c] 1 = some b ∧ atI [a, b, c] 2 = some c) := ⟨rfl, rfl, rfl⟩

theorem log2_ok {x : Int} (h : x.natAbs < 2 ^ 200) : x.natAbs.log2 < 1920 := by
  by_cases h0 : x.natAbs = 0
  · rw [h0]; decide
  · exact Nat.lt_of_lt_of_le ((Nat.log2_lt h0).mpr h) (by decide)
theorem log2_ok18 {x : Int} (h : x.natAbs < 10 ^ 18) : x.natAbs.log2 < 1920 := log2_ok (Nat.lt_of_lt_of_le h (by decide))
theorem ite01 (b : Bool) : (0 : Int) ≤ (if b = true then 1 else 0) := by cases b <;> decide
theorem pe_globE {X : Cx} {x : Str} {v : V} {pos : Pos} (hg : Gl X x) (h : ∃ u, X.mg x = some u ∧ RelV v u) (hd : (x == ("__debug__" : Str)) = false := by decide) : PE X (.Name x pos) (tC v) := by
  obtain ⟨u, hm, r⟩ := h
  exact pe_glob hg hm r hd
/-- s.rpartition(t) -/
theorem mt_rpartition {X : Cx} : MtR X "str.rpartition" (fun x xs H Q => ∃ a b, x = .str a ∧ xs = [.str b] ∧ (b.length == 0) = false ∧ a.length ≤ sizeLine ∧
    ∀ p, H p = none → Q (.ref p) (upd H p (.tup [.str (Txt.rpartition a b).1, .str (Txt.rpartition a b).2.1, .str (Txt.rpartition a b).2.2]))) := by
  intro pins s σ H x xs v us Q I rx rs h
  obtain ⟨a, b, rfl, rfl, hb, hz, h⟩ := h
  obtain ⟨t, rfl⟩ := rx
  cases rs with
  | cons r1 rs =>
    cases rs
    obtain ⟨u, rfl⟩ := r1
    refine call_meets F.slot_str_rpartition (typeIs_str _ _ _) F.entry_str_rpartition (F.args_str_rpartition_2 _ _) (meets_str_rpartition a b t u hb hz) ?_
    unfold Txt.rpartition at h
    revert h
    cases Builtin.Str.lastOccurrence a b 0 a.length with
    | none => intro h; exact laid_parts I h
    | some i => intro h; exact laid_parts I h
end Z
/-! defs that run while no repr is under way; repr and str of data -/
namespace Z
open PySem L2 PySem.Spec PyProof.Rows

/-- a promise that is kept wherever no repr is under way -/
structure FnG (P : Program) (w : World) (K : PySem.W.Frag) (mg : Str → Option Value) (base : Heap) (k : Nat) (f : Addr) (fd : FuncData)
    (ps : List Str) (sp : Sp) : Prop where
  size : ∀ vs H Q E, sp vs H Q E → vs.length = ps.length
  goes : ∀ (A : Around) (outer : List Env) (s : Shared) (H : Hp) (args : Args) (us : List Value) (vs : List V) (Q : VK) (E : XK),
    Room k A → A.guards = some [] → Env0 P w K mg base A outer s H → BindsTo s fd args (ps.zip us) → Vals vs us → sp vs H Q E →
    codeAny (model P w) A (.call (.ref f) args) (CR CX0 outer P w H s Q E) s
section
variable {P : Program} {w : World} {K : PySem.W.Frag} {mg : Str → Option Value} {base : Heap} {k : Nat} {f : Addr} {fd : FuncData} {ps : List Str} {sp : Sp}
theorem FnG.of (F : FnOk P w K mg base CX0 k f fd ps sp) : FnG P w K mg base k f fd ps sp :=
  ⟨F.len, fun A outer s H args us vs Q E hr _ => F.run A outer s H args us vs Q E hr⟩
theorem FnG.fit (F : FnG P w K mg base k f fd ps sp) {j : Nat} (h : k ≤ j) : FnG P w K mg base j f fd ps sp :=
  ⟨F.size, fun A outer s H args us vs Q E hr => F.goes A outer s H args us vs Q E (hr.mono h)⟩
/-- its body, in a frame of which it is known that no repr is under way -/
theorem okG {x qual : Str} {st : Stmt} {N : List Str} (F : Fun K x qual st f fd) (S : FnScope N ps (defScope st))
    (len : ∀ vs H Q E, sp vs H Q E → vs.length = ps.length)
    (body : ∀ (cdv : Value) (A : Around) (outer : List Env) (s : Shared) (H : Hp) (vs : List V) (Q : VK) (E : XK),
      Room k (A.deeper (envOfC qual (defScope st) s.heap.objs.size f cdv)) →
      (A.deeper (envOfC qual (defScope st) s.heap.objs.size f cdv)).guards = some [] → sp vs H Q E →
      ∃ t, PSs (cxOf CX0 P w K mg base N qual (defScope st) f cdv A outer s H E).nox (defBody st) t ∧
        t { nx := fun _ H' => Q .non H', rt := Q } (start N vs) H) :
    FnG P w K mg base (k + 1) f fd ps sp := by
  obtain ⟨oc, od, kV, doc, pm, an, cdv, ct, osl, rfl, at_f, code⟩ := F.ex
  refine ⟨len, fun A outer s H args us vs Q E room calm start0 binds rel want => ?_⟩
  have here : K.In s.heap := start0.mod.kin.keeps fun b o e => (start0.bs b o e).1
  have nolim : s.heap.NoLimit := start0.mod.nolimit.keeps fun b o e => (start0.bs b o e).1
  obtain ⟨t, der, rd⟩ := body cdv A outer s H vs Q E (room.deeper _) calm want
  have kinds : ∀ y ∈ ps.zip us, (defScope st).names.lookup y.1 = some .local ∨
      ((defScope st).names.lookup y.1 = some .cell ∧ ((cellsFrom (s.heap.objs.size + 1) (defScope st).names []).lookup y.1).isSome = true) := by
    rintro ⟨n, v⟩ hy
    refine (S.par n (List.of_mem_zip hy).1).imp id fun q => ⟨q, PySem.W.cellsFrom_some _ _ _ (.inl q)⟩
  refine codeAny_call_function room.depth (here _ _ at_f) rfl S.co S.gen rfl (PySem.W.codeRec_of here code) (binds _ _ _ _ ?_)
  refine wpAny_newFunctionEnv_cells S.kind kinds fun env he s1 inside => ?_
  subst he
  refine ⟨nolim.keeps inside.toInCall.keep, codeAny_func ?_⟩
  have I := inv_start (CX := CX0) (E := E) S room.hd start0 (len _ _ _ _ want) rel inside
  refine wpAny_mono (der.nox.run [] s1 (start N vs) H _ I rd) (fun fl s' ends => ?_) fun e s' ends => ends
  cases fl with
  | ret u => obtain ⟨v, σ', H', J, rv, q⟩ := ends; exact ⟨v, H', J.os, J.bare, J.base, J.hok, rv, q⟩
  | next => obtain ⟨σ', H', J, q⟩ := ends; exact ⟨.non, H', J.os, J.bare, J.base, J.hok, rfl, q⟩
  | brk => obtain ⟨_, _, _, q⟩ := ends; exact q.elim
  | cont => obtain ⟨_, _, _, q⟩ := ends; exact q.elim
end
section
variable {X : Cx} {k : Nat} {f : Addr} {fd : FuncData} {ps : List Str} {sp : Sp} {dvs : List V} {ds : List Value} {x : Str} {p pos : Pos} {e : Expr} {es : List Expr} {t : TA}
/-- such a callee runs -/
theorem runG {pins : List (Addr × Obj)} {σ : L2.St} {H : Hp} {s : Shared} {Q : VK} {us : List Value} {vs : List V} (F : FnG X.prog X.w X.K X.mg X.base k f fd ps sp)
    (hr : Room k X.A) (calm : X.A.guards = some []) (hb : Binds X.K fd ps ds) (hd : Vals dvs ds) (I : Inv X pins σ H s) (r : Vals vs us)
    (h : sp (vs ++ dvs) H Q E0) : wpAny (model X.prog X.w) X.A (call (.ref f) us) (EP X pins σ Q) X.xe s := by
  have both : Vals (vs ++ dvs) (us ++ ds) := r.append hd
  have enough : (us ++ ds).length = ps.length := both.length ▸ F.size _ _ _ _ h
  refine wpAny_call (codeAny_mono (F.goes X.A X.stack s H ⟨us, []⟩ _ _ Q E0 hr calm I.env0 (hb s us I.kIn enough) both h) fun res s' out => ?_)
  match res, out with
  | .ok (.ret u), out => exact I.after out
  | .ok .next, out => exact (out : False).elim
  | .ok .brk, out => exact (out : False).elim
  | .ok .cont, out => exact (out : False).elim
  | .error _, out => exact (out : False).elim
theorem pe_callG (F : FnG X.prog X.w X.K X.mg X.base k f fd ps sp) (hr : Room k X.A) (calm : X.A.guards = some []) (hg : Gl X x)
    (hm : X.mg x = some (.ref f)) (hk : PySem.W.keepIn X.K (.ref f) = true) (hb : Binds X.K fd ps ds) (hd : Vals dvs ds) (ha : PA X (e :: es) t)
    (nodebug : (x == ("__debug__" : Str)) = false := by decide)
    (nostar : starEach (e :: es) X.env = (false, eval e X.env) :: starEach es X.env := by rfl)
    (plain : (backTo pos (starEach es X.env)).any (·.1) = false := by rfl) : PE X (.Call (.Name x p) (e :: es) [] pos) (tCall sp dvs E0 t) :=
  ⟨fun pins s σ H Q I h => wpAny_Call_Name_kw (ld_glob I hg hm
    (PySem.W.callWith_K (h₀ := X.base) I.ok.mod.kin hk (thn (ha.run pos pins s σ H _ I h) fun us s1 ⟨vs, H1, I1, r, q⟩ =>
      ⟨I1.kIn, runG F hr calm hb hd I1 r q⟩) nostar plain) nodebug)⟩
theorem pe_callG0 (F : FnG X.prog X.w X.K X.mg X.base k f fd ps sp) (hr : Room k X.A) (calm : X.A.guards = some []) (hg : Gl X x)
    (hm : X.mg x = some (.ref f)) (hk : PySem.W.keepIn X.K (.ref f) = true) (hb : Binds X.K fd ps ds) (hd : Vals dvs ds)
    (nodebug : (x == ("__debug__" : Str)) = false := by decide) : PE X (.Call (.Name x p) [] [] pos) (tCall sp dvs E0 tNil) :=
  ⟨fun pins s σ H Q I h => wpAny_Call_Name_kw (ld_glob I hg hm (PySem.W.callWith_K0 I.kIn hk (runG (us := []) F hr calm hb hd I .nil h)) nodebug)⟩
end

/-! the law's call, its def being such a one -/
theorem law_callG {P : Program} {w : World} {K : PySem.W.Frag} {mg mb : Str → Option Value} {k : Nat} {fa a : Addr} {fd : FuncData} {x : Str} {sp : Sp} {s₁ : Shared} {vs : List Value} {ns : List Int}
    (kin : K.In s₁.heap) (ng : s₁.heap.Ns mainGlobals mg) (nb : s₁.heap.Ns builtinsNs mb) (boot : ∀ x : Str, x ≠ "__name__" → mb x = bootBuiltins x)
    (nolim : s₁.heap.NoLimit) (nogen : s₁.gens = #[]) (at_a : s₁.heap.get? a = some { cls := .type "list", data := .seq vs.toArray })
    (ints_ : IntsAre vs ns) (few : ns.length ≤ sizeLine) (room : Room k callerA)
    (F : ∀ base : Heap, K.In base → base.Ns mainGlobals mg → FnG P w K mg base k fa fd [x] sp) (bind : ∀ (s : Shared) (u : Value), BindsTo s fd ⟨[u], []⟩ [(x, u)])
    (want : ∀ H : Hp, Only H → SqL K H a (ns.map V.int) → sp [.ref a] H (fun v _ => v = .bl true) fun _ _ _ => False) :
    codeAny (model P w) callerA (.call (.ref fa) ⟨[.ref a], []⟩)
      (fun r s' => r = .ok (.ret (.bool true)) ∧ OldK s₁.heap s'.heap ∧ s'.os = s₁.os ∧ AllBare s'.gens) s₁ := by
  have rel := vals_ints ints_
  have one : ∀ H : Hp, Only H → SqL K H a (ns.map V.int) → HOk P w H s₁.heap → (∀ b, H b ≠ none → b = a) → (H a ≠ none → K.lookup a = none) →
      codeAny (model P w) callerA (.call (.ref fa) ⟨[.ref a], []⟩)
        (fun r s' => r = .ok (.ret (.bool true)) ∧ OldK s₁.heap s'.heap ∧ s'.os = s₁.os ∧ AllBare s'.gens) s₁ := fun H only sq hok alone noK => by
    have dictOut : ∀ {b : Addr} {o : Obj} {es : Array DictEntry} {ep : Nat}, s₁.heap.get? b = some o → o.data = .dict es ep → H b = none := by
      intro b o es ep e d
      refine Option.eq_none_iff_forall_ne_some.mpr fun u q => ?_
      have hb := alone b (q ▸ Option.some_ne_none u)
      rw [hb, at_a] at e
      injection e with e
      rw [← e] at d
      exact Data.noConfusion d
    have nsIn : ∀ {b : Addr} {m : Str → Option Value}, s₁.heap.Ns b m → (hidT s₁.heap H).Ns b m := by
      rintro b m ⟨o, es, ep, e, d, r⟩
      exact ⟨o, es, ep, hidT_get e (dictOut e d), d, r⟩
    have kb : K.In (hidT s₁.heap H) := fun b o e => hidT_get (kin b o e) (Option.eq_none_iff_forall_ne_some.mpr fun u q => by
      have hb := alone b (q ▸ Option.some_ne_none u)
      rw [hb] at q e
      rw [noK (q ▸ Option.some_ne_none u)] at e
      cases e)
    have lim' : (hidT s₁.heap H).NoLimit := by
      obtain ⟨mc, h1, h2⟩ := nolim
      exact ⟨mc, nsIn h1, h2⟩
    have start0 : Env0 P w K mg (hidT s₁.heap H) callerA [] s₁ H :=
      ⟨rfl, ⟨kb, nsIn ng, ⟨mb, nsIn nb, boot⟩, lim'⟩, fun b o e => of_hidT e, Nat.le_of_eq (hidT_size _ _), trivial, (fun b hb => (List.not_mem_nil hb).elim), hok, .of_eq nogen⟩
    refine codeAny_mono ((F _ kb (nsIn ng)).goes callerA [] s₁ H ⟨[.ref a], []⟩ [.ref a] [.ref a] _ _ room rfl start0 (bind s₁ (.ref a)) (.cons rfl .nil) (want H only sq)) ?_
    intro res s' out
    match res, out with
    | .ok .next, out => exact (out : False).elim
    | .ok .brk, out => exact (out : False).elim
    | .ok .cont, out => exact (out : False).elim
    | .error _, out => exact (out : False).elim
    | .ok (.ret u), out =>
      obtain ⟨v, H', os, bare, un, hok', rv, q⟩ := out
      cases (show v = .bl true from q)
      cases (show u = Value.bool true from rv)
      refine ⟨rfl, OldK.of_keep fun b o e => ?_, os, bare⟩
      rcases only b with z | ⟨ob, xs, z⟩
      · exact un.keep b o e z (fun q => by cases q) (fun q => by cases q)
      · have e1 := (hok b _ z).1
        have e2 := (hok' b _ (un.frzs b ob _ z)).1
        rw [e] at e1
        injection e1 with e1
        rw [e1]
        exact e2
  by_cases hk : K.lookup a = none
  · refine one (fun b => if b = a then some (.frz { cls := .type "list", data := .seq vs.toArray } (.lst (ns.map V.int))) else none) (fun b => ?_)
      (.inl (.inr ⟨_, if_pos rfl⟩)) (fun b u z => ?_) (fun b z => ?_) fun _ => hk
    · exact if h : b = a then .inr ⟨_, _, if_pos h⟩ else .inl (if_neg h)
    · refine if h : b = a then ?_ else ?_
      · dsimp only at z
        rw [if_pos h] at z
        cases z
        rw [h]
        exact ⟨at_a, by rw [List.length_map]; exact few, vs, _, rel, at_a⟩
      · dsimp only at z
        rw [if_neg h] at z
        cases z
    · exact Decidable.byContradiction fun h => z (if_neg h)
  · obtain ⟨o, ho⟩ := Option.ne_none_iff_exists'.mp hk
    have e := kin a o ho
    rw [at_a] at e
    injection e with e
    refine one (fun _ => none) (fun _ => .inl rfl) (.inr ⟨_, vs.toArray, _, ho, by rw [← e], by rw [← e], by rw [← e], ?_, ?_⟩) (fun b u z => by cases z) (fun b z => (z rfl).elim) fun z => (z rfl).elim
    · rw [List.size_toArray, ints_.length]
      exact few
    · simpa using rel
theorem walk_ofG {l : PySem.W.OpenLaw} {n k : Nat} {q : Program} {loose : List Str} {XP : (Str → Option Value) → Heap → Prop} {YP : World → Heap → Prop} {d : DefRec} {K : Params → PySem.W.Frag}
    {sp : PySem.W.Frag → Sp} {x : Str} (most : l.most = some n) (line : n ≤ sizeLine) (nodef : d.params.defaults = []) (room : Room k callerA)
    (kin : ∀ (w : World) (h : Heap), YP w h → (K w.params).In h)
    (F : ∀ (w : World) (mg : Str → Option Value) (fa : Addr) (h : Heap), (K w.params).In h → h.Ns mainGlobals mg → mg d.name = some (.ref fa) →
      ∃ fd : FuncData, (∀ (s : Shared) (u : Value), BindsTo s fd ⟨[u], []⟩ [(x, u)]) ∧
        ∀ base : Heap, (K w.params).In base → base.Ns mainGlobals mg → FnG l.prog w (K w.params) mg base k fa fd [x] (sp (K w.params)))
    (want : ∀ (K : PySem.W.Frag) (H : Hp) (a : Addr) (ns : List Int), ns.length ≤ n → Only H → SqL K H a (ns.map V.int) → sp K [.ref a] H (fun v _ => v = .bl true) fun _ _ _ => False) :
    PySem.W.WalkO q loose XP YP l.row.toRowW d [] (fun f vs => PySem.call f vs) := by
  refine Att.attach_call most nodef fun w s₀ s₁ mg mb fa o pm cd doc a vs ns G Y ho hd hcd hmg hobj hints hlen hg => ?_
  obtain ⟨fd, hb, hF⟩ := F w mg fa _ (kin w _ Y) G.T.g hmg
  exact law_callG (kin w _ Y) G.T.g G.T.b G.T.builtins G.T.nolimit hg hobj hints (Nat.le_trans hlen line) room hF hb fun H only sq => want _ H a ns hlen only sq
end Z
namespace Z
open PySem L2 PySem.Spec PyProof.Rows
section
variable {X : Cx}
mutual
theorem Dp.plain {K : PySem.W.Frag} {H : Hp} : ∀ {v : V} {d : PyData}, Dp K H v d → d.hasDict = false
  | _, _, .non => rfl
  | _, _, .bl _ => rfl
  | _, _, .int _ => rfl
  | _, _, .str _ => rfl
  | _, _, .lst _ r => DpAll.plain r
  | _, _, .tup _ r => DpAll.plain r
theorem DpAll.plain {K : PySem.W.Frag} {H : Hp} : ∀ {v : List V} {d : List PyData}, DpAll K H v d → PyData.hasDictAll d = false
  | _, _, .nil => rfl
  | _, _, .cons a b => by
    show (PyData.hasDict _ || PyData.hasDictAll _) = false
    rw [Dp.plain a, DpAll.plain b]
    rfl
end
/-- repr(x), x a list or a tuple of data -/
theorem call_reprD (calm : X.A.guards = some []) (hu : X.A.units + 64 < cLine) : CallR X (.builtin "repr") (fun xs H Q => ∃ (a : Addr) (d : PyData), xs = [.ref a] ∧ Dp X.K H (.ref a) d ∧
    d.showable = true ∧ d.depth ≤ 60 ∧ d.shown.length ≤ sizeLine ∧ Q (.str d.shown) H) := by
  intro pins s σ H xs us Q I r h
  obtain ⟨a, d, rfl, hd, sh, dp, sz, q⟩ := h
  obtain ⟨u, rfl, rx⟩ := vals1 r
  obtain ⟨as, rd⟩ := Dp.reads I d _ u hd rx
  cases (show u = Value.ref a from rx)
  exact repr_of_reads' rd sh (PyData.noDict_hsm (Dp.plain hd)) calm (by omega) (fun _ _ e => e) (fun h' u tk hk => ⟨.str d.shown, H, I.kept (t' := tk) hk, ⟨u, rfl⟩, q⟩) sz
/-- str(x), x a list or a tuple of data -/
theorem call_strD (calm : X.A.guards = some []) (hu : X.A.units + 64 < cLine) : CallR X (.type "str") (fun xs H Q => ∃ (a : Addr) (d : PyData), xs = [.ref a] ∧ Dp X.K H (.ref a) d ∧
    d.showable = true ∧ d.depth ≤ 60 ∧ d.shown.length ≤ sizeLine ∧ Q (.str d.shown) H) := by
  intro pins s σ H xs us Q I r h
  obtain ⟨a, d, rfl, hd, sh, dp, sz, q⟩ := h
  obtain ⟨u, rfl, rx⟩ := vals1 r
  obtain ⟨as, rd⟩ := Dp.reads I d _ u hd rx
  cases (show u = Value.ref a from rx)
  exact str_of_reads rd sh (PyData.noDict_hsm (Dp.plain hd)) calm (by omega) (fun _ _ e => e) (fun h' u tk hk => ⟨.str d.shown, H, I.kept (t' := tk) hk, ⟨u, rfl⟩, q⟩) sz
end
end Z
/-! defs with defaults -/
namespace Z
open PySem L2 PySem.Spec PyProof.Rows
section
variable {P : Program} {w : World} {K : PySem.W.Frag} {mg : Str → Option Value} {base : Heap} {x qual : Str} {params : Arguments} {body : List Stmt} {scope : Scope} {dvs : List V} {kws : List (Str × V)} {f : Addr} {fd : FuncData}
theorem okD {N ps : List Str} {k : Nat} {sp : Sp} (F : FunD K x qual params body scope dvs kws f fd) (S : FnScope N ps scope) (len : ∀ vs H Q E, sp vs H Q E → vs.length = ps.length)
    (walk : ∀ (cdv : Value) (A : Around) (outer : List Env) (s : Shared) (H : Hp) (vs : List V) (Q : VK) (E : XK), Room k (A.deeper (envOfC qual scope s.heap.objs.size f cdv)) → sp vs H Q E →
      ∃ t, PSs (cxOf CX0 P w K mg base N qual scope f cdv A outer s H E).nox body t ∧ t { nx := fun _ H' => Q .non H', rt := Q } (start N vs) H) : FnOk P w K mg base CX0 (k + 1) f fd ps sp :=
  FunD.ok F S len fun cdv A outer s H vs Q E hr h => by
    obtain ⟨t, der, rd⟩ := walk cdv A outer s H vs Q E hr h
    exact ⟨t, der.nox, rd⟩
theorem binds_full {ps : List Str} (F : FunD K x qual params body scope dvs kws f fd)
    (h : ∀ (dV kV doc pm : Value) (an : Option Addr) (cdv ct : Value) (us : List Value), us.length = ps.length → bindArgs (PySem.W.fnOf x qual params body scope dV kV doc pm an cdv ct) ⟨us, []⟩ = pure (ps.zip us)) : Binds K fd ps [] := by
  obtain ⟨oc, od, dV, kV, doc, pm, an, cdv, ct, osl, rfl, _⟩ := F.ex
  exact .all (h dV kV doc pm an cdv ct)
theorem kb_full {ps : List Str} (F : FunD K x qual params body scope dvs kws f fd) (n : Nat) (ks : List Str) (g : {α : Type} → List α → List α → List α → List α)
    (rel : ∀ {vs ds zs : List V} {us its ws : List Value}, Vals vs us → Vals ds its → Vals zs ws → Vals (g vs ds zs) (g us its ws))
    (h : ∀ (dV kV doc pm : Value) (an : Option Addr) (cdv ct : Value) (us its ws : List Value), us.length = n → its.length = dvs.length → ws.length = ks.length →
      bindArgs (PySem.W.fnOf x qual params body scope dV kV doc pm an cdv ct) ⟨us, ks.zip ws⟩ = pure (ps.zip (g us its ws))) :
    ∃ its : List Value, KBn K fd ps n ks (fun us ws => g us its ws) (fun vs zs => g vs dvs zs) := by
  obtain ⟨oc, od, dV, kV, doc, pm, an, cdv, ct, osl, rfl, _, _, hD, _⟩ := F.ex
  obtain ⟨its, rI⟩ : ∃ its, Vals dvs its := by
    rcases hD with ⟨e, _⟩ | ⟨_, T, o, its, m, _, _, _, rT⟩
    · exact ⟨[], by rw [e]; exact .nil⟩
    · exact ⟨its, rT⟩
  exact ⟨its, fun s us ws _ l1 l2 => BindsTo.of_eq (h dV kV doc pm an cdv ct us its ws l1 rI.length.symm l2), fun r1 r2 => rel r1 rI r2⟩
end
end Z
/-! how long data's text may be -/
namespace Z
open PySem L2 TL
mutual
def szD : PyData → Nat
  | .none => 4
  | .bool _ => 5
  | .int i => (Str.ofString (toString i)).length
  | .str x => 10 * x.length + 2
  | .list xs => szAll xs + 2
  | .tuple xs => szAll xs + 3
  | .dict _ => 0
def szAll : List PyData → Nat
  | [] => 0
  | x :: r => szD x + 2 + szAll r
end
theorem slen_append (x y : Str) : (x ++ y).length = x.length + y.length := by rw [len_tl, len_tl x, len_tl y, tl_append, List.length_append]
theorem textFrom_le : ∀ (ts : List Str) (k : Nat) (acc : Str), (textFrom k acc ts).length ≤ acc.length + piled ts
  | [], _, acc => Nat.le_add_right _ _
  | t :: ts, k, acc => by
    have ih := textFrom_le ts (k + 1) (acc ++ Str.ofString (if k > 0 then ", " else "" : String) ++ t)
    rw [slen_append, slen_append] at ih
    have e : (Str.ofString (if k > 0 then ", " else "" : String)).length ≤ 2 := by
      split
      · exact (by decide +kernel : (Str.ofString ", ").length ≤ 2)
      · exact (by decide +kernel : (Str.ofString "").length ≤ 2)
    have p : piled (t :: ts) = t.length + 2 + piled ts := by simp [piled]
    show (textFrom (k + 1) (acc ++ Str.ofString (if k > 0 then ", " else "" : String) ++ t) ts).length ≤ _
    rw [p]
    omega
theorem listText_le (ts : List Str) : (listText ts).length ≤ piled ts + 2 := by
  have h := textFrom_le ts 0 (Str.ofString "[")
  have e1 : (Str.ofString "[").length = 1 := by decide +kernel
  have e2 : (Str.ofString "]").length = 1 := by decide +kernel
  show (textFrom 0 (Str.ofString "[") ts ++ Str.ofString "]").length ≤ _
  rw [slen_append]
  omega
theorem join_le : ∀ ts : List Str, (Str.join (Str.ofString ", ") ts).length ≤ piled ts
  | [] => Nat.zero_le _
  | t :: ts => by
    have h := join_length_add (t :: ts) (by simp)
    have h' : (Str.join (Str.ofString ", ") (t :: ts)).length + 2 = piled (t :: ts) := h
    omega
theorem tupleText_le (ts : List Str) : (tupleText ts).length ≤ piled ts + 3 := by
  have h := join_le ts
  have e1 : (Str.ofString "(").length = 1 := by decide +kernel
  have e2 : (Str.ofString (if (ts.length == 1) = true then ",)" else ")" : String)).length ≤ 2 := by
    split
    · exact (by decide +kernel : (Str.ofString ",)").length ≤ 2)
    · exact (by decide +kernel : (Str.ofString ")").length ≤ 2)
  show (Str.ofString "(" ++ Str.join (Str.ofString ", ") ts ++ Str.ofString (if (ts.length == 1) = true then ",)" else ")" : String)).length ≤ _
  rw [slen_append, slen_append]
  omega
mutual
theorem shown_le : ∀ d : PyData, d.canLay0 = true → d.shown.length ≤ szD d
  | .none, _ => (by decide +kernel : (Str.ofString "None").length ≤ 4)
  | .bool true, _ => (by decide +kernel : (Str.ofString "True").length ≤ 5)
  | .bool false, _ => (by decide +kernel : (Str.ofString "False").length ≤ 5)
  | .int i, _ => Nat.le_refl _
  | .str x, h => by
    refine StrLaws.reprText_len x fun c hc => ?_
    have h' : (x.cps.all (· < 0x110000)) = true := h
    have := (Array.all_eq_true_iff_forall_mem.mp h') c (Array.mem_toList_iff.mp hc)
    have := of_decide_eq_true this
    omega
  | .list xs, h => by
    have ih := shownAll_le xs h
    have := listText_le (PyData.shownAll xs)
    show (listText (PyData.shownAll xs)).length ≤ szAll xs + 2
    omega
  | .tuple xs, h => by
    have ih := shownAll_le xs h
    have := tupleText_le (PyData.shownAll xs)
    show (tupleText (PyData.shownAll xs)).length ≤ szAll xs + 3
    omega
  | .dict _, h => by cases h
theorem shownAll_le : ∀ ds : List PyData, PyData.canLayAll0 ds = true → piled (PyData.shownAll ds) ≤ szAll ds
  | [], _ => Nat.zero_le _
  | x :: r, h => by
    have h' : (x.canLay0 && PyData.canLayAll0 r) = true := h
    rw [Bool.and_eq_true] at h'
    have h1 := shown_le x h'.1
    have h2 := shownAll_le r h'.2
    have e : piled (PyData.shownAll (x :: r)) = x.shown.length + 2 + piled (PyData.shownAll r) := by
      show piled (x.shown :: PyData.shownAll r) = _
      simp [piled]
    rw [e]
    show _ ≤ szD x + 2 + szAll r
    omega
end
theorem szInt {i : Int} (h0 : 0 ≤ i) (h : i < 10 ^ 10) : szD (.int i) ≤ 10 := PyProof.Rows.toString_length_le h0 (by decide) h
end Z
/-! rules: plain -/
namespace Z
open PySem L2
def ruleD (r : List (Int × Int)) : PyData := .tuple (r.map fun p => .tuple [.int p.1, .int p.2])
def partAt (r : List (Int × Int)) (age : Int) : Int := r.foldl (fun f p => if p.1 ≤ age then p.2 else f) 100
def priceBy (r : List (Int × Int)) (p age : Int) : Int := if p * partAt r age / 100 > 1 then p * partAt r age / 100 else 1
theorem ruleD_get {K : PySem.W.Frag} {H : Hp} {xs : List V} {r : List (Int × Int)} {i : Nat} {x : V} (h : DpAll K H xs (r.map fun p => .tuple [.int p.1, .int p.2])) (hx : xs[i]? = some x) :
    ∃ p : Int × Int, r[i]? = some p ∧ ∃ t : Addr, SqT K H t [.int p.1, .int p.2] ∧ x = .ref t := by
  obtain ⟨d, hd, dx⟩ := DpAll.get h hx
  rw [List.getElem?_map] at hd
  cases e : r[i]? with
  | none => rw [e] at hd; cases hd
  | some p =>
    rw [e] at hd
    have hd := Option.some.inj hd
    subst hd
    obtain ⟨t, ys, rfl, sq, dy⟩ := Dp.tuple_of dx
    refine ⟨p, rfl, t, ?_, rfl⟩
    cases dy with
    | cons a b =>
      cases a
      cases b with
      | cons a b =>
        cases a
        cases b
        exact sq
theorem partAt_take {r : List (Int × Int)} {i : Nat} {age : Int} {p : Int × Int} (h : r[i]? = some p) : partAt (r.take (i + 1)) age = if p.1 ≤ age then p.2 else partAt (r.take i) age := by
  unfold partAt
  rw [List.take_add_one, h, List.foldl_append]
  rfl
end Z
/-! tags: plain -/
namespace Z
open PySem L2 TL
/-- a text of one to eight small letters -/
structure NameS (s : Str) : Prop where
  least : 1 ≤ (tl s).length
  most : (tl s).length ≤ 8
  small : ∀ c ∈ tl s, 97 ≤ c ∧ c ≤ 122
def smalls (z : List Nat) : Bool := z.all fun c => decide (97 ≤ c ∧ c ≤ 122)
def isNameD : PyData → Bool
  | .str s => decide (1 ≤ (tl s).length ∧ (tl s).length ≤ 8) && smalls (tl s)
  | _ => false
def isWholeD (lo hi : Int) : PyData → Bool
  | .int i => decide (lo ≤ i ∧ i ≤ hi)
  | _ => false
theorem NameS.is {s : Str} (h : NameS s) : isNameD (.str s) = true := by
  show (decide (1 ≤ (tl s).length ∧ (tl s).length ≤ 8) && smalls (tl s)) = true
  rw [decide_eq_true ⟨h.least, h.most⟩, Bool.true_and]
  exact List.all_eq_true.mpr fun c hc => decide_eq_true (h.small c hc)
theorem abc : tl (Str.ofString "abcdefghijklmnopqrstuvwxyz") = List.range' 97 26 := by decide +kernel
theorem small_mem (c : Nat) : decide (c ∈ tl (Str.ofString "abcdefghijklmnopqrstuvwxyz")) = decide (97 ≤ c ∧ c ≤ 122) := by
  rw [abc]
  apply decide_eq_decide.mpr
  rw [List.mem_range'_1]
  omega
theorem abc_at {d : Nat} (h : d < 26) : atI (Str.ofString "abcdefghijklmnopqrstuvwxyz").cps.toList (d : Int) = some (97 + d) := by
  have e : (Str.ofString "abcdefghijklmnopqrstuvwxyz").cps.toList = List.range' 97 26 := abc
  rw [e]
  refine atI_nat ?_
  rw [List.getElem?_range' (by omega)]
  simp
/-- what a tag has -/
structure Five where
  owner : Str
  number : Int
  price : Int
  least : Int
  day : Int
structure Five.Ok (f : Five) : Prop where
  owner : NameS f.owner
  n1 : 1 ≤ f.number
  n2 : f.number ≤ 9999
  p1 : 1 ≤ f.price
  p2 : f.price ≤ 99999
  l1 : 0 ≤ f.least
  l2 : f.least ≤ f.price
  d1 : 0 ≤ f.day
  d2 : f.day ≤ 999
def fiveD (f : Five) : PyData := .tuple [.str f.owner, .int f.number, .int f.price, .int f.least, .int f.day]
def tagF (f : Five) : List (Str × V) := putF "day" (.int f.day) (putF "least" (.int f.least) (putF "price" (.int f.price) (putF "number" (.int f.number) (putF "owner" (.str f.owner) []))))
theorem tagF_eq (f : Five) : tagF f = ([(Str.ofString "owner", V.str f.owner), (Str.ofString "number", V.int f.number), (Str.ofString "price", V.int f.price), (Str.ofString "least", V.int f.least), (Str.ofString "day", V.int f.day)] : List (Str × V)) := by
  have h1 : ¬ (Str.ofString "owner" = Str.ofString "number") := by decide +kernel
  have h2 : ¬ (Str.ofString "owner" = Str.ofString "price") := by decide +kernel
  have h3 : ¬ (Str.ofString "number" = Str.ofString "price") := by decide +kernel
  have h4 : ¬ (Str.ofString "owner" = Str.ofString "least") := by decide +kernel
  have h5 : ¬ (Str.ofString "number" = Str.ofString "least") := by decide +kernel
  have h6 : ¬ (Str.ofString "price" = Str.ofString "least") := by decide +kernel
  have h7 : ¬ (Str.ofString "owner" = Str.ofString "day") := by decide +kernel
  have h8 : ¬ (Str.ofString "number" = Str.ofString "day") := by decide +kernel
  have h9 : ¬ (Str.ofString "price" = Str.ofString "day") := by decide +kernel
  have h0 : ¬ (Str.ofString "least" = Str.ofString "day") := by decide +kernel
  simp [tagF, putF, h1, h2, h3, h4, h5, h6, h7, h8, h9, h0]
theorem tagF_owner (f : Five) : (tagF f).lookup ("owner" : Str) = some (.str f.owner) := by
  unfold tagF
  rw [lookup_putF, if_neg (by decide +kernel), lookup_putF, if_neg (by decide +kernel), lookup_putF, if_neg (by decide +kernel), lookup_putF, if_neg (by decide +kernel), lookup_putF, if_pos rfl]
theorem tagF_number (f : Five) : (tagF f).lookup ("number" : Str) = some (.int f.number) := by
  unfold tagF
  rw [lookup_putF, if_neg (by decide +kernel), lookup_putF, if_neg (by decide +kernel), lookup_putF, if_neg (by decide +kernel), lookup_putF, if_pos rfl]
theorem tagF_price (f : Five) : (tagF f).lookup ("price" : Str) = some (.int f.price) := by
  unfold tagF
  rw [lookup_putF, if_neg (by decide +kernel), lookup_putF, if_neg (by decide +kernel), lookup_putF, if_pos rfl]
theorem tagF_least (f : Five) : (tagF f).lookup ("least" : Str) = some (.int f.least) := by
  unfold tagF
  rw [lookup_putF, if_neg (by decide +kernel), lookup_putF, if_pos rfl]
theorem tagF_day (f : Five) : (tagF f).lookup ("day" : Str) = some (.int f.day) := by
  unfold tagF
  rw [lookup_putF, if_pos rfl]
/-- at t a tag -/
def TagAt (C : Addr) (H : Hp) (t : Addr) (f : Five) : Prop := ∃ dx, H t = some (.ins C dx (tagF f))
theorem TagAt.keep {C : Addr} {H H' : Hp} {t : Addr} {f : Five} (h : TagAt C H t f) (k : KeepT H H') : TagAt C H' t f := by
  obtain ⟨dx, e⟩ := h
  exact ⟨dx, k _ _ trivial e⟩
end Z
namespace K
open PySem L2 Z TL
local macro_rules | `(tactic| walk_at "z1") => `(tactic| first | with_reducible refine iteT ?_ | with_reducible refine iteF ?_ | with_reducible refine iteDS rfl ?_ | with_reducible refine iteNS rfl ?_ | ((with_reducible refine iteDN ?hN ?_); (case hN => (intro h; cases h; done))) | ((with_reducible refine iteNDN ?hN ?_); (case hN => (intro h; cases h; done))) | ((fail_if_success (with_reducible refine iteD (fun _ => ?_) (fun _ => ?_))); (fail_if_success (with_reducible refine iteND (fun _ => ?_) (fun _ => ?_))); first
  | refine ⟨_, rfl, ?_⟩
  | refine ⟨_, _, rfl, rfl, ?_⟩
  | refine ⟨rfl, ?_⟩
  | refine ⟨(by show (0 : Int) < _; first | decide | omega), ?_⟩
  | refine ⟨⟨by decide, by decide⟩, ?_⟩
  | refine ⟨⟨(by show (0 : Int) < _; omega), (by show _ < (1073741824 : Int); omega)⟩, ?_⟩
  | refine ⟨⟨by decide, by decide, by decide⟩, ?_⟩
  | refine ⟨.inl ⟨by omega, by omega⟩, ?_⟩
  | refine ⟨.inr ⟨by omega, by omega⟩, ?_⟩
  | refine .inl ⟨_, rfl, ?_⟩
  | refine .inr ⟨_, rfl, ?_⟩
  | refine ⟨_, _, _, _, rfl, rfl, SqL.of (by assumption), rfl, ?_⟩
  | refine ⟨_, _, _, _, rfl, rfl, SqL.of upd_same, rfl, ?_⟩
  | refine ⟨_, _, _, _, rfl, rfl, (by assumption), rfl, ?_⟩
  | refine ⟨_, _, _, _, rfl, rfl, upd_same, rfl, ?_⟩
  | refine ⟨_, _, rfl, SqT.of upd_same, rfl, ?_⟩
  | refine ⟨_, _, rfl, ?_⟩
  | refine ⟨Nat.le_of_ble_eq_true rfl, ?_⟩
  | refine ⟨_, _, _, _, true, rfl, .ty _, .base (.str _), kit_ty (by decide +kernel), ?_⟩
  | refine ⟨_, _, _, _, false, rfl, .ty _, .base (.str _), kit_ty (by decide +kernel), ?_⟩
  | refine ⟨_, _, _, _, true, rfl, .ty _, .base (.int _), kit_ty (by decide +kernel), ?_⟩
  | refine ⟨_, _, _, _, false, rfl, .ty _, .base (.int _), kit_ty (by decide +kernel), ?_⟩))
local macro_rules | `(tactic| walk_at "z") => `(tactic| repeat walk_at "z1")
def top (i : Nat) : Stmt := PySem.Challenge.pw_stallshares_k19_first_days.main.body.getD i (.Pass ⟨0, 0, 0, 0⟩)
abbrev s_is_name : Stmt := top 11
abbrev N_is_name : List Str := ["thing", "sign"]
theorem sc_is_name : FnScope N_is_name ["thing"] (defScope s_is_name) := ⟨rfl, rfl, rfl, by decide +kernel, rfl, by decide +kernel, by decide +kernel⟩
abbrev s_is_whole : Stmt := top 12
abbrev N_is_whole : List Str := ["thing", "least", "most"]
theorem sc_is_whole : FnScope N_is_whole ["thing", "least", "most"] (defScope s_is_whole) := ⟨rfl, rfl, rfl, by decide +kernel, rfl, by decide +kernel, by decide +kernel⟩
abbrev s_Tag_init : Stmt := inClass (top 15) 0
abbrev N_Tag_init : List Str := ["self", "owner", "number", "price", "least", "day"]
theorem sc_Tag_init : FnScope N_Tag_init ["self", "owner", "number", "price", "least", "day"] (defScope s_Tag_init) := ⟨rfl, rfl, rfl, by decide +kernel, rfl, by decide +kernel, by decide +kernel⟩
abbrev s_part_at : Stmt := top 18
abbrev N_part_at : List Str := ["rule", "age", "found", "least", "part"]
theorem sc_part_at : FnScope N_part_at ["rule", "age"] (defScope s_part_at) := ⟨rfl, rfl, rfl, by decide +kernel, rfl, by decide +kernel, by decide +kernel⟩
abbrev s_price_by : Stmt := top 19
abbrev N_price_by : List Str := ["rule", "price", "age"]
theorem sc_price_by : FnScope N_price_by ["rule", "price", "age"] (defScope s_price_by) := ⟨rfl, rfl, rfl, by decide +kernel, rfl, by decide +kernel, by decide +kernel⟩
abbrev s_price_on : Stmt := top 20
abbrev N_price_on : List Str := ["rule", "tag", "day", "leave", "found"]
theorem sc_price_on : FnScope N_price_on ["rule", "tag", "day", "leave"] (defScope s_price_on) := ⟨rfl, rfl, rfl, by decide +kernel, rfl, by decide +kernel, by decide +kernel⟩
abbrev s_falls : Stmt := top 21
abbrev N_falls : List Str := ["rule", "tag", "leave", "found", "age", "part", "price"]
theorem sc_falls : FnScope N_falls ["rule", "tag", "leave"] (defScope s_falls) := ⟨rfl, rfl, rfl, by decide +kernel, rfl, by decide +kernel, by decide +kernel⟩
abbrev s_first_day : Stmt := top 22
abbrev N_first_day : List Str := ["rule", "tag", "amount", "leave", "day", "price"]
theorem sc_first_day : FnScope N_first_day ["rule", "tag", "amount", "leave"] (defScope s_first_day) := ⟨rfl, rfl, rfl, by decide +kernel, rfl, by decide +kernel, by decide +kernel⟩
abbrev s__law_box : Stmt := top 24
abbrev N__law_box : List Str := ["_law_script", "_law_k", "_law_cell"]
theorem sc__law_box : FnScope N__law_box ["_law_script", "_law_k"] (defScope s__law_box) := ⟨rfl, rfl, rfl, by decide +kernel, rfl, by decide +kernel, by decide +kernel⟩
abbrev s__law_take : Stmt := top 25
abbrev N__law_take : List Str := ["_law_box_here", "_law_size", "_law_found", "_law_step", "_law_once", "_law_twice"]
theorem sc__law_take : FnScope N__law_take ["_law_box_here", "_law_size"] (defScope s__law_take) := ⟨rfl, rfl, rfl, by decide +kernel, rfl, by decide +kernel, by decide +kernel⟩
abbrev s__law_folded : Stmt := top 26
abbrev N__law_folded : List Str := ["_law_script", "_law_size", "_law_cells", "_law_k", "_law_cell"]
theorem sc__law_folded : FnScope N__law_folded ["_law_script", "_law_size"] (defScope s__law_folded) := ⟨rfl, rfl, rfl, by decide +kernel, rfl, by decide +kernel, by decide +kernel⟩
abbrev s__law_names : Stmt := top 27
abbrev N__law_names : List Str := ["_law_box_here", "_law_many", "_law_letters", "_law_found", "_law_first", "_law_step", "_law_words", "_law_k", "_law_own", "_law_tail", "_law_turn", "_law_name"]
theorem sc__law_names : FnScope N__law_names ["_law_box_here", "_law_many"] (defScope s__law_names) := ⟨rfl, rfl, rfl, by decide +kernel, rfl, by decide +kernel, by decide +kernel⟩
abbrev s__law_price : Stmt := top 28
abbrev N__law_price : List Str := ["_law_box_here"]
theorem sc__law_price : FnScope N__law_price ["_law_box_here"] (defScope s__law_price) := ⟨rfl, rfl, rfl, by decide +kernel, rfl, by decide +kernel, by decide +kernel⟩
abbrev s__law_five : Stmt := top 29
abbrev N__law_five : List Str := ["_law_box_here", "_law_people", "_law_number", "_law_price_here", "_law_lowest", "_law_when"]
theorem sc__law_five : FnScope N__law_five ["_law_box_here", "_law_people"] (defScope s__law_five) := ⟨rfl, rfl, rfl, by decide +kernel, rfl, by decide +kernel, by decide +kernel⟩
abbrev s__law_rule : Stmt := top 30
abbrev N__law_rule : List Str := ["_law_box_here", "_law_age", "_law_part_here", "_law_found", "_law_turn", "_law_pair"]
theorem sc__law_rule : FnScope N__law_rule ["_law_box_here"] (defScope s__law_rule) := ⟨rfl, rfl, rfl, by decide +kernel, rfl, by decide +kernel, by decide +kernel⟩
abbrev s__law_made : Stmt := top 31
abbrev N__law_made : List Str := ["_law_box_here", "_law_five_here", "_law_owner", "_law_number", "_law_price_here", "_law_lowest", "_law_when", "_law_way"]
theorem sc__law_made : FnScope N__law_made ["_law_box_here", "_law_five_here"] (defScope s__law_made) := ⟨rfl, rfl, rfl, by decide +kernel, rfl, by decide +kernel, by decide +kernel⟩
abbrev s__law_fields : Stmt := top 32
abbrev N__law_fields : List Str := ["_law_tag"]
theorem sc__law_fields : FnScope N__law_fields ["_law_tag"] (defScope s__law_fields) := ⟨rfl, rfl, rfl, by decide +kernel, rfl, by decide +kernel, by decide +kernel⟩
abbrev s__law_part : Stmt := top 33
abbrev N__law_part : List Str := ["_law_rule_here", "_law_age", "_law_found", "_law_lowest", "_law_part_here"]
theorem sc__law_part : FnScope N__law_part ["_law_rule_here", "_law_age"] (defScope s__law_part) := ⟨rfl, rfl, rfl, by decide +kernel, rfl, by decide +kernel, by decide +kernel⟩
abbrev s__law_day_price : Stmt := top 34
abbrev N__law_day_price : List Str := ["_law_rule_here", "_law_five_here", "_law_when", "_law_freely", "_law_owner", "_law_number", "_law_price_here", "_law_lowest", "_law_begin", "_law_found"]
theorem sc__law_day_price : FnScope N__law_day_price ["_law_rule_here", "_law_five_here", "_law_when", "_law_freely"] (defScope s__law_day_price) := ⟨rfl, rfl, rfl, by decide +kernel, rfl, by decide +kernel, by decide +kernel⟩
abbrev s__law_same : Stmt := top 35
abbrev N__law_same : List Str := ["_law_found", "_law_due_here", "_law_one", "_law_other"]
theorem sc__law_same : FnScope N__law_same ["_law_found", "_law_due_here"] (defScope s__law_same) := ⟨rfl, rfl, rfl, by decide +kernel, rfl, by decide +kernel, by decide +kernel⟩
abbrev s__law_prices : Stmt := top 36
abbrev N__law_prices : List Str := ["_law_rule_here", "_law_five_here", "_law_freely", "_law_when"]
theorem sc__law_prices : FnScope N__law_prices ["_law_rule_here", "_law_five_here", "_law_freely"] (defScope s__law_prices) := ⟨rfl, rfl, rfl, by decide +kernel, rfl, by decide +kernel, by decide +kernel⟩
abbrev s__law_due : Stmt := top 37
abbrev N__law_due : List Str := ["_law_prices_here", "_law_begin", "_law_amount", "_law_at", "_law_price_here"]
theorem sc__law_due : FnScope N__law_due ["_law_prices_here", "_law_begin", "_law_amount"] (defScope s__law_due) := ⟨rfl, rfl, rfl, by decide +kernel, rfl, by decide +kernel, by decide +kernel⟩
abbrev s__law_asked : Stmt := top 38
abbrev N__law_asked : List Str := ["_law_box_here", "_law_rule_here", "_law_tag", "_law_amount", "_law_freely", "_law_way"]
theorem sc__law_asked : FnScope N__law_asked ["_law_box_here", "_law_rule_here", "_law_tag", "_law_amount", "_law_freely"] (defScope s__law_asked) := ⟨rfl, rfl, rfl, by decide +kernel, rfl, by decide +kernel, by decide +kernel⟩
abbrev s__law_right : Stmt := top 39
abbrev N__law_right : List Str := ["_law_box_here", "_law_people", "_law_rule_here", "_law_kept", "_law_turn", "_law_five_here", "_law_freely", "_law_tag", "_law_prices_here", "_law_amounts", "_law_when", "_law_price_here", "_law_amount", "_law_due_here"]
theorem sc__law_right : FnScope N__law_right ["_law_box_here"] (defScope s__law_right) := ⟨rfl, rfl, rfl, by decide +kernel, rfl, by decide +kernel, by decide +kernel⟩
abbrev s_law : Stmt := top 40
abbrev N_law : List Str := ["_law_script", "_law_cells", "_law_k"]
theorem sc_law : FnScope N_law ["_law_script"] (defScope s_law) := ⟨rfl, rfl, rfl, by decide +kernel, rfl, by decide +kernel, by decide +kernel⟩
structure Ad where
  C_Tag : Addr
  f_is_name : Addr
  d_is_name : FuncData
  f_is_whole : Addr
  d_is_whole : FuncData
  f_Tag_init : Addr
  d_Tag_init : FuncData
  f_part_at : Addr
  d_part_at : FuncData
  f_price_by : Addr
  d_price_by : FuncData
  f_price_on : Addr
  d_price_on : FuncData
  f_falls : Addr
  d_falls : FuncData
  f_first_day : Addr
  d_first_day : FuncData
  f__law_box : Addr
  d__law_box : FuncData
  f__law_take : Addr
  d__law_take : FuncData
  f__law_folded : Addr
  d__law_folded : FuncData
  f__law_names : Addr
  d__law_names : FuncData
  f__law_price : Addr
  d__law_price : FuncData
  f__law_five : Addr
  d__law_five : FuncData
  f__law_rule : Addr
  d__law_rule : FuncData
  f__law_made : Addr
  d__law_made : FuncData
  f__law_fields : Addr
  d__law_fields : FuncData
  f__law_part : Addr
  d__law_part : FuncData
  f__law_day_price : Addr
  d__law_day_price : FuncData
  f__law_same : Addr
  d__law_same : FuncData
  f__law_prices : Addr
  d__law_prices : FuncData
  f__law_due : Addr
  d__law_due : FuncData
  f__law_asked : Addr
  d__law_asked : FuncData
  f__law_right : Addr
  d__law_right : FuncData
  f_law : Addr
  d_law : FuncData
structure Txt (K : PySem.W.Frag) (mg : Str → Option Value) (a : Ad) : Prop where
  n_all : mg "all" = none
  n_isinstance : mg "isinstance" = none
  n_str : mg "str" = none
  n_len : mg "len" = none
  n_int : mg "int" = none
  n_bool : mg "bool" = none
  n_max : mg "max" = none
  n_abs : mg "abs" = none
  n_divmod : mg "divmod" = none
  n_list : mg "list" = none
  n_enumerate : mg "enumerate" = none
  n_range : mg "range" = none
  n_tuple : mg "tuple" = none
  n_zip : mg "zip" = none
  n_repr : mg "repr" = none
  c_WHOLE_PART : ∃ u, mg "WHOLE_PART" = some u ∧ RelV (.int 100) u
  c_SMALL_SIGNS : ∃ u, mg "SMALL_SIGNS" = some u ∧ RelV (.str "abcdefghijklmnopqrstuvwxyz") u
  c_MOST_SIGNS : ∃ u, mg "MOST_SIGNS" = some u ∧ RelV (.int 8) u
  c_MOST_NUMBER : ∃ u, mg "MOST_NUMBER" = some u ∧ RelV (.int 9999) u
  c_MOST_PRICE : ∃ u, mg "MOST_PRICE" = some u ∧ RelV (.int 99999) u
  c_MOST_DAY : ∃ u, mg "MOST_DAY" = some u ∧ RelV (.int 999) u
  cl_Tag : Cls K a.C_Tag
  g_Tag : mg "Tag" = some (.ref a.C_Tag)
  mk_Tag : Mk K a.C_Tag a.f_Tag_init
  na_Tag_owner : NoAttr K a.C_Tag "owner"
  na_Tag_number : NoAttr K a.C_Tag "number"
  na_Tag_price : NoAttr K a.C_Tag "price"
  na_Tag_least : NoAttr K a.C_Tag "least"
  na_Tag_day : NoAttr K a.C_Tag "day"
  F_is_name : Fun K "is_name" "is_name" s_is_name a.f_is_name a.d_is_name
  g_is_name : mg "is_name" = some (.ref a.f_is_name)
  b_is_name : Binds K a.d_is_name ["thing"] []
  F_is_whole : Fun K "is_whole" "is_whole" s_is_whole a.f_is_whole a.d_is_whole
  g_is_whole : mg "is_whole" = some (.ref a.f_is_whole)
  b_is_whole : Binds K a.d_is_whole ["thing", "least", "most"] []
  F_Tag_init : FunD K "__init__" "Tag.__init__" (defArgs s_Tag_init) (defBody s_Tag_init) (defScope s_Tag_init) [.int 0, .int 0] [] a.f_Tag_init a.d_Tag_init
  b_Tag_init_6 : ∃ ds, Vals [] ds ∧ Binds K a.d_Tag_init ["self", "owner", "number", "price", "least", "day"] ds
  b_Tag_init_4 : ∃ ds, Vals [.int 0, .int 0] ds ∧ Binds K a.d_Tag_init ["self", "owner", "number", "price", "least", "day"] ds
  kb_Tag_init_4_day : ∃ its : List Value, KBn K a.d_Tag_init ["self", "owner", "number", "price", "least", "day"] 4 ["day"] (fun us ws => us ++ (its.drop 0).take 1 ++ (ws.drop 0).take 1) (fun vs zs => vs ++ (([.int 0, .int 0] : List V).drop 0).take 1 ++ (zs.drop 0).take 1)
  b_Tag_init_5 : ∃ ds, Vals [.int 0] ds ∧ Binds K a.d_Tag_init ["self", "owner", "number", "price", "least", "day"] ds
  kb_Tag_init_4_day_least : ∃ its : List Value, KBn K a.d_Tag_init ["self", "owner", "number", "price", "least", "day"] 4 ["day", "least"] (fun us ws => us ++ (ws.drop 1).take 1 ++ (ws.drop 0).take 1) (fun vs zs => vs ++ (zs.drop 1).take 1 ++ (zs.drop 0).take 1)
  F_part_at : Fun K "part_at" "part_at" s_part_at a.f_part_at a.d_part_at
  g_part_at : mg "part_at" = some (.ref a.f_part_at)
  b_part_at : Binds K a.d_part_at ["rule", "age"] []
  F_price_by : Fun K "price_by" "price_by" s_price_by a.f_price_by a.d_price_by
  g_price_by : mg "price_by" = some (.ref a.f_price_by)
  b_price_by : Binds K a.d_price_by ["rule", "price", "age"] []
  F_price_on : FunD K "price_on" "price_on" (defArgs s_price_on) (defBody s_price_on) (defScope s_price_on) [.bl false] [] a.f_price_on a.d_price_on
  g_price_on : mg "price_on" = some (.ref a.f_price_on)
  kb_price_on_3_leave : ∃ its : List Value, KBn K a.d_price_on ["rule", "tag", "day", "leave"] 3 ["leave"] (fun us ws => us ++ (ws.drop 0).take 1) (fun vs zs => vs ++ (zs.drop 0).take 1)
  F_falls : FunD K "falls" "falls" (defArgs s_falls) (defBody s_falls) (defScope s_falls) [.bl false] [] a.f_falls a.d_falls
  g_falls : mg "falls" = some (.ref a.f_falls)
  kb_falls_2_leave : ∃ its : List Value, KBn K a.d_falls ["rule", "tag", "leave"] 2 ["leave"] (fun us ws => us ++ (ws.drop 0).take 1) (fun vs zs => vs ++ (zs.drop 0).take 1)
  b_falls_3 : ∃ ds, Vals [] ds ∧ Binds K a.d_falls ["rule", "tag", "leave"] ds
  F_first_day : FunD K "first_day" "first_day" (defArgs s_first_day) (defBody s_first_day) (defScope s_first_day) [.bl false] [] a.f_first_day a.d_first_day
  g_first_day : mg "first_day" = some (.ref a.f_first_day)
  b_first_day_3 : ∃ ds, Vals [.bl false] ds ∧ Binds K a.d_first_day ["rule", "tag", "amount", "leave"] ds
  b_first_day_4 : ∃ ds, Vals [] ds ∧ Binds K a.d_first_day ["rule", "tag", "amount", "leave"] ds
  kb_first_day_3_leave : ∃ its : List Value, KBn K a.d_first_day ["rule", "tag", "amount", "leave"] 3 ["leave"] (fun us ws => us ++ (ws.drop 0).take 1) (fun vs zs => vs ++ (zs.drop 0).take 1)
  F__law_box : Fun K "_law_box" "_law_box" s__law_box a.f__law_box a.d__law_box
  g__law_box : mg "_law_box" = some (.ref a.f__law_box)
  b__law_box : Binds K a.d__law_box ["_law_script", "_law_k"] []
  F__law_take : Fun K "_law_take" "_law_take" s__law_take a.f__law_take a.d__law_take
  g__law_take : mg "_law_take" = some (.ref a.f__law_take)
  b__law_take : Binds K a.d__law_take ["_law_box_here", "_law_size"] []
  F__law_folded : Fun K "_law_folded" "_law_folded" s__law_folded a.f__law_folded a.d__law_folded
  g__law_folded : mg "_law_folded" = some (.ref a.f__law_folded)
  b__law_folded : Binds K a.d__law_folded ["_law_script", "_law_size"] []
  F__law_names : Fun K "_law_names" "_law_names" s__law_names a.f__law_names a.d__law_names
  g__law_names : mg "_law_names" = some (.ref a.f__law_names)
  b__law_names : Binds K a.d__law_names ["_law_box_here", "_law_many"] []
  F__law_price : Fun K "_law_price" "_law_price" s__law_price a.f__law_price a.d__law_price
  g__law_price : mg "_law_price" = some (.ref a.f__law_price)
  b__law_price : Binds K a.d__law_price ["_law_box_here"] []
  F__law_five : Fun K "_law_five" "_law_five" s__law_five a.f__law_five a.d__law_five
  g__law_five : mg "_law_five" = some (.ref a.f__law_five)
  b__law_five : Binds K a.d__law_five ["_law_box_here", "_law_people"] []
  F__law_rule : Fun K "_law_rule" "_law_rule" s__law_rule a.f__law_rule a.d__law_rule
  g__law_rule : mg "_law_rule" = some (.ref a.f__law_rule)
  b__law_rule : Binds K a.d__law_rule ["_law_box_here"] []
  F__law_made : Fun K "_law_made" "_law_made" s__law_made a.f__law_made a.d__law_made
  g__law_made : mg "_law_made" = some (.ref a.f__law_made)
  b__law_made : Binds K a.d__law_made ["_law_box_here", "_law_five_here"] []
  F__law_fields : Fun K "_law_fields" "_law_fields" s__law_fields a.f__law_fields a.d__law_fields
  g__law_fields : mg "_law_fields" = some (.ref a.f__law_fields)
  b__law_fields : Binds K a.d__law_fields ["_law_tag"] []
  F__law_part : Fun K "_law_part" "_law_part" s__law_part a.f__law_part a.d__law_part
  g__law_part : mg "_law_part" = some (.ref a.f__law_part)
  b__law_part : Binds K a.d__law_part ["_law_rule_here", "_law_age"] []
  F__law_day_price : Fun K "_law_day_price" "_law_day_price" s__law_day_price a.f__law_day_price a.d__law_day_price
  g__law_day_price : mg "_law_day_price" = some (.ref a.f__law_day_price)
  b__law_day_price : Binds K a.d__law_day_price ["_law_rule_here", "_law_five_here", "_law_when", "_law_freely"] []
  F__law_same : Fun K "_law_same" "_law_same" s__law_same a.f__law_same a.d__law_same
  g__law_same : mg "_law_same" = some (.ref a.f__law_same)
  b__law_same : Binds K a.d__law_same ["_law_found", "_law_due_here"] []
  F__law_prices : Fun K "_law_prices" "_law_prices" s__law_prices a.f__law_prices a.d__law_prices
  g__law_prices : mg "_law_prices" = some (.ref a.f__law_prices)
  b__law_prices : Binds K a.d__law_prices ["_law_rule_here", "_law_five_here", "_law_freely"] []
  F__law_due : Fun K "_law_due" "_law_due" s__law_due a.f__law_due a.d__law_due
  g__law_due : mg "_law_due" = some (.ref a.f__law_due)
  b__law_due : Binds K a.d__law_due ["_law_prices_here", "_law_begin", "_law_amount"] []
  F__law_asked : Fun K "_law_asked" "_law_asked" s__law_asked a.f__law_asked a.d__law_asked
  g__law_asked : mg "_law_asked" = some (.ref a.f__law_asked)
  b__law_asked : Binds K a.d__law_asked ["_law_box_here", "_law_rule_here", "_law_tag", "_law_amount", "_law_freely"] []
  F__law_right : Fun K "_law_right" "_law_right" s__law_right a.f__law_right a.d__law_right
  g__law_right : mg "_law_right" = some (.ref a.f__law_right)
  b__law_right : Binds K a.d__law_right ["_law_box_here"] []
  F_law : Fun K "law" "law" s_law a.f_law a.d_law
/-! ### rules: pairs of ages and parts -/
def sp_part_at (K : PySem.W.Frag) : Sp := fun vs H Q _ => ∃ (v : V) (r : List (Int × Int)) (age : Int), vs = [v, .int age] ∧ Dp K H v (ruleD r) ∧ ∀ H', Same H H' → Q (.int (partAt r age)) H'
def sp_price_by (K : PySem.W.Frag) : Sp := fun vs H Q _ => ∃ (v : V) (r : List (Int × Int)) (p age : Int), vs = [v, .int p, .int age] ∧ Dp K H v (ruleD r) ∧ 0 ≤ p ∧ p ≤ 100000 ∧ ∀ H', Same H H' → Q (.int (priceBy r p age)) H'
theorem ok_part_at {P : Program} {w : World} {K : PySem.W.Frag} {mg : Str → Option Value} {base : Heap} {ad : Ad} (T : Txt K mg ad) : FnOk P w K mg base CX0 1 ad.f_part_at ad.d_part_at ["rule", "age"] (sp_part_at K) := by
  refine T.F_part_at.ok sc_part_at (fun vs H Q E h => ?_) (fun cdv A outer s H vs Q E hr h => ?_)
  · obtain ⟨v, r, age, rfl, _⟩ := h
    rfl
  · obtain ⟨v, r, age, rfl, hd, q⟩ := h
    obtain ⟨a, xs, rfl, sq, ds⟩ := Dp.tuple_of hd
    refine ⟨_, (pss_cons (ps_set (i := 2) sc_part_at.nd rfl (Or.inl rfl) (pe_globE rfl T.c_WHOLE_PART))
    (pss_cons (ps_for PassesOwn.never rfl (pi_tup (pv 0)) (pg_tup (by rfl) (pgs_cons (pg_name (i := 3) sc_part_at.nd rfl (Or.inl rfl)) (pgs_cons (pg_name (i := 4) sc_part_at.nd rfl (Or.inl rfl)) pgs_nil)))
    (pss_one (ps_if (pt_cmpR op_le (pv 3) (pv 1) (nomark _)) (pss_one (ps_set (i := 2) sc_part_at.nd rfl (Or.inl rfl) (pv 4))) pss_nil)))
    (pss_one (ps_ret (pv 2))))), ?_⟩
    refine ⟨_, rfl, a, rfl, ⟨_, sq⟩, ?_⟩
    have lx : xs.length = r.length := by rw [DpAll.length ds, List.length_map]
    refine for_it (walk_tup (xs := xs)) (fun i σ H' => Same H H' ∧ ∃ v3 v4, σ = [some (.ref a), some (.int age), some (.int (partAt (r.take i) age)), v3, v4]) ⟨Same.refl _, none, none, rfl⟩ (fun i σ H' _ h => SqT.mono h.1 sq) ?_ ?_
    · rintro i x σ H' _ hi ⟨sm, v3, v4, rfl⟩ ⟨rfl, hx⟩
      obtain ⟨⟨g, p⟩, hg, t, ht, rfl⟩ := ruleD_get ds hx
      refine ⟨t, _, rfl, SqT.mono sm ht, rfl, ?_⟩
      walk_at "z"
      have ep := partAt_take (r := r) (i := i) (age := age) hg
      with_reducible refine iteD (fun h => ?_) (fun h => ?_)
      · walk_at "z"
        refine ⟨sm, some (.int g), some (.int p), ?_⟩
        rw [ep, if_pos h]
        rfl
      · refine ⟨sm, some (.int g), some (.int p), ?_⟩
        rw [ep, if_neg h]
        rfl
    · rintro σ H' ⟨sm, v3, v4, rfl⟩
      refine ⟨_, rfl, ?_⟩
      rw [lx, List.take_length]
      exact q _ sm
theorem ok_price_by {P : Program} {w : World} {K : PySem.W.Frag} {mg : Str → Option Value} {base : Heap} {ad : Ad} (T : Txt K mg ad) : FnOk P w K mg base CX0 2 ad.f_price_by ad.d_price_by ["rule", "price", "age"] (sp_price_by K) := by
  have G_part_at := ok_part_at (P := P) (w := w) (base := base) T
  refine T.F_price_by.ok sc_price_by (fun vs H Q E h => ?_) (fun cdv A outer s H vs Q E hr h => ?_)
  · obtain ⟨v, r, p, age, rfl, _⟩ := h
    rfl
  · obtain ⟨v, r, p, age, rfl, hd, p0, p1, q⟩ := h
    refine ⟨_, (pss_one (ps_ret (pe_callB (call_max2 rfl) (by rfl) T.n_max (by decide +kernel) (pa_cons pe_int (pa_cons (pe_op op_fdiv (pe_op op_mul (pv 1) (pe_call G_part_at (hr.mono (by decide)) rfl T.g_part_at T.F_part_at.kp T.b_part_at .nil pass0 (pa_cons (pv 0) (pa_cons (pv 2) pa_nil)))) (pe_globE rfl T.c_WHOLE_PART)) pa_nil))))), ?_⟩
    refine ⟨_, rfl, _, rfl, _, rfl, v, r, age, rfl, hd, fun H1 s1 => ?_⟩
    walk_at "z"
    exact q _ s1
/-! ### tags -/
def sp_is_name (K : PySem.W.Frag) : Sp := fun vs H Q _ => ∃ s : Str, vs = [.str s] ∧ s.length ≤ sizeLine ∧ ∀ H', Same H H' → Q (.bl (isNameD (.str s))) H'
def sp_is_whole (K : PySem.W.Frag) : Sp := fun vs H Q _ => ∃ i lo hi : Int, vs = [.int i, .int lo, .int hi] ∧ Q (.bl (isWholeD lo hi (.int i))) H
theorem ok_is_name {P : Program} {w : World} {K : PySem.W.Frag} {mg : Str → Option Value} {base : Heap} {ad : Ad} (T : Txt K mg ad) : FnOk P w K mg base CX0 1 ad.f_is_name ad.d_is_name ["thing"] (sp_is_name K) := by
  refine T.F_is_name.ok sc_is_name (fun vs H Q E h => ?_) (fun cdv A outer s H vs Q E hr h => ?_)
  · obtain ⟨z, rfl, _⟩ := h
    rfl
  · obtain ⟨z, rfl, hz, q⟩ := h
    refine ⟨_, (pss_cons (ps_if (PW.pt (pw_or (pt_not (pt_val (pe_callB call_isi (by rfl) T.n_isinstance (by decide +kernel) (pa_cons (pv 0) (pa_cons (pe_bltn (v := .ty "str") (by rfl) T.n_str (by decide +kernel) rfl) pa_nil))))) (pw_or1 (pt_not (pt_chain op_le op_le pe_int (pe_callB call_len_str (by rfl) T.n_len PySem.boot_len (pa_cons (pv 0) pa_nil)) (pe_globE rfl T.c_MOST_SIGNS)))))) (pss_one (ps_ret pe_bl)) pss_nil)
    (pss_one (ps_ret (pe_callB (cr_all rfl) (by rfl) T.n_all (by decide +kernel) (pa_cons (pe_lc (own := [("sign", 1)]) (g := gName 1) (by rfl) sc_is_name.nd (pi_str (pv 0)) (blkOk_by (own := [("sign", 1)]) (N := N_is_name) (sc := defScope s_is_name) (by decide +kernel)) (fun _ _ _ _ _ => (pg_name (i := 1) sc_is_name.nd rfl (Or.inl rfl))) (fun _ _ _ _ _ => pts_nil) (fun _ _ _ _ _ => (pe_cmpR op_in_sign (pv 1) (pe_globE rfl T.c_SMALL_SIGNS) rfl))) pa_nil))))), ?_⟩
    have hn : z.cps.size = (tl z).length := len_tl z
    walk_at "z"
    refine ⟨hz, ?_⟩
    walk_at "z"
    with_reducible refine iteD (fun h1 => ?_) (fun h1 => ?_)
    · walk_at "z"
      with_reducible refine iteND (fun h2 => ?_) (fun h2 => ?_)
      · walk_at "z"
        have e : (false : Bool) = isNameD (.str z) := by
          show false = (decide (1 ≤ (tl z).length ∧ (tl z).length ≤ 8) && smalls (tl z))
          rw [decide_eq_false, Bool.false_and]
          rintro ⟨a, b⟩
          rw [len_tl] at h2
          omega
        show Q (V.bl false) H
        rw [e]
        exact q _ (Same.refl _)
      · refine ⟨_, rfl, z, rfl, fun D hD => ?_⟩
        refine lc_it (walk_str (z := z)) (fun i H' => LcP H D (tl z) (fun c => V.bl (decide (97 ≤ c ∧ c ≤ 122))) i H') (LcP.start hD) (fun _ _ _ _ => trivial) ?_ ?_
        · rintro i x _ H' hi p ⟨rfl, c, hc, rfl⟩
          refine ⟨rfl, ?_⟩
          walk_at "z"
          have hc' : (tl z)[i]? = some c := by rw [← hc]; simp
          refine p.step (Same.refl _) hc' ?_ (hn ▸ hz)
          show V.bl _ = V.bl _
          rw [← small_mem]
        · intro H' p
          rw [hn] at p
          refine ⟨D, (tl z).map fun c => decide (97 ≤ c ∧ c ≤ 122), rfl, SqL.of (by rw [p.done, List.map_map]; rfl), ?_⟩
          have e : (((tl z).map fun c => decide (97 ≤ c ∧ c ≤ 122)).all id) = isNameD (.str z) := by
            show _ = (decide (1 ≤ (tl z).length ∧ (tl z).length ≤ 8) && smalls (tl z))
            rw [len_tl] at h1 h2
            rw [decide_eq_true ⟨by omega, by omega⟩, Bool.true_and, List.all_map]
            rfl
          rw [e]
          exact q _ p.same
    · walk_at "z"
      have e : (false : Bool) = isNameD (.str z) := by
        show false = (decide (1 ≤ (tl z).length ∧ (tl z).length ≤ 8) && smalls (tl z))
        rw [decide_eq_false, Bool.false_and]
        rintro ⟨a, b⟩
        rw [len_tl] at h1
        omega
      show Q (V.bl false) H
      rw [e]
      exact q _ (Same.refl _)
theorem ok_is_whole {P : Program} {w : World} {K : PySem.W.Frag} {mg : Str → Option Value} {base : Heap} {ad : Ad} (T : Txt K mg ad) : FnOk P w K mg base CX0 1 ad.f_is_whole ad.d_is_whole ["thing", "least", "most"] (sp_is_whole K) := by
  refine T.F_is_whole.ok sc_is_whole (fun vs H Q E h => ?_) (fun cdv A outer s H vs Q E hr h => ?_)
  · obtain ⟨i, lo, hi, rfl, _⟩ := h
    rfl
  · obtain ⟨i, lo, hi, rfl, q⟩ := h
    refine ⟨_, (pss_one (ps_ret (pe_and (pe_callB call_isi (by rfl) T.n_isinstance (by decide +kernel) (pa_cons (pv 0) (pa_cons (pe_bltn (v := .ty "int") (by rfl) T.n_int (by decide +kernel) rfl) pa_nil))) (pe_and (pe_not (pe_callB call_isi (by rfl) T.n_isinstance (by decide +kernel) (pa_cons (pv 0) (pa_cons (pe_bltn (v := .ty "bool") (by rfl) T.n_bool (by decide +kernel) rfl) pa_nil)))) (pe_one (pe_chain op_le op_le (pv 1) (pv 0) (pv 2))))))), ?_⟩
    walk_at "z"
    with_reducible refine iteD (fun h1 => ?_) (fun h1 => ?_)
    · walk_at "z"
      have e : decide (i ≤ hi) = isWholeD lo hi (.int i) := by
        show _ = decide (lo ≤ i ∧ i ≤ hi)
        apply decide_eq_decide.mpr
        omega
      show Q (V.bl (decide (i ≤ hi))) H
      rw [e]
      exact q
    · have e : (false : Bool) = isWholeD lo hi (.int i) := by
        show _ = decide (lo ≤ i ∧ i ≤ hi)
        rw [decide_eq_false (by omega)]
      show Q (V.bl false) H
      rw [e]
      exact q
theorem Five.whole {i lo hi : Int} (h1 : lo ≤ i) (h2 : i ≤ hi) : isWholeD lo hi (.int i) = true := decide_eq_true ⟨h1, h2⟩
def sp_Tag_init (C : Addr) : Sp := fun vs H Q _ => ∃ (x dx : Addr) (f : Five), vs = [.ref x, .str f.owner, .int f.number, .int f.price, .int f.least, .int f.day] ∧ H x = some (.ins C dx []) ∧ f.Ok ∧ ∀ H', Fr [x] H H' → H' x = some (.ins C dx (tagF f)) → Q .non H'
theorem ok_Tag_init {P : Program} {w : World} {K : PySem.W.Frag} {mg : Str → Option Value} {base : Heap} {ad : Ad} (T : Txt K mg ad) : FnOk P w K mg base CX0 2 ad.f_Tag_init ad.d_Tag_init ["self", "owner", "number", "price", "least", "day"] (sp_Tag_init ad.C_Tag) := by
  have G_is_name := ok_is_name (P := P) (w := w) (base := base) T
  have G_is_whole := ok_is_whole (P := P) (w := w) (base := base) T
  refine okD T.F_Tag_init sc_Tag_init (fun vs H Q E h => ?_) (fun cdv A outer s H vs Q E hr h => ?_)
  · obtain ⟨x, dx, f, rfl, _⟩ := h
    rfl
  · obtain ⟨x, dx, f, rfl, hx, ok, q⟩ := h
    refine ⟨_, (pss_cons (ps_if (pt_not (pt_val (pe_call G_is_name (hr.mono (by decide)) rfl T.g_is_name T.F_is_name.kp T.b_is_name .nil pass0 (pa_cons (pv 1) pa_nil)))) (pss_one ps_never) pss_nil)
    (pss_cons (ps_if (pt_not (pt_val (pe_call G_is_whole (hr.mono (by decide)) rfl T.g_is_whole T.F_is_whole.kp T.b_is_whole .nil pass0 (pa_cons (pv 2) (pa_cons pe_int (pa_cons (pe_globE rfl T.c_MOST_NUMBER) pa_nil)))))) (pss_one ps_never) pss_nil)
    (pss_cons (ps_if (pt_not (pt_val (pe_call G_is_whole (hr.mono (by decide)) rfl T.g_is_whole T.F_is_whole.kp T.b_is_whole .nil pass0 (pa_cons (pv 3) (pa_cons pe_int (pa_cons (pe_globE rfl T.c_MOST_PRICE) pa_nil)))))) (pss_one ps_never) pss_nil)
    (pss_cons (ps_if (pt_not (pt_val (pe_call G_is_whole (hr.mono (by decide)) rfl T.g_is_whole T.F_is_whole.kp T.b_is_whole .nil pass0 (pa_cons (pv 4) (pa_cons pe_int (pa_cons (pv 3) pa_nil)))))) (pss_one ps_never) pss_nil)
    (pss_cons (ps_if (pt_not (pt_val (pe_call G_is_whole (hr.mono (by decide)) rfl T.g_is_whole T.F_is_whole.kp T.b_is_whole .nil pass0 (pa_cons (pv 5) (pa_cons pe_int (pa_cons (pe_globE rfl T.c_MOST_DAY) pa_nil)))))) (pss_one ps_never) pss_nil)
    (pss_cons (ps_fld (pv 0) (pv 1) rfl)
    (pss_cons (ps_fld (pv 0) (pv 2) rfl)
    (pss_cons (ps_fld (pv 0) (pv 3) rfl)
    (pss_cons (ps_fld (pv 0) (pv 4) rfl)
    (pss_one (ps_fld (pv 0) (pv 5) rfl))))))))))), ?_⟩
    refine ⟨_, rfl, f.owner, rfl, by rw [len_tl]; exact Nat.le_trans ok.owner.most (by decide), fun H1 s1 => ?_⟩
    rw [ok.owner.is]
    walk_at "z"
    refine ⟨_, _, _, rfl, ?_⟩
    rw [Five.whole ok.n1 ok.n2]
    walk_at "z"
    refine ⟨_, _, _, rfl, ?_⟩
    rw [Five.whole ok.p1 ok.p2]
    walk_at "z"
    refine ⟨_, _, _, rfl, ?_⟩
    rw [Five.whole ok.l1 ok.l2]
    walk_at "z"
    refine ⟨_, _, _, rfl, ?_⟩
    rw [Five.whole ok.d1 ok.d2]
    walk_at "z"
    have hx1 := s1 _ _ hx
    refine ⟨x, _, dx, _, rfl, hx1, T.cl_Tag, T.na_Tag_owner, by decide, ?_⟩
    have l0 : ([] : List (Str × V)).length ≤ 0 := Nat.le_refl _
    refine ⟨_, rfl, _, rfl, x, _, dx, _, rfl, upd_same, T.cl_Tag, T.na_Tag_number, putF_ok (putF_few l0) (by decide), ?_⟩
    refine ⟨_, rfl, _, rfl, x, _, dx, _, rfl, upd_same, T.cl_Tag, T.na_Tag_price, putF_ok (putF_few (putF_few l0)) (by decide), ?_⟩
    refine ⟨_, rfl, _, rfl, x, _, dx, _, rfl, upd_same, T.cl_Tag, T.na_Tag_least, putF_ok (putF_few (putF_few (putF_few l0))) (by decide), ?_⟩
    refine ⟨_, rfl, _, rfl, x, _, dx, _, rfl, upd_same, T.cl_Tag, T.na_Tag_day, putF_ok (putF_few (putF_few (putF_few (putF_few l0)))) (by decide), ?_⟩
    exact q _ (((((Same.fr s1).put (by simp)).put (by simp)).put (by simp)).put (by simp) |>.put (by simp)) upd_same
/-! ### prices of days -/
def priceOn (r : List (Int × Int)) (f : Five) (day : Int) (leave : Bool) : Int :=
  if leave = true then priceBy r f.price (day - f.day) else (if f.least > priceBy r f.price (day - f.day) then f.least else priceBy r f.price (day - f.day))
def sp_price_on (K : PySem.W.Frag) (C : Addr) : Sp := fun vs H Q _ => ∃ (v : V) (t : Addr) (r : List (Int × Int)) (f : Five) (day : Int) (leave : Bool), vs = [v, .ref t, .int day, .bl leave] ∧ Dp K H v (ruleD r) ∧ TagAt C H t f ∧ f.Ok ∧ f.day ≤ day ∧
  ∀ H', Same H H' → Q (.int (priceOn r f day leave)) H'
theorem ok_price_on {P : Program} {w : World} {K : PySem.W.Frag} {mg : Str → Option Value} {base : Heap} {ad : Ad} (T : Txt K mg ad) : FnOk P w K mg base CX0 3 ad.f_price_on ad.d_price_on ["rule", "tag", "day", "leave"] (sp_price_on K ad.C_Tag) := by
  have G_price_by := ok_price_by (P := P) (w := w) (base := base) T
  refine okD T.F_price_on sc_price_on (fun vs H Q E h => ?_) (fun cdv A outer s H vs Q E hr h => ?_)
  · obtain ⟨v, t, r, f, day, leave, rfl, _⟩ := h
    rfl
  · obtain ⟨v, t, r, f, day, leave, rfl, hd, ⟨dx, ht⟩, ok, hday, q⟩ := h
    refine ⟨_, (pss_cons (ps_if (pt_cmpR op_lt (pv 2) (pe_fld (pv 1) rfl) (nomark _)) (pss_one ps_never) pss_nil)
    (pss_cons (ps_set (i := 4) sc_price_on.nd rfl (Or.inl rfl) (pe_call G_price_by (hr.mono (by decide)) rfl T.g_price_by T.F_price_by.kp T.b_price_by .nil pass0 (pa_cons (pv 0) (pa_cons (pe_fld (pv 1) rfl) (pa_cons (pe_op op_sub (pv 2) (pe_fld (pv 1) rfl)) pa_nil)))))
    (pss_one (ps_ret (pe_ifExp (pt_val (pv 3)) (pv 4) (pe_callB (call_max2 rfl) (by rfl) T.n_max (by decide +kernel) (pa_cons (pv 4) (pa_cons (pe_fld (pv 1) rfl) pa_nil)))))))), ?_⟩
    refine ⟨_, rfl, _, rfl, t, _, dx, _, _, rfl, ht, T.cl_Tag, T.na_Tag_day, tagF_day f, ?_⟩
    walk_at "z"
    with_reducible refine iteDN (by omega) ?_
    have p1 := ok.p1
    have p2 := ok.p2
    refine ⟨_, rfl, _, rfl, t, _, dx, _, _, rfl, ht, T.cl_Tag, T.na_Tag_price, tagF_price f, _, rfl, _, rfl, t, _, dx, _, _, rfl, ht, T.cl_Tag, T.na_Tag_day, tagF_day f, ?_⟩
    refine ⟨_, _, rfl, rfl, v, r, f.price, day - f.day, rfl, hd, by omega, by omega, fun H1 s1 => ?_⟩
    have ht1 := s1 _ _ ht
    cases leave with
    | true =>
      walk_at "z"
      exact q _ s1
    | false =>
      walk_at "z"
      refine ⟨t, _, dx, _, _, rfl, ht1, T.cl_Tag, T.na_Tag_least, tagF_least f, ?_⟩
      walk_at "z"
      exact q _ s1
/-! ### the box and its draws -/
def sp__law_box (K : PySem.W.Frag) : Sp := fun vs H Q _ => ∃ (a : Addr) (ns : List Int) (k : Nat), vs = [.ref a, .int k] ∧ SqL K H a (ns.map V.int) ∧ k < 1000 ∧
  ∀ p H', H p = none → Same H H' → Box H' p 0 → Q (.ref p) H'
def sp__law_take : Sp := fun vs H Q _ => ∃ (B : Addr) (m : Int) (n : Nat), vs = [.ref B, .int m] ∧ Box H B n ∧ 0 < m ∧ m < 1073741824 ∧ n < 1000000000 ∧
  ∀ r H', 0 ≤ r → r < m → Fr [B] H H' → Box H' B (n + 1) → Q (.int r) H'
theorem ok__law_box {P : Program} {w : World} {K : PySem.W.Frag} {mg : Str → Option Value} {base : Heap} {ad : Ad} (T : Txt K mg ad) : FnOk P w K mg base CX0 1 ad.f__law_box ad.d__law_box ["_law_script", "_law_k"] (sp__law_box K) := by
  refine T.F__law_box.ok sc__law_box (fun vs H Q E h => ?_) (fun cdv A outer s H vs Q E hr h => ?_)
  · obtain ⟨a, ns, k, rfl, _⟩ := h
    rfl
  · obtain ⟨a, ns, k, rfl, hS, hk, q⟩ := h
    refine ⟨_, (pss_cons (ps_set (i := 2) sc__law_box.nd rfl (Or.inl rfl) (pe_ifExp (pt_cmpR op_lt (pv 1) (pe_callB call_len_seq (by rfl) T.n_len PySem.boot_len (pa_cons (pv 0) pa_nil)) (nomark _)) (pe_ix ix_list (pv 0) (pv 1) (fun _ _ => rfl)) pe_int))
    (pss_one (ps_ret (pe_lst (pa_cons (pe_op op_mul (pe_callB call_abs (by rfl) T.n_abs (by decide +kernel) (pa_cons (pv 2) pa_nil)) (pe_callTy call_int1 (by rfl) T.n_int (by decide +kernel) (pa_cons (pe_cmpR op_ge (pe_callB call_abs (by rfl) T.n_abs (by decide +kernel) (pa_cons (pv 2) pa_nil)) (pe_op op_pow pe_int pe_int) (nomark _)) pa_nil))) (pa_cons (pe_op op_mod (pe_op op_mul (pe_op op_add (pe_op op_add (pe_op op_mod (pv 2) pe_int) (pe_op op_mul pe_int (pv 1))) pe_int) pe_int) pe_int) (pa_cons pe_int pa_nil))))))), ?_⟩
    refine ⟨_, rfl, _, rfl, a, _, rfl, .inl hS, _, _, rfl, rfl, _, rfl, ?_⟩
    refine ite2 (fun h => ?_) (fun h => ?_)
    · have hkl : k < ns.length := by simpa using h
      have e : (ns.map V.int)[k]? = some (V.int ns[k]) := by rw [List.getElem?_map, List.getElem?_eq_getElem hkl]; rfl
      refine ⟨_, rfl, _, rfl, a, _, _, _, rfl, rfl, hS, atI_nat e, ?_⟩
      generalize ns[k] = c
      walk_at "z"
      refine fun p hp => ?_
      refine q p _ hp (Same.new hp) ⟨_, _, _, upd_same, ?_, Int.emod_nonneg _ (by decide), Int.emod_lt_of_pos _ (by decide), by decide, by decide⟩
      refine Int.mul_nonneg (by split <;> omega) (ite01 _)
    · walk_at "z"
      refine fun p hp => ?_
      refine q p _ hp (Same.new hp) ⟨_, _, _, upd_same, by decide, Int.emod_nonneg _ (by decide), Int.emod_lt_of_pos _ (by decide), by decide, by decide⟩
theorem ok__law_take {P : Program} {w : World} {K : PySem.W.Frag} {mg : Str → Option Value} {base : Heap} {ad : Ad} (T : Txt K mg ad) : FnOk P w K mg base CX0 1 ad.f__law_take ad.d__law_take ["_law_box_here", "_law_size"] sp__law_take := by
  refine T.F__law_take.ok sc__law_take (fun vs H Q E h => ?_) (fun cdv A outer s H vs Q E hr h => ?_)
  · obtain ⟨a, ns, k, rfl, _⟩ := h
    rfl
  · obtain ⟨B, m, n, rfl, ⟨b0, b1, b2, hB, h0, h1, h2, h3, h4⟩, m0, m1, hn, q⟩ := h
    refine ⟨_, (pss_cons (ps_if (pt_cmpR op_gt (pe_ix ix_list (pv 0) pe_int (fun _ _ => rfl)) pe_int (nomark _)) (pss_cons (ps_asg (pe_callB call_divmod (by rfl) T.n_divmod (by decide +kernel) (pa_cons (pe_ix ix_list (pv 0) pe_int (fun _ _ => rfl)) (pa_cons (pv 1) pa_nil))) (pg_tup (by rfl) (pgs_cons (pg_sub (pv 0) pe_int set_list) (pgs_cons (pg_name (i := 2) sc__law_take.nd rfl (Or.inl rfl)) pgs_nil))))
    (pss_one (ps_ret (pv 2)))) pss_nil)
    (pss_cons (ps_asg (pe_op op_add (pe_ix ix_list (pv 0) pe_int (fun _ _ => rfl)) pe_int) (pg_sub (pv 0) pe_int set_list))
    (pss_cons (ps_set (i := 3) sc__law_take.nd rfl (Or.inl rfl) (pe_op op_add pe_int (pe_op op_mul (pe_ix ix_list (pv 0) pe_int (fun _ _ => rfl)) (pe_ix ix_list (pv 0) pe_int (fun _ _ => rfl)))))
    (pss_cons (ps_set (i := 4) sc__law_take.nd rfl (Or.inl rfl) (pe_op op_mod (pe_op op_mul (pe_op op_add (pe_ix ix_list (pv 0) pe_int (fun _ _ => rfl)) (pe_op op_mul pe_int (pe_ix ix_list (pv 0) pe_int (fun _ _ => rfl)))) (pv 3)) pe_int))
    (pss_cons (ps_set (i := 5) sc__law_take.nd rfl (Or.inl rfl) (pe_op op_mod (pe_op op_add (pe_op op_mul (pv 4) (pe_op op_add (pe_op op_mod (pv 4) pe_int) pe_int)) (pe_ix ix_list (pv 0) pe_int (fun _ _ => rfl))) pe_int))
    (pss_one (ps_ret (pe_op op_mod (pe_op op_fdiv (pe_op op_mod (pe_op op_mul (pv 5) (pe_op op_add (pe_op op_mod (pv 5) pe_int) pe_int)) pe_int) pe_int) (pv 1))))))))), ?_⟩
    walk_at "z"
    refine ite2 (fun h => ?_) (fun h => ?_)
    · walk_at "z"
      refine fun p hp => ?_
      have hBp : B ≠ p := ne_of_none hB hp
      have hB' : upd H p (.tup [.int (b0 / m), .int (b0 % m)]) B = some (.lst [.int b0, .int b1, .int b2]) := by rw [upd_ne hBp]; exact hB
      walk_at "z"
      refine q _ _ (Int.emod_nonneg _ (by omega)) (Int.emod_lt_of_pos _ m0) ?_ ?_
      · exact (Fr.new hp).put (by simp)
      · exact ⟨_, _, _, upd_same, Int.ediv_nonneg h0 (by omega), h1, h2, h3, by omega⟩
    · walk_at "z"
      refine q _ _ (Int.emod_nonneg _ (by omega)) (Int.emod_lt_of_pos _ m0) ((Fr.refl _ _).put (by simp)) ⟨_, _, _, upd_same, h0, h1, h2, by omega, by omega⟩
def sp__law_price : Sp := fun vs H Q _ => ∃ (B : Addr) (n : Nat), vs = [.ref B] ∧ Box H B n ∧ n < 100000000 ∧ ∀ (r : Int) H', 1 ≤ r → r ≤ 99999 → Fr [B] H H' → Box H' B (n + 5) → Q (.int r) H'
theorem ok__law_price {P : Program} {w : World} {K : PySem.W.Frag} {mg : Str → Option Value} {base : Heap} {ad : Ad} (T : Txt K mg ad) : FnOk P w K mg base CX0 2 ad.f__law_price ad.d__law_price ["_law_box_here"] sp__law_price := by
  have G__law_take := ok__law_take (P := P) (w := w) (base := base) T
  refine T.F__law_price.ok sc__law_price (fun vs H Q E h => ?_) (fun cdv A outer s H vs Q E hr h => ?_)
  · obtain ⟨B, n, rfl, _⟩ := h
    rfl
  · obtain ⟨B, n, rfl, hB, hn, q⟩ := h
    refine ⟨_, (pss_one (ps_ret (pe_ix ix_list (pe_lst (pa_cons (pe_op op_add pe_int (pe_call G__law_take (hr.mono (by decide)) rfl T.g__law_take T.F__law_take.kp T.b__law_take .nil pass0 (pa_cons (pv 0) (pa_cons pe_int pa_nil)))) (pa_cons (pe_op op_add pe_int (pe_call G__law_take (hr.mono (by decide)) rfl T.g__law_take T.F__law_take.kp T.b__law_take .nil pass0 (pa_cons (pv 0) (pa_cons pe_int pa_nil)))) (pa_cons (pe_op op_mul pe_int (pe_op op_add pe_int (pe_call G__law_take (hr.mono (by decide)) rfl T.g__law_take T.F__law_take.kp T.b__law_take .nil pass0 (pa_cons (pv 0) (pa_cons pe_int pa_nil))))) (pa_cons (pe_op op_add pe_int (pe_call G__law_take (hr.mono (by decide)) rfl T.g__law_take T.F__law_take.kp T.b__law_take .nil pass0 (pa_cons (pv 0) (pa_cons pe_int pa_nil)))) pa_nil))))) (pe_call G__law_take (hr.mono (by decide)) rfl T.g__law_take T.F__law_take.kp T.b__law_take .nil pass0 (pa_cons (pv 0) (pa_cons pe_int pa_nil))) (fun _ _ => rfl)))), ?_⟩
    refine ⟨_, rfl, B, 9, n, rfl, hB, by decide, by decide, by omega, fun r1 H1 a1 b1 f1 B1 => ?_⟩
    refine ⟨_, _, rfl, rfl, _, rfl, B, 400, n + 1, rfl, B1, by decide, by decide, by omega, fun r2 H2 a2 b2 f2 B2 => ?_⟩
    refine ⟨_, _, rfl, rfl, _, rfl, B, 40, n + 2, rfl, B2, by decide, by decide, by omega, fun r3 H3 a3 b3 f3 B3 => ?_⟩
    walk_at "z"
    refine ⟨B, 99999, n + 3, rfl, B3, by decide, by decide, by omega, fun r4 H4 a4 b4 f4 B4 => ?_⟩
    walk_at "z"
    refine fun p hp => ?_
    refine ⟨_, rfl, B, 4, n + 4, rfl, B4.keep (Same.new hp), by decide, by decide, by omega, fun r5 H5 a5 b5 f5 B5 => ?_⟩
    have hL := f5 p _ (by simp [B4.ne hp]) upd_same
    obtain ⟨v, e, hv⟩ := atI_in (xs := [V.int (1 + r1), V.int (1 + r2), V.int (100 * (1 + r3)), V.int (1 + r4)]) a5 b5
    have hv' : ∃ k : Int, v = V.int k ∧ 1 ≤ k ∧ k ≤ 99999 := by
      simp only [List.mem_cons, List.not_mem_nil, or_false] at hv
      rcases hv with rfl | rfl | rfl | rfl <;> exact ⟨_, rfl, by omega, by omega⟩
    obtain ⟨k, rfl, k0, k1⟩ := hv'
    refine ⟨p, _, r5, _, rfl, rfl, SqL.of hL, e, ?_⟩
    exact q _ _ k0 k1 (((((f1.trans f2).trans f3).trans f4).trans (Fr.new hp)).trans f5) B5
def pairD (p : Int × Int) : PyData := .tuple [.int p.1, .int p.2]
/-- pairs whose ages rise and parts fall, within bounds -/
structure RuleW (r : List (Int × Int)) : Prop where
  few : r.length ≤ 6
  age : ∀ p ∈ r, 1 ≤ p.1 ∧ p.1 ≤ 999
  part : ∀ p ∈ r, 1 ≤ p.2 ∧ p.2 ≤ 99
  fall : r.Pairwise fun p q => q.2 < p.2
  rise : r.Pairwise fun p q => p.1 < q.1
structure RuleG (r : List (Int × Int)) (n : Nat) (age part : Int) : Prop where
  few : r.length = n
  age0 : 0 ≤ age
  age1 : age ≤ 160 * n
  part1 : part ≤ 100
  bnd : ∀ p ∈ r, 1 ≤ p.1 ∧ p.1 ≤ age ∧ part ≤ p.2 ∧ p.2 ≤ 99
  fall : r.Pairwise fun p q => q.2 < p.2 ∧ p.1 < q.1 ∧ p.1 ≤ 800
theorem noL_pairs (r : List (Int × Int)) : noLists (r.map pairD) = true := by
  induction r with
  | nil => rfl
  | cons p r ih => exact ih
theorem lay_pairs (r : List (Int × Int)) : PyData.canLayAll0 (r.map pairD) = true ∧ PyData.depthAll (r.map pairD) ≤ 1 ∧ nodesAll (r.map pairD) = 3 * r.length := by
  induction r with
  | nil => exact ⟨rfl, Nat.zero_le _, rfl⟩
  | cons p r ih =>
    refine ⟨ih.1, ?_, ?_⟩
    · show max 1 (PyData.depthAll (r.map pairD)) ≤ 1
      have := ih.2.1
      omega
    · show 3 + nodesAll (r.map pairD) = 3 * (r.length + 1)
      rw [ih.2.2]
      omega
theorem shaped_pairs (r : List (Int × Int)) : SeqAt.shaped (.list (r.map pairD)) = true ∧ SeqAt.shaped (ruleD r) = true := by
  obtain ⟨h1, h2, _⟩ := lay_pairs r
  have h3 : decide (PyData.depthAll (r.map pairD) + 1 ≤ 64) = true := decide_eq_true (by omega)
  constructor
  · show (PyData.canLayAll0 (r.map pairD) && decide (PyData.depthAll (r.map pairD) + 1 ≤ 64)) = true
    rw [h1, h3]
    rfl
  · show (PyData.canLayAll0 (r.map pairD) && decide (PyData.depthAll (r.map pairD) + 1 ≤ 64)) = true
    rw [h1, h3]
    rfl
theorem noL_rule (r : List (Int × Int)) : noList (ruleD r) = true := noL_pairs r
theorem RuleG.next {r : List (Int × Int)} {n : Nat} {age part a b : Int} (g : RuleG r n age part) (ha : 0 ≤ a) (ha2 : a < 160) (hn : n ≤ 5) (hb : 0 ≤ b) : RuleG (r ++ [(age + 1 + a, part - 1 - b)]) (n + 1) (age + 1 + a) (part - 1 - b) := by
  have h1 := g.age0
  have h2 := g.part1
  have h3 := g.age1
  refine ⟨by rw [List.length_append, g.few]; rfl, by omega, by omega, by omega, fun p hp => ?_, ?_⟩
  · rcases List.mem_append.mp hp with hp | hp
    · have := g.bnd p hp
      omega
    · rw [List.mem_singleton.mp hp]
      dsimp only
      omega
  · refine List.pairwise_append.mpr ⟨g.fall, List.pairwise_singleton _ _, fun p hp q hq => ?_⟩
    rw [List.mem_singleton.mp hq]
    have := g.bnd p hp
    dsimp only
    omega
def keepP (p : Int × Int) : Bool := decide (p.1 < 1000) && decide (0 < p.2)
/-- and all but the last one at most 800 old -/
structure RuleV (r : List (Int × Int)) : Prop extends RuleW r where
  early : r.Pairwise fun p _ => p.1 ≤ 800
theorem RuleG.cut {r : List (Int × Int)} {n : Nat} {age part : Int} (g : RuleG r n age part) (hn : n ≤ 6) : RuleV (r.filter keepP) := by
  refine ⟨⟨Nat.le_trans (List.length_filter_le _ _) (by rw [g.few]; exact hn), fun p hp => ?_, fun p hp => ?_, (g.fall.filter _).imp fun h => h.1, (g.fall.filter _).imp fun h => h.2.1⟩, (g.fall.filter _).imp fun h => h.2.2⟩
  · obtain ⟨h1, h2⟩ := List.mem_filter.mp hp
    have := g.bnd p h1
    simp [keepP] at h2
    omega
  · obtain ⟨h1, h2⟩ := List.mem_filter.mp hp
    have := g.bnd p h1
    simp [keepP] at h2
    omega
theorem set_last {α : Type} {r : List α} {p q : α} (h : r[r.length - 1]? = some p) : ∃ s, r = s ++ [p] ∧ r.set (r.length - 1) q = s ++ [q] := by
  have hl : r.length - 1 < r.length := (List.getElem?_eq_some_iff.mp h).1
  have hr : r ≠ [] := fun e => by rw [e] at hl; simp at hl
  refine ⟨r.dropLast, ?_, ?_⟩
  · have := List.dropLast_concat_getLast hr
    rw [List.getLast_eq_getElem] at this
    rw [← (List.getElem?_eq_some_iff.mp h).2]
    exact this.symm
  · have e : r = r.dropLast ++ [r.getLast hr] := (List.dropLast_concat_getLast hr).symm
    have el : r.length - 1 = r.dropLast.length := by rw [List.length_dropLast]
    rw [el]
    conv => lhs; rw [e]
    rw [List.length_dropLast]
    have el2 : (r.dropLast ++ [r.getLast hr]).length - 1 = r.dropLast.length := by simp
    rw [List.set_append_right _ _ (by simp)]
    simp
theorem RuleV.last {r : List (Int × Int)} {a : Int} {p : Int × Int} (g : RuleV r) (hp : r[r.length - 1]? = some p) (h1 : 801 ≤ a) (h2 : a ≤ 999) : RuleW (r.set (r.length - 1) (a, p.2)) := by
  obtain ⟨s, e1, e2⟩ := set_last (q := (a, p.2)) hp
  rw [e2]
  have few := g.few
  have age := g.age
  have part := g.part
  have fall := g.fall
  have rise := g.rise
  have early := g.early
  rw [e1] at few age part fall rise early
  rw [List.pairwise_append] at fall rise early
  refine ⟨by simpa using few, fun q hq => ?_, fun q hq => ?_, ?_, ?_⟩
  · rcases List.mem_append.mp hq with h | h
    · exact age q (List.mem_append_left _ h)
    · rw [List.mem_singleton.mp h]
      dsimp only
      omega
  · rcases List.mem_append.mp hq with h | h
    · exact part q (List.mem_append_left _ h)
    · rw [List.mem_singleton.mp h]
      exact part p (List.mem_append_right _ (List.mem_singleton.mpr rfl))
  · refine List.pairwise_append.mpr ⟨fall.1, List.pairwise_singleton _ _, fun x hx y hy => ?_⟩
    rw [List.mem_singleton.mp hy]
    exact fall.2.2 x hx p (List.mem_singleton.mpr rfl)
  · refine List.pairwise_append.mpr ⟨rise.1, List.pairwise_singleton _ _, fun x hx y hy => ?_⟩
    rw [List.mem_singleton.mp hy]
    have := early.2.2 x hx p (List.mem_singleton.mpr rfl)
    dsimp only
    omega
def sp__law_rule (K : PySem.W.Frag) : Sp := fun vs H Q _ => ∃ (B : Addr) (n : Nat), vs = [.ref B] ∧ Box H B n ∧ n < 100000000 ∧ ∀ (v : V) (r : List (Int × Int)) (H' : Hp), RuleW r → Dp K H' v (ruleD r) → Fr [B] H H' → Box H' B (n + 30) → Q v H'
theorem ok__law_rule {P : Program} {w : World} {K : PySem.W.Frag} {mg : Str → Option Value} {base : Heap} {ad : Ad} (T : Txt K mg ad) : FnOk P w K mg base CX0 2 ad.f__law_rule ad.d__law_rule ["_law_box_here"] (sp__law_rule K) := by
  have G__law_take := ok__law_take (P := P) (w := w) (base := base) T
  refine T.F__law_rule.ok sc__law_rule (fun vs H Q E h => ?_) (fun cdv A outer s H vs Q E hr h => ?_)
  · obtain ⟨B, n, rfl, _⟩ := h
    rfl
  · obtain ⟨B, n, rfl, hB, hn, q⟩ := h
    refine ⟨_, (pss_cons (ps_par3 (i := 1) (j := 2) (l := 3) (by rfl) sc__law_rule.nd rfl rfl rfl (by decide) (by decide) (by decide) rfl rfl rfl (pa_cons pe_int (pa_cons pe_int (pa_cons (pe_lst pa_nil) pa_nil))) (by rfl))
    (pss_cons (ps_for PassesOwn.never rfl (pi_range1 rfl T.n_range (pa_cons (pe_call G__law_take (hr.mono (by decide)) rfl T.g__law_take T.F__law_take.kp T.b__law_take .nil pass0 (pa_cons (pv 0) (pa_cons pe_int pa_nil))) pa_nil)) (pg_name (i := 4) sc__law_rule.nd rfl (Or.inl rfl))
    (pss_cons (ps_par (i := 1) (j := 2) (by rfl) sc__law_rule.nd rfl rfl (by decide) rfl rfl (pa_cons (pe_op op_add (pe_op op_add (pv 1) pe_int) (pe_call G__law_take (hr.mono (by decide)) rfl T.g__law_take T.F__law_take.kp T.b__law_take .nil pass0 (pa_cons (pv 0) (pa_cons (pe_ix ix_list (pe_lst (pa_cons pe_int (pa_cons pe_int (pa_cons pe_int pa_nil)))) (pe_call G__law_take (hr.mono (by decide)) rfl T.g__law_take T.F__law_take.kp T.b__law_take .nil pass0 (pa_cons (pv 0) (pa_cons pe_int pa_nil))) (fun _ _ => rfl)) pa_nil)))) (pa_cons (pe_op op_sub (pe_op op_sub (pv 2) pe_int) (pe_call G__law_take (hr.mono (by decide)) rfl T.g__law_take T.F__law_take.kp T.b__law_take .nil pass0 (pa_cons (pv 0) (pa_cons pe_int pa_nil)))) pa_nil)) (by rfl))
    (pss_one (ps_expr (pe_bm PySem.F.plainAttrs_list PySem.F.slot_list_append PySem.F.type_list_append mt_append (pv 3) (pa_cons (pe_tup (pa_cons (pv 1) (pa_cons (pv 2) pa_nil))) pa_nil))))))
    (pss_cons (ps_setLc (i := 3) (own := [("_law_pair", 5)]) (g := gName 5) (by rfl) sc__law_rule.nd rfl rfl (sw_true rfl rfl rfl (by decide +kernel)) (pi_list (pv 3)) (blkOk_by (own := [("_law_pair", 5)]) (N := N__law_rule) (sc := defScope s__law_rule) (by decide +kernel)) (fun _ _ _ _ _ => (pg_name (i := 5) sc__law_rule.nd rfl (Or.inl rfl))) (fun _ _ _ _ _ => (pts_one (PW.pt (pw_and (pt_cmpR op_lt (pe_ix (r := rIxT K) ix_tup (pv 5) pe_int (fun _ _ => rfl)) pe_int (nomark _)) (pw_and1 (pt_cmpR op_gt (pe_ix (r := rIxT K) ix_tup (pv 5) pe_int (fun _ _ => rfl)) pe_int (nomark _))))))) (fun _ _ _ _ _ => (pv 5)))
    (pss_cons (ps_if (PW.pt (pw_and (pt_cmpR (op_neD hr.units) (pv 3) (pe_lst pa_nil) (nomark _)) (pw_and1 (pt_cmpR op_eq (pe_call G__law_take (hr.mono (by decide)) rfl T.g__law_take T.F__law_take.kp T.b__law_take .nil pass0 (pa_cons (pv 0) (pa_cons pe_int pa_nil))) pe_int (nomark _))))) (pss_one (ps_asg (pe_tup (pa_cons (pe_op op_sub pe_int (pe_ix ix_list (pe_lst (pa_cons pe_int (pa_cons pe_int (pa_cons (pe_call G__law_take (hr.mono (by decide)) rfl T.g__law_take T.F__law_take.kp T.b__law_take .nil pass0 (pa_cons (pv 0) (pa_cons pe_int pa_nil))) pa_nil)))) (pe_call G__law_take (hr.mono (by decide)) rfl T.g__law_take T.F__law_take.kp T.b__law_take .nil pass0 (pa_cons (pv 0) (pa_cons pe_int pa_nil))) (fun _ _ => rfl))) (pa_cons (pe_ix ix_tup (pe_ix ix_list (pv 3) (pe_un un_neg pe_int) (fun _ _ => rfl)) pe_int (fun _ _ => rfl)) pa_nil))) (pg_sub (pv 3) (pe_un un_neg pe_int) set_list))) pss_nil)
    (pss_one (ps_ret (pe_callTy call_tuple_of (by rfl) T.n_tuple (by decide +kernel) (pa_cons (pv 3) pa_nil)))))))), ?_⟩
    walk_at "z"
    refine fun f hf => ?_
    have hfB : f ≠ B := hB.ne hf
    refine ⟨_, _, _, rfl, ?_⟩
    refine ⟨_, rfl, B, 7, n, rfl, hB.keep (Same.new hf), by decide, by decide, by omega, fun t H1 t0 t1 f1 B1 => ?_⟩
    refine ⟨t, rfl, by omega, by omega, ?_⟩
    have hf1 := f1 f _ (by simp [hfB]) upd_same
    have fr1 : Fr [B, f] H H1 := ((Fr.new hf).trans f1).mono (by simp)
    refine for_it (walk_range0 (n := t.toNat)) (fun i σ H' => Fr [B, f] H H' ∧ Box H' B (n + 1 + 3 * i) ∧ ∃ (ps : List (Int × Int)) (xs : List V) (age part : Int) (v4 v5 : Option V), H' f = some (.lst xs) ∧ DpAll K H' xs (ps.map pairD) ∧ RuleG ps i age part ∧ σ = [some (.ref B), some (.int age), some (.int part), some (.ref f), v4, v5])
      ⟨fr1, B1, [], [], 0, 100, none, none, hf1, .nil, ⟨rfl, by decide, by decide, by decide, by simp, List.Pairwise.nil⟩, rfl⟩ (fun _ _ _ _ _ => trivial) ?_ ?_
    · rintro i x σ _ H2 hi ⟨fr2, B2, ps, xs, age, part, v4, v5, hf2, dp2, rg, rfl⟩ ⟨rfl, rfl⟩
      walk_at "z"
      refine fun g hg => ?_
      have ngB : g ≠ B := B2.ne hg
      have ngf : g ≠ f := (ne_of_none hf2 hg).symm
      refine ⟨_, rfl, B, 3, n + 1 + 3 * i, rfl, B2.keep (Same.new hg), by decide, by decide, by omega, fun r3 H3 a3 b3 f3 B3 => ?_⟩
      obtain ⟨sz, e3, m3⟩ := atI_in (xs := [V.int 3, V.int 30, V.int 160]) a3 b3
      have hs' : ∃ k : Int, sz = V.int k ∧ 1 ≤ k ∧ k ≤ 160 := by
        simp only [List.mem_cons, List.not_mem_nil, or_false] at m3
        rcases m3 with rfl | rfl | rfl <;> exact ⟨_, rfl, by decide, by decide⟩
      obtain ⟨k, rfl, k0, k1⟩ := hs'
      refine ⟨g, _, r3, _, rfl, rfl, SqL.of (f3 g _ (by simp [ngB]) upd_same), e3, ?_⟩
      refine ⟨B, k, _, rfl, B3, by omega, by omega, by omega, fun r4 H4 a4 b4 f4 B4 => ?_⟩
      walk_at "z"
      refine ⟨B, 14, _, rfl, B4, by decide, by decide, by omega, fun r5 H5 a5 b5 f5 B5 => ?_⟩
      have fr5 : Fr [B] H2 H5 := (((Fr.new hg).trans f3).trans f4).trans f5
      have hf5 := fr5 f _ (by simp [hfB]) hf2
      have kt5 : KeepT H2 H5 := fr5.kt B2
      walk_at "z"
      refine ⟨.inl ⟨rfl, _, SqL.of hf5⟩, ?_⟩
      walk_at "z"
      refine fun t ht => ?_
      have ntf : f ≠ t := ne_of_none hf5 ht
      have ntB : t ≠ B := B5.ne ht
      have hf6 : upd H5 t (.tup [.int (age + 1 + r4), .int (part - 1 - r5)]) f = some (.lst xs) := by rw [upd_ne ntf]; exact hf5
      have lx : xs.length = i := by rw [DpAll.length dp2, List.length_map, rg.few]
      have i6 : i < 7 := by omega
      refine ⟨f, _, _, rfl, rfl, hf6, by rw [lx]; exact Nat.lt_of_lt_of_le i6 (by decide), ?_⟩
      have kt6 : KeepT H2 (upd (upd H5 t (.tup [.int (age + 1 + r4), .int (part - 1 - r5)])) f (.lst (xs ++ [.ref t]))) := (kt5.trans (KeepT.new ht)).trans (KeepT.lst hf6)
      refine ⟨?_, ?_, ps ++ [(age + 1 + r4, part - 1 - r5)], xs ++ [.ref t], _, _, _, _, upd_same, ?_, rg.next a4 (by omega) (by omega) a5, rfl⟩
      · exact ((fr2.trans (fr5.mono (by simp))).trans (Fr.new ht)).put (by simp)
      · have : Box (upd H5 t (.tup [.int (age + 1 + r4), .int (part - 1 - r5)])) B (n + 1 + 3 * (i + 1)) := B5.keep (Same.new ht)
        exact this.put hfB
      · rw [List.map_append]
        exact DpAll.snoc (.tup (SqT.of (by rw [upd_ne ntf.symm, upd_same])) (.cons (.int _) (.cons (.int _) .nil))) (DpAll.keep kt6 dp2 (noL_pairs _))
    · rintro σ H2 ⟨fr2, B2, ps, xs, age, part, v4, v5, hf2, dp2, rg, rfl⟩
      have lx : xs.length = ps.length := by rw [DpAll.length dp2, List.length_map]
      have lt : t.toNat ≤ 6 := by omega
      have lp : ps.length ≤ 6 := by rw [rg.few]; exact lt
      refine ⟨_, rfl, f, rfl, ⟨_, SqL.of hf2⟩, fun D hD => ?_⟩
      have nDB : D ≠ B := B2.ne hD
      have nDf : f ≠ D := ne_of_none hf2 hD
      refine lc_it (walk_list (xs := xs)) (LcA H2 D fun i => selV keepP (xs.take i) (ps.take i)) (LcA.start hD rfl) (fun i H' _ p => SqL.of (p.same _ _ hf2)) ?_ ?_
      · rintro i x _ H' hi lc ⟨rfl, hx⟩
        obtain ⟨⟨a, b⟩, hp, u, hu, rfl⟩ := ruleD_get dp2 hx
        have hu' := SqT.mono lc.same hu
        have hA := selV_take (k := keepP) hx hp
        refine ⟨rfl, ?_⟩
        refine ⟨_, rfl, u, _, _, _, rfl, rfl, hu', rfl, ?_⟩
        walk_at "z"
        with_reducible refine iteD (fun h1 => ?_) (fun h1 => ?_)
        · refine ⟨_, rfl, u, _, _, _, rfl, rfl, hu', rfl, ?_⟩
          walk_at "z"
          with_reducible refine iteD (fun h2 => ?_) (fun h2 => ?_)
          · refine ⟨_, rfl, ?_⟩
            refine lc.put (Same.refl _) ?_ ?_
            · rw [hA, if_pos (by simp only [keepP, Bool.and_eq_true, decide_eq_true_eq]; exact ⟨h1, h2⟩)]
            · refine Nat.lt_of_le_of_lt selV_len ?_
              rw [List.length_take]
              exact Nat.lt_of_le_of_lt (Nat.min_le_right _ _) (Nat.lt_of_le_of_lt (lx ▸ lp) (by decide))
          · refine lc.skip (Same.refl _) ?_
            rw [hA, if_neg (by simp only [keepP, Bool.and_eq_true, decide_eq_true_eq]; exact fun h => h2 h.2), List.append_nil]
        · refine lc.skip (Same.refl _) ?_
          rw [hA, if_neg (by simp only [keepP, Bool.and_eq_true, decide_eq_true_eq]; exact fun h => h1 h.1), List.append_nil]
      · intro H3 lc
        have hD3 : H3 D = some (.lst (selV keepP xs ps)) := by
          have := lc.at_
          rw [List.take_length, lx, List.take_length] at this
          exact this
        have B3 : Box H3 B (n + 1 + 3 * t.toNat) := B2.keep lc.same
        have dp3 := DpAll.sel (k := keepP) (DpAll.mono lc.same dp2)
        have rw3 : RuleV (ps.filter keepP) := rg.cut lt
        have fr3 : Fr [B, f] H H3 := fr2.trans (Same.fr lc.same)
        have hDn : H D = none := fr2.back (by simp [nDB, nDf.symm]) hD
        generalize selV keepP xs ps = ys at hD3 dp3
        generalize ps.filter keepP = rs at dp3 rw3
        have ly : ys.length = rs.length := by rw [DpAll.length dp3, List.length_map]
        have fr3' : Fr [B] H H3 := Fr.drop (M := [B]) fr3 hf
        -- the end: a tuple of them
        have fin : ∀ (H' : Hp) (zs : List V) (qs : List (Int × Int)), Fr [B, D] H H' → Box H' B (n + 30) → H' D = some (.lst zs) → DpAll K H' zs (qs.map pairD) → RuleW qs →
            ∃ (p : Addr) (ys : List V), [V.ref D] = [V.ref p] ∧ (SqL K H' p ys ∧ (∀ l, H' l = none → Q (.ref l) (upd H' l (.tup ys))) ∨ SqT K H' p ys ∧ Q (.ref p) H') := by
          intro H' zs qs fr b hz dz rq
          refine ⟨D, zs, rfl, .inl ⟨SqL.of hz, fun l hl => ?_⟩⟩
          exact q _ qs _ rq (.tup (SqT.of upd_same) (DpAll.mono (Same.new hl) dz)) ((Fr.drop (M := [B]) fr hDn).trans (Fr.new hl)) (b.keep (Same.new hl))
        refine ⟨_, rfl, Nat.zero_le _, fun e he => ?_⟩
        have hD4 : upd H3 e (.lst []) D = some (.lst ys) := Same.new he _ _ hD3
        have dp4 := DpAll.mono (Same.new (o := .lst []) he) dp3
        refine ⟨.list (rs.map pairD), .list [], .lst (SqL.of hD4) dp4, .lst (SqL.of upd_same) .nil, (shaped_pairs rs).1, rfl, ?_⟩
        have b4 : Box (upd H3 e (.lst [])) B (n + 19) := (B3.keep (Same.new he)).mono (by omega)
        have fr4 : Fr [B, D] H (upd H3 e (.lst [])) := (fr3'.trans (Fr.new he)).mono (by simp)
        cases rs with
        | nil =>
          walk_at "z"
          exact fin _ _ [] fr4 (b4.mono (by omega)) hD4 dp4 rw3.toRuleW
        | cons p0 rs =>
          walk_at "z"
          refine ⟨B, 6, n + 19, rfl, b4, by decide, by decide, by omega, fun r5 H5 a5 b5 f5 B5 => ?_⟩
          have hD5 := f5 D _ (by simp [nDB]) hD4
          have dp5 := DpAll.keep (f5.kt b4) dp4 (noL_pairs _)
          have fr5 : Fr [B, D] H H5 := fr4.trans (f5.mono (by simp))
          walk_at "z"
          with_reducible refine iteD (fun h => ?_) (fun h => ?_)
          · refine ⟨_, rfl, B, 39, _, rfl, B5, by decide, by decide, by omega, fun r6 H6 a6 b6 f6 B6 => ?_⟩
            walk_at "z"
            refine fun g hg => ?_
            have ngB : g ≠ B := B6.ne hg
            refine ⟨_, rfl, B, 3, _, rfl, B6.keep (Same.new hg), by decide, by decide, by omega, fun r7 H7 a7 b7 f7 B7 => ?_⟩
            obtain ⟨v, e7, m7⟩ := atI_in (xs := [V.int 0, V.int 0, V.int r6]) a7 b7
            obtain ⟨k, rfl, k0, k1⟩ : ∃ k : Int, v = V.int k ∧ 0 ≤ k ∧ k < 39 := by
              simp only [List.mem_cons, List.not_mem_nil, or_false] at m7
              rcases m7 with rfl | rfl | rfl
              · exact ⟨_, rfl, by decide, by decide⟩
              · exact ⟨_, rfl, by decide, by decide⟩
              · exact ⟨_, rfl, a6, b6⟩
            refine ⟨g, _, r7, _, rfl, rfl, SqL.of (f7 g _ (by simp [ngB]) upd_same), e7, ?_⟩
            have f57 : Fr [B] H5 H7 := (f6.trans (Fr.new hg)).trans f7
            have hD7 := f57 D _ (by simp [nDB]) hD5
            have dp7 := DpAll.keep (f57.kt B5) dp5 (noL_pairs _)
            walk_at "z"
            have ll : (p0 :: rs).length - 1 < (p0 :: rs).length := by simp
            have lly : ys.length - 1 < ys.length := by omega
            have hy : ys[ys.length - 1]? = some ys[ys.length - 1] := List.getElem?_eq_getElem lly
            obtain ⟨pl, hpl, u, hu, eu⟩ := ruleD_get dp7 hy
            refine ⟨D, _, _, _, rfl, rfl, SqL.of hD7, atI_last (hy.trans (congrArg some eu)), ?_⟩
            refine ⟨u, _, _, _, rfl, rfl, hu, rfl, ?_⟩
            walk_at "z"
            refine fun t ht => ?_
            have ntD : D ≠ t := ne_of_none hD7 ht
            have hD8 : upd H7 t (.tup [.int (999 - k), .int pl.2]) D = some (.lst ys) := by rw [upd_ne ntD]; exact hD7
            walk_at "z"
            refine ⟨D, _, _, ys.length - 1, rfl, rfl, hD8, ixN_last (by omega), ?_⟩
            refine ⟨_, rfl, fin _ _ ((p0 :: rs).set (ys.length - 1) (999 - k, pl.2)) ?_ ?_ upd_same ?_ ?_⟩
            · exact ((fr5.trans (f57.mono (by simp))).trans (Fr.new ht)).put (by simp)
            · exact ((B7.keep (Same.new ht)).put nDB).mono (by omega)
            · rw [List.map_set]
              refine DpAll.set (.tup (SqT.of (by rw [upd_ne ntD.symm, upd_same])) (.cons (.int _) (.cons (.int _) .nil))) _ (DpAll.keep ((KeepT.new ht).trans (KeepT.lst hD8)) dp7 (noL_pairs _))
            · rw [ly] at hpl ⊢
              exact rw3.last hpl (by omega) (by omega)
          · exact ⟨_, rfl, fin _ _ _ fr5 (B5.mono (by omega)) hD5 dp5 rw3.toRuleW⟩
theorem partAt_last (r : List (Int × Int)) (age : Int) : partAt r age = (((r.filter fun p => decide (p.1 ≤ age)).map Prod.snd).getLast?).getD 100 := by
  have key : ∀ (r : List (Int × Int)) (f : Int), r.foldl (fun f p => if p.1 ≤ age then p.2 else f) f = (((r.filter fun p => decide (p.1 ≤ age)).map Prod.snd).getLast?).getD f := by
    intro r
    induction r with
    | nil => intro f; rfl
    | cons p r ih =>
      intro f
      rw [List.foldl_cons, ih, List.filter_cons]
      by_cases h : p.1 ≤ age
      · rw [if_pos h, if_pos (decide_eq_true h), List.map_cons, List.getLast?_cons]
        rfl
      · rw [if_neg h, if_neg (by simpa using h)]
  exact key r 100
theorem partAt_bnd {r : List (Int × Int)} (g : RuleW r) (age : Int) : 1 ≤ partAt r age ∧ partAt r age ≤ 100 := by
  rw [partAt_last]
  cases e : ((r.filter fun p => decide (p.1 ≤ age)).map Prod.snd).getLast? with
  | none => exact ⟨by decide, by decide⟩
  | some x =>
    obtain ⟨p, hp, rfl⟩ := List.mem_map.mp (List.mem_of_getLast? e)
    have := g.part p (List.mem_filter.mp hp).1
    exact ⟨this.1, by show p.2 ≤ 100; omega⟩
theorem partAt_mono {r : List (Int × Int)} (g : RuleW r) {a b : Int} (h : a ≤ b) : partAt r b ≤ partAt r a := by
  have key : ∀ (r : List (Int × Int)) (f f' : Int), r.Pairwise (fun p q => q.2 < p.2) → (∀ p ∈ r, p.2 ≤ f) → (∀ p ∈ r, p.2 ≤ f') → f' ≤ f →
      r.foldl (fun f p => if p.1 ≤ b then p.2 else f) f' ≤ r.foldl (fun f p => if p.1 ≤ a then p.2 else f) f := by
    intro r
    induction r with
    | nil => intro f f' _ _ _ h; exact h
    | cons p r ih =>
      intro f f' hw h1 h2 hf
      rw [List.foldl_cons, List.foldl_cons]
      have hw' := List.pairwise_cons.mp hw
      have hp1 := h1 p (List.mem_cons_self ..)
      have hp2 := h2 p (List.mem_cons_self ..)
      have hr : ∀ q ∈ r, q.2 ≤ p.2 := fun q hq => Int.le_of_lt (hw'.1 q hq)
      by_cases ha : p.1 ≤ a
      · rw [if_pos ha, if_pos (by omega)]
        exact ih _ _ hw'.2 hr hr (Int.le_refl _)
      · rw [if_neg ha]
        by_cases hb : p.1 ≤ b
        · rw [if_pos hb]
          exact ih _ _ hw'.2 (fun q hq => h1 q (List.mem_cons_of_mem _ hq)) hr hp1
        · rw [if_neg hb]
          exact ih _ _ hw'.2 (fun q hq => h1 q (List.mem_cons_of_mem _ hq)) (fun q hq => h2 q (List.mem_cons_of_mem _ hq)) hf
  refine key r 100 100 g.fall (fun p hp => ?_) (fun p hp => ?_) (Int.le_refl _)
  · have := g.part p hp; omega
  · have := g.part p hp; omega
theorem priceBy_mono {r : List (Int × Int)} (g : RuleW r) {p a b : Int} (hp : 0 ≤ p) (h : a ≤ b) : priceBy r p b ≤ priceBy r p a := by
  have h1 := partAt_mono g h
  have h2 : p * partAt r b ≤ p * partAt r a := Int.mul_le_mul_of_nonneg_left h1 hp
  unfold priceBy
  generalize p * partAt r b = x at h2
  generalize p * partAt r a = y at h2
  split <;> split <;> omega
theorem priceBy_bnd {r : List (Int × Int)} (g : RuleW r) {p : Int} (a : Int) (h1 : 1 ≤ p) (h2 : p ≤ 99999) : 1 ≤ priceBy r p a ∧ priceBy r p a ≤ 99999 ∧ 0 ≤ p * partAt r a ∧ p * partAt r a ≤ 9999900 := by
  obtain ⟨b1, b2⟩ := partAt_bnd g a
  have h3 : p * partAt r a ≤ p * 100 := Int.mul_le_mul_of_nonneg_left b2 (by omega)
  have h4 : 0 ≤ p * partAt r a := Int.mul_nonneg (by omega) (by omega)
  unfold priceBy
  generalize p * partAt r a = x at h3 h4
  refine ⟨?_, ?_, h4, by omega⟩ <;> split <;> omega
theorem szRule {r : List (Int × Int)} (g : RuleW r) : (ruleD r).shown.length ≤ sizeLine ∧ (ruleD r).showable = true := by
  have h1 : szAll (r.map pairD) ≤ 50 * r.length ∧ PyData.showableAll (r.map pairD) = true := by
    have ha := g.age
    have hp := g.part
    clear g
    induction r with
    | nil => exact ⟨Nat.zero_le _, rfl⟩
    | cons p r ih =>
      obtain ⟨i1, i2⟩ := ih (fun q hq => ha q (List.mem_cons_of_mem _ hq)) (fun q hq => hp q (List.mem_cons_of_mem _ hq))
      have a1 := ha p (List.mem_cons_self ..)
      have p1 := hp p (List.mem_cons_self ..)
      constructor
      · have s1 := szInt (i := p.1) (by omega) (by omega)
        have s2 := szInt (i := p.2) (by omega) (by omega)
        show (szD (.int p.1) + 2 + (szD (.int p.2) + 2 + 0)) + 3 + 2 + szAll (r.map pairD) ≤ 50 * (r.length + 1)
        omega
      · show ((decide (p.1.natAbs.log2 < 1920) && (decide (p.2.natAbs.log2 < 1920) && true)) && PyData.showableAll (r.map pairD)) = true
        rw [i2, decide_eq_true (log2_ok18 (by omega)), decide_eq_true (log2_ok18 (by omega))]
        rfl
  have h2 := shown_le (ruleD r) (lay_pairs r).1
  have h3 := g.few
  refine ⟨?_, h1.2⟩
  have e : szD (ruleD r) = szAll (r.map pairD) + 3 := rfl
  have l4 : sizeLine = 16777216 := by decide +kernel
  omega
theorem depRule (r : List (Int × Int)) : (ruleD r).depth ≤ 2 := by
  have := (lay_pairs r).2.1
  show PyData.depthAll (r.map pairD) + 1 ≤ 2
  omega
/-! ### drawn names -/
theorem nameS_of {s : Str} (h1 : 1 ≤ (tl s).length) (h2 : (tl s).length ≤ 8) (h3 : smalls (tl s) = true) : NameS s := ⟨h1, h2, fun c hc => of_decide_eq_true (List.all_eq_true.mp h3 c hc)⟩
def drawnWords : List Str := [Str.ofString "give", Str.ofString "sell", Str.ofString "heap", Str.ofString "owner", Str.ofString "has", Str.ofString "not", Str.ofString "above", Str.ofString "number", Str.ofString "and", Str.ofString "price", Str.ofString "fetch", Str.ofString "words"]
theorem drawnWords_ok : ∀ s ∈ drawnWords, NameS s := by
  have h : ∀ s ∈ drawnWords, (decide (1 ≤ (tl s).length ∧ (tl s).length ≤ 8) && smalls (tl s)) = true := by decide +kernel
  intro s hs
  have := h s hs
  rw [Bool.and_eq_true, decide_eq_true_eq] at this
  exact nameS_of this.1.1 this.1.2 this.2
theorem name_two {a b : Nat} {s : Str} (ha : 97 ≤ a ∧ a ≤ 122) (hb : 97 ≤ b ∧ b ≤ 122) (hl : (tl s).length ≤ 6) (hs : ∀ c ∈ tl s, 97 ≤ c ∧ c ≤ 122) : NameS (((⟨#[a]⟩ : Str) ++ (⟨#[b]⟩ : Str)) ++ s) := by
  have e : tl (((⟨#[a]⟩ : Str) ++ (⟨#[b]⟩ : Str)) ++ s) = a :: b :: tl s := by rw [tl_append, tl_append]; rfl
  refine ⟨by rw [e]; simp, by rw [e]; simp; omega, fun c hc => ?_⟩
  rw [e] at hc
  rcases List.mem_cons.mp hc with rfl | hc
  · exact ha
  · rcases List.mem_cons.mp hc with rfl | hc
    · exact hb
    · exact hs c hc
theorem joinL_nil : ∀ ls : List (List Nat), joinL [] ls = ls.flatten
  | [] => rfl
  | [x] => by simp [joinL]
  | x :: y :: r => by
    show x ++ ([] ++ joinL [] (y :: r)) = _
    rw [joinL_nil (y :: r), List.nil_append]
    rfl
theorem tl_joinC (cs : List Nat) : tl (Str.join (Str.ofString "") (cs.map fun c => (⟨#[c]⟩ : Str))) = cs := by
  rw [tl_join]
  have e : tl (Str.ofString "") = [] := by decide +kernel
  rw [e, joinL_nil, List.map_map]
  induction cs with
  | nil => rfl
  | cons c r ih =>
    rw [List.map_cons, List.flatten_cons, ih]
    rfl
def sp__law_names : Sp := fun vs H Q _ => ∃ (B : Addr) (n m : Nat), vs = [.ref B, .int (m : Int)] ∧ Box H B n ∧ n < 10000000 ∧ m ≤ 200 ∧
  ∀ (p : Addr) (ss : List Str) (H' : Hp), H p = none → Fr [B] H H' → Box H' B (n + 2000) → H' p = some (.lst (ss.map V.str)) → ss.length = m → (∀ s ∈ ss, NameS s) → Q (.ref p) H'
theorem ok__law_names {P : Program} {w : World} {K : PySem.W.Frag} {mg : Str → Option Value} {base : Heap} {ad : Ad} (T : Txt K mg ad) : FnOk P w K mg base CX0 2 ad.f__law_names ad.d__law_names ["_law_box_here", "_law_many"] sp__law_names := by
  have G__law_take := ok__law_take (P := P) (w := w) (base := base) T
  refine T.F__law_names.ok sc__law_names (fun vs H Q E h => ?_) (fun cdv A outer s H vs Q E hr h => ?_)
  · obtain ⟨B, n, m, rfl, _⟩ := h
    rfl
  · obtain ⟨B, n, m, rfl, hB, hn, hm, q⟩ := h
    refine ⟨_, (pss_cons (ps_asg (pe_tup (pa_cons pe_str (pa_cons (pe_lst pa_nil) pa_nil))) (pg_tup (by rfl) (pgs_cons (pg_name (i := 2) sc__law_names.nd rfl (Or.inr rfl)) (pgs_cons (pg_name (i := 3) sc__law_names.nd rfl (Or.inl rfl)) pgs_nil))))
    (pss_cons (ps_par (i := 4) (j := 5) (by rfl) sc__law_names.nd rfl rfl (by decide) rfl rfl (pa_cons (pe_call G__law_take (hr.mono (by decide)) rfl T.g__law_take T.F__law_take.kp T.b__law_take .nil pass0 (pa_cons (pv 0) (pa_cons pe_int pa_nil))) (pa_cons (pe_ix ix_list (pe_lst (pa_cons pe_int (pa_cons pe_int (pa_cons pe_int (pa_cons pe_int (pa_cons pe_int (pa_cons pe_int pa_nil))))))) (pe_call G__law_take (hr.mono (by decide)) rfl T.g__law_take T.F__law_take.kp T.b__law_take .nil pass0 (pa_cons (pv 0) (pa_cons pe_int pa_nil))) (fun _ _ => rfl)) pa_nil)) (by rfl))
    (pss_cons (ps_set (i := 6) sc__law_names.nd rfl (Or.inl rfl) (pe_lst (pa_cons pe_str (pa_cons pe_str (pa_cons pe_str (pa_cons pe_str (pa_cons pe_str (pa_cons pe_str (pa_cons pe_str (pa_cons pe_str (pa_cons pe_str (pa_cons pe_str (pa_cons pe_str (pa_cons pe_str pa_nil))))))))))))))
    (pss_cons (ps_for PassesOwn.never rfl (pi_range1 rfl T.n_range (pa_cons (pv 1) pa_nil)) (pg_name (i := 7) sc__law_names.nd rfl (Or.inl rfl))
    (pss_cons (ps_set (i := 8) sc__law_names.nd rfl (Or.inl rfl) (pe_op op_mod (pe_op op_add (pv 4) (pe_op op_mul (pv 5) (pv 7))) pe_int))
    (pss_cons (ps_set (i := 9) sc__law_names.nd rfl (Or.inl rfl) (pe_bm PySem.F.plainAttrs_str PySem.F.slot_str_join PySem.F.type_str_join mt_join pe_str (pa_cons (pe_lc (own := [("_law_turn", 10)]) (g := gName 10) (by rfl) sc__law_names.nd (pi_range1 rfl T.n_range (pa_cons (pe_op op_add pe_int (pe_call G__law_take (hr.mono (by decide)) rfl T.g__law_take T.F__law_take.kp T.b__law_take .nil pass0 (pa_cons (pv 0) (pa_cons pe_int pa_nil)))) pa_nil)) (blkOk_by (own := [("_law_turn", 10)]) (N := N__law_names) (sc := defScope s__law_names) (by decide +kernel)) (fun _ _ _ _ _ => (pg_name (i := 10) sc__law_names.nd rfl (Or.inl rfl))) (fun _ _ _ _ _ => pts_nil) (fun _ _ _ _ _ => (pe_ix ix_str (pv 2) (pe_call G__law_take (hr.mono (by decide)) rfl T.g__law_take T.F__law_take.kp T.b__law_take .nil pass0 (pa_cons (pv 0) (pa_cons pe_int pa_nil))) (fun _ _ => rfl)))) pa_nil)))
    (pss_cons (ps_set (i := 11) sc__law_names.nd rfl (Or.inl rfl) (pe_op op_add_str (pe_op op_add_str (pe_ix ix_str (pv 2) (pe_op op_fdiv (pv 8) pe_int) (fun _ _ => rfl)) (pe_ix ix_str (pv 2) (pe_op op_mod (pv 8) pe_int) (fun _ _ => rfl))) (pv 9)))
    (pss_cons (ps_if (PW.pt (pw_and (pt_cmpR op_lt (pv 1) pe_int (nomark _)) (pw_and1 (pt_cmpR op_eq (pe_call G__law_take (hr.mono (by decide)) rfl T.g__law_take T.F__law_take.kp T.b__law_take .nil pass0 (pa_cons (pv 0) (pa_cons pe_int pa_nil))) pe_int (nomark _))))) (pss_one (ps_set (i := 11) sc__law_names.nd rfl (Or.inl rfl) (pe_ix ix_list (pv 6) (pv 7) (fun _ _ => rfl)))) pss_nil)
    (pss_cons (ps_if (pt_cmpR op_in_seq (pv 11) (pv 3) rfl) (pss_one (ps_set (i := 11) sc__law_names.nd rfl (Or.inl rfl) (pe_op op_add_str (pe_op op_add_str (pe_ix ix_str (pv 2) (pe_op op_fdiv (pv 8) pe_int) (fun _ _ => rfl)) (pe_ix ix_str (pv 2) (pe_op op_mod (pv 8) pe_int) (fun _ _ => rfl))) pe_str))) pss_nil)
    (pss_one (ps_expr (pe_bm PySem.F.plainAttrs_list PySem.F.slot_list_append PySem.F.type_list_append mt_append (pv 3) (pa_cons (pv 11) pa_nil))))))))))
    (pss_one (ps_ret (pv 3))))))), ?_⟩
    walk_at "z"
    refine fun f hf => ?_
    have nfB : f ≠ B := hB.ne hf
    walk_at "z"
    refine fun t0 ht0 => ?_
    have s0 : Same H (upd (upd H f (.lst [])) t0 (.tup [V.str (Str.ofString "abcdefghijklmnopqrstuvwxyz"), V.ref f])) := (Same.new hf).trans (Same.new ht0)
    have hf0 : upd (upd H f (.lst [])) t0 (.tup [V.str (Str.ofString "abcdefghijklmnopqrstuvwxyz"), V.ref f]) f = some (.lst []) := Same.new ht0 _ _ upd_same
    walk_at "z"
    refine ⟨B, 676, n, rfl, hB.keep s0, by decide, by decide, by omega, fun first H1 a1 b1 f1 B1 => ?_⟩
    have hf1 := f1 f _ (by simp [nfB]) hf0
    walk_at "z"
    refine fun g hg => ?_
    have ngB : g ≠ B := B1.ne hg
    refine ⟨_, rfl, B, 6, n + 1, rfl, B1.keep (Same.new hg), by decide, by decide, by omega, fun r2 H2 a2 b2 f2 B2 => ?_⟩
    have hf2 := f2 f _ (by simp [nfB]) (Same.new hg _ _ hf1)
    obtain ⟨v, e2, m2⟩ := atI_in (xs := [V.int 1, V.int 3, V.int 5, V.int 7, V.int 27, V.int 101]) a2 b2
    obtain ⟨step, rfl, st0, st1⟩ : ∃ k : Int, v = V.int k ∧ 1 ≤ k ∧ k ≤ 101 := by
      simp only [List.mem_cons, List.not_mem_nil, or_false] at m2
      rcases m2 with rfl | rfl | rfl | rfl | rfl | rfl <;> exact ⟨_, rfl, by decide, by decide⟩
    refine ⟨g, _, r2, _, rfl, rfl, SqL.of (f2 g _ (by simp [ngB]) upd_same), e2, ?_⟩
    walk_at "z"
    refine fun wd hwd => ?_
    have nwB : wd ≠ B := B2.ne hwd
    have nwf : wd ≠ f := (ne_of_none hf2 hwd).symm
    have frA : Fr [B, f] H (upd H2 wd (.lst (drawnWords.map V.str))) := (((Same.fr s0).trans (f1.mono (by simp))).trans ((Fr.new hg).trans (f2.mono (by simp)))).trans (Fr.new hwd)
    walk_at "z"
    refine ⟨by omega, by omega, ?_⟩
    have l4 : sizeLine = 16777216 := by decide +kernel
    refine for_it (walk_range0 (n := (m : Int).toNat)) (fun i σ H' => Fr [B, f] H H' ∧ Box H' B (n + 2 + 8 * i) ∧ H' wd = some (.lst (drawnWords.map V.str)) ∧ ∃ (ss : List Str) (v7 v8 v9 v10 v11 : Option V), H' f = some (.lst (ss.map V.str)) ∧ ss.length = i ∧ (∀ s ∈ ss, NameS s) ∧
        σ = [some (.ref B), some (.int (m : Int)), some (.str (Str.ofString "abcdefghijklmnopqrstuvwxyz")), some (.ref f), some (.int first), some (.int step), some (.ref wd), v7, v8, v9, v10, v11])
      ⟨frA, B2.keep (Same.new hwd), upd_same, [], none, none, none, none, none, Same.new hwd _ _ hf2, rfl, by simp, rfl⟩ (fun _ _ _ _ _ => trivial) ?_ ?_
    · rintro i x σ _ H3 hi ⟨fr3, B3, hw3, ss, v7, v8, v9, v10, v11, hf3, ls, hss, rfl⟩ ⟨rfl, rfl⟩
      walk_at "z"
      refine ⟨B, 6, _, rfl, B3, by decide, by decide, by omega, fun r4 H4 a4 b4 f4 B4 => ?_⟩
      have hf4 := f4 f _ (by simp [nfB]) hf3
      have hw4 := f4 wd _ (by simp [nwB]) hw3
      walk_at "z"
      refine ⟨by omega, by omega, fun D hD => ?_⟩
      have nDB : D ≠ B := B4.ne hD
      have nDf : f ≠ D := ne_of_none hf4 hD
      have nDw : wd ≠ D := ne_of_none hw4 hD
      have hD0 : H D = none := fr3.back (by simp [nDB, nDf.symm]) (f4.back (by simp [nDB]) hD)
      refine lc_it (walk_range0 (n := (1 + r4).toNat)) (fun j H' => Fr [B, D] H4 H' ∧ Box H' B (n + 2 + 8 * i + 1 + j) ∧ ∃ cs : List Nat, cs.length = j ∧ (∀ c ∈ cs, 97 ≤ c ∧ c ≤ 122) ∧ H' D = some (.lst (cs.map fun c => V.str ⟨#[c]⟩)))
        ⟨Fr.new hD, B4.keep (Same.new hD), [], rfl, by simp, upd_same⟩ (fun _ _ _ _ => trivial) ?_ ?_
      · rintro j x _ H5 hj ⟨fr5, B5, cs, lc, hcs, hD5⟩ ⟨rfl, rfl⟩
        refine ⟨rfl, ?_⟩
        refine ⟨_, rfl, _, rfl, B, 26, _, rfl, B5, by decide, by decide, by omega, fun r6 H6 a6 b6 f6 B6 => ?_⟩
        obtain ⟨d, rfl⟩ := Int.eq_ofNat_of_zero_le a6
        refine ⟨_, _, _, rfl, rfl, by decide +kernel, abc_at (by omega), ?_⟩
        have hD6 := f6 D _ (by simp [nDB]) hD5
        refine ⟨_, hD6, by rw [List.length_map, lc, l4]; omega, ?_⟩
        refine ⟨(fr5.trans (f6.mono (by simp))).put (by simp), B6.put nDB, cs ++ [97 + d], by rw [List.length_append, lc]; rfl, ?_, by rw [upd_same, List.map_append]; rfl⟩
        intro c hc
        rcases List.mem_append.mp hc with h | h
        · exact hcs c h
        · rw [List.mem_singleton.mp h]
          omega
      · rintro H5 ⟨fr5, B5, cs, lc, hcs, hD5⟩
        have hf5 := fr5 f _ (by simp [nfB, nDf]) hf4
        have hw5 := fr5 wd _ (by simp [nwB, nDw]) hw4
        have fr35 : Fr [B, f] H H5 := fun a o na e => fr5 a o (by
          simp only [List.mem_cons, List.not_mem_nil, or_false, not_or] at na ⊢
          exact ⟨na.1, ne_of_none e hD0⟩) (f4 a o (by simp only [List.mem_cons, List.not_mem_nil, or_false, not_or] at na ⊢; exact na.1) (fr3 a o na e))
        have jc := tl_joinC cs
        have jl : (tl (Str.join (Str.ofString "") (cs.map fun c => (⟨#[c]⟩ : Str)))).length ≤ 6 := by rw [jc, lc]; omega
        have js : ∀ c ∈ tl (Str.join (Str.ofString "") (cs.map fun c => (⟨#[c]⟩ : Str))), 97 ≤ c ∧ c ≤ 122 := by rw [jc]; exact hcs
        refine ⟨Str.ofString "", D, cs.map fun c => (⟨#[c]⟩ : Str), rfl, rfl, .inl (SqL.of (by rw [hD5, List.map_map]; rfl)), ?_, ?_⟩
        · have e1 : ((cs.map fun c => (⟨#[c]⟩ : Str)).map (·.length)).sum = cs.length := by
            rw [List.map_map]
            clear jc jl js hcs hD5 lc
            induction cs with
            | nil => rfl
            | cons c r ih =>
              rw [List.map_cons, List.sum_cons, ih]
              show 1 + r.length = r.length + 1
              omega
          have e2 : (Str.ofString "").length = 0 := by decide +kernel
          rw [e1, e2]
          omega
        have ejt : Txt.join (Str.ofString "") (cs.map fun c => (⟨#[c]⟩ : Str)) = Str.join (Str.ofString "") (cs.map fun c => (⟨#[c]⟩ : Str)) := join_eq _ _
        rw [ejt]
        generalize Str.join (Str.ofString "") (cs.map fun c => (⟨#[c]⟩ : Str)) = tail at jl js
        have own0 : 0 ≤ (first + step * (i : Int)) % 676 := Int.emod_nonneg _ (by decide)
        have own1 : (first + step * (i : Int)) % 676 < 676 := Int.emod_lt_of_pos _ (by decide)
        obtain ⟨own, eown⟩ := Int.eq_ofNat_of_zero_le own0
        have ex : atI (Str.ofString "abcdefghijklmnopqrstuvwxyz").cps.toList ((first + step * (i : Int)) % 676 / 26) = some (97 + own / 26) := by
          rw [eown, show ((own : Nat) : Int) / 26 = ((own / 26 : Nat) : Int) by omega]
          exact abc_at (by omega)
        have ey : atI (Str.ofString "abcdefghijklmnopqrstuvwxyz").cps.toList ((first + step * (i : Int)) % 676 % 26) = some (97 + own % 26) := by
          rw [eown, show ((own : Nat) : Int) % 26 = ((own % 26 : Nat) : Int) by omega]
          exact abc_at (by omega)
        walk_at "z"
        refine ⟨_, _, _, rfl, rfl, (by decide +kernel), ex, ?_⟩
        walk_at "z"
        refine ⟨_, _, _, rfl, rfl, (by decide +kernel), ey, ?_⟩
        walk_at "z"
        refine ⟨by rw [len_tl tail, l4]; show 2 + _ ≤ _; omega, ?_⟩
        have n0 : NameS (((⟨#[97 + own / 26]⟩ : Str) ++ (⟨#[97 + own % 26]⟩ : Str)) ++ tail) := name_two (by omega) (by omega) jl js
        have qok : NameS (((⟨#[97 + own / 26]⟩ : Str) ++ (⟨#[97 + own % 26]⟩ : Str)) ++ Str.ofString "qxz") := name_two (by omega) (by omega) (by decide +kernel) (by decide +kernel)
        generalize ((⟨#[97 + own / 26]⟩ : Str) ++ (⟨#[97 + own % 26]⟩ : Str)) ++ tail = nm at n0
        walk_at "z"
        with_reducible refine iteD (fun h13 => ?_) (fun h13 => ?_)
        · refine ⟨_, rfl, B, 4, _, rfl, B5, by decide, by decide, by omega, fun r6 H6 a6 b6 f6 B6 => ?_⟩
          have hf6 := f6 f _ (by simp [nfB]) hf5
          have hw6 := f6 wd _ (by simp [nwB]) hw5
          have fr6 := fr35.trans (f6.mono (by simp))
          walk_at "z"
          with_reducible refine iteD (fun h6 => ?_) (fun h6 => ?_)
          · have hi13 : i < drawnWords.length := by show i < 12; omega
            have hwk : (drawnWords.map V.str)[i]? = some (V.str drawnWords[i]) := by rw [List.getElem?_map, List.getElem?_eq_getElem hi13]; rfl
            have wok := drawnWords_ok _ (List.getElem_mem hi13)
            generalize drawnWords[i] = wn at hwk wok
            refine ⟨_, rfl, _, rfl, wd, _, _, _, rfl, rfl, SqL.of hw6, atI_nat hwk, ?_⟩
            have nmok : NameS wn := wok
            walk_at "z"
            refine ⟨f, _, rfl, .inl (SqL.of hf6), rfl, (by rw [List.all_map]; exact List.all_eq_true.mpr fun _ _ => rfl), ?_⟩
            walk_at "z"
            cases hin : inV (V.str wn) (ss.map V.str) with
            | true =>
              walk_at "z"
              refine ⟨_, _, _, rfl, rfl, (by decide +kernel), ex, ?_⟩
              walk_at "z"
              refine ⟨_, _, _, rfl, rfl, (by decide +kernel), ey, ?_⟩
              walk_at "z"
              walk_at "z"
              refine ⟨.inl ⟨rfl, _, SqL.of hf6⟩, ?_⟩
              walk_at "z"
              refine ⟨f, _, _, rfl, rfl, hf6, by rw [List.length_map, ls, l4]; omega, ?_⟩
              refine ⟨fr6.put (by simp), (B6.put nfB).mono (by omega), by rw [upd_ne nwf]; exact hw6, ss ++ [(((⟨#[97 + own / 26]⟩ : Str) ++ (⟨#[97 + own % 26]⟩ : Str)) ++ Str.ofString "qxz")], _, _, _, _, _, by rw [upd_same, List.map_append]; rfl, by rw [List.length_append, ls]; rfl, ?_, rfl⟩
              intro y hy
              rcases List.mem_append.mp hy with h | h
              · exact hss y h
              · rw [List.mem_singleton.mp h]
                exact qok
            | false =>
              walk_at "z"
              refine ⟨.inl ⟨rfl, _, SqL.of hf6⟩, ?_⟩
              walk_at "z"
              refine ⟨f, _, _, rfl, rfl, hf6, by rw [List.length_map, ls, l4]; omega, ?_⟩
              refine ⟨fr6.put (by simp), (B6.put nfB).mono (by omega), by rw [upd_ne nwf]; exact hw6, ss ++ [wn], _, _, _, _, _, by rw [upd_same, List.map_append]; rfl, by rw [List.length_append, ls]; rfl, ?_, rfl⟩
              intro y hy
              rcases List.mem_append.mp hy with h | h
              · exact hss y h
              · rw [List.mem_singleton.mp h]
                assumption
          · skip
            have nmok : NameS nm := n0
            walk_at "z"
            refine ⟨f, _, rfl, .inl (SqL.of hf6), rfl, (by rw [List.all_map]; exact List.all_eq_true.mpr fun _ _ => rfl), ?_⟩
            walk_at "z"
            cases hin : inV (V.str nm) (ss.map V.str) with
            | true =>
              walk_at "z"
              refine ⟨_, _, _, rfl, rfl, (by decide +kernel), ex, ?_⟩
              walk_at "z"
              refine ⟨_, _, _, rfl, rfl, (by decide +kernel), ey, ?_⟩
              walk_at "z"
              walk_at "z"
              refine ⟨.inl ⟨rfl, _, SqL.of hf6⟩, ?_⟩
              walk_at "z"
              refine ⟨f, _, _, rfl, rfl, hf6, by rw [List.length_map, ls, l4]; omega, ?_⟩
              refine ⟨fr6.put (by simp), (B6.put nfB).mono (by omega), by rw [upd_ne nwf]; exact hw6, ss ++ [(((⟨#[97 + own / 26]⟩ : Str) ++ (⟨#[97 + own % 26]⟩ : Str)) ++ Str.ofString "qxz")], _, _, _, _, _, by rw [upd_same, List.map_append]; rfl, by rw [List.length_append, ls]; rfl, ?_, rfl⟩
              intro y hy
              rcases List.mem_append.mp hy with h | h
              · exact hss y h
              · rw [List.mem_singleton.mp h]
                exact qok
            | false =>
              walk_at "z"
              refine ⟨.inl ⟨rfl, _, SqL.of hf6⟩, ?_⟩
              walk_at "z"
              refine ⟨f, _, _, rfl, rfl, hf6, by rw [List.length_map, ls, l4]; omega, ?_⟩
              refine ⟨fr6.put (by simp), (B6.put nfB).mono (by omega), by rw [upd_ne nwf]; exact hw6, ss ++ [nm], _, _, _, _, _, by rw [upd_same, List.map_append]; rfl, by rw [List.length_append, ls]; rfl, ?_, rfl⟩
              intro y hy
              rcases List.mem_append.mp hy with h | h
              · exact hss y h
              · rw [List.mem_singleton.mp h]
                assumption
        · skip
          have nmok : NameS nm := n0
          walk_at "z"
          refine ⟨f, _, rfl, .inl (SqL.of hf5), rfl, (by rw [List.all_map]; exact List.all_eq_true.mpr fun _ _ => rfl), ?_⟩
          walk_at "z"
          cases hin : inV (V.str nm) (ss.map V.str) with
          | true =>
            walk_at "z"
            refine ⟨_, _, _, rfl, rfl, (by decide +kernel), ex, ?_⟩
            walk_at "z"
            refine ⟨_, _, _, rfl, rfl, (by decide +kernel), ey, ?_⟩
            walk_at "z"
            walk_at "z"
            refine ⟨.inl ⟨rfl, _, SqL.of hf5⟩, ?_⟩
            walk_at "z"
            refine ⟨f, _, _, rfl, rfl, hf5, by rw [List.length_map, ls, l4]; omega, ?_⟩
            refine ⟨fr35.put (by simp), (B5.put nfB).mono (by omega), by rw [upd_ne nwf]; exact hw5, ss ++ [(((⟨#[97 + own / 26]⟩ : Str) ++ (⟨#[97 + own % 26]⟩ : Str)) ++ Str.ofString "qxz")], _, _, _, _, _, by rw [upd_same, List.map_append]; rfl, by rw [List.length_append, ls]; rfl, ?_, rfl⟩
            intro y hy
            rcases List.mem_append.mp hy with h | h
            · exact hss y h
            · rw [List.mem_singleton.mp h]
              exact qok
          | false =>
            walk_at "z"
            refine ⟨.inl ⟨rfl, _, SqL.of hf5⟩, ?_⟩
            walk_at "z"
            refine ⟨f, _, _, rfl, rfl, hf5, by rw [List.length_map, ls, l4]; omega, ?_⟩
            refine ⟨fr35.put (by simp), (B5.put nfB).mono (by omega), by rw [upd_ne nwf]; exact hw5, ss ++ [nm], _, _, _, _, _, by rw [upd_same, List.map_append]; rfl, by rw [List.length_append, ls]; rfl, ?_, rfl⟩
            intro y hy
            rcases List.mem_append.mp hy with h | h
            · exact hss y h
            · rw [List.mem_singleton.mp h]
              assumption
    · rintro σ H3 ⟨fr3, B3, hw3, ss, v7, v8, v9, v10, v11, hf3, ls, hss, rfl⟩
      refine ⟨_, rfl, ?_⟩
      refine q f ss H3 hf (Fr.drop (M := [B]) fr3 hf) (B3.mono (by omega)) hf3 (by omega) hss
/-! ### what a tag has, drawn -/
theorem atI4 {a b c d : V} {r : Int} (h0 : 0 ≤ r) (h1 : r < 4) : ∃ v, atI [a, b, c, d] r = some v ∧ (v = a ∨ v = b ∨ v = c ∨ v = d) := by
  obtain ⟨v, e, m⟩ := atI_in (xs := [a, b, c, d]) h0 h1
  simp only [List.mem_cons, List.not_mem_nil, or_false] at m
  exact ⟨v, e, m⟩
theorem atI3 {a b c : V} {r : Int} (h0 : 0 ≤ r) (h1 : r < 3) : ∃ v, atI [a, b, c] r = some v ∧ (v = a ∨ v = b ∨ v = c) := by
  obtain ⟨v, e, m⟩ := atI_in (xs := [a, b, c]) h0 h1
  simp only [List.mem_cons, List.not_mem_nil, or_false] at m
  exact ⟨v, e, m⟩
def sp__law_five (K : PySem.W.Frag) : Sp := fun vs H Q _ => ∃ (B p : Addr) (n : Nat) (ss : List Str), vs = [.ref B, .ref p] ∧ Box H B n ∧ n < 10000000 ∧ H p = some (.lst (ss.map V.str)) ∧ p ≠ B ∧ 0 < ss.length ∧ ss.length ≤ 1000 ∧ (∀ s ∈ ss, NameS s) ∧
  ∀ (v : V) (f : Five) (H' : Hp), f.Ok → Dp K H' v (fiveD f) → Fr [B] H H' → Box H' B (n + 20) → Q v H'
theorem ok__law_five {P : Program} {w : World} {K : PySem.W.Frag} {mg : Str → Option Value} {base : Heap} {ad : Ad} (T : Txt K mg ad) : FnOk P w K mg base CX0 3 ad.f__law_five ad.d__law_five ["_law_box_here", "_law_people"] (sp__law_five K) := by
  have G__law_price := ok__law_price (P := P) (w := w) (base := base) T
  have G__law_take := ok__law_take (P := P) (w := w) (base := base) T
  refine T.F__law_five.ok sc__law_five (fun vs H Q E h => ?_) (fun cdv A outer s H vs Q E hr h => ?_)
  · obtain ⟨B, p, n, ss, rfl, _⟩ := h
    rfl
  · obtain ⟨B, p, n, ss, rfl, hB, hn, hp, npB, ls0, ls1, hss, q⟩ := h
    refine ⟨_, (pss_cons (ps_set (i := 2) sc__law_five.nd rfl (Or.inl rfl) (pe_ix ix_list (pe_lst (pa_cons (pe_op op_add pe_int (pe_call G__law_take (hr.mono (by decide)) rfl T.g__law_take T.F__law_take.kp T.b__law_take .nil pass0 (pa_cons (pv 0) (pa_cons pe_int pa_nil)))) (pa_cons (pe_op op_add pe_int (pe_call G__law_take (hr.mono (by decide)) rfl T.g__law_take T.F__law_take.kp T.b__law_take .nil pass0 (pa_cons (pv 0) (pa_cons pe_int pa_nil)))) (pa_cons pe_int pa_nil)))) (pe_call G__law_take (hr.mono (by decide)) rfl T.g__law_take T.F__law_take.kp T.b__law_take .nil pass0 (pa_cons (pv 0) (pa_cons pe_int pa_nil))) (fun _ _ => rfl)))
    (pss_cons (ps_set (i := 3) sc__law_five.nd rfl (Or.inl rfl) (pe_call G__law_price (hr.mono (by decide)) rfl T.g__law_price T.F__law_price.kp T.b__law_price .nil pass0 (pa_cons (pv 0) pa_nil)))
    (pss_cons (ps_set (i := 4) sc__law_five.nd rfl (Or.inl rfl) (pe_ix ix_list (pe_lst (pa_cons pe_int (pa_cons (pv 3) (pa_cons (pe_call G__law_take (hr.mono (by decide)) rfl T.g__law_take T.F__law_take.kp T.b__law_take .nil pass0 (pa_cons (pv 0) (pa_cons (pe_op op_add (pv 3) pe_int) pa_nil))) (pa_cons (pe_op op_fdiv (pv 3) pe_int) pa_nil))))) (pe_call G__law_take (hr.mono (by decide)) rfl T.g__law_take T.F__law_take.kp T.b__law_take .nil pass0 (pa_cons (pv 0) (pa_cons pe_int pa_nil))) (fun _ _ => rfl)))
    (pss_cons (ps_set (i := 5) sc__law_five.nd rfl (Or.inl rfl) (pe_ix ix_list (pe_lst (pa_cons (pe_call G__law_take (hr.mono (by decide)) rfl T.g__law_take T.F__law_take.kp T.b__law_take .nil pass0 (pa_cons (pv 0) (pa_cons pe_int pa_nil))) (pa_cons (pe_call G__law_take (hr.mono (by decide)) rfl T.g__law_take T.F__law_take.kp T.b__law_take .nil pass0 (pa_cons (pv 0) (pa_cons pe_int pa_nil))) (pa_cons pe_int pa_nil)))) (pe_call G__law_take (hr.mono (by decide)) rfl T.g__law_take T.F__law_take.kp T.b__law_take .nil pass0 (pa_cons (pv 0) (pa_cons pe_int pa_nil))) (fun _ _ => rfl)))
    (pss_one (ps_ret (pe_tup (pa_cons (pe_ix ix_list (pv 1) (pe_call G__law_take (hr.mono (by decide)) rfl T.g__law_take T.F__law_take.kp T.b__law_take .nil pass0 (pa_cons (pv 0) (pa_cons (pe_callB call_len_seq (by rfl) T.n_len PySem.boot_len (pa_cons (pv 1) pa_nil)) pa_nil))) (fun _ _ => rfl)) (pa_cons (pv 2) (pa_cons (pv 3) (pa_cons (pv 4) (pa_cons (pv 5) pa_nil)))))))))))), ?_⟩
    refine ⟨_, rfl, B, 40, n, rfl, hB, by decide, by decide, by omega, fun r1 H1 a1 b1 f1 B1 => ?_⟩
    refine ⟨_, _, rfl, rfl, _, rfl, B, 9999, _, rfl, B1, by decide, by decide, by omega, fun r2 H2 a2 b2 f2 B2 => ?_⟩
    walk_at "z"
    refine fun l1 hl1 => ?_
    refine ⟨_, rfl, B, 3, _, rfl, B2.keep (Same.new hl1), by decide, by decide, by omega, fun r3 H3 a3 b3 f3 B3 => ?_⟩
    obtain ⟨v, e, m⟩ := atI3 (a := V.int (1 + r1)) (b := V.int (1 + r2)) (c := V.int 9999) a3 b3
    obtain ⟨num, rfl, num0, num1⟩ : ∃ k : Int, v = V.int k ∧ 1 ≤ k ∧ k ≤ 9999 := by
      rcases m with rfl | rfl | rfl <;> exact ⟨_, rfl, by omega, by omega⟩
    refine ⟨l1, _, r3, _, rfl, rfl, SqL.of (f3 l1 _ (by simp [B2.ne hl1]) upd_same), e, ?_⟩
    have f13 : Fr [B] H H3 := ((f1.trans f2).trans (Fr.new hl1)).trans f3
    clear e m
    refine ⟨_, rfl, B, _, rfl, B3, by omega, fun pr H4 pr0 pr1 f4 B4 => ?_⟩
    have f14 := f13.trans f4
    walk_at "z"
    refine ⟨B, pr + 1, _, rfl, B4, by omega, by omega, by omega, fun r5 H5 a5 b5 f5 B5 => ?_⟩
    walk_at "z"
    refine fun l2 hl2 => ?_
    refine ⟨_, rfl, B, 4, _, rfl, B5.keep (Same.new hl2), by decide, by decide, by omega, fun r6 H6 a6 b6 f6 B6 => ?_⟩
    obtain ⟨v, e, m⟩ := atI4 (a := V.int 0) (b := V.int pr) (c := V.int r5) (d := V.int (pr / 2)) a6 b6
    obtain ⟨low, rfl, low0, low1⟩ : ∃ k : Int, v = V.int k ∧ 0 ≤ k ∧ k ≤ pr := by
      rcases m with rfl | rfl | rfl | rfl <;> exact ⟨_, rfl, by omega, by omega⟩
    refine ⟨l2, _, r6, _, rfl, rfl, SqL.of (f6 l2 _ (by simp [B5.ne hl2]) upd_same), e, ?_⟩
    have f16 := ((f14.trans f5).trans (Fr.new hl2)).trans f6
    clear e m
    refine ⟨_, rfl, B, 12, _, rfl, B6, by decide, by decide, by omega, fun r7 H7 a7 b7 f7 B7 => ?_⟩
    refine ⟨_, rfl, B, 1000, _, rfl, B7, by decide, by decide, by omega, fun r8 H8 a8 b8 f8 B8 => ?_⟩
    walk_at "z"
    refine fun l3 hl3 => ?_
    refine ⟨_, rfl, B, 3, _, rfl, B8.keep (Same.new hl3), by decide, by decide, by omega, fun r9 H9 a9 b9 f9 B9 => ?_⟩
    obtain ⟨v, e, m⟩ := atI3 (a := V.int r7) (b := V.int r8) (c := V.int 999) a9 b9
    obtain ⟨day, rfl, day0, day1⟩ : ∃ k : Int, v = V.int k ∧ 0 ≤ k ∧ k ≤ 999 := by
      rcases m with rfl | rfl | rfl <;> exact ⟨_, rfl, by omega, by omega⟩
    refine ⟨l3, _, r9, _, rfl, rfl, SqL.of (f9 l3 _ (by simp [B8.ne hl3]) upd_same), e, ?_⟩
    have f19 := (((f16.trans f7).trans f8).trans (Fr.new hl3)).trans f9
    clear e m
    have hp9 := f19 p _ (by simp [npB]) hp
    refine ⟨_, rfl, _, rfl, _, rfl, p, _, rfl, .inl (SqL.of hp9), ?_⟩
    rw [List.length_map]
    refine ⟨B, (ss.length : Int), _, rfl, B9, by omega, by omega, by omega, fun r10 H10 a10 b10 f10 B10 => ?_⟩
    have hp10 := f10 p _ (by simp [npB]) hp9
    obtain ⟨k, rfl⟩ := Int.eq_ofNat_of_zero_le a10
    have hk : k < ss.length := by omega
    have ek : (ss.map V.str)[k]? = some (V.str ss[k]) := by rw [List.getElem?_map, List.getElem?_eq_getElem hk]; rfl
    have ok := hss _ (List.getElem_mem hk)
    generalize ss[k] = o at ek ok
    refine ⟨p, _, _, _, rfl, rfl, SqL.of hp10, atI_nat ek, ?_⟩
    walk_at "z"
    refine fun t ht => ?_
    refine q _ ⟨o, num, pr, low, day⟩ _ ⟨ok, num0, num1, pr0, pr1, low0, low1, day0, day1⟩ (.tup (SqT.of upd_same) (.cons (.str _) (.cons (.int _) (.cons (.int _) (.cons (.int _) (.cons (.int _) .nil)))))) ((f19.trans f10).trans (Fr.new ht)) ((B10.keep (Same.new ht)).mono (by omega))
/-! ### made tags -/
def sp__law_made (K : PySem.W.Frag) (C : Addr) : Sp := fun vs H Q _ => ∃ (B : Addr) (v : V) (n : Nat) (f : Five), vs = [.ref B, v] ∧ Box H B n ∧ n < 100000000 ∧ Dp K H v (fiveD f) ∧ f.Ok ∧
  ∀ (t : Addr) (H' : Hp), H t = none → TagAt C H' t f → Fr [B] H H' → Box H' B (n + 1) → Q (.ref t) H'
theorem fiveD_of {K : PySem.W.Frag} {H : Hp} {v : V} {f : Five} (h : Dp K H v (fiveD f)) : ∃ a, v = .ref a ∧ SqT K H a [.str f.owner, .int f.number, .int f.price, .int f.least, .int f.day] := by
  obtain ⟨a, xs, rfl, sq, ds⟩ := Dp.tuple_of h
  refine ⟨a, rfl, ?_⟩
  cases ds with
  | cons d1 ds => cases d1; cases ds with
    | cons d2 ds => cases d2; cases ds with
      | cons d3 ds => cases d3; cases ds with
        | cons d4 ds => cases d4; cases ds with
          | cons d5 ds => cases d5; cases ds; exact sq
theorem eqv_two (a b c d : Int) : PyData.eqv (.tuple [.int a, .int b]) (.tuple [.int c, .int d]) = (decide (a = c) && decide (b = d)) := by
  simp only [PyData.eqv, PyData.eqvAll, Bool.and_true]
  rfl
theorem ok__law_made {P : Program} {w : World} {K : PySem.W.Frag} {mg : Str → Option Value} {base : Heap} {ad : Ad} (T : Txt K mg ad) : FnOk P w K mg base CX0 4 ad.f__law_made ad.d__law_made ["_law_box_here", "_law_five_here"] (sp__law_made K ad.C_Tag) := by
  have G__law_take := ok__law_take (P := P) (w := w) (base := base) T
  have G_Tag_init := ok_Tag_init (P := P) (w := w) (base := base) T
  obtain ⟨db_Tag_init_6, vb_Tag_init_6, b_Tag_init_6⟩ := T.b_Tag_init_6
  obtain ⟨db_Tag_init_4, vb_Tag_init_4, b_Tag_init_4⟩ := T.b_Tag_init_4
  obtain ⟨ikb_Tag_init_4_day, kb_Tag_init_4_day⟩ := T.kb_Tag_init_4_day
  obtain ⟨db_Tag_init_5, vb_Tag_init_5, b_Tag_init_5⟩ := T.b_Tag_init_5
  obtain ⟨ikb_Tag_init_4_day_least, kb_Tag_init_4_day_least⟩ := T.kb_Tag_init_4_day_least
  refine T.F__law_made.ok sc__law_made (fun vs H Q E h => ?_) (fun cdv A outer s H vs Q E hr h => ?_)
  · obtain ⟨B, v, n, f, rfl, _⟩ := h
    rfl
  · obtain ⟨B, v, n, f, rfl, hB, hn, hd, ok, q⟩ := h
    obtain ⟨a, rfl, sq⟩ := fiveD_of hd
    refine ⟨_, (pss_cons (ps_asg (pv 1) (pg_tup (by rfl) (pgs_cons (pg_name (i := 2) sc__law_made.nd rfl (Or.inl rfl)) (pgs_cons (pg_name (i := 3) sc__law_made.nd rfl (Or.inl rfl)) (pgs_cons (pg_name (i := 4) sc__law_made.nd rfl (Or.inl rfl)) (pgs_cons (pg_name (i := 5) sc__law_made.nd rfl (Or.inl rfl)) (pgs_cons (pg_name (i := 6) sc__law_made.nd rfl (Or.inl rfl)) pgs_nil)))))))
    (pss_cons (ps_set (i := 7) sc__law_made.nd rfl (Or.inl rfl) (pe_call G__law_take (hr.mono (by decide)) rfl T.g__law_take T.F__law_take.kp T.b__law_take .nil pass0 (pa_cons (pv 0) (pa_cons pe_int pa_nil))))
    (pss_cons (ps_if (PW.pt (pw_and (pt_cmpR op_eq (pv 7) pe_int (nomark _)) (pw_and1 (pt_cmpR (op_eqD hr.units) (pe_tup (pa_cons (pv 5) (pa_cons (pv 6) pa_nil))) (pe_tup (pa_cons pe_int (pa_cons pe_int pa_nil))) (nomark _))))) (pss_one (ps_ret (pe_make T.mk_Tag G_Tag_init (hr.mono (by decide)) rfl T.g_Tag b_Tag_init_4 vb_Tag_init_4 pass0 (pa_cons (pv 2) (pa_cons (pv 3) (pa_cons (pv 4) pa_nil)))))) pss_nil)
    (pss_cons (ps_if (PW.pt (pw_and (pt_cmpR op_eq (pv 7) pe_int (nomark _)) (pw_and1 (pt_cmpR op_eq (pv 5) pe_int (nomark _))))) (pss_one (ps_ret (pe_makeN T.mk_Tag G_Tag_init (hr.mono (by decide)) rfl T.g_Tag kb_Tag_init_4_day pass0 (pa_cons (pv 2) (pa_cons (pv 3) (pa_cons (pv 4) pa_nil))) (pk_cons (pv 6) pk_nil)))) pss_nil)
    (pss_cons (ps_if (PW.pt (pw_and (pt_cmpR op_eq (pv 7) pe_int (nomark _)) (pw_and1 (pt_cmpR op_eq (pv 6) pe_int (nomark _))))) (pss_one (ps_ret (pe_make T.mk_Tag G_Tag_init (hr.mono (by decide)) rfl T.g_Tag b_Tag_init_5 vb_Tag_init_5 pass0 (pa_cons (pv 2) (pa_cons (pv 3) (pa_cons (pv 4) (pa_cons (pv 5) pa_nil))))))) pss_nil)
    (pss_cons (ps_if (pt_cmpR op_eq (pv 7) pe_int (nomark _)) (pss_one (ps_ret (pe_makeN T.mk_Tag G_Tag_init (hr.mono (by decide)) rfl T.g_Tag kb_Tag_init_4_day_least pass0 (pa_cons (pv 2) (pa_cons (pv 3) (pa_cons (pv 4) pa_nil))) (pk_cons (pv 6) (pk_cons (pv 5) pk_nil))))) pss_nil)
    (pss_one (ps_ret (pe_make T.mk_Tag G_Tag_init (hr.mono (by decide)) rfl T.g_Tag b_Tag_init_6 vb_Tag_init_6 pass0 (pa_cons (pv 2) (pa_cons (pv 3) (pa_cons (pv 4) (pa_cons (pv 5) (pa_cons (pv 6) pa_nil)))))))))))))), ?_⟩
    refine ⟨_, rfl, a, _, rfl, sq, rfl, ?_⟩
    walk_at "z"
    refine ⟨B, 4, n, rfl, hB, by decide, by decide, by omega, fun way H1 a1 b1 f1 B1 => ?_⟩
    have fin : ∀ (H2 : Hp), Same H1 H2 → ∀ (x dx : Addr), H2 x = none → H2 dx = none → dx ≠ x → ∀ H3, Fr [x] (upd (upd H2 dx (.own x)) x (.ins ad.C_Tag dx [])) H3 → H3 x = some (.ins ad.C_Tag dx (tagF f)) → Q (.ref x) H3 := by
      intro H2 s2 x dx hx hdx ne H3 f3 h3
      have s23 : Same H2 H3 := fun b o e => f3 b o (by simp [ne_of_none e hx]) (by rw [upd_ne (ne_of_none e hx), upd_ne (ne_of_none e hdx)]; exact e)
      have s13 := s2.trans s23
      have nxB : x ≠ B := (B1.keep s2).ne hx
      refine q x H3 (f1.back (by simp [nxB]) (s2.free hx)) ⟨dx, h3⟩ (f1.trans (Same.fr s13)) (B1.keep s13)
    walk_at "z"
    with_reducible refine iteD (fun h0 => ?_) (fun h0 => ?_)
    · walk_at "z"
      refine fun t1 ht1 => ?_
      walk_at "z"
      refine fun t2 ht2 => ?_
      have sm : Same H1 (upd (upd H1 t1 (.tup [.int f.least, .int f.day])) t2 (.tup [.int 0, .int 0])) := (Same.new ht1).trans (Same.new ht2)
      refine ⟨.tuple [.int f.least, .int f.day], .tuple [.int 0, .int 0], .tup (SqT.of (Same.new ht2 _ _ upd_same)) (.cons (.int _) (.cons (.int _) .nil)), .tup (SqT.of upd_same) (.cons (.int _) (.cons (.int _) .nil)), rfl, rfl, ?_⟩
      rw [eqv_two]
      by_cases h2 : f.least = 0 ∧ f.day = 0
      · rw [decide_eq_true h2.1, decide_eq_true h2.2]
        walk_at "z"
        refine fun x dx hx hdx ne => ?_
        exact ⟨x, dx, f, by rw [h2.1, h2.2]; rfl, upd_same, ok, fun H3 f3 h3 => ⟨rfl, fin _ sm x dx hx hdx ne H3 f3 h3⟩⟩
      · have e2 : (decide (f.least = 0) && decide (f.day = 0)) = false := by
          rw [← Bool.not_eq_true, Bool.and_eq_true, decide_eq_true_eq, decide_eq_true_eq]
          exact h2
        rw [e2]
        have hw : way = 0 := by injection h0
        subst hw
        walk_at "z"
        refine fun x dx hx hdx ne => ?_
        exact ⟨x, dx, f, rfl, upd_same, ok, fun H3 f3 h3 => ⟨rfl, fin _ sm x dx hx hdx ne H3 f3 h3⟩⟩
    · skip
      walk_at "z"
      with_reducible refine iteD (fun h1 => ?_) (fun h1 => ?_)
      · walk_at "z"
        with_reducible refine iteD (fun h2 => ?_) (fun h2 => ?_)
        · walk_at "z"
          refine fun x dx hx hdx ne => ?_
          injection h2 with h2
          exact ⟨x, dx, f, by rw [h2]; rfl, upd_same, ok, fun H3 f3 h3 => ⟨rfl, fin _ (Same.refl _) x dx hx hdx ne H3 f3 h3⟩⟩
        · have hw : way = 1 := by injection h1
          subst hw
          walk_at "z"
          refine fun x dx hx hdx ne => ?_
          exact ⟨x, dx, f, rfl, upd_same, ok, fun H3 f3 h3 => ⟨rfl, fin _ (Same.refl _) x dx hx hdx ne H3 f3 h3⟩⟩
      · walk_at "z"
        with_reducible refine iteD (fun h3 => ?_) (fun h3 => ?_)
        · walk_at "z"
          with_reducible refine iteD (fun h4 => ?_) (fun h4 => ?_)
          · walk_at "z"
            refine fun x dx hx hdx ne => ?_
            injection h4 with h4
            exact ⟨x, dx, f, by rw [h4]; rfl, upd_same, ok, fun H3 f3 h3 => ⟨rfl, fin _ (Same.refl _) x dx hx hdx ne H3 f3 h3⟩⟩
          · have hw : way = 2 := by injection h3
            subst hw
            walk_at "z"
            refine fun x dx hx hdx ne => ?_
            exact ⟨x, dx, f, rfl, upd_same, ok, fun H3 f3 h3 => ⟨rfl, fin _ (Same.refl _) x dx hx hdx ne H3 f3 h3⟩⟩
        · walk_at "z"
          with_reducible refine iteD (fun h5 => ?_) (fun h5 => ?_)
          · walk_at "z"
            refine fun x dx hx hdx ne => ?_
            exact ⟨x, dx, f, rfl, upd_same, ok, fun H3 f3 h3 => ⟨rfl, fin _ (Same.refl _) x dx hx hdx ne H3 f3 h3⟩⟩
          · walk_at "z"
            refine fun x dx hx hdx ne => ?_
            exact ⟨x, dx, f, rfl, upd_same, ok, fun H3 f3 h3 => ⟨rfl, fin _ (Same.refl _) x dx hx hdx ne H3 f3 h3⟩⟩
def sp__law_fields (K : PySem.W.Frag) (C : Addr) : Sp := fun vs H Q _ => ∃ (t : Addr) (f : Five), vs = [.ref t] ∧ TagAt C H t f ∧ ∀ (v : V) (H' : Hp), Same H H' → Dp K H' v (fiveD f) → Q v H'
theorem ok__law_fields {P : Program} {w : World} {K : PySem.W.Frag} {mg : Str → Option Value} {base : Heap} {ad : Ad} (T : Txt K mg ad) : FnOk P w K mg base CX0 1 ad.f__law_fields ad.d__law_fields ["_law_tag"] (sp__law_fields K ad.C_Tag) := by
  refine T.F__law_fields.ok sc__law_fields (fun vs H Q E h => ?_) (fun cdv A outer s H vs Q E hr h => ?_)
  · obtain ⟨t, f, rfl, _⟩ := h
    rfl
  · obtain ⟨t, f, rfl, ⟨dx, ht⟩, q⟩ := h
    refine ⟨_, (pss_one (ps_ret (pe_tup (pa_cons (pe_fld (pv 0) rfl) (pa_cons (pe_fld (pv 0) rfl) (pa_cons (pe_fld (pv 0) rfl) (pa_cons (pe_fld (pv 0) rfl) (pa_cons (pe_fld (pv 0) rfl) pa_nil)))))))), ?_⟩
    refine ⟨_, rfl, t, _, dx, _, _, rfl, ht, T.cl_Tag, T.na_Tag_owner, tagF_owner f, _, rfl, t, _, dx, _, _, rfl, ht, T.cl_Tag, T.na_Tag_number, tagF_number f, _, rfl, t, _, dx, _, _, rfl, ht, T.cl_Tag, T.na_Tag_price, tagF_price f,
      _, rfl, t, _, dx, _, _, rfl, ht, T.cl_Tag, T.na_Tag_least, tagF_least f, _, rfl, t, _, dx, _, _, rfl, ht, T.cl_Tag, T.na_Tag_day, tagF_day f, Nat.le_of_ble_eq_true rfl, fun p hp => ?_⟩
    exact q _ _ (Same.new hp) (.tup (SqT.of upd_same) (.cons (.str _) (.cons (.int _) (.cons (.int _) (.cons (.int _) (.cons (.int _) .nil))))))
theorem ok__law_part {P : Program} {w : World} {K : PySem.W.Frag} {mg : Str → Option Value} {base : Heap} {ad : Ad} (T : Txt K mg ad) : FnOk P w K mg base CX0 1 ad.f__law_part ad.d__law_part ["_law_rule_here", "_law_age"] (sp_part_at K) := by
  refine T.F__law_part.ok sc__law_part (fun vs H Q E h => ?_) (fun cdv A outer s H vs Q E hr h => ?_)
  · obtain ⟨v, r, age, rfl, _⟩ := h
    rfl
  · obtain ⟨v, r, age, rfl, hd, q⟩ := h
    obtain ⟨a, xs, rfl, sq, ds⟩ := Dp.tuple_of hd
    refine ⟨_, (pss_cons (ps_set (i := 2) sc__law_part.nd rfl (Or.inl rfl) pe_int)
    (pss_cons (ps_for PassesOwn.never rfl (pi_tup (pv 0)) (pg_tup (by rfl) (pgs_cons (pg_name (i := 3) sc__law_part.nd rfl (Or.inl rfl)) (pgs_cons (pg_name (i := 4) sc__law_part.nd rfl (Or.inl rfl)) pgs_nil)))
    (pss_one (ps_set (i := 2) sc__law_part.nd rfl (Or.inl rfl) (pe_ifExp (pt_cmpR op_le (pv 3) (pv 1) (nomark _)) (pv 4) (pv 2)))))
    (pss_one (ps_ret (pv 2))))), ?_⟩
    refine ⟨_, rfl, a, rfl, ⟨_, sq⟩, ?_⟩
    have lx : xs.length = r.length := by rw [DpAll.length ds, List.length_map]
    refine for_it (walk_tup (xs := xs)) (fun i σ H' => Same H H' ∧ ∃ v3 v4, σ = [some (.ref a), some (.int age), some (.int (partAt (r.take i) age)), v3, v4]) ⟨Same.refl _, none, none, rfl⟩ (fun i σ H' _ h => SqT.mono h.1 sq) ?_ ?_
    · rintro i x σ _ H' hi ⟨sm, v3, v4, rfl⟩ ⟨rfl, hx⟩
      obtain ⟨⟨g, p⟩, hg, t, ht, rfl⟩ := ruleD_get ds hx
      refine ⟨t, _, rfl, SqT.mono sm ht, rfl, ?_⟩
      walk_at "z"
      have ep := partAt_take (r := r) (i := i) (age := age) hg
      with_reducible refine iteD (fun h => ?_) (fun h => ?_)
      · walk_at "z"
        refine ⟨sm, some (.int g), some (.int p), ?_⟩
        rw [ep, if_pos h]
        rfl
      · walk_at "z"
        refine ⟨sm, some (.int g), some (.int p), ?_⟩
        rw [ep, if_neg h]
        rfl
    · rintro σ H' ⟨sm, v3, v4, rfl⟩
      refine ⟨_, rfl, ?_⟩
      rw [lx, List.take_length]
      exact q _ sm
def sp__law_day_price (K : PySem.W.Frag) : Sp := fun vs H Q _ => ∃ (v u : V) (r : List (Int × Int)) (f : Five) (day : Int) (leave : Bool), vs = [v, u, .int day, .bl leave] ∧ Dp K H v (ruleD r) ∧ Dp K H u (fiveD f) ∧ f.Ok ∧
  ∀ H', Same H H' → Q (.int (priceOn r f day leave)) H'
theorem ok__law_day_price {P : Program} {w : World} {K : PySem.W.Frag} {mg : Str → Option Value} {base : Heap} {ad : Ad} (T : Txt K mg ad) : FnOk P w K mg base CX0 2 ad.f__law_day_price ad.d__law_day_price ["_law_rule_here", "_law_five_here", "_law_when", "_law_freely"] (sp__law_day_price K) := by
  have G__law_part := ok__law_part (P := P) (w := w) (base := base) T
  refine T.F__law_day_price.ok sc__law_day_price (fun vs H Q E h => ?_) (fun cdv A outer s H vs Q E hr h => ?_)
  · obtain ⟨v, u, r, f, day, leave, rfl, _⟩ := h
    rfl
  · obtain ⟨v, u, r, f, day, leave, rfl, hd, hf, ok, q⟩ := h
    obtain ⟨a, rfl, sq⟩ := fiveD_of hf
    refine ⟨_, (pss_cons (ps_asg (pv 1) (pg_tup (by rfl) (pgs_cons (pg_name (i := 4) sc__law_day_price.nd rfl (Or.inl rfl)) (pgs_cons (pg_name (i := 5) sc__law_day_price.nd rfl (Or.inl rfl)) (pgs_cons (pg_name (i := 6) sc__law_day_price.nd rfl (Or.inl rfl)) (pgs_cons (pg_name (i := 7) sc__law_day_price.nd rfl (Or.inl rfl)) (pgs_cons (pg_name (i := 8) sc__law_day_price.nd rfl (Or.inl rfl)) pgs_nil)))))))
    (pss_cons (ps_set (i := 9) sc__law_day_price.nd rfl (Or.inl rfl) (pe_op op_fdiv (pe_op op_mul (pv 6) (pe_call G__law_part (hr.mono (by decide)) rfl T.g__law_part T.F__law_part.kp T.b__law_part .nil pass0 (pa_cons (pv 0) (pa_cons (pe_op op_sub (pv 2) (pv 8)) pa_nil)))) pe_int))
    (pss_one (ps_ret (pe_ifExp (pt_val (pv 3)) (pe_callB (call_max2 rfl) (by rfl) T.n_max (by decide +kernel) (pa_cons (pv 9) (pa_cons pe_int pa_nil))) (pe_callB (call_max3 rfl) (by rfl) T.n_max (by decide +kernel) (pa_cons (pv 9) (pa_cons pe_int (pa_cons (pv 7) pa_nil))))))))), ?_⟩
    refine ⟨_, rfl, a, _, rfl, sq, rfl, ?_⟩
    walk_at "z"
    refine ⟨v, r, day - f.day, rfl, hd, fun H1 s1 => ?_⟩
    have p1 := ok.p1
    have p2 := ok.p2
    walk_at "z"
    cases leave with
    | true =>
      walk_at "z"
      have e : (if (1 : Int) > f.price * partAt r (day - f.day) / 100 then 1 else f.price * partAt r (day - f.day) / 100) = priceOn r f day true := by
        show _ = priceBy r f.price (day - f.day)
        unfold priceBy
        generalize f.price * partAt r (day - f.day) / 100 = y
        split <;> split <;> omega
      rw [e]
      exact q _ s1
    | false =>
      walk_at "z"
      refine ⟨_, _, _, rfl, ?_⟩
      have e : max3 (f.price * partAt r (day - f.day) / 100) 1 f.least = priceOn r f day false := by
        show _ = (if f.least > priceBy r f.price (day - f.day) then f.least else priceBy r f.price (day - f.day))
        unfold priceBy max3
        generalize f.price * partAt r (day - f.day) / 100 = y
        by_cases h1 : (1 : Int) > y
        · rw [if_pos h1, if_neg (by omega : ¬ y > 1)]
        · rw [if_neg h1]
          by_cases h2 : y > 1
          · rw [if_pos h2]
          · rw [if_neg h2, show y = 1 by omega]
      rw [e]
      exact q _ s1
/-! ### falls -/
def fallStep (r : List (Int × Int)) (f : Five) (leave : Bool) (s : List (Int × Int) × Int) (p : Int × Int) : List (Int × Int) × Int :=
  if priceOn r f (f.day + p.1) leave < s.2 then (s.1 ++ [(f.day + p.1, priceOn r f (f.day + p.1) leave)], priceOn r f (f.day + p.1) leave) else s
def fallsA (r : List (Int × Int)) (f : Five) (leave : Bool) (i : Nat) : List (Int × Int) × Int := (r.take i).foldl (fallStep r f leave) ([(f.day, priceOn r f f.day leave)], priceOn r f f.day leave)
def fallsL (r : List (Int × Int)) (f : Five) (leave : Bool) : List (Int × Int) := (fallsA r f leave r.length).1
theorem fallsA_succ {r : List (Int × Int)} {f : Five} {leave : Bool} {i : Nat} {p : Int × Int} (h : r[i]? = some p) : fallsA r f leave (i + 1) = fallStep r f leave (fallsA r f leave i) p := by
  unfold fallsA
  rw [List.take_add_one, h, List.foldl_append]
  rfl
theorem fallsA_last (r : List (Int × Int)) (f : Five) (leave : Bool) : ∀ i, i ≤ r.length → ∃ d, (fallsA r f leave i).1[(fallsA r f leave i).1.length - 1]? = some (d, (fallsA r f leave i).2) ∧ (fallsA r f leave i).1.length ≤ i + 1 := by
  intro i
  induction i with
  | zero => intro _; exact ⟨f.day, rfl, Nat.le_refl _⟩
  | succ i ih =>
    intro hi
    obtain ⟨d, e, l⟩ := ih (by omega)
    have hp : r[i]? = some r[i] := List.getElem?_eq_getElem (by omega)
    rw [fallsA_succ hp]
    unfold fallStep
    split
    · refine ⟨f.day + (r[i]).1, ?_, ?_⟩
      · simp
      · rw [List.length_append]
        simp
        omega
    · exact ⟨d, e, by omega⟩
def sp_falls (K : PySem.W.Frag) (C : Addr) : Sp := fun vs H Q _ => ∃ (v : V) (t : Addr) (r : List (Int × Int)) (f : Five) (leave : Bool), vs = [v, .ref t, .bl leave] ∧ Dp K H v (ruleD r) ∧ TagAt C H t f ∧ f.Ok ∧ RuleW r ∧
  ∀ (p : Addr) (xs : List V) (H' : Hp), H p = none → Same H H' → H' p = some (.lst xs) → DpAll K H' xs ((fallsL r f leave).map pairD) → Q (.ref p) H'
theorem ok_falls {P : Program} {w : World} {K : PySem.W.Frag} {mg : Str → Option Value} {base : Heap} {ad : Ad} (T : Txt K mg ad) : FnOk P w K mg base CX0 4 ad.f_falls ad.d_falls ["rule", "tag", "leave"] (sp_falls K ad.C_Tag) := by
  have G_price_on := ok_price_on (P := P) (w := w) (base := base) T
  obtain ⟨ikb_price_on_3_leave, kb_price_on_3_leave⟩ := T.kb_price_on_3_leave
  refine okD T.F_falls sc_falls (fun vs H Q E h => ?_) (fun cdv A outer s H vs Q E hr h => ?_)
  · obtain ⟨v, t, r, f, leave, rfl, _⟩ := h
    rfl
  · obtain ⟨v, t, r, f, leave, rfl, hd, ⟨dx, ht⟩, ok, rw1, q⟩ := h
    obtain ⟨a, xs, rfl, sq, ds⟩ := Dp.tuple_of hd
    have lx : xs.length = r.length := by rw [DpAll.length ds, List.length_map]
    refine ⟨_, (pss_cons (ps_set (i := 3) sc_falls.nd rfl (Or.inl rfl) (pe_lst (pa_cons (pe_tup (pa_cons (pe_fld (pv 1) rfl) (pa_cons (pe_callN G_price_on (hr.mono (by decide)) rfl T.g_price_on T.F_price_on.kp kb_price_on_3_leave pass0 (pa_cons (pv 0) (pa_cons (pv 1) (pa_cons (pe_fld (pv 1) rfl) pa_nil))) (pk_cons (pv 2) pk_nil)) pa_nil))) pa_nil)))
    (pss_cons (ps_for PassesOwn.never rfl (pi_tup (pv 0)) (pg_tup (by rfl) (pgs_cons (pg_name (i := 4) sc_falls.nd rfl (Or.inl rfl)) (pgs_cons (pg_name (i := 5) sc_falls.nd rfl (Or.inl rfl)) pgs_nil)))
    (pss_cons (ps_set (i := 6) sc_falls.nd rfl (Or.inl rfl) (pe_callN G_price_on (hr.mono (by decide)) rfl T.g_price_on T.F_price_on.kp kb_price_on_3_leave pass0 (pa_cons (pv 0) (pa_cons (pv 1) (pa_cons (pe_op op_add (pe_fld (pv 1) rfl) (pv 4)) pa_nil))) (pk_cons (pv 2) pk_nil)))
    (pss_one (ps_if (pt_cmpR op_lt (pv 6) (pe_ix ix_tup (pe_ix ix_list (pv 3) (pe_un un_neg pe_int) (fun _ _ => rfl)) pe_int (fun _ _ => rfl)) (nomark _)) (pss_one (ps_expr (pe_bm PySem.F.plainAttrs_list PySem.F.slot_list_append PySem.F.type_list_append mt_append (pv 3) (pa_cons (pe_tup (pa_cons (pe_op op_add (pe_fld (pv 1) rfl) (pv 4)) (pa_cons (pv 6) pa_nil))) pa_nil)))) pss_nil))))
    (pss_one (ps_ret (pv 3))))), ?_⟩
    refine ⟨_, rfl, t, _, dx, _, _, rfl, ht, T.cl_Tag, T.na_Tag_day, tagF_day f, _, rfl, _, rfl, _, rfl, t, _, dx, _, _, rfl, ht, T.cl_Tag, T.na_Tag_day, tagF_day f, ?_⟩
    refine ⟨_, rfl, rfl, rfl, _, t, r, f, f.day, leave, rfl, hd, ⟨dx, ht⟩, ok, Int.le_refl _, fun H1 s1 => ?_⟩
    walk_at "z"
    refine fun u hu => ?_
    walk_at "z"
    refine fun g hg => ?_
    have s2 : Same H (upd H1 u (.tup [.int f.day, .int (priceOn r f f.day leave)])) := s1.trans (Same.new hu)
    have hg0 : H g = none := s2.free hg
    have ug : u ≠ g := ne_of_none upd_same hg
    refine ⟨_, rfl, a, rfl, ⟨_, SqT.mono (s2.trans (Same.new hg)) sq⟩, ?_⟩
    refine for_it (walk_tup (xs := xs)) (fun i σ H' => Same H H' ∧ ∃ (ys : List V) (v4 v5 v6 : Option V), H' g = some (.lst ys) ∧ DpAll K H' ys ((fallsA r f leave i).1.map pairD) ∧ σ = [some (.ref a), some (.ref t), some (.bl leave), some (.ref g), v4, v5, v6])
      ⟨s2.trans (Same.new hg), [.ref u], none, none, none, upd_same, .cons (.tup (SqT.of (by rw [upd_ne ug, upd_same])) (.cons (.int _) (.cons (.int _) .nil))) .nil, rfl⟩ (fun i σ H' _ h => SqT.mono h.1 sq) ?_ ?_
    · rintro i x σ _ H3 hi ⟨s3, ys, v4, v5, v6, hg3, dp3, rfl⟩ ⟨rfl, hx⟩
      obtain ⟨⟨ag, pt⟩, hp, tt, htt, rfl⟩ := ruleD_get ds hx
      have age := rw1.age _ (List.mem_of_getElem? hp)
      have ht3 := s3 _ _ ht
      refine ⟨tt, _, rfl, SqT.mono s3 htt, rfl, ?_⟩
      walk_at "z"
      refine ⟨t, _, dx, _, _, rfl, ht3, T.cl_Tag, T.na_Tag_day, tagF_day f, ?_⟩
      walk_at "z"
      refine ⟨_, t, r, f, f.day + ag, leave, rfl, Dp.mono s3 hd, ⟨dx, ht3⟩, ok, by dsimp only at age; omega, fun H4 s4 => ?_⟩
      have hg4 := s4 _ _ hg3
      have dp4 := DpAll.mono s4 dp3
      have ht4 := s4 _ _ ht3
      obtain ⟨d0, el, ll⟩ := fallsA_last r f leave i (by omega)
      have ly : ys.length = (fallsA r f leave i).1.length := by rw [DpAll.length dp3, List.length_map]
      have hlt : ys.length - 1 < ys.length := by
        have := (List.getElem?_eq_some_iff.mp el).1
        omega
      have hy : ys[ys.length - 1]? = some ys[ys.length - 1] := List.getElem?_eq_getElem hlt
      obtain ⟨pl, hpl, ul, hul, eul⟩ := ruleD_get dp4 hy
      have epl : pl = (d0, (fallsA r f leave i).2) := by
        rw [ly, el] at hpl
        exact (Option.some.inj hpl).symm
      subst epl
      have es := fallsA_succ (f := f) (leave := leave) hp
      walk_at "z"
      refine ⟨g, _, _, _, rfl, rfl, SqL.of hg4, atI_last (hy.trans (congrArg some eul)), ?_⟩
      refine ⟨ul, _, _, _, rfl, rfl, hul, rfl, ?_⟩
      walk_at "z"
      with_reducible refine iteD (fun h => ?_) (fun h => ?_)
      · refine ⟨_, rfl, .inl ⟨rfl, _, SqL.of hg4⟩, ?_⟩
        refine ⟨_, rfl, t, _, dx, _, _, rfl, ht4, T.cl_Tag, T.na_Tag_day, tagF_day f, ?_⟩
        walk_at "z"
        refine fun w hw => ?_
        have ngw : g ≠ w := ne_of_none hg4 hw
        have hg5 : upd H4 w (.tup [.int (f.day + ag), .int (priceOn r f (f.day + ag) leave)]) g = some (.lst ys) := by rw [upd_ne ngw]; exact hg4
        have l4 : sizeLine = 16777216 := by decide +kernel
        have r6 := rw1.few
        refine ⟨g, _, _, rfl, rfl, hg5, by rw [ly, l4]; omega, ?_⟩
        refine ⟨?_, ys ++ [.ref w], _, _, _, upd_same, ?_, rfl⟩
        · intro b o e
          rw [upd_ne (ne_of_none e hg0), upd_ne (ne_of_none ((s3.trans s4) _ _ e) hw)]
          exact (s3.trans s4) _ _ e
        · rw [es]
          unfold fallStep
          rw [if_pos h, List.map_append]
          exact DpAll.snoc (.tup (SqT.of (by rw [upd_ne ngw.symm, upd_same])) (.cons (.int _) (.cons (.int _) .nil))) (DpAll.keep ((KeepT.new hw).trans (KeepT.lst hg5)) dp4 (noL_pairs _))
      · refine ⟨s3.trans s4, ys, _, _, _, hg4, ?_, rfl⟩
        rw [es]
        unfold fallStep
        rw [if_neg h]
        exact dp4
    · rintro σ H3 ⟨s3, ys, v4, v5, v6, hg3, dp3, rfl⟩
      refine ⟨_, rfl, ?_⟩
      rw [lx] at dp3
      exact q g ys H3 hg0 s3 hg3 dp3
/-! ### day by day -/
def dueA (r : List (Int × Int)) (f : Five) (leave : Bool) : Nat → List (Int × Int) × Int
  | 0 => ([(f.day, priceOn r f f.day leave)], priceOn r f f.day leave)
  | i + 1 => (if priceOn r f (f.day + 1 + (i : Int)) leave < (dueA r f leave i).2 then (dueA r f leave i).1 ++ [(f.day + 1 + (i : Int), priceOn r f (f.day + 1 + (i : Int)) leave)] else (dueA r f leave i).1, priceOn r f (f.day + 1 + (i : Int)) leave)
theorem dueA_two (r : List (Int × Int)) (f : Five) (leave : Bool) (i : Nat) : (dueA r f leave i).2 = priceOn r f (f.day + (i : Int)) leave := by
  cases i with
  | zero => show priceOn r f f.day leave = _; congr 1; omega
  | succ i => show priceOn r f (f.day + 1 + (i : Int)) leave = _; congr 1; omega
theorem dueA_len (r : List (Int × Int)) (f : Five) (leave : Bool) (i : Nat) : (dueA r f leave i).1.length ≤ i + 1 := by
  induction i with
  | zero => exact Nat.le_refl _
  | succ i ih =>
    show (if _ then _ else _ : List (Int × Int)).length ≤ _
    split
    · rw [List.length_append]; simp; omega
    · omega
/-- the price by the age -/
def prAge (r : List (Int × Int)) (f : Five) (leave : Bool) (k : Int) : Int := priceOn r f (f.day + k) leave
def fallsAt (r : List (Int × Int)) (f : Five) (leave : Bool) (k : Nat) : Bool := decide (prAge r f leave (k : Int) < prAge r f leave ((k : Int) - 1))
theorem dueA_filter (r : List (Int × Int)) (f : Five) (leave : Bool) (i : Nat) :
    (dueA r f leave i).1 = (f.day, priceOn r f f.day leave) :: ((List.range' 1 i).filter (fallsAt r f leave)).map (fun k : Nat => (f.day + (k : Int), prAge r f leave (k : Int))) := by
  induction i with
  | zero => rfl
  | succ i ih =>
    rw [List.range'_concat, Nat.one_mul, List.filter_append, List.map_append]
    have e1 : priceOn r f (f.day + 1 + (i : Int)) leave = prAge r f leave ((1 + i : Nat) : Int) := by unfold prAge; congr 1; omega
    have e2 : (dueA r f leave i).2 = prAge r f leave (((1 + i : Nat) : Int) - 1) := by rw [dueA_two]; unfold prAge; congr 1; omega
    have e3 : f.day + 1 + (i : Int) = f.day + ((1 + i : Nat) : Int) := by omega
    show (if priceOn r f (f.day + 1 + (i : Int)) leave < (dueA r f leave i).2 then _ else _) = _
    rw [ih, e1, e2, e3]
    by_cases h : prAge r f leave ((1 + i : Nat) : Int) < prAge r f leave (((1 + i : Nat) : Int) - 1)
    · rw [if_pos h]
      have : fallsAt r f leave (1 + i) = true := decide_eq_true h
      simp [List.filter_cons, this]
    · rw [if_neg h]
      have : fallsAt r f leave (1 + i) = false := decide_eq_false h
      simp [List.filter_cons, this]
theorem partAt_between {r : List (Int × Int)} {a b : Int} (h : ∀ p ∈ r, p.1 ≤ a ↔ p.1 ≤ b) : partAt r a = partAt r b := by
  unfold partAt
  have key : ∀ (r : List (Int × Int)) (x : Int), (∀ p ∈ r, p.1 ≤ a ↔ p.1 ≤ b) → r.foldl (fun f p => if p.1 ≤ a then p.2 else f) x = r.foldl (fun f p => if p.1 ≤ b then p.2 else f) x := by
    intro r
    induction r with
    | nil => intro x _; rfl
    | cons p r ih =>
      intro x h
      rw [List.foldl_cons, List.foldl_cons]
      have := h p (List.mem_cons_self ..)
      have e : (if p.1 ≤ a then p.2 else x) = (if p.1 ≤ b then p.2 else x) := by
        by_cases h1 : p.1 ≤ a
        · rw [if_pos h1, if_pos (this.mp h1)]
        · rw [if_neg h1, if_neg fun h2 => h1 (this.mpr h2)]
      rw [e]
      exact ih _ fun q hq => h q (List.mem_cons_of_mem _ hq)
  exact key r 100 h
theorem prAge_between {r : List (Int × Int)} {f : Five} {leave : Bool} {a b : Int} (h : ∀ p ∈ r, p.1 ≤ a ↔ p.1 ≤ b) : prAge r f leave a = prAge r f leave b := by
  have e : partAt r a = partAt r b := partAt_between h
  unfold prAge priceOn priceBy
  rw [show f.day + a - f.day = a by omega, show f.day + b - f.day = b by omega, e]
/-- the rising members of a stretch -/
theorem filter_range : ∀ (n a : Nat) (l : List Nat), l.Pairwise (· < ·) → (∀ x ∈ l, a ≤ x ∧ x < a + n) → (List.range' a n).filter (fun k => decide (k ∈ l)) = l := by
  intro n
  induction n with
  | zero =>
    intro a l _ h
    cases l with
    | nil => rfl
    | cons x t => have := h x (List.mem_cons_self ..); omega
  | succ n ih =>
    intro a l hw h
    rw [List.range'_succ, List.filter_cons]
    cases l with
    | nil =>
      rw [if_neg (by simp)]
      exact ih (a + 1) [] hw (by simp)
    | cons x t =>
      have hw' := List.pairwise_cons.mp hw
      by_cases hx : a = x
      · subst hx
        rw [if_pos (decide_eq_true (List.mem_cons_self ..))]
        congr 1
        have ih' := ih (a + 1) t hw'.2 fun y hy => by
          have h1 := hw'.1 y hy
          have h2 := h y (List.mem_cons_of_mem _ hy)
          omega
        rw [← ih']
        refine List.filter_congr fun y hy => ?_
        have := (List.mem_range'_1.mp hy).1
        rw [ih']
        apply decide_eq_decide.mpr
        rw [List.mem_cons]
        constructor
        · rintro (h | h)
          · omega
          · exact h
        · exact .inr
      · rw [if_neg]
        · refine ih (a + 1) (x :: t) hw fun y hy => ?_
          have h2 := h y hy
          have h3 := h x (List.mem_cons_self ..)
          rcases List.mem_cons.mp hy with rfl | hy'
          · omega
          · have := hw'.1 y hy'
            omega
        · rw [decide_eq_true_eq]
          intro hm
          have h3 := h x (List.mem_cons_self ..)
          rcases List.mem_cons.mp hm with e | e
          · exact hx e
          · have := hw'.1 a e
            omega
theorem prAge_mono {r : List (Int × Int)} (g : RuleW r) {f : Five} (ok : f.Ok) {leave : Bool} {a b : Int} (h : a ≤ b) : prAge r f leave b ≤ prAge r f leave a := by
  have p1 := ok.p1
  have m := priceBy_mono g (p := f.price) (by omega) (show f.day + a - f.day ≤ f.day + b - f.day by omega)
  unfold prAge priceOn
  split
  · exact m
  · split <;> split <;> omega
/-- the age of the pair ahead of the i-th, nought ahead of all -/
def ageAt (r : List (Int × Int)) : Nat → Int
  | 0 => 0
  | i + 1 => (r[i]?.map Prod.fst).getD 0
theorem fallsA_filter {r : List (Int × Int)} (g : RuleW r) {f : Five} (ok : f.Ok) (leave : Bool) : ∀ i, i ≤ r.length → (fallsA r f leave i).2 = prAge r f leave (ageAt r i) ∧
    (fallsA r f leave i).1 = (f.day, priceOn r f f.day leave) :: (((r.take i).map fun p => p.1.toNat).filter (fallsAt r f leave)).map (fun k : Nat => (f.day + (k : Int), prAge r f leave (k : Int))) := by
  intro i
  induction i with
  | zero =>
    intro _
    refine ⟨?_, rfl⟩
    show priceOn r f f.day leave = priceOn r f (f.day + 0) leave
    rw [Int.add_zero]
  | succ i ih =>
    intro hi
    obtain ⟨i1, i2⟩ := ih (by omega)
    have hp : r[i]? = some r[i] := List.getElem?_eq_getElem (by omega)
    have hage := g.age _ (List.mem_of_getElem? hp)
    have ea : ageAt r (i + 1) = (r[i]).1 := by show (r[i]?.map Prod.fst).getD 0 = _; rw [hp]; rfl
    have prev : ageAt r i < (r[i]).1 := by
      cases i with
      | zero => show (0 : Int) < _; omega
      | succ j =>
        show (r[j]?.map Prod.fst).getD 0 < _
        rw [List.getElem?_eq_getElem (by omega)]
        exact List.pairwise_iff_getElem.mp g.rise j (j + 1) (by omega) (by omega) (by omega)
    have hb : prAge r f leave (ageAt r i) = prAge r f leave ((r[i]).1 - 1) := by
      refine prAge_between fun p hm => ?_
      obtain ⟨j, hj, ej⟩ := List.getElem_of_mem hm
      constructor
      · intro h
        omega
      · intro h
        by_cases hji : j < i
        · cases i with
          | zero => omega
          | succ i' =>
            show _ ≤ (r[i']?.map Prod.fst).getD 0
            rw [List.getElem?_eq_getElem (by omega), ← ej]
            show (r[j]).1 ≤ (r[i']).1
            by_cases hjj : j = i'
            · subst hjj
              exact Int.le_refl _
            · exact Int.le_of_lt (List.pairwise_iff_getElem.mp g.rise j i' (by omega) (by omega) (by omega))
        · exfalso
          rw [← ej] at h
          by_cases hjj : j = i
          · subst hjj
            omega
          · have := List.pairwise_iff_getElem.mp g.rise i j (by omega) hj (by omega)
            omega
    have hk : (((r[i]).1.toNat : Nat) : Int) = (r[i]).1 := by omega
    have hm := prAge_mono g ok (leave := leave) (a := ageAt r i) (b := (r[i]).1) (by omega)
    rw [fallsA_succ hp, ea, List.take_add_one, hp, List.map_append, List.filter_append, List.map_append]
    unfold fallStep
    have ep : priceOn r f (f.day + (r[i]).1) leave = prAge r f leave (r[i]).1 := rfl
    rw [i1, ep]
    by_cases h : prAge r f leave (r[i]).1 < prAge r f leave (ageAt r i)
    · rw [if_pos h]
      have hf : fallsAt r f leave (r[i]).1.toNat = true := by
        unfold fallsAt
        rw [hk, ← hb]
        exact decide_eq_true h
      refine ⟨rfl, ?_⟩
      rw [i2]
      simp [List.filter_cons, hf, hk]
    · rw [if_neg h]
      have hf : fallsAt r f leave (r[i]).1.toNat = false := by
        unfold fallsAt
        rw [hk, ← hb]
        exact decide_eq_false h
      refine ⟨by rw [i1]; omega, ?_⟩
      rw [i2]
      simp [List.filter_cons, hf]
theorem due_is_falls {r : List (Int × Int)} (g : RuleW r) {f : Five} (ok : f.Ok) (leave : Bool) : (dueA r f leave 1000).1 = fallsL r f leave := by
  unfold fallsL
  rw [dueA_filter, (fallsA_filter g ok leave r.length (Nat.le_refl _)).2, List.take_length]
  congr 2
  have hr : ((r.map fun p => p.1.toNat)).Pairwise (· < ·) := by
    refine List.pairwise_map.mpr ?_
    refine List.Pairwise.imp_of_mem (fun {p q} hp hq h => ?_) g.rise
    have h1 := g.age p hp
    have h2 := g.age q hq
    omega
  have hin : ∀ x ∈ r.map fun p => p.1.toNat, 1 ≤ x ∧ x < 1 + 1000 := fun x hx => by
    obtain ⟨p, hp, rfl⟩ := List.mem_map.mp hx
    have := g.age p hp
    omega
  have e := filter_range 1000 1 _ hr hin
  conv => rhs; rw [← e]
  rw [List.filter_filter]
  refine List.filter_congr fun k hk => ?_
  cases hf : fallsAt r f leave k with
  | false => simp
  | true =>
    simp only [Bool.true_and]
    refine (decide_eq_true ?_).symm
    refine Decidable.byContradiction fun hn => ?_
    have : prAge r f leave (k : Int) = prAge r f leave ((k : Int) - 1) := by
      refine prAge_between fun p hp => ?_
      have hne : p.1 ≠ (k : Int) := fun e => hn (List.mem_map.mpr ⟨p, hp, by rw [e]; omega⟩)
      omega
    have hf' : prAge r f leave (k : Int) < prAge r f leave ((k : Int) - 1) := of_decide_eq_true hf
    omega
/-! ### the law's own likeness, kind by kind -/
def sp__law_same (K : PySem.W.Frag) (n : Nat) : Sp := fun vs H Q _ => ∃ (v1 v2 : V) (d : PyData), vs = [v1, v2] ∧ Dp K H v1 d ∧ Dp K H v2 d ∧ SeqAt.shaped d = true ∧ d.depth < n ∧ nodes d ≤ 1000000 ∧ ∀ H', Same H H' → Q (.bl true) H'
theorem ok__law_same {P : Program} {w : World} {K : PySem.W.Frag} {mg : Str → Option Value} {base : Heap} {ad : Ad} (T : Txt K mg ad) : ∀ n : Nat, FnOk P w K mg base CX0 n ad.f__law_same ad.d__law_same ["_law_found", "_law_due_here"] (sp__law_same K n)
  | 0 => ⟨fun vs H Q E ⟨_, _, _, _, _, _, _, h, _, _⟩ => absurd h (Nat.not_lt_zero _), fun _ _ _ _ _ _ _ _ _ _ _ _ _ ⟨_, _, _, _, _, _, _, h, _, _⟩ => absurd h (Nat.not_lt_zero _)⟩
  | n + 1 => by
    have G__law_same := ok__law_same (P := P) (w := w) (base := base) T n
    refine T.F__law_same.ok sc__law_same (fun vs H Q E h => ?_) (fun cdv A outer s H vs Q E hr h => ?_)
    · obtain ⟨v1, v2, d, rfl, _⟩ := h
      rfl
    · obtain ⟨v1, v2, d, rfl, d1, d2, sh, dep, nod, q⟩ := h
      refine ⟨_, (pss_cons (ps_if (pt_val (pe_callB call_isiT (by rfl) T.n_isinstance (by decide +kernel) (pa_cons (pv 1) (pa_cons (pe_tup (pa_cons (pe_bltn (v := .ty "list") (by rfl) T.n_list (by decide +kernel) rfl) (pa_cons (pe_bltn (v := .ty "tuple") (by rfl) T.n_tuple (by decide +kernel) rfl) pa_nil))) pa_nil)))) (pss_cons (ps_if (PW.pt (pw_or (pt_cmpR op_ne (pe_callB call_isi (by rfl) T.n_isinstance (by decide +kernel) (pa_cons (pv 0) (pa_cons (pe_bltn (v := .ty "list") (by rfl) T.n_list (by decide +kernel) rfl) pa_nil))) (pe_callB call_isi (by rfl) T.n_isinstance (by decide +kernel) (pa_cons (pv 1) (pa_cons (pe_bltn (v := .ty "list") (by rfl) T.n_list (by decide +kernel) rfl) pa_nil))) (nomark _)) (pw_or1 (pt_cmpR op_ne (pe_callB call_isi (by rfl) T.n_isinstance (by decide +kernel) (pa_cons (pv 0) (pa_cons (pe_bltn (v := .ty "tuple") (by rfl) T.n_tuple (by decide +kernel) rfl) pa_nil))) (pe_callB call_isi (by rfl) T.n_isinstance (by decide +kernel) (pa_cons (pv 1) (pa_cons (pe_bltn (v := .ty "tuple") (by rfl) T.n_tuple (by decide +kernel) rfl) pa_nil))) (nomark _))))) (pss_one (ps_ret pe_bl)) pss_nil)
    (pss_one (ps_ret (pe_and (pe_cmpR op_eq (pe_callB call_len_seq (by rfl) T.n_len PySem.boot_len (pa_cons (pv 0) pa_nil)) (pe_callB call_len_seq (by rfl) T.n_len PySem.boot_len (pa_cons (pv 1) pa_nil)) (nomark _)) (pe_one (pe_callB (cr_all rfl) (by rfl) T.n_all (by decide +kernel) (pa_cons (pe_lc (own := [("_law_one", 2), ("_law_other", 3)]) (g := gTup K 2 (gCons (gName 2) (gCons (gName 3) gNil))) (by rfl) sc__law_same.nd (RZ.pi_zipA (by rfl) T.n_zip (pa_cons (pv 0) (pa_cons (pv 1) pa_nil))) (blkOk_by (own := [("_law_one", 2), ("_law_other", 3)]) (N := N__law_same) (sc := defScope s__law_same) (by decide +kernel)) (fun _ _ _ _ _ => (pg_tup (by rfl) (pgs_cons (pg_name (i := 2) sc__law_same.nd rfl (Or.inl rfl)) (pgs_cons (pg_name (i := 3) sc__law_same.nd rfl (Or.inl rfl)) pgs_nil)))) (fun _ _ _ _ _ => pts_nil) (fun _ _ _ _ _ => (pe_call G__law_same hr rfl T.g__law_same T.F__law_same.kp T.b__law_same .nil pass0 (pa_cons (pv 2) (pa_cons (pv 3) pa_nil))))) pa_nil))))))) pss_nil)
    (pss_cons (ps_if (PW.pt (pw_or (pt_cmpR op_isN (pv 1) pe_non (nomark _)) (pw_or1 (pt_val (pe_callB call_isi (by rfl) T.n_isinstance (by decide +kernel) (pa_cons (pv 1) (pa_cons (pe_bltn (v := .ty "str") (by rfl) T.n_str (by decide +kernel) rfl) pa_nil))))))) (pss_one (ps_ret (pe_and (pe_cmpR (op_eqD hr.units) (pv 0) (pv 1) (nomark _)) (pe_one (pe_cmpR op_eq (pe_callB call_isi (by rfl) T.n_isinstance (by decide +kernel) (pa_cons (pv 0) (pa_cons (pe_bltn (v := .ty "str") (by rfl) T.n_str (by decide +kernel) rfl) pa_nil))) (pe_callB call_isi (by rfl) T.n_isinstance (by decide +kernel) (pa_cons (pv 1) (pa_cons (pe_bltn (v := .ty "str") (by rfl) T.n_str (by decide +kernel) rfl) pa_nil))) (nomark _)))))) pss_nil)
    (pss_one (ps_ret (pe_and (pe_callB call_isi (by rfl) T.n_isinstance (by decide +kernel) (pa_cons (pv 0) (pa_cons (pe_bltn (v := .ty "int") (by rfl) T.n_int (by decide +kernel) rfl) pa_nil))) (pe_and (pe_cmpR op_eq (pe_callB call_isi (by rfl) T.n_isinstance (by decide +kernel) (pa_cons (pv 0) (pa_cons (pe_bltn (v := .ty "bool") (by rfl) T.n_bool (by decide +kernel) rfl) pa_nil))) (pe_callB call_isi (by rfl) T.n_isinstance (by decide +kernel) (pa_cons (pv 1) (pa_cons (pe_bltn (v := .ty "bool") (by rfl) T.n_bool (by decide +kernel) rfl) pa_nil))) (nomark _)) (pe_one (pe_cmpR (op_eqD hr.units) (pv 0) (pv 1) (nomark _))))))))), ?_⟩
      have fin : ∀ {p : Addr} {o : HO}, H p = none → Q (.bl true) (upd H p o) := fun hp => q _ (Same.new hp)
      cases d with
      | dict _ => cases d1
      | none =>
        refine ⟨_, rfl, Nat.le_of_ble_eq_true rfl, fun p hp => ?_⟩
        have d1' := Dp.mono (Same.new (o := .tup [.ty "list", .ty "tuple"]) hp) d1
        have d2' := Dp.mono (Same.new (o := .tup [.ty "list", .ty "tuple"]) hp) d2
        refine ⟨_, _, _, _, _, false, rfl, upd_same, ltC, tyD "NoneType" d2' rfl, kitLT "NoneType" false false (by decide +kernel) (by decide +kernel), ?_⟩
        cases d1
        cases d2
        walk_at "z"
        refine ⟨.none, .none, .non, .non, rfl, rfl, ?_⟩
        walk_at "z"
        refine ⟨_, _, _, _, false, rfl, .ty _, tyD "NoneType" d1' rfl, kit_ty (by decide +kernel), ?_⟩
        walk_at "z"
        refine ⟨_, _, _, _, false, rfl, .ty _, tyD "NoneType" d2' rfl, kit_ty (by decide +kernel), ?_⟩
        walk_at "z"
        exact fin hp
      | bool b =>
        refine ⟨_, rfl, Nat.le_of_ble_eq_true rfl, fun p hp => ?_⟩
        have d1' := Dp.mono (Same.new (o := .tup [.ty "list", .ty "tuple"]) hp) d1
        have d2' := Dp.mono (Same.new (o := .tup [.ty "list", .ty "tuple"]) hp) d2
        refine ⟨_, _, _, _, _, false, rfl, upd_same, ltC, tyD "bool" d2' rfl, kitLT "bool" false false (by decide +kernel) (by decide +kernel), ?_⟩
        cases d1
        cases d2
        walk_at "z"
        refine ⟨_, _, _, _, false, rfl, .ty _, tyD "bool" d2' rfl, kit_ty (by decide +kernel), ?_⟩
        walk_at "z"
        refine ⟨_, _, _, _, true, rfl, .ty _, tyD "bool" d1' rfl, kit_ty (by decide +kernel), ?_⟩
        walk_at "z"
        refine ⟨_, _, _, _, true, rfl, .ty _, tyD "bool" d1' rfl, kit_ty (by decide +kernel), ?_⟩
        walk_at "z"
        refine ⟨_, _, _, _, true, rfl, .ty _, tyD "bool" d2' rfl, kit_ty (by decide +kernel), ?_⟩
        walk_at "z"
        refine ⟨.bool b, .bool b, .bl _, .bl _, rfl, rfl, ?_⟩
        rw [SeqAt.eqv_refl _ rfl]
        exact fin hp
      | int i =>
        refine ⟨_, rfl, Nat.le_of_ble_eq_true rfl, fun p hp => ?_⟩
        have d1' := Dp.mono (Same.new (o := .tup [.ty "list", .ty "tuple"]) hp) d1
        have d2' := Dp.mono (Same.new (o := .tup [.ty "list", .ty "tuple"]) hp) d2
        refine ⟨_, _, _, _, _, false, rfl, upd_same, ltC, tyD "int" d2' rfl, kitLT "int" false false (by decide +kernel) (by decide +kernel), ?_⟩
        cases d1
        cases d2
        walk_at "z"
        refine ⟨.int i, .int i, .int _, .int _, rfl, rfl, ?_⟩
        rw [SeqAt.eqv_refl _ rfl]
        exact fin hp
      | str x =>
        refine ⟨_, rfl, Nat.le_of_ble_eq_true rfl, fun p hp => ?_⟩
        have d1' := Dp.mono (Same.new (o := .tup [.ty "list", .ty "tuple"]) hp) d1
        have d2' := Dp.mono (Same.new (o := .tup [.ty "list", .ty "tuple"]) hp) d2
        refine ⟨_, _, _, _, _, false, rfl, upd_same, ltC, tyD "str" d2' rfl, kitLT "str" false false (by decide +kernel) (by decide +kernel), ?_⟩
        cases d1
        cases d2
        walk_at "z"
        refine ⟨.str x, .str x, .str _, .str _, sh, sh, ?_⟩
        rw [SeqAt.eqv_refl _ (SeqAt.canLay_of_shaped sh)]
        walk_at "z"
        exact fin hp
      | list ds =>
        obtain ⟨a1, xs, rfl, s1, r1⟩ := Dp.list_of d1
        obtain ⟨a2, ys, rfl, s2, r2⟩ := Dp.list_of d2
        refine ⟨_, rfl, Nat.le_of_ble_eq_true rfl, fun p hp => ?_⟩
        have sm := Same.new (o := .tup [.ty "list", .ty "tuple"]) hp
        have d1' := Dp.mono sm d1
        have d2' := Dp.mono sm d2
        refine ⟨_, _, _, _, _, true, rfl, upd_same, ltC, tyD "list" d2' rfl, kitLT "list" true false (by decide +kernel) (by decide +kernel), ?_⟩
        walk_at "z"
        refine ⟨_, _, _, _, true, rfl, .ty _, tyD "list" d1' rfl, kit_ty (by decide +kernel), ?_⟩
        walk_at "z"
        refine ⟨_, _, _, _, true, rfl, .ty _, tyD "list" d2' rfl, kit_ty (by decide +kernel), ?_⟩
        walk_at "z"
        refine ⟨_, _, _, _, false, rfl, .ty _, tyD "list" d1' rfl, kit_ty (by decide +kernel), ?_⟩
        walk_at "z"
        refine ⟨_, _, _, _, false, rfl, .ty _, tyD "list" d2' rfl, kit_ty (by decide +kernel), ?_⟩
        walk_at "z"
        have hl : xs.length = ys.length := by rw [DpAll.length r1, DpAll.length r2]
        refine ⟨a1, _, rfl, .inl (SqL.mono sm s1), ?_⟩
        refine ⟨_, rfl, a2, _, rfl, .inl (SqL.mono sm s2), ?_⟩
        refine ⟨rfl, _, rfl, ?_⟩
        with_reducible refine iteDS (by rw [hl]) ?_
        refine ⟨_, rfl, _, rfl, a1, a2, xs, ys, rfl, .inl ⟨SqL.mono sm s1, SqL.mono sm s2, fun D hD => ?_⟩⟩
        refine lc_it (walk_zip (xs := xs) (ys := ys) (n := xs.length) (by omega)) (fun i H' => LcP (upd H p (.tup [.ty "list", .ty "tuple"])) D xs (fun _ => V.bl true) i H') (LcP.start hD) ?_ ?_ ?_
        · intro i H' _ lp
          exact ⟨SqL.mono (sm.trans lp.same) s1, SqL.mono (sm.trans lp.same) s2⟩
        · rintro i x H' _ hi lp ⟨t, x, y, rfl, ht, rfl, hx, hy⟩
          walk_at "z"
          obtain ⟨dd, hd, dx⟩ := DpAll.get r1 hx
          obtain ⟨dd', hd', dy⟩ := DpAll.get r2 hy
          have ed : dd' = dd := Option.some.inj (hd'.symm.trans hd)
          subst ed
          have sx : Same H (upd H' t (.tup [x, y])) := (sm.trans lp.same).trans (Same.new ht)
          obtain ⟨c1, c2⟩ := shaped_mem (.inl sh) (List.mem_of_getElem? hd)
          refine ⟨x, y, _, rfl, Dp.mono sx dx, Dp.mono sx dy, c1, ?_, ?_, fun H4 s4 => ?_⟩
          · have : PyData.depthAll ds + 1 < n + 1 := dep
            omega
          · have h1 := nodes_mem (List.mem_of_getElem? hd)
            have h2 : nodesAll ds + 1 ≤ 1000000 := nod
            omega
          · refine lp.step ((Same.new ht).trans s4) hx rfl ?_
            have h1 := len_nodes ds
            have h2 : nodesAll ds + 1 ≤ 1000000 := nod
            have h3 : sizeLine = 16777216 := by decide +kernel
            rw [DpAll.length r1]
            omega
        · intro H' lp
          refine ⟨D, xs.map fun _ => true, rfl, SqL.of (by rw [lp.done, List.map_map]; rfl), ?_⟩
          have e : (xs.map fun _ => true).all id = true := by simp
          rw [e]
          exact q _ (sm.trans lp.same)
      | tuple ds =>
        obtain ⟨a1, xs, rfl, s1, r1⟩ := Dp.tuple_of d1
        obtain ⟨a2, ys, rfl, s2, r2⟩ := Dp.tuple_of d2
        refine ⟨_, rfl, Nat.le_of_ble_eq_true rfl, fun p hp => ?_⟩
        have sm := Same.new (o := .tup [.ty "list", .ty "tuple"]) hp
        have d1' := Dp.mono sm d1
        have d2' := Dp.mono sm d2
        refine ⟨_, _, _, _, _, true, rfl, upd_same, ltC, tyD "tuple" d2' rfl, kitLT "tuple" false true (by decide +kernel) (by decide +kernel), ?_⟩
        walk_at "z"
        refine ⟨_, _, _, _, false, rfl, .ty _, tyD "tuple" d1' rfl, kit_ty (by decide +kernel), ?_⟩
        walk_at "z"
        refine ⟨_, _, _, _, false, rfl, .ty _, tyD "tuple" d2' rfl, kit_ty (by decide +kernel), ?_⟩
        walk_at "z"
        refine ⟨_, _, _, _, true, rfl, .ty _, tyD "tuple" d1' rfl, kit_ty (by decide +kernel), ?_⟩
        walk_at "z"
        refine ⟨_, _, _, _, true, rfl, .ty _, tyD "tuple" d2' rfl, kit_ty (by decide +kernel), ?_⟩
        walk_at "z"
        have hl : xs.length = ys.length := by rw [DpAll.length r1, DpAll.length r2]
        refine ⟨a1, _, rfl, .inr (SqT.mono sm s1), ?_⟩
        refine ⟨_, rfl, a2, _, rfl, .inr (SqT.mono sm s2), ?_⟩
        refine ⟨rfl, _, rfl, ?_⟩
        with_reducible refine iteDS (by rw [hl]) ?_
        refine ⟨_, rfl, _, rfl, a1, a2, xs, ys, rfl, .inr ⟨SqT.mono sm s1, SqT.mono sm s2, fun D hD => ?_⟩⟩
        refine lc_it (walk_zipT (xs := xs) (ys := ys) (n := xs.length) (by omega)) (fun i H' => LcP (upd H p (.tup [.ty "list", .ty "tuple"])) D xs (fun _ => V.bl true) i H') (LcP.start hD) ?_ ?_ ?_
        · intro i H' _ lp
          exact ⟨SqT.mono (sm.trans lp.same) s1, SqT.mono (sm.trans lp.same) s2⟩
        · rintro i x H' _ hi lp ⟨t, x, y, rfl, ht, rfl, hx, hy⟩
          walk_at "z"
          obtain ⟨dd, hd, dx⟩ := DpAll.get r1 hx
          obtain ⟨dd', hd', dy⟩ := DpAll.get r2 hy
          have ed : dd' = dd := Option.some.inj (hd'.symm.trans hd)
          subst ed
          have sx : Same H (upd H' t (.tup [x, y])) := (sm.trans lp.same).trans (Same.new ht)
          obtain ⟨c1, c2⟩ := shaped_mem (.inr sh) (List.mem_of_getElem? hd)
          refine ⟨x, y, _, rfl, Dp.mono sx dx, Dp.mono sx dy, c1, ?_, ?_, fun H4 s4 => ?_⟩
          · have : PyData.depthAll ds + 1 < n + 1 := dep
            omega
          · have h1 := nodes_mem (List.mem_of_getElem? hd)
            have h2 : nodesAll ds + 1 ≤ 1000000 := nod
            omega
          · refine lp.step ((Same.new ht).trans s4) hx rfl ?_
            have h1 := len_nodes ds
            have h2 : nodesAll ds + 1 ≤ 1000000 := nod
            have h3 : sizeLine = 16777216 := by decide +kernel
            rw [DpAll.length r1]
            omega
        · intro H' lp
          refine ⟨D, xs.map fun _ => true, rfl, SqL.of (by rw [lp.done, List.map_map]; rfl), ?_⟩
          have e : (xs.map fun _ => true).all id = true := by simp
          rw [e]
          exact q _ (sm.trans lp.same)
/-! ### the script's numbers, those behind added on -/
def sp__law_folded (K : PySem.W.Frag) : Sp := fun vs H Q _ => ∃ (a : Addr) (ns : List Int) (m : Nat), vs = [.ref a, .int (m : Int)] ∧ SqL K H a (ns.map V.int) ∧ ns.length ≤ 63 ∧ 0 < m ∧ m ≤ 63 ∧
  ∀ (p : Addr) (ms : List Int) (H' : Hp), H p = none → Same H H' → H' p = some (.lst (ms.map V.int)) → ms.length ≤ m → Q (.ref p) H'
theorem ok__law_folded {P : Program} {w : World} {K : PySem.W.Frag} {mg : Str → Option Value} {base : Heap} {ad : Ad} (T : Txt K mg ad) : FnOk P w K mg base CX0 1 ad.f__law_folded ad.d__law_folded ["_law_script", "_law_size"] (sp__law_folded K) := by
  refine T.F__law_folded.ok sc__law_folded (fun vs H Q E h => ?_) (fun cdv A outer s H vs Q E hr h => ?_)
  · obtain ⟨a, ns, m, rfl, _⟩ := h
    rfl
  · obtain ⟨a, ns, m, rfl, hS, hl, m0, m1, q⟩ := h
    refine ⟨_, (pss_cons (ps_set (i := 2) sc__law_folded.nd rfl (Or.inl rfl) (pe_callTy call_list_of (by rfl) T.n_list (by decide +kernel) (pa_cons (pe_slice sl_list (pv 0) po_none (po_some (pv 1))) pa_nil)))
    (pss_cons (ps_for PassesOwn.never rfl (pi_enum (by rfl) T.n_enumerate (pa_cons (pe_slice sl_list (pv 0) (po_some (pv 1)) (po_some pe_int)) pa_nil)) (pg_tup (by rfl) (pgs_cons (pg_name (i := 3) sc__law_folded.nd rfl (Or.inl rfl)) (pgs_cons (pg_name (i := 4) sc__law_folded.nd rfl (Or.inl rfl)) pgs_nil)))
    (pss_one (ps_asg (pe_op op_add (pe_ix ix_list (pv 2) (pe_op op_mod (pv 3) (pv 1)) (fun _ _ => rfl)) (pe_op op_mul (pv 4) (pe_op op_add (pv 3) pe_int))) (pg_sub (pv 2) (pe_op op_mod (pv 3) (pv 1)) set_list))))
    (pss_one (ps_ret (pv 2))))), ?_⟩
    refine ⟨_, rfl, _, rfl, _, rfl, a, _, rfl, hS, fun p hp => ?_⟩
    refine ⟨p, _, rfl, .inl (SqL.of upd_same), fun c hc => ?_⟩
    have e1 : cutV (ns.map V.int) none (some (m : Int)) = (ns.take m).map V.int := by
      unfold cutV
      rw [HT.sIx_none, HT.sIx_nat, List.length_map]
      simp
    have hcp : c ≠ p := (ne_of_none upd_same hc).symm
    have s1 : Same H (upd (upd H p (.lst (cutV (ns.map V.int) none (some (m : Int))))) c (.lst (cutV (ns.map V.int) none (some (m : Int))))) := (Same.new hp).trans (Same.new hc)
    refine ⟨_, rfl, _, rfl, _, rfl, _, rfl, a, _, rfl, s1.seq hS, fun p2 hp2 => ?_⟩
    have e2 : cutV (ns.map V.int) (some (m : Int)) (some 63) = (ns.drop m).map V.int := by
      unfold cutV
      have e63 : (63 : Int) = ((63 : Nat) : Int) := rfl
      rw [e63, HT.sIx_nat, HT.sIx_nat, List.length_map, ← List.map_drop, ← List.map_take]
      congr 1
      rw [List.take_of_length_le (by rw [List.length_drop]; omega)]
      by_cases h : m ≤ ns.length
      · rw [Nat.min_eq_left h]
      · rw [Nat.min_eq_right (by omega), List.drop_length, List.drop_eq_nil_of_le (by omega)]
    rw [e1] at s1 hp2 ⊢
    rw [e2]
    have hcp2 : c ≠ p2 := ne_of_none upd_same hp2
    refine ⟨p2, _, rfl, SqL.of upd_same, ?_⟩
    have c0 : H c = none := by rw [upd_ne hcp] at hc; exact hc
    refine for_it (walk_enum (xs := (ns.drop m).map V.int)) (fun i σ H' => Same H H' ∧ H' p2 = some (.lst ((ns.drop m).map V.int)) ∧ (∃ ms : List Int, H' c = some (.lst (ms.map V.int)) ∧ ms.length = min m ns.length) ∧ ∃ v3 v4, σ = [some (.ref a), some (.int (m : Int)), some (.ref c), v3, v4])
      ⟨s1.trans (Same.new hp2), upd_same, ⟨ns.take m, by rw [upd_ne hcp2, upd_same], by rw [List.length_take]⟩, none, none, rfl⟩ (fun i σ H' _ h => SqL.of h.2.1) ?_ ?_
    · rintro i x σ H' _ hi ⟨sm, hp2', ⟨ms, hms, lms⟩, v3, v4, rfl⟩ ⟨t, x, y, rfl, ht, rfl, hx, hy⟩
      have hx' : x = V.int (i : Int) := (Option.some.inj hx).symm
      subst hx'
      obtain ⟨u, rfl⟩ : ∃ u : Int, y = V.int u := by
        dsimp only at hy
        rw [List.getElem?_map] at hy
        cases e : (ns.drop m)[i]? with
        | none => rw [e] at hy; cases hy
        | some u => rw [e] at hy; exact ⟨u, (Option.some.inj hy).symm⟩
      have hi' : i < ns.length - m := by simpa using hi
      have ct : c ≠ t := ne_of_none hms ht
      have p2t : p2 ≠ t := ne_of_none hp2' ht
      have pc : p2 ≠ c := hcp2.symm
      have hms' : upd H' t (.tup [.int (i : Int), .int u]) c = some (.lst (ms.map V.int)) := by rw [upd_ne ct]; exact hms
      have em : ((i : Int) % (m : Int)) = ((i % m : Nat) : Int) := by omega
      have hmod : i % m < m := Nat.mod_lt _ m0
      have him : i % m < ms.length := by omega
      have at1 : atI (ms.map V.int) ((i : Int) % (m : Int)) = some (V.int ms[i % m]) := by
        rw [em]
        exact atI_nat (by rw [List.getElem?_map, List.getElem?_eq_getElem him]; rfl)
      walk_at "z"
      refine ⟨c, _, _, _, rfl, rfl, SqL.of hms', at1, ?_⟩
      walk_at "z"
      refine ⟨c, _, _, i % m, rfl, rfl, hms', ?_, ?_⟩
      · rw [em]
        exact ixN_nat (by rw [List.length_map]; exact him)
      refine ⟨?_, ?_, ⟨ms.set (i % m) (ms[i % m] + u * ((i : Int) + 2)), ?_, ?_⟩, _, _, rfl⟩
      · intro b o e
        rw [upd_ne (ne_of_none e c0), upd_ne (ne_of_none (sm _ _ e) ht)]
        exact sm _ _ e
      · rw [upd_ne pc, upd_ne p2t]
        exact hp2'
      · rw [upd_same, List.map_set]
      · rw [List.length_set]
        exact lms
    · rintro σ H' ⟨sm, hp2', ⟨ms, hms, lms⟩, v3, v4, rfl⟩
      refine ⟨_, rfl, ?_⟩
      exact q c ms H' c0 sm hms (by omega)
/-- the first pair whose price is not above the amount -/
def firstV (l : List (Int × Int)) (m : Int) : V := match l.find? (fun p => decide (p.2 ≤ m)) with
  | some p => .int p.1
  | none => .non
theorem find_range {pr : Nat → Int} {m : Int} : ∀ (n a : Nat), 1 ≤ a → m < pr (a - 1) → (List.range' a n).find? (fun k => decide (pr k ≤ m)) = ((List.range' a n).filter (fun k => decide (pr k < pr (k - 1)))).find? (fun k => decide (pr k ≤ m)) := by
  intro n
  induction n with
  | zero => intro a _ _; rfl
  | succ n ih =>
    intro a ha h
    rw [List.range'_succ, List.find?_cons, List.filter_cons]
    by_cases h1 : pr a ≤ m
    · have h2 : pr a < pr (a - 1) := by omega
      simp [h1, h2]
    · have := ih (a + 1) (by omega) (by rw [Nat.add_sub_cancel]; omega)
      by_cases h2 : pr a < pr (a - 1)
      · simp [h1, h2, this]
      · simp [h1, h2, this]
theorem firstV_at {l : List (Int × Int)} {m : Int} {i : Nat} {p : Int × Int} (h : l[i]? = some p) (hp : p.2 ≤ m) (ha : ∀ q ∈ l.take i, m < q.2) : firstV l m = .int p.1 := by
  have hi : i < l.length := (List.getElem?_eq_some_iff.mp h).1
  have e : l = l.take i ++ p :: l.drop (i + 1) := by
    have := (List.getElem?_eq_some_iff.mp h).2
    rw [← this, List.getElem_cons_drop, List.take_append_drop]
  have n : (l.take i).find? (fun q => decide (q.2 ≤ m)) = none := List.find?_eq_none.mpr fun q hq => by
    have := ha q hq
    simp only [decide_eq_true_eq]
    omega
  unfold firstV
  rw [e, List.find?_append, n, Option.none_or, List.find?_cons, decide_eq_true hp]
theorem firstV_none {l : List (Int × Int)} {m : Int} (ha : ∀ q ∈ l, m < q.2) : firstV l m = .non := by
  have n : l.find? (fun q => decide (q.2 ≤ m)) = none := List.find?_eq_none.mpr fun q hq => by
    have := ha q hq
    simp only [decide_eq_true_eq]
    omega
  unfold firstV
  rw [n]
def sp_first_day (K : PySem.W.Frag) (C : Addr) : Sp := fun vs H Q _ => ∃ (v : V) (t : Addr) (r : List (Int × Int)) (f : Five) (m : Int) (leave : Bool), vs = [v, .ref t, .int m, .bl leave] ∧ Dp K H v (ruleD r) ∧ TagAt C H t f ∧ f.Ok ∧ RuleW r ∧
  ∀ (H' : Hp), Same H H' → Q (firstV (fallsL r f leave) m) H'
theorem ok_first_day {P : Program} {w : World} {K : PySem.W.Frag} {mg : Str → Option Value} {base : Heap} {ad : Ad} (T : Txt K mg ad) : FnOk P w K mg base CX0 5 ad.f_first_day ad.d_first_day ["rule", "tag", "amount", "leave"] (sp_first_day K ad.C_Tag) := by
  have G_falls := ok_falls (P := P) (w := w) (base := base) T
  obtain ⟨ikb_falls_2_leave, kb_falls_2_leave⟩ := T.kb_falls_2_leave
  refine okD T.F_first_day sc_first_day (fun vs H Q E h => ?_) (fun cdv A outer s H vs Q E hr h => ?_)
  · obtain ⟨v, t, r, f, m, leave, rfl, _⟩ := h
    rfl
  · obtain ⟨v, t, r, f, m, leave, rfl, hd, ht, ok, rw1, q⟩ := h
    refine ⟨_, (pss_cons (ps_for PassesOwn.never rfl (pi_list (pe_callN G_falls (hr.mono (by decide)) rfl T.g_falls T.F_falls.kp kb_falls_2_leave pass0 (pa_cons (pv 0) (pa_cons (pv 1) pa_nil)) (pk_cons (pv 3) pk_nil))) (pg_tup (by rfl) (pgs_cons (pg_name (i := 4) sc_first_day.nd rfl (Or.inl rfl)) (pgs_cons (pg_name (i := 5) sc_first_day.nd rfl (Or.inl rfl)) pgs_nil)))
    (pss_one (ps_if (pt_cmpR op_le (pv 5) (pv 2) (nomark _)) (pss_one (ps_ret (pv 4))) pss_nil)))
    (pss_one (ps_ret pe_non))), ?_⟩
    refine ⟨_, rfl, _, rfl, _, rfl, rfl, rfl, v, t, r, f, leave, rfl, hd, ht, ok, rw1, fun p xs H1 hp s1 hl dl => ?_⟩
    have lx : xs.length = (fallsL r f leave).length := by rw [DpAll.length dl, List.length_map]
    refine ⟨p, rfl, ⟨_, SqL.of hl⟩, ?_⟩
    refine for_it (walk_list (xs := xs)) (fun i σ H' => Same H1 H' ∧ (∀ q ∈ (fallsL r f leave).take i, m < q.2) ∧ ∃ v4 v5 : Option V, σ = [some v, some (.ref t), some (.int m), some (.bl leave), v4, v5])
      ⟨fun _ _ h => h, by simp, none, none, rfl⟩ (fun i σ H' _ h => SqL.of (h.1 _ _ hl)) ?_ ?_
    · rintro i x σ _ H3 hi ⟨s3, ha, v4, v5, rfl⟩ ⟨rfl, hx⟩
      obtain ⟨⟨dy, pr⟩, hpr, tt, htt, rfl⟩ := ruleD_get (r := fallsL r f leave) dl hx
      refine ⟨tt, _, rfl, SqT.mono s3 htt, rfl, ?_⟩
      walk_at "z"
      with_reducible refine iteD (fun h => ?_) (fun h => ?_)
      · walk_at "z"
        have e := firstV_at hpr h ha
        rw [← e]
        exact q _ (s1.trans s3)
      · refine ⟨s3, ?_, _, _, rfl⟩
        rw [List.take_add_one, hpr]
        intro y hy
        rcases List.mem_append.mp hy with hy | hy
        · exact ha y hy
        · rw [List.mem_singleton.mp hy]
          exact Int.not_le.mp h
    · rintro σ H3 ⟨s3, ha, v4, v5, rfl⟩
      rw [lx, List.take_length] at ha
      have e := firstV_none ha
      have q' := q _ (s1.trans s3)
      rw [e] at q'
      exact q'
def sp__law_prices (K : PySem.W.Frag) : Sp := fun vs H Q _ => ∃ (v u : V) (r : List (Int × Int)) (f : Five) (leave : Bool), vs = [v, u, .bl leave] ∧ Dp K H v (ruleD r) ∧ Dp K H u (fiveD f) ∧ f.Ok ∧
  ∀ (p : Addr) (H' : Hp), H p = none → Same H H' → H' p = some (.lst ((List.range 1001).map fun k : Nat => V.int (priceOn r f (f.day + (k : Int)) leave))) → Q (.ref p) H'
theorem ok__law_prices {P : Program} {w : World} {K : PySem.W.Frag} {mg : Str → Option Value} {base : Heap} {ad : Ad} (T : Txt K mg ad) : FnOk P w K mg base CX0 3 ad.f__law_prices ad.d__law_prices ["_law_rule_here", "_law_five_here", "_law_freely"] (sp__law_prices K) := by
  have G__law_day_price := ok__law_day_price (P := P) (w := w) (base := base) T
  refine T.F__law_prices.ok sc__law_prices (fun vs H Q E h => ?_) (fun cdv A outer s H vs Q E hr h => ?_)
  · obtain ⟨v, u, r, f, leave, rfl, _⟩ := h
    rfl
  · obtain ⟨v, u, r, f, leave, rfl, hd, hf, ok, q⟩ := h
    obtain ⟨a, rfl, sq⟩ := fiveD_of hf
    refine ⟨_, (pss_one (ps_ret (pe_lc (own := [("_law_when", 3)]) (g := gName 3) (by rfl) sc__law_prices.nd (pi_range2 rfl T.n_range (pa_cons (pe_ix ix_tup (pv 1) pe_int (fun _ _ => rfl)) (pa_cons (pe_op op_add (pe_ix ix_tup (pv 1) pe_int (fun _ _ => rfl)) pe_int) pa_nil))) (blkOk_by (own := [("_law_when", 3)]) (N := N__law_prices) (sc := defScope s__law_prices) (by decide +kernel)) (fun _ _ _ _ _ => (pg_name (i := 3) sc__law_prices.nd rfl (Or.inl rfl))) (fun _ _ _ _ _ => pts_nil) (fun _ _ _ _ _ => (pe_call G__law_day_price (hr.mono (by decide)) rfl T.g__law_day_price T.F__law_day_price.kp T.b__law_day_price .nil pass0 (pa_cons (pv 0) (pa_cons (pv 1) (pa_cons (pv 3) (pa_cons (pv 2) pa_nil))))))))), ?_⟩
    have d1 := ok.d1
    have d2 := ok.d2
    refine ⟨_, rfl, a, _, _, _, rfl, rfl, sq, rfl, ?_⟩
    refine ⟨_, rfl, a, _, _, _, rfl, rfl, sq, rfl, ?_⟩
    refine ⟨_, _, rfl, rfl, ?_⟩
    refine ⟨_, _, rfl, ⟨by omega, by omega, by omega, by omega⟩, fun D hD => ?_⟩
    rw [show (f.day + 1001 - f.day).toNat = 1001 by omega]
    refine lc_it (walk_range (lo := f.day) (n := 1001)) (fun i H' => LcP H D (List.range 1001) (fun k : Nat => V.int (priceOn r f (f.day + (k : Int)) leave)) i H') (LcP.start hD) (fun _ _ _ _ => trivial) ?_ ?_
    · rintro i x _ H2 hi lp ⟨rfl, rfl⟩
      refine ⟨rfl, ?_⟩
      walk_at "z"
      refine ⟨_, _, r, f, f.day + (i : Int), leave, rfl, Dp.mono lp.same hd, Dp.mono lp.same hf, ok, fun H3 s3 => ?_⟩
      exact lp.step s3 (List.getElem?_range hi) rfl (by rw [List.length_range]; decide)
    · intro H2 lp
      exact q _ _ hD lp.same (LcP.done lp)
def firstK (pr : Nat → Int) (m : Int) (b : Int) : V := match (List.range 1001).find? (fun k => decide (pr k ≤ m)) with
  | some k => .int (b + (k : Int))
  | none => .non
theorem firstK_at {pr : Nat → Int} {m b : Int} {i : Nat} (hi : i < 1001) (h : pr i ≤ m) (ha : ∀ k, k < i → m < pr k) : firstK pr m b = .int (b + (i : Int)) := by
  have e : (List.range 1001).find? (fun k => decide (pr k ≤ m)) = some i := by
    rw [List.find?_range_eq_some]
    refine ⟨decide_eq_true h, List.mem_range.mpr hi, fun j hj => ?_⟩
    have := ha j hj
    simp
    omega
  unfold firstK
  rw [e]
theorem firstK_none {pr : Nat → Int} {m b : Int} (ha : ∀ k, k < 1001 → m < pr k) : firstK pr m b = .non := by
  have e : (List.range 1001).find? (fun k => decide (pr k ≤ m)) = none := List.find?_eq_none.mpr fun k hk => by
    have := ha k (List.mem_range.mp hk)
    simp only [decide_eq_true_eq]
    omega
  unfold firstK
  rw [e]
def sp__law_due (K : PySem.W.Frag) : Sp := fun vs H Q _ => ∃ (a : Addr) (pr : Nat → Int) (b m : Int), vs = [.ref a, .int b, .int m] ∧ SqL K H a ((List.range 1001).map fun k : Nat => V.int (pr k)) ∧ ∀ H', Same H H' → Q (firstK pr m b) H'
theorem ok__law_due {P : Program} {w : World} {K : PySem.W.Frag} {mg : Str → Option Value} {base : Heap} {ad : Ad} (T : Txt K mg ad) : FnOk P w K mg base CX0 1 ad.f__law_due ad.d__law_due ["_law_prices_here", "_law_begin", "_law_amount"] (sp__law_due K) := by
  skip
  refine T.F__law_due.ok sc__law_due (fun vs H Q E h => ?_) (fun cdv A outer s H vs Q E hr h => ?_)
  · obtain ⟨a, pr, b, m, rfl, _⟩ := h
    rfl
  · obtain ⟨a, pr, b, m, rfl, sq, q⟩ := h
    refine ⟨_, (pss_cons (ps_for PassesOwn.never rfl (pi_enum (by rfl) T.n_enumerate (pa_cons (pv 0) pa_nil)) (pg_tup (by rfl) (pgs_cons (pg_name (i := 3) sc__law_due.nd rfl (Or.inl rfl)) (pgs_cons (pg_name (i := 4) sc__law_due.nd rfl (Or.inl rfl)) pgs_nil)))
    (pss_one (ps_if (pt_cmpR op_le (pv 4) (pv 2) (nomark _)) (pss_one (ps_ret (pe_op op_add (pv 1) (pv 3)))) pss_nil)))
    (pss_one (ps_ret pe_non))), ?_⟩
    refine ⟨_, rfl, a, _, rfl, sq, ?_⟩
    refine for_it (walk_enum (xs := (List.range 1001).map fun k : Nat => V.int (pr k))) (fun i σ H' => Same H H' ∧ (∀ k, k < i → m < pr k) ∧ ∃ v3 v4 : Option V, σ = [some (.ref a), some (.int b), some (.int m), v3, v4])
      ⟨fun _ _ h => h, (fun _ h => absurd h (Nat.not_lt_zero _)), none, none, rfl⟩ (fun i σ H' _ h => SqL.mono h.1 sq) ?_ ?_
    · rintro i x σ _ H3 hi ⟨s3, ha, v3, v4, rfl⟩ ⟨t, x, y, rfl, ht, rfl, hx, hy⟩
      cases hx
      have hi' : i < 1001 := by simpa using hi
      have ey : y = V.int (pr i) := by
        have hy : ((List.range 1001).map fun k : Nat => V.int (pr k))[i]? = some y := hy
        rw [List.getElem?_map, List.getElem?_range hi'] at hy
        exact (Option.some.inj hy).symm
      subst ey
      refine ⟨t, _, rfl, SqT.of upd_same, rfl, ?_⟩
      walk_at "z"
      with_reducible refine iteD (fun h => ?_) (fun h => ?_)
      · walk_at "z"
        have e : firstK pr m b = V.int (b + (i : Int)) := firstK_at hi' h ha
        have q' := q _ (s3.trans (Same.new (o := .tup [.int (i : Int), .int (pr i)]) ht))
        rw [e] at q'
        exact q'
      · refine ⟨s3.trans (Same.new ht), fun k hk => ?_, _, _, rfl⟩
        by_cases hki : k = i
        · rw [hki]
          exact Int.not_le.mp h
        · exact ha k (by omega)
    · rintro σ H3 ⟨s3, ha, v3, v4, rfl⟩
      have e : firstK pr m b = V.non := firstK_none fun k hk => ha k (by simpa using hk)
      have q' := q _ s3
      rw [e] at q'
      exact q'
theorem firstK_is {r : List (Int × Int)} (g : RuleW r) {f : Five} (ok : f.Ok) (leave : Bool) (m : Int) : firstV (fallsL r f leave) m = firstK (fun k => priceOn r f (f.day + (k : Int)) leave) m f.day := by
  rw [← due_is_falls g ok, dueA_filter]
  have e0 : priceOn r f f.day leave = prAge r f leave ((0 : Nat) : Int) := by
    show _ = priceOn r f (f.day + ((0 : Nat) : Int)) leave
    congr 1
    omega
  have er : List.range 1001 = 0 :: List.range' 1 1000 := by rw [List.range_eq_range', List.range'_succ]
  unfold firstV firstK
  rw [er, List.find?_cons, List.find?_cons]
  have ek : ∀ k : Nat, priceOn r f (f.day + (k : Int)) leave = prAge r f leave (k : Int) := fun _ => rfl
  simp only [ek]
  by_cases h : prAge r f leave ((0 : Nat) : Int) ≤ m
  · rw [e0, decide_eq_true h]
    simp
  · rw [e0, decide_eq_false h]
    have k := find_range (pr := fun k : Nat => prAge r f leave (k : Int)) (m := m) 1000 1 (Nat.le_refl _) (Int.not_le.mp h)
    have ef : (List.range' 1 1000).filter (fallsAt r f leave) = (List.range' 1 1000).filter (fun k : Nat => decide (prAge r f leave (k : Int) < prAge r f leave ((k - 1 : Nat) : Int))) := by
      refine List.filter_congr fun k hk => ?_
      have := (List.mem_range'_1.mp hk).1
      unfold fallsAt
      rw [show ((k - 1 : Nat) : Int) = (k : Int) - 1 by omega]
    dsimp only at k ⊢
    rw [k, ef, List.find?_map]
    have e2 : List.find? ((fun p : Int × Int => decide (p.2 ≤ m)) ∘ fun k : Nat => (f.day + (k : Int), prAge r f leave (k : Int))) ((List.range' 1 1000).filter (fun k : Nat => decide (prAge r f leave (k : Int) < prAge r f leave ((k - 1 : Nat) : Int)))) = List.find? (fun k : Nat => decide (prAge r f leave (k : Int) ≤ m)) ((List.range' 1 1000).filter (fun k : Nat => decide (prAge r f leave (k : Int) < prAge r f leave ((k - 1 : Nat) : Int)))) := rfl
    rw [e2]
    generalize List.find? (fun k : Nat => decide (prAge r f leave (k : Int) ≤ m)) _ = o
    cases o <;> rfl
def sp__law_asked (K : PySem.W.Frag) (C : Addr) : Sp := fun vs H Q _ => ∃ (B : Addr) (v : V) (t : Addr) (r : List (Int × Int)) (f : Five) (m : Int) (leave : Bool) (n : Nat), vs = [.ref B, v, .ref t, .int m, .bl leave] ∧ Box H B n ∧ n < 100000 ∧ Dp K H v (ruleD r) ∧ TagAt C H t f ∧ f.Ok ∧ RuleW r ∧
  ∀ (H' : Hp), Fr [B] H H' → Box H' B (n + 1) → Q (firstV (fallsL r f leave) m) H'
theorem ok__law_asked {P : Program} {w : World} {K : PySem.W.Frag} {mg : Str → Option Value} {base : Heap} {ad : Ad} (T : Txt K mg ad) : FnOk P w K mg base CX0 6 ad.f__law_asked ad.d__law_asked ["_law_box_here", "_law_rule_here", "_law_tag", "_law_amount", "_law_freely"] (sp__law_asked K ad.C_Tag) := by
  have G__law_take := ok__law_take (P := P) (w := w) (base := base) T
  have G_first_day := ok_first_day (P := P) (w := w) (base := base) T
  obtain ⟨db_first_day_3, vb_first_day_3, b_first_day_3⟩ := T.b_first_day_3
  obtain ⟨db_first_day_4, vb_first_day_4, b_first_day_4⟩ := T.b_first_day_4
  obtain ⟨ikb_first_day_3_leave, kb_first_day_3_leave⟩ := T.kb_first_day_3_leave
  refine T.F__law_asked.ok sc__law_asked (fun vs H Q E h => ?_) (fun cdv A outer s H vs Q E hr h => ?_)
  · obtain ⟨B, v, t, r, f, m, leave, n, rfl, _⟩ := h
    rfl
  · obtain ⟨B, v, t, r, f, m, leave, n, rfl, hB, hn, hd, ht, ok, rw1, q⟩ := h
    refine ⟨_, (pss_cons (ps_set (i := 5) sc__law_asked.nd rfl (Or.inl rfl) (pe_call G__law_take (hr.mono (by decide)) rfl T.g__law_take T.F__law_take.kp T.b__law_take .nil pass0 (pa_cons (pv 0) (pa_cons pe_int pa_nil))))
    (pss_cons (ps_if (PW.pt (pw_and (pt_cmpR op_eq (pv 5) pe_int (nomark _)) (pw_and1 (pt_not (pt_val (pv 4)))))) (pss_one (ps_ret (pe_call G_first_day (hr.mono (by decide)) rfl T.g_first_day T.F_first_day.kp b_first_day_3 vb_first_day_3 pass0 (pa_cons (pv 1) (pa_cons (pv 2) (pa_cons (pv 3) pa_nil)))))) pss_nil)
    (pss_one (ps_ret (pe_ifExp (pt_cmpR op_eq (pv 5) pe_int (nomark _)) (pe_call G_first_day (hr.mono (by decide)) rfl T.g_first_day T.F_first_day.kp b_first_day_4 vb_first_day_4 pass0 (pa_cons (pv 1) (pa_cons (pv 2) (pa_cons (pv 3) (pa_cons (pv 4) pa_nil))))) (pe_callN G_first_day (hr.mono (by decide)) rfl T.g_first_day T.F_first_day.kp kb_first_day_3_leave pass0 (pa_cons (pv 1) (pa_cons (pv 2) (pa_cons (pv 3) pa_nil))) (pk_cons (pv 4) pk_nil))))))), ?_⟩
    refine ⟨_, rfl, B, 3, _, rfl, hB, by decide, by decide, by omega, fun r5 H5 a5 b5 f5 B5 => ?_⟩
    have hd5 := Dp.keep (f5.kt hB) hd (noL_rule r)
    have ht5 := ht.keep (f5.kt hB)
    have two : tIf (tTest (tOp rEq (tVar 5) (tC (V.int 1)))) (tCall (sp_first_day K ad.C_Tag) [] E0 (tCons (tVar 1) (tCons (tVar 2) (tCons (tVar 3) (tCons (tVar 4) tNil)))))
        (tCallN 3 [Str.ofString "leave"].length (sp_first_day K ad.C_Tag) (fun vs zs => vs ++ List.take 1 (List.drop 0 zs)) E0 (tCons (tVar 1) (tCons (tVar 2) (tCons (tVar 3) tNil))) (tCons (tVar 4) tNil))
        (List.set (L2.start N__law_asked [V.ref B, v, V.ref t, V.int m, V.bl leave]) 5 (some (V.int r5))) H5 Q := by
      walk_at "z"
      with_reducible refine iteD (fun h => ?_) (fun h => ?_)
      · refine ⟨_, rfl, _, rfl, _, rfl, _, rfl, v, t, r, f, m, leave, rfl, hd5, ht5, ok, rw1, fun H6 s6 => ?_⟩
        exact q _ (f5.trans (Same.fr s6)) (B5.keep s6)
      · refine ⟨_, rfl, _, rfl, _, rfl, _, rfl, rfl, rfl, v, t, r, f, m, leave, rfl, hd5, ht5, ok, rw1, fun H6 s6 => ?_⟩
        exact q _ (f5.trans (Same.fr s6)) (B5.keep s6)
    walk_at "z"
    with_reducible refine iteD (fun h => ?_) (fun h => ?_)
    · cases leave with
      | true =>
        refine ⟨_, rfl, _, rfl, ?_⟩
        exact two
      | false =>
        walk_at "z"
        refine ⟨v, t, r, f, m, false, rfl, hd5, ht5, ok, rw1, fun H6 s6 => ?_⟩
        exact q _ (f5.trans (Same.fr s6)) (B5.keep s6)
    · exact two
theorem shaped_five {f : Five} (ok : f.Ok) : SeqAt.shaped (fiveD f) = true := by
  have h : PyData.strOk f.owner = true := by
    show f.owner.cps.all (· < 0x110000) = true
    refine Array.all_eq_true_iff_forall_mem.mpr fun c hc => ?_
    have := ok.owner.small c (Array.mem_toList_iff.mpr hc)
    exact decide_eq_true (by omega)
  show ((PyData.strOk f.owner && (true && (true && (true && (true && true))))) && decide ((fiveD f).depth ≤ 64)) = true
  rw [h]
  rfl
theorem same_set {H H' : Hp} {p : Addr} {o : HO} (s : Same H H') (h : H p = none) : Same H (upd H' p o) := fun a u e => by
  rw [upd_ne (ne_of_none e h)]
  exact s a u e
theorem fallsL_nodes {r : List (Int × Int)} (h : r.length ≤ 6) (f : Five) (leave : Bool) : nodes (.list ((fallsL r f leave).map pairD)) ≤ 1000000 := by
  obtain ⟨_, _, l⟩ := fallsA_last r f leave r.length (Nat.le_refl _)
  have e := (lay_pairs (fallsL r f leave)).2.2
  show nodesAll ((fallsL r f leave).map pairD) + 1 ≤ 1000000
  have l' : (fallsL r f leave).length ≤ r.length + 1 := l
  rw [e]
  omega
theorem fallsL_small {r : List (Int × Int)} (h : r.length ≤ 6) (f : Five) (leave : Bool) : (fallsL r f leave).length < sizeLine := by
  obtain ⟨_, _, l⟩ := fallsA_last r f leave r.length (Nat.le_refl _)
  have l' : (fallsL r f leave).length ≤ r.length + 1 := l
  exact Nat.lt_of_le_of_lt (Nat.le_trans l' (Nat.succ_le_succ h)) (by decide)
theorem fallsL_dep (r : List (Int × Int)) (f : Five) (leave : Bool) : (PyData.list ((fallsL r f leave).map pairD)).depth < 8 := by
  have e := (lay_pairs (fallsL r f leave)).2.1
  show PyData.depthAll ((fallsL r f leave).map pairD) + 1 < 8
  omega
theorem firstK_data {K : PySem.W.Frag} (pr : Nat → Int) (m b : Int) : ∃ d : PyData, (∀ H, Dp K H (firstK pr m b) d) ∧ SeqAt.shaped d = true ∧ d.depth < 8 ∧ nodes d ≤ 1000000 := by
  unfold firstK
  split
  · exact ⟨_, fun _ => .int _, rfl, by show 0 < 8; decide, by show 1 ≤ 1000000; decide⟩
  · exact ⟨_, fun _ => .non, rfl, by show 0 < 8; decide, by show 1 ≤ 1000000; decide⟩
def sp__law_right (K : PySem.W.Frag) : Sp := fun vs H Q _ => ∃ (B : Addr), vs = [.ref B] ∧ Box H B 0 ∧ ∀ H', Fr [B] H H' → Q (.bl true) H'
theorem ok__law_right {P : Program} {w : World} {K : PySem.W.Frag} {mg : Str → Option Value} {base : Heap} {ad : Ad} (T : Txt K mg ad) : FnG P w K mg base 9 ad.f__law_right ad.d__law_right ["_law_box_here"] (sp__law_right K) := by
  have G__law_names := ok__law_names (P := P) (w := w) (base := base) T
  have G__law_rule := ok__law_rule (P := P) (w := w) (base := base) T
  have G_falls := ok_falls (P := P) (w := w) (base := base) T
  have G__law_five := ok__law_five (P := P) (w := w) (base := base) T
  have G__law_made := ok__law_made (P := P) (w := w) (base := base) T
  have G__law_prices := ok__law_prices (P := P) (w := w) (base := base) T
  have G__law_take := ok__law_take (P := P) (w := w) (base := base) T
  have G__law_due := ok__law_due (P := P) (w := w) (base := base) T
  have G__law_same := ok__law_same (P := P) (w := w) (base := base) T 8
  have G__law_fields := ok__law_fields (P := P) (w := w) (base := base) T
  have G__law_asked := ok__law_asked (P := P) (w := w) (base := base) T
  obtain ⟨db_falls_3, vb_falls_3, b_falls_3⟩ := T.b_falls_3
  refine okG T.F__law_right sc__law_right (fun vs H Q E h => ?_) (fun cdv A outer s H vs Q E hr hg h => ?_)
  · obtain ⟨B, rfl, _⟩ := h
    rfl
  · obtain ⟨B, rfl, hB, q⟩ := h
    refine ⟨_, (pss_cons (ps_par (i := 1) (j := 2) (by rfl) sc__law_right.nd rfl rfl (by decide) rfl rfl (pa_cons (pe_call G__law_names (hr.mono (by decide)) rfl T.g__law_names T.F__law_names.kp T.b__law_names .nil pass0 (pa_cons (pv 0) (pa_cons pe_int pa_nil))) (pa_cons (pe_call G__law_rule (hr.mono (by decide)) rfl T.g__law_rule T.F__law_rule.kp T.b__law_rule .nil pass0 (pa_cons (pv 0) pa_nil)) pa_nil)) (by rfl))
    (pss_cons (ps_set (i := 3) sc__law_right.nd rfl (Or.inl rfl) (pe_callB (call_reprD hg hr.units) (by rfl) T.n_repr (by decide +kernel) (pa_cons (pv 2) pa_nil)))
    (pss_cons (ps_for PassesOwn.never rfl (pi_range1 rfl T.n_range (pa_cons pe_int pa_nil)) (pg_name (i := 4) sc__law_right.nd rfl (Or.inl rfl))
    (pss_cons (ps_par (i := 5) (j := 6) (by rfl) sc__law_right.nd rfl rfl (by decide) rfl rfl (pa_cons (pe_call G__law_five (hr.mono (by decide)) rfl T.g__law_five T.F__law_five.kp T.b__law_five .nil pass0 (pa_cons (pv 0) (pa_cons (pv 1) pa_nil))) (pa_cons (pe_cmpR op_eq (pe_call G__law_take (hr.mono (by decide)) rfl T.g__law_take T.F__law_take.kp T.b__law_take .nil pass0 (pa_cons (pv 0) (pa_cons pe_int pa_nil))) pe_int (nomark _)) pa_nil)) (by rfl))
    (pss_cons (ps_par (i := 7) (j := 8) (by rfl) sc__law_right.nd rfl rfl (by decide) rfl rfl (pa_cons (pe_call G__law_made (hr.mono (by decide)) rfl T.g__law_made T.F__law_made.kp T.b__law_made .nil pass0 (pa_cons (pv 0) (pa_cons (pv 5) pa_nil))) (pa_cons (pe_call G__law_prices (hr.mono (by decide)) rfl T.g__law_prices T.F__law_prices.kp T.b__law_prices .nil pass0 (pa_cons (pv 2) (pa_cons (pv 5) (pa_cons (pv 6) pa_nil)))) pa_nil)) (by rfl))
    (pss_cons (ps_set (i := 9) sc__law_right.nd rfl (Or.inl rfl) (pe_lst (pa_cons pe_int (pa_cons pe_int (pa_cons (pe_ix ix_tup (pv 5) pe_int (fun _ _ => rfl)) (pa_cons (pe_callB (call_max2 rfl) (by rfl) T.n_max (by decide +kernel) (pa_cons pe_int (pa_cons (pe_op op_sub (pe_ix ix_tup (pv 5) pe_int (fun _ _ => rfl)) pe_int) pa_nil))) (pa_cons pe_int (pa_cons (pe_call G__law_take (hr.mono (by decide)) rfl T.g__law_take T.F__law_take.kp T.b__law_take .nil pass0 (pa_cons (pv 0) (pa_cons (pe_op op_add (pe_ix ix_tup (pv 5) pe_int (fun _ _ => rfl)) pe_int) pa_nil))) pa_nil))))))))
    (pss_cons (ps_for PassesOwn.never rfl (pi_list (pe_call G_falls (hr.mono (by decide)) rfl T.g_falls T.F_falls.kp b_falls_3 vb_falls_3 pass0 (pa_cons (pv 2) (pa_cons (pv 7) (pa_cons (pv 6) pa_nil))))) (pg_tup (by rfl) (pgs_cons (pg_name (i := 10) sc__law_right.nd rfl (Or.inl rfl)) (pgs_cons (pg_name (i := 11) sc__law_right.nd rfl (Or.inl rfl)) pgs_nil)))
    (pss_one (ps_set (i := 9) sc__law_right.nd rfl (Or.inl rfl) (pe_op op_cat (pv 9) (pe_lst (pa_cons (pv 11) (pa_cons (pe_op op_sub (pv 11) pe_int) (pa_cons (pe_op op_add (pv 11) pe_int) pa_nil))))))))
    (pss_cons (ps_for PassesOwn.never rfl (pi_list (pv 9)) (pg_name (i := 12) sc__law_right.nd rfl (Or.inl rfl))
    (pss_cons (ps_set (i := 13) sc__law_right.nd rfl (Or.inl rfl) (pe_call G__law_due (hr.mono (by decide)) rfl T.g__law_due T.F__law_due.kp T.b__law_due .nil pass0 (pa_cons (pv 8) (pa_cons (pe_ix ix_tup (pv 5) pe_int (fun _ _ => rfl)) (pa_cons (pv 12) pa_nil)))))
    (pss_one (ps_if (pt_not (pt_val (pe_call G__law_same (hr.mono (by decide)) rfl T.g__law_same T.F__law_same.kp T.b__law_same .nil pass0 (pa_cons (pe_call G__law_asked (hr.mono (by decide)) rfl T.g__law_asked T.F__law_asked.kp T.b__law_asked .nil pass0 (pa_cons (pv 0) (pa_cons (pv 2) (pa_cons (pv 7) (pa_cons (pv 12) (pa_cons (pv 6) pa_nil)))))) (pa_cons (pv 13) pa_nil))))) (pss_one (ps_ret pe_bl)) pss_nil))))
    (pss_one (ps_if (PW.pt (pw_or (pt_cmpR (op_neD hr.units) (pe_call G__law_fields (hr.mono (by decide)) rfl T.g__law_fields T.F__law_fields.kp T.b__law_fields .nil pass0 (pa_cons (pv 7) pa_nil)) (pv 5) (nomark _)) (pw_or1 (pt_cmpR op_ne (pe_callB (call_reprD hg hr.units) (by rfl) T.n_repr (by decide +kernel) (pa_cons (pv 2) pa_nil)) (pv 3) (nomark _))))) (pss_one (ps_ret pe_bl)) pss_nil))))))))
    (pss_one (ps_ret pe_bl))))), ?_⟩
    refine ⟨_, rfl, B, 0, 3, rfl, hB, by decide, by decide, fun pp ss H1 hpp f1 B1 hp1 ls hss => ?_⟩
    have npB : pp ≠ B := hB.ne hpp
    refine ⟨_, rfl, B, _, rfl, B1, by decide, fun v r H2 rw1 d2 f2 B2 => ?_⟩
    obtain ⟨a, xs, rfl, sq2, ds2⟩ := Dp.tuple_of d2
    have nl := noL_rule r
    obtain ⟨sz, shw⟩ := szRule rw1
    have hp2 := f2 pp _ (by simp [npB]) hp1
    refine ⟨_, _, rfl, ?_⟩
    refine ⟨_, rfl, a, _, rfl, d2, shw, Nat.le_trans (depRule r) (by decide), sz, ?_⟩
    walk_at "z"
    refine ⟨by decide, by decide, ?_⟩
    refine for_it (walk_range0 (n := 2)) (fun i σ H' => Fr [B] H2 H' ∧ Box H' B (3000 + 200 * i) ∧ ∃ v4 v5 v6 v7 v8 v9 v10 v11 v12 v13 : Option V, σ = [some (.ref B), some (.ref pp), some (.ref a), some (.str (ruleD r).shown), v4, v5, v6, v7, v8, v9, v10, v11, v12, v13])
      ⟨Fr.refl _ _, B2.mono (by decide), _, _, _, _, _, _, _, _, _, _, rfl⟩ (fun _ _ _ _ _ => trivial) ?_ ?_
    · rintro i x σ _ H3 hi ⟨f3, B3, v4, v5, v6, v7, v8, v9, v10, v11, v12, v13, rfl⟩ ⟨rfl, rfl⟩
      have hp3 := f3 pp _ (by simp [npB]) hp2
      refine ⟨_, rfl, _, rfl, B, pp, _, ss, rfl, B3, by omega, hp3, npB, by omega, by omega, hss, fun u f H4 ok d4 f4 B4 => ?_⟩
      refine ⟨_, rfl, B, 2, _, rfl, B4, by decide, by decide, by omega, fun r5 H5 a5 b5 f5 B5 => ?_⟩
      have d5 := Dp.keep (f5.kt B4) d4 rfl
      refine ⟨rfl, _, _, rfl, ?_⟩
      generalize decide (V.int r5 = V.int 0) = freely
      obtain ⟨au, rfl, squ⟩ := fiveD_of d5
      have p1 := ok.p1
      have p2 := ok.p2
      refine ⟨_, rfl, _, rfl, B, _, _, f, rfl, B5, by omega, d5, ok, fun tg H10 htg tag10 f10 B10 => ?_⟩
      have fr10 := ((f3.trans f4).trans f5).trans f10
      have rd10 := Dp.keep (fr10.kt B2) d2 nl
      have d10 := Dp.keep (f10.kt B5) d5 rfl
      refine ⟨_, rfl, _, rfl, _, rfl, _, _, r, f, freely, rfl, rd10, d10, ok, fun pc H11 hpc s11 hp11 => ?_⟩
      refine ⟨_, _, rfl, ?_⟩
      walk_at "z"
      have squ11 := SqT.mono s11 (SqT.keep (f10.kt B5) squ)
      refine ⟨au, _, _, _, rfl, rfl, squ11, rfl, ?_⟩
      walk_at "z"
      refine ⟨B, f.price + 2, _, rfl, B10.keep s11, by omega, by omega, by omega, fun r12 H12 a12 b12 f12 B12 => ?_⟩
      walk_at "z"
      refine fun p12 hp12 => ?_
      have n12 : p12 ≠ B := B12.ne hp12
      obtain ⟨ms, em, lm⟩ : ∃ ms : List Int, ms.map V.int = [V.int 0, V.int 1, V.int f.least, V.int (if f.least - 1 > 0 then f.least - 1 else 0), V.int 9999999, V.int r12] ∧ ms.length = 6 := ⟨[0, 1, f.least, if f.least - 1 > 0 then f.least - 1 else 0, 9999999, r12], rfl, rfl⟩
      rw [← em]
      have kt13 : KeepT H10 (upd H12 p12 (.lst (ms.map V.int))) := ((Same.kt s11).trans (f12.kt (B10.keep s11))).trans (KeepT.new hp12)
      have fr13 : Fr [B] H2 (upd H12 p12 (.lst (ms.map V.int))) := ((fr10.trans (Same.fr s11)).trans f12).trans (Fr.new hp12)
      have B13 := B12.keep (Same.new (o := .lst (ms.map V.int)) hp12)
      have npc : pc ≠ B := B10.ne hpc
      have hpc13 := Same.new (o := .lst (ms.map V.int)) hp12 _ _ (f12 _ _ (by simp [npc]) hp11)
      have hms13 : upd H12 p12 (.lst (ms.map V.int)) p12 = some (.lst (ms.map V.int)) := upd_same
      have nB13 : p12 ≠ B := n12
      generalize upd H12 p12 (.lst (ms.map V.int)) = H13 at kt13 fr13 B13 hpc13 hms13 ⊢
      have rd13 := Dp.keep kt13 rd10 nl
      have d13 := Dp.keep kt13 d10 rfl
      have tag13 := tag10.keep kt13
      have squ13 := SqT.keep kt13 (SqT.keep (f10.kt B5) squ)
      refine ⟨_, rfl, _, rfl, _, rfl, _, tg, r, f, freely, rfl, rd13, tag13, ok, rw1, fun fp ys H14 hfp s14 hl14 dl14 => ?_⟩
      refine ⟨_, rfl, ⟨_, SqL.of hl14⟩, ?_⟩
      have lys : ys.length = (fallsL r f freely).length := by rw [DpAll.length dl14, List.length_map]
      have few : (fallsL r f freely).length ≤ 7 := by
        obtain ⟨_, _, l⟩ := fallsA_last r f freely r.length (Nat.le_refl _)
        have l' : (fallsL r f freely).length ≤ r.length + 1 := l
        have := rw1.few
        omega
      have l4 : sizeLine = 16777216 := by decide +kernel
      refine for_it (walk_list (xs := ys)) (fun j σ H' => Same H14 H' ∧ ∃ (p : Addr) (ns : List Int) (u10 u11 : Option V), H' p = some (.lst (ns.map V.int)) ∧ p ≠ B ∧ ns.length = 6 + 3 * j ∧ σ = [some (.ref B), some (.ref pp), some (.ref a), some (.str (ruleD r).shown), some (.int (i : Int)), some (.ref au), some (.bl freely), some (.ref tg), some (.ref pc), some (.ref p), u10, u11, v12, v13])
        ⟨Same.refl _, p12, ms, _, _, s14 _ _ hms13, n12, lm, rfl⟩ (fun j σ H' _ h => SqL.of (h.1 _ _ hl14)) ?_ ?_
      · rintro j y σ _ H15 hj ⟨s15, p, ns, u10, u11, hp, npp, lns, rfl⟩ ⟨rfl, hy⟩
        obtain ⟨⟨g, b⟩, hg', t, ht, rfl⟩ := ruleD_get dl14 hy
        refine ⟨t, _, rfl, SqT.mono s15 ht, rfl, ?_⟩
        walk_at "z"
        refine fun p16 hp16 => ?_
        have hp' := Same.new (o := .lst [V.int b, V.int (b - 1), V.int (b + 1)]) hp16 _ _ hp
        refine ⟨p, p16, _, _, rfl, rfl, hp', upd_same, ?_, fun p17 hp17 => ?_⟩
        · rw [List.length_map, lns]
          show 6 + 3 * j + 3 ≤ sizeLine
          omega
        have B17 := (B13.keep (s14.trans s15)).keep (Same.new (o := .lst [V.int b, V.int (b - 1), V.int (b + 1)]) hp16)
        exact ⟨(s15.trans (Same.new hp16)).trans (Same.new hp17), p17, ns ++ [b, b - 1, b + 1], _, _, by rw [upd_same, List.map_append]; rfl, B17.ne hp17, by rw [List.length_append, lns]; show 6 + 3 * j + 3 = _; omega, rfl⟩
      · rintro σ H15 ⟨s15, p, ns, u10, u11, hp, npp, lns, rfl⟩
        have s1315 := s14.trans s15
        have B15 := B13.keep s1315
        have fr15 := fr13.trans (Same.fr s1315)
        refine ⟨_, rfl, p, rfl, ⟨_, SqL.of hp⟩, ?_⟩
        refine for_it (walk_list (xs := ns.map V.int)) (fun j σ H' => Fr [B] H15 H' ∧ Box H' B (3000 + 200 * i + 60 + j) ∧ ∃ (u12 u13 : Option V), σ = [some (.ref B), some (.ref pp), some (.ref a), some (.str (ruleD r).shown), some (.int (i : Int)), some (.ref au), some (.bl freely), some (.ref tg), some (.ref pc), some (.ref p), u10, u11, u12, u13])
          ⟨Fr.refl _ _, B15.mono (by omega), _, _, rfl⟩ (fun j σ H' _ h => SqL.of (h.1 _ _ (by simp [npp]) hp)) ?_ ?_
        · rintro j y σ _ H16 hj ⟨f16, B16, u12, u13, rfl⟩ ⟨rfl, hy⟩
          obtain ⟨m, hm, rfl⟩ : ∃ m, ns[j]? = some m ∧ y = V.int m := by
            rw [List.getElem?_map] at hy
            cases e : ns[j]? with
            | none => rw [e] at hy; cases hy
            | some u => rw [e] at hy; exact ⟨u, rfl, (Option.some.inj hy).symm⟩
          have kt16 := (Same.kt s1315).trans (f16.kt B15)
          have hj' : j < 6 + 3 * 7 := by
            rw [List.length_map] at hj
            omega
          refine ⟨_, rfl, _, rfl, au, _, _, _, rfl, rfl, SqT.keep kt16 squ13, rfl, ?_⟩
          refine ⟨_, rfl, pc, _, _, _, rfl, SqL.of (f16 _ _ (by simp [npc]) (s1315 _ _ hpc13)), fun H17 s17 => ?_⟩
          have kt17 := kt16.trans (Same.kt s17)
          walk_at "z"
          refine ⟨B, _, tg, r, f, m, freely, _, rfl, B16.keep s17, by omega, Dp.keep kt17 rd13 nl, tag13.keep kt17, ok, rw1, fun H18 f18 B18 => ?_⟩
          rw [firstK_is rw1 ok]
          obtain ⟨dd, hdd, sh, dp, nd⟩ := firstK_data (K := K) (fun k => priceOn r f (f.day + (k : Int)) freely) m f.day
          walk_at "z"
          refine ⟨_, _, dd, rfl, hdd _, hdd _, sh, dp, nd, fun H19 s19 => ?_⟩
          walk_at "z"
          exact ⟨((f16.trans (Same.fr s17)).trans f18).trans (Same.fr s19), (B18.keep s19).mono (by omega), _, _, rfl⟩
        · rintro σ H16 ⟨f16, B16, u12, u13, rfl⟩
          have kt16 := (Same.kt s1315).trans (f16.kt B15)
          refine ⟨_, rfl, tg, f, rfl, tag13.keep kt16, fun w H20 s20 d20 => ?_⟩
          have kt20 := kt16.trans (Same.kt s20)
          walk_at "z"
          refine ⟨_, _, d20, Dp.keep kt20 d13 rfl, shaped_five ok, shaped_five ok, ?_⟩
          rw [SeqAt.eqv_refl _ (SeqAt.canLay_of_shaped (shaped_five ok))]
          walk_at "z"
          refine ⟨a, _, rfl, Dp.keep kt20 rd13 nl, shw, Nat.le_trans (depRule r) (by decide), sz, ?_⟩
          walk_at "z"
          exact ⟨(fr15.trans f16).trans (Same.fr s20), (B16.keep s20).mono (by rw [List.length_map]; omega), _, _, _, _, _, _, _, _, _, _, rfl⟩
    · rintro σ H3 ⟨f3, B3, v4, v5, v6, v7, v8, v9, v10, v11, v12, v13, rfl⟩
      exact q _ ((f1.trans f2).trans f3)
def sp_law (K : PySem.W.Frag) : Sp := fun vs H Q _ => ∃ (a : Addr) (ns : List Int), vs = [.ref a] ∧ SqL K H a (ns.map V.int) ∧ ns.length ≤ 63 ∧ ∀ H', Q (.bl true) H'
theorem ok_law {P : Program} {w : World} {K : PySem.W.Frag} {mg : Str → Option Value} {base : Heap} {ad : Ad} (T : Txt K mg ad) : FnG P w K mg base 10 ad.f_law ad.d_law ["_law_script"] (sp_law K) := by
  have G__law_folded := ok__law_folded (P := P) (w := w) (base := base) T
  have G__law_right := ok__law_right (P := P) (w := w) (base := base) T
  have G__law_box := ok__law_box (P := P) (w := w) (base := base) T
  refine okG T.F_law sc_law (fun vs H Q E h => ?_) (fun cdv A outer s H vs Q E hr hg h => ?_)
  · obtain ⟨a, ns, rfl, _⟩ := h
    rfl
  · obtain ⟨a, ns, rfl, hS, hl, q⟩ := h
    refine ⟨_, (pss_cons (ps_set (i := 1) sc_law.nd rfl (Or.inr rfl) (pe_call G__law_folded (hr.mono (by decide)) rfl T.g__law_folded T.F__law_folded.kp T.b__law_folded .nil pass0 (pa_cons (pv 0) (pa_cons pe_int pa_nil))))
    (pss_one (ps_ret (pe_callB (cr_all rfl) (by rfl) T.n_all (by decide +kernel) (pa_cons (pe_lc (own := [("_law_k", 2)]) (g := gName 2) (by rfl) sc_law.nd (pi_range1 rfl T.n_range (pa_cons (pe_callB (call_max2 rfl) (by rfl) T.n_max (by decide +kernel) (pa_cons pe_int (pa_cons (pe_callB call_len_seq (by rfl) T.n_len PySem.boot_len (pa_cons (pv 1) pa_nil)) pa_nil))) pa_nil)) (blkOk_by (own := [("_law_k", 2)]) (N := N_law) (sc := defScope s_law) (by decide +kernel)) (fun _ _ _ _ _ => (pg_name (i := 2) sc_law.nd rfl (Or.inl rfl))) (fun _ _ _ _ _ => pts_nil) (fun _ _ _ _ _ => (pe_callG G__law_right (hr.mono (by decide)) hg rfl T.g__law_right T.F__law_right.kp T.b__law_right .nil (pa_cons (pe_call G__law_box (hr.mono (by decide)) rfl T.g__law_box T.F__law_box.kp T.b__law_box .nil pass0 (pa_cons (pv 1) (pa_cons (pv 2) pa_nil))) pa_nil)))) pa_nil))))), ?_⟩
    refine ⟨_, rfl, a, ns, 3, rfl, hS, hl, by decide, by decide, fun c ms H1 hc s1 hc1 lm => ?_⟩
    refine ⟨_, rfl, c, _, rfl, .inl (SqL.of hc1), _, _, rfl, _, rfl, ?_, ?_, fun D hD => ?_⟩
    · split <;> simp <;> omega
    · split <;> simp <;> omega
    refine lc_it walk_range0 (fun i H' => Same H1 H' ∧ ∃ bs : List Bool, bs.length = i ∧ (∀ b ∈ bs, b = true) ∧ H' D = some (.lst (bs.map V.bl))) ⟨Same.new hD, [], rfl, (by simp), upd_same⟩ (fun _ _ _ _ => trivial) ?_ ?_
    · rintro i x _ H2 hi ⟨s2, bs, lb, hb, hD2⟩ ⟨rfl, rfl⟩
      have hi7 : i < 7 := by
        have : (if ((ms.map V.int).length : Int) > 1 then ((ms.map V.int).length : Int) else 1) ≤ 3 := by rw [List.length_map]; split <;> omega
        omega
      refine ⟨rfl, ?_⟩
      refine ⟨_, rfl, _, rfl, c, ms, i, rfl, SqL.of (s2 _ _ hc1), by omega, fun B H3 nB s3 bB => ?_⟩
      refine ⟨B, rfl, bB, fun H4 f4 => ?_⟩
      have s24 : Same H2 H4 := f4.out s3 (by simp [nB])
      have hD4 := s24 _ _ hD2
      refine ⟨_, hD4, by rw [List.length_map, lb]; exact Nat.lt_of_lt_of_le hi7 (by decide), ?_, bs ++ [true], by rw [List.length_append, lb]; rfl, ?_, by rw [upd_same, List.map_append]; rfl⟩
      · intro b o e
        rw [upd_ne (ne_of_none e hD)]
        exact s24 _ _ (s2 _ _ e)
      · intro b hb'
        rcases List.mem_append.mp hb' with h | h
        · exact hb b h
        · exact List.mem_singleton.mp h
    · rintro H2 ⟨s2, bs, lb, hb, hD2⟩
      refine ⟨D, bs, rfl, SqL.of hD2, ?_⟩
      have e : bs.all id = true := List.all_eq_true.mpr fun b h => hb b h
      rw [e]
      exact q _
theorem all_mk {l : PySem.W.OpenLaw} {w : World} {K : PySem.W.Frag} {h : Heap} {mg : Str → Option Value} {fa : Addr} (X : K.In h) (G : h.Ns mainGlobals mg) (hfa : mg "law" = some (.ref fa))
    {C_Tag : Addr}
    {f_is_name : Addr} {od_is_name an_is_name : Option Addr} {sl_is_name : Array (Option Value)} {oc_is_name kV_is_name dc_is_name pm_is_name cd_is_name ct_is_name : Value}
    {f_is_whole : Addr} {od_is_whole an_is_whole : Option Addr} {sl_is_whole : Array (Option Value)} {oc_is_whole kV_is_whole dc_is_whole pm_is_whole cd_is_whole ct_is_whole : Value}
    {f_Tag_init : Addr} {od_Tag_init an_Tag_init : Option Addr} {sl_Tag_init : Array (Option Value)} {oc_Tag_init kV_Tag_init dc_Tag_init pm_Tag_init cd_Tag_init ct_Tag_init : Value}
    {T_Tag_init : Addr} {oT_Tag_init : Value} {dT_Tag_init : Option Addr} {nT_Tag_init : Nat} {sT_Tag_init : Array (Option Value)} {tk_Tag_init_0 tk_Tag_init_1 : Tok}
    {f_part_at : Addr} {od_part_at an_part_at : Option Addr} {sl_part_at : Array (Option Value)} {oc_part_at kV_part_at dc_part_at pm_part_at cd_part_at ct_part_at : Value}
    {f_price_by : Addr} {od_price_by an_price_by : Option Addr} {sl_price_by : Array (Option Value)} {oc_price_by kV_price_by dc_price_by pm_price_by cd_price_by ct_price_by : Value}
    {f_price_on : Addr} {od_price_on an_price_on : Option Addr} {sl_price_on : Array (Option Value)} {oc_price_on kV_price_on dc_price_on pm_price_on cd_price_on ct_price_on : Value}
    {T_price_on : Addr} {oT_price_on : Value} {dT_price_on : Option Addr} {nT_price_on : Nat} {sT_price_on : Array (Option Value)}
    {f_falls : Addr} {od_falls an_falls : Option Addr} {sl_falls : Array (Option Value)} {oc_falls kV_falls dc_falls pm_falls cd_falls ct_falls : Value}
    {T_falls : Addr} {oT_falls : Value} {dT_falls : Option Addr} {nT_falls : Nat} {sT_falls : Array (Option Value)}
    {f_first_day : Addr} {od_first_day an_first_day : Option Addr} {sl_first_day : Array (Option Value)} {oc_first_day kV_first_day dc_first_day pm_first_day cd_first_day ct_first_day : Value}
    {T_first_day : Addr} {oT_first_day : Value} {dT_first_day : Option Addr} {nT_first_day : Nat} {sT_first_day : Array (Option Value)}
    {f__law_box : Addr} {od__law_box an__law_box : Option Addr} {sl__law_box : Array (Option Value)} {oc__law_box kV__law_box dc__law_box pm__law_box cd__law_box ct__law_box : Value}
    {f__law_take : Addr} {od__law_take an__law_take : Option Addr} {sl__law_take : Array (Option Value)} {oc__law_take kV__law_take dc__law_take pm__law_take cd__law_take ct__law_take : Value}
    {f__law_folded : Addr} {od__law_folded an__law_folded : Option Addr} {sl__law_folded : Array (Option Value)} {oc__law_folded kV__law_folded dc__law_folded pm__law_folded cd__law_folded ct__law_folded : Value}
    {f__law_names : Addr} {od__law_names an__law_names : Option Addr} {sl__law_names : Array (Option Value)} {oc__law_names kV__law_names dc__law_names pm__law_names cd__law_names ct__law_names : Value}
    {f__law_price : Addr} {od__law_price an__law_price : Option Addr} {sl__law_price : Array (Option Value)} {oc__law_price kV__law_price dc__law_price pm__law_price cd__law_price ct__law_price : Value}
    {f__law_five : Addr} {od__law_five an__law_five : Option Addr} {sl__law_five : Array (Option Value)} {oc__law_five kV__law_five dc__law_five pm__law_five cd__law_five ct__law_five : Value}
    {f__law_rule : Addr} {od__law_rule an__law_rule : Option Addr} {sl__law_rule : Array (Option Value)} {oc__law_rule kV__law_rule dc__law_rule pm__law_rule cd__law_rule ct__law_rule : Value}
    {f__law_made : Addr} {od__law_made an__law_made : Option Addr} {sl__law_made : Array (Option Value)} {oc__law_made kV__law_made dc__law_made pm__law_made cd__law_made ct__law_made : Value}
    {f__law_fields : Addr} {od__law_fields an__law_fields : Option Addr} {sl__law_fields : Array (Option Value)} {oc__law_fields kV__law_fields dc__law_fields pm__law_fields cd__law_fields ct__law_fields : Value}
    {f__law_part : Addr} {od__law_part an__law_part : Option Addr} {sl__law_part : Array (Option Value)} {oc__law_part kV__law_part dc__law_part pm__law_part cd__law_part ct__law_part : Value}
    {f__law_day_price : Addr} {od__law_day_price an__law_day_price : Option Addr} {sl__law_day_price : Array (Option Value)} {oc__law_day_price kV__law_day_price dc__law_day_price pm__law_day_price cd__law_day_price ct__law_day_price : Value}
    {f__law_same : Addr} {od__law_same an__law_same : Option Addr} {sl__law_same : Array (Option Value)} {oc__law_same kV__law_same dc__law_same pm__law_same cd__law_same ct__law_same : Value}
    {f__law_prices : Addr} {od__law_prices an__law_prices : Option Addr} {sl__law_prices : Array (Option Value)} {oc__law_prices kV__law_prices dc__law_prices pm__law_prices cd__law_prices ct__law_prices : Value}
    {f__law_due : Addr} {od__law_due an__law_due : Option Addr} {sl__law_due : Array (Option Value)} {oc__law_due kV__law_due dc__law_due pm__law_due cd__law_due ct__law_due : Value}
    {f__law_asked : Addr} {od__law_asked an__law_asked : Option Addr} {sl__law_asked : Array (Option Value)} {oc__law_asked kV__law_asked dc__law_asked pm__law_asked cd__law_asked ct__law_asked : Value}
    {f__law_right : Addr} {od__law_right an__law_right : Option Addr} {sl__law_right : Array (Option Value)} {oc__law_right kV__law_right dc__law_right pm__law_right cd__law_right ct__law_right : Value}
    {f_law : Addr} {od_law an_law : Option Addr} {sl_law : Array (Option Value)} {oc_law kV_law dc_law pm_law cd_law ct_law : Value}
    {t_WHOLE_PART : Tok}
    {t_SMALL_SIGNS : Tok}
    {t_MOST_SIGNS : Tok}
    {t_MOST_NUMBER : Tok}
    {t_MOST_PRICE : Tok}
    {t_MOST_DAY : Tok}
    (a_Tag : PySem.W.nsIn K mainGlobals "Tag" = some (some (.ref C_Tag)))
    (pg_Tag : PySem.W.plainGet K C_Tag Str.empty = true)
    (hd_Tag : PySem.W.hasDictIn K C_Tag = true)
    (po_Tag : PySem.W.plainOver K C_Tag = true)
    (sa_Tag : PySem.W.findIn K (.ref C_Tag) "__setattr__" = some (some (.builtin "object.__setattr__")))
    (mk_Tag : PySem.W.makesIn K C_Tag = true)
    (kc_Tag : PySem.W.keepIn K (.ref C_Tag) = true)
    (na_Tag_owner : PySem.W.findIn K (.ref C_Tag) "owner" = some none)
    (na_Tag_number : PySem.W.findIn K (.ref C_Tag) "number" = some none)
    (na_Tag_price : PySem.W.findIn K (.ref C_Tag) "price" = some none)
    (na_Tag_least : PySem.W.findIn K (.ref C_Tag) "least" = some none)
    (na_Tag_day : PySem.W.findIn K (.ref C_Tag) "day" = some none)
    (a_is_name : PySem.W.nsIn K mainGlobals "is_name" = some (some (.ref f_is_name)))
    (l_is_name : K.lookup f_is_name = some ⟨oc_is_name, od_is_name, .func (PySem.W.fnOf "is_name" "is_name" (defArgs s_is_name) (defBody s_is_name) (defScope s_is_name) .none kV_is_name dc_is_name pm_is_name an_is_name cd_is_name ct_is_name), sl_is_name⟩)
    (e_is_name : PySem.W.codeIn K cd_is_name "is_name" = true)
    (k_is_name : PySem.W.keepIn K (.ref f_is_name) = true)
    (a_is_whole : PySem.W.nsIn K mainGlobals "is_whole" = some (some (.ref f_is_whole)))
    (l_is_whole : K.lookup f_is_whole = some ⟨oc_is_whole, od_is_whole, .func (PySem.W.fnOf "is_whole" "is_whole" (defArgs s_is_whole) (defBody s_is_whole) (defScope s_is_whole) .none kV_is_whole dc_is_whole pm_is_whole an_is_whole cd_is_whole ct_is_whole), sl_is_whole⟩)
    (e_is_whole : PySem.W.codeIn K cd_is_whole "is_whole" = true)
    (k_is_whole : PySem.W.keepIn K (.ref f_is_whole) = true)
    (a_Tag_init : PySem.W.findIn K (.ref C_Tag) "__init__" = some (some (.ref f_Tag_init)))
    (i_Tag_init : PySem.W.isFn K (.ref f_Tag_init) = true)
    (l_Tag_init : K.lookup f_Tag_init = some ⟨oc_Tag_init, od_Tag_init, .func (PySem.W.fnOf "__init__" "Tag.__init__" (defArgs s_Tag_init) (defBody s_Tag_init) (defScope s_Tag_init) (.ref T_Tag_init) kV_Tag_init dc_Tag_init pm_Tag_init an_Tag_init cd_Tag_init ct_Tag_init), sl_Tag_init⟩)
    (e_Tag_init : PySem.W.codeIn K cd_Tag_init "Tag.__init__" = true)
    (k_Tag_init : PySem.W.keepIn K (.ref f_Tag_init) = true)
    (t_Tag_init : K.lookup T_Tag_init = some ⟨oT_Tag_init, dT_Tag_init, .seq ([Value.int 0 tk_Tag_init_0, Value.int 0 tk_Tag_init_1] : List Value).toArray nT_Tag_init, sT_Tag_init⟩)
    (a_part_at : PySem.W.nsIn K mainGlobals "part_at" = some (some (.ref f_part_at)))
    (l_part_at : K.lookup f_part_at = some ⟨oc_part_at, od_part_at, .func (PySem.W.fnOf "part_at" "part_at" (defArgs s_part_at) (defBody s_part_at) (defScope s_part_at) .none kV_part_at dc_part_at pm_part_at an_part_at cd_part_at ct_part_at), sl_part_at⟩)
    (e_part_at : PySem.W.codeIn K cd_part_at "part_at" = true)
    (k_part_at : PySem.W.keepIn K (.ref f_part_at) = true)
    (a_price_by : PySem.W.nsIn K mainGlobals "price_by" = some (some (.ref f_price_by)))
    (l_price_by : K.lookup f_price_by = some ⟨oc_price_by, od_price_by, .func (PySem.W.fnOf "price_by" "price_by" (defArgs s_price_by) (defBody s_price_by) (defScope s_price_by) .none kV_price_by dc_price_by pm_price_by an_price_by cd_price_by ct_price_by), sl_price_by⟩)
    (e_price_by : PySem.W.codeIn K cd_price_by "price_by" = true)
    (k_price_by : PySem.W.keepIn K (.ref f_price_by) = true)
    (a_price_on : PySem.W.nsIn K mainGlobals "price_on" = some (some (.ref f_price_on)))
    (l_price_on : K.lookup f_price_on = some ⟨oc_price_on, od_price_on, .func (PySem.W.fnOf "price_on" "price_on" (defArgs s_price_on) (defBody s_price_on) (defScope s_price_on) (.ref T_price_on) kV_price_on dc_price_on pm_price_on an_price_on cd_price_on ct_price_on), sl_price_on⟩)
    (e_price_on : PySem.W.codeIn K cd_price_on "price_on" = true)
    (k_price_on : PySem.W.keepIn K (.ref f_price_on) = true)
    (t_price_on : K.lookup T_price_on = some ⟨oT_price_on, dT_price_on, .seq ([Value.bool false] : List Value).toArray nT_price_on, sT_price_on⟩)
    (a_falls : PySem.W.nsIn K mainGlobals "falls" = some (some (.ref f_falls)))
    (l_falls : K.lookup f_falls = some ⟨oc_falls, od_falls, .func (PySem.W.fnOf "falls" "falls" (defArgs s_falls) (defBody s_falls) (defScope s_falls) (.ref T_falls) kV_falls dc_falls pm_falls an_falls cd_falls ct_falls), sl_falls⟩)
    (e_falls : PySem.W.codeIn K cd_falls "falls" = true)
    (k_falls : PySem.W.keepIn K (.ref f_falls) = true)
    (t_falls : K.lookup T_falls = some ⟨oT_falls, dT_falls, .seq ([Value.bool false] : List Value).toArray nT_falls, sT_falls⟩)
    (a_first_day : PySem.W.nsIn K mainGlobals "first_day" = some (some (.ref f_first_day)))
    (l_first_day : K.lookup f_first_day = some ⟨oc_first_day, od_first_day, .func (PySem.W.fnOf "first_day" "first_day" (defArgs s_first_day) (defBody s_first_day) (defScope s_first_day) (.ref T_first_day) kV_first_day dc_first_day pm_first_day an_first_day cd_first_day ct_first_day), sl_first_day⟩)
    (e_first_day : PySem.W.codeIn K cd_first_day "first_day" = true)
    (k_first_day : PySem.W.keepIn K (.ref f_first_day) = true)
    (t_first_day : K.lookup T_first_day = some ⟨oT_first_day, dT_first_day, .seq ([Value.bool false] : List Value).toArray nT_first_day, sT_first_day⟩)
    (a__law_box : PySem.W.nsIn K mainGlobals "_law_box" = some (some (.ref f__law_box)))
    (l__law_box : K.lookup f__law_box = some ⟨oc__law_box, od__law_box, .func (PySem.W.fnOf "_law_box" "_law_box" (defArgs s__law_box) (defBody s__law_box) (defScope s__law_box) .none kV__law_box dc__law_box pm__law_box an__law_box cd__law_box ct__law_box), sl__law_box⟩)
    (e__law_box : PySem.W.codeIn K cd__law_box "_law_box" = true)
    (k__law_box : PySem.W.keepIn K (.ref f__law_box) = true)
    (a__law_take : PySem.W.nsIn K mainGlobals "_law_take" = some (some (.ref f__law_take)))
    (l__law_take : K.lookup f__law_take = some ⟨oc__law_take, od__law_take, .func (PySem.W.fnOf "_law_take" "_law_take" (defArgs s__law_take) (defBody s__law_take) (defScope s__law_take) .none kV__law_take dc__law_take pm__law_take an__law_take cd__law_take ct__law_take), sl__law_take⟩)
    (e__law_take : PySem.W.codeIn K cd__law_take "_law_take" = true)
    (k__law_take : PySem.W.keepIn K (.ref f__law_take) = true)
    (a__law_folded : PySem.W.nsIn K mainGlobals "_law_folded" = some (some (.ref f__law_folded)))
    (l__law_folded : K.lookup f__law_folded = some ⟨oc__law_folded, od__law_folded, .func (PySem.W.fnOf "_law_folded" "_law_folded" (defArgs s__law_folded) (defBody s__law_folded) (defScope s__law_folded) .none kV__law_folded dc__law_folded pm__law_folded an__law_folded cd__law_folded ct__law_folded), sl__law_folded⟩)
    (e__law_folded : PySem.W.codeIn K cd__law_folded "_law_folded" = true)
    (k__law_folded : PySem.W.keepIn K (.ref f__law_folded) = true)
    (a__law_names : PySem.W.nsIn K mainGlobals "_law_names" = some (some (.ref f__law_names)))
    (l__law_names : K.lookup f__law_names = some ⟨oc__law_names, od__law_names, .func (PySem.W.fnOf "_law_names" "_law_names" (defArgs s__law_names) (defBody s__law_names) (defScope s__law_names) .none kV__law_names dc__law_names pm__law_names an__law_names cd__law_names ct__law_names), sl__law_names⟩)
    (e__law_names : PySem.W.codeIn K cd__law_names "_law_names" = true)
    (k__law_names : PySem.W.keepIn K (.ref f__law_names) = true)
    (a__law_price : PySem.W.nsIn K mainGlobals "_law_price" = some (some (.ref f__law_price)))
    (l__law_price : K.lookup f__law_price = some ⟨oc__law_price, od__law_price, .func (PySem.W.fnOf "_law_price" "_law_price" (defArgs s__law_price) (defBody s__law_price) (defScope s__law_price) .none kV__law_price dc__law_price pm__law_price an__law_price cd__law_price ct__law_price), sl__law_price⟩)
    (e__law_price : PySem.W.codeIn K cd__law_price "_law_price" = true)
    (k__law_price : PySem.W.keepIn K (.ref f__law_price) = true)
    (a__law_five : PySem.W.nsIn K mainGlobals "_law_five" = some (some (.ref f__law_five)))
    (l__law_five : K.lookup f__law_five = some ⟨oc__law_five, od__law_five, .func (PySem.W.fnOf "_law_five" "_law_five" (defArgs s__law_five) (defBody s__law_five) (defScope s__law_five) .none kV__law_five dc__law_five pm__law_five an__law_five cd__law_five ct__law_five), sl__law_five⟩)
    (e__law_five : PySem.W.codeIn K cd__law_five "_law_five" = true)
    (k__law_five : PySem.W.keepIn K (.ref f__law_five) = true)
    (a__law_rule : PySem.W.nsIn K mainGlobals "_law_rule" = some (some (.ref f__law_rule)))
    (l__law_rule : K.lookup f__law_rule = some ⟨oc__law_rule, od__law_rule, .func (PySem.W.fnOf "_law_rule" "_law_rule" (defArgs s__law_rule) (defBody s__law_rule) (defScope s__law_rule) .none kV__law_rule dc__law_rule pm__law_rule an__law_rule cd__law_rule ct__law_rule), sl__law_rule⟩)
    (e__law_rule : PySem.W.codeIn K cd__law_rule "_law_rule" = true)
    (k__law_rule : PySem.W.keepIn K (.ref f__law_rule) = true)
    (a__law_made : PySem.W.nsIn K mainGlobals "_law_made" = some (some (.ref f__law_made)))
    (l__law_made : K.lookup f__law_made = some ⟨oc__law_made, od__law_made, .func (PySem.W.fnOf "_law_made" "_law_made" (defArgs s__law_made) (defBody s__law_made) (defScope s__law_made) .none kV__law_made dc__law_made pm__law_made an__law_made cd__law_made ct__law_made), sl__law_made⟩)
    (e__law_made : PySem.W.codeIn K cd__law_made "_law_made" = true)
    (k__law_made : PySem.W.keepIn K (.ref f__law_made) = true)
    (a__law_fields : PySem.W.nsIn K mainGlobals "_law_fields" = some (some (.ref f__law_fields)))
    (l__law_fields : K.lookup f__law_fields = some ⟨oc__law_fields, od__law_fields, .func (PySem.W.fnOf "_law_fields" "_law_fields" (defArgs s__law_fields) (defBody s__law_fields) (defScope s__law_fields) .none kV__law_fields dc__law_fields pm__law_fields an__law_fields cd__law_fields ct__law_fields), sl__law_fields⟩)
    (e__law_fields : PySem.W.codeIn K cd__law_fields "_law_fields" = true)
    (k__law_fields : PySem.W.keepIn K (.ref f__law_fields) = true)
    (a__law_part : PySem.W.nsIn K mainGlobals "_law_part" = some (some (.ref f__law_part)))
    (l__law_part : K.lookup f__law_part = some ⟨oc__law_part, od__law_part, .func (PySem.W.fnOf "_law_part" "_law_part" (defArgs s__law_part) (defBody s__law_part) (defScope s__law_part) .none kV__law_part dc__law_part pm__law_part an__law_part cd__law_part ct__law_part), sl__law_part⟩)
    (e__law_part : PySem.W.codeIn K cd__law_part "_law_part" = true)
    (k__law_part : PySem.W.keepIn K (.ref f__law_part) = true)
    (a__law_day_price : PySem.W.nsIn K mainGlobals "_law_day_price" = some (some (.ref f__law_day_price)))
    (l__law_day_price : K.lookup f__law_day_price = some ⟨oc__law_day_price, od__law_day_price, .func (PySem.W.fnOf "_law_day_price" "_law_day_price" (defArgs s__law_day_price) (defBody s__law_day_price) (defScope s__law_day_price) .none kV__law_day_price dc__law_day_price pm__law_day_price an__law_day_price cd__law_day_price ct__law_day_price), sl__law_day_price⟩)
    (e__law_day_price : PySem.W.codeIn K cd__law_day_price "_law_day_price" = true)
    (k__law_day_price : PySem.W.keepIn K (.ref f__law_day_price) = true)
    (a__law_same : PySem.W.nsIn K mainGlobals "_law_same" = some (some (.ref f__law_same)))
    (l__law_same : K.lookup f__law_same = some ⟨oc__law_same, od__law_same, .func (PySem.W.fnOf "_law_same" "_law_same" (defArgs s__law_same) (defBody s__law_same) (defScope s__law_same) .none kV__law_same dc__law_same pm__law_same an__law_same cd__law_same ct__law_same), sl__law_same⟩)
    (e__law_same : PySem.W.codeIn K cd__law_same "_law_same" = true)
    (k__law_same : PySem.W.keepIn K (.ref f__law_same) = true)
    (a__law_prices : PySem.W.nsIn K mainGlobals "_law_prices" = some (some (.ref f__law_prices)))
    (l__law_prices : K.lookup f__law_prices = some ⟨oc__law_prices, od__law_prices, .func (PySem.W.fnOf "_law_prices" "_law_prices" (defArgs s__law_prices) (defBody s__law_prices) (defScope s__law_prices) .none kV__law_prices dc__law_prices pm__law_prices an__law_prices cd__law_prices ct__law_prices), sl__law_prices⟩)
    (e__law_prices : PySem.W.codeIn K cd__law_prices "_law_prices" = true)
    (k__law_prices : PySem.W.keepIn K (.ref f__law_prices) = true)
    (a__law_due : PySem.W.nsIn K mainGlobals "_law_due" = some (some (.ref f__law_due)))
    (l__law_due : K.lookup f__law_due = some ⟨oc__law_due, od__law_due, .func (PySem.W.fnOf "_law_due" "_law_due" (defArgs s__law_due) (defBody s__law_due) (defScope s__law_due) .none kV__law_due dc__law_due pm__law_due an__law_due cd__law_due ct__law_due), sl__law_due⟩)
    (e__law_due : PySem.W.codeIn K cd__law_due "_law_due" = true)
    (k__law_due : PySem.W.keepIn K (.ref f__law_due) = true)
    (a__law_asked : PySem.W.nsIn K mainGlobals "_law_asked" = some (some (.ref f__law_asked)))
    (l__law_asked : K.lookup f__law_asked = some ⟨oc__law_asked, od__law_asked, .func (PySem.W.fnOf "_law_asked" "_law_asked" (defArgs s__law_asked) (defBody s__law_asked) (defScope s__law_asked) .none kV__law_asked dc__law_asked pm__law_asked an__law_asked cd__law_asked ct__law_asked), sl__law_asked⟩)
    (e__law_asked : PySem.W.codeIn K cd__law_asked "_law_asked" = true)
    (k__law_asked : PySem.W.keepIn K (.ref f__law_asked) = true)
    (a__law_right : PySem.W.nsIn K mainGlobals "_law_right" = some (some (.ref f__law_right)))
    (l__law_right : K.lookup f__law_right = some ⟨oc__law_right, od__law_right, .func (PySem.W.fnOf "_law_right" "_law_right" (defArgs s__law_right) (defBody s__law_right) (defScope s__law_right) .none kV__law_right dc__law_right pm__law_right an__law_right cd__law_right ct__law_right), sl__law_right⟩)
    (e__law_right : PySem.W.codeIn K cd__law_right "_law_right" = true)
    (k__law_right : PySem.W.keepIn K (.ref f__law_right) = true)
    (a_law : PySem.W.nsIn K mainGlobals "law" = some (some (.ref f_law)))
    (l_law : K.lookup f_law = some ⟨oc_law, od_law, .func (PySem.W.fnOf "law" "law" (defArgs s_law) (defBody s_law) (defScope s_law) .none kV_law dc_law pm_law an_law cd_law ct_law), sl_law⟩)
    (e_law : PySem.W.codeIn K cd_law "law" = true)
    (k_law : PySem.W.keepIn K (.ref f_law) = true)
    (z_all : PySem.W.nsIn K mainGlobals "all" = some none)
    (z_isinstance : PySem.W.nsIn K mainGlobals "isinstance" = some none)
    (z_str : PySem.W.nsIn K mainGlobals "str" = some none)
    (z_len : PySem.W.nsIn K mainGlobals "len" = some none)
    (z_int : PySem.W.nsIn K mainGlobals "int" = some none)
    (z_bool : PySem.W.nsIn K mainGlobals "bool" = some none)
    (z_max : PySem.W.nsIn K mainGlobals "max" = some none)
    (z_abs : PySem.W.nsIn K mainGlobals "abs" = some none)
    (z_divmod : PySem.W.nsIn K mainGlobals "divmod" = some none)
    (z_list : PySem.W.nsIn K mainGlobals "list" = some none)
    (z_enumerate : PySem.W.nsIn K mainGlobals "enumerate" = some none)
    (z_range : PySem.W.nsIn K mainGlobals "range" = some none)
    (z_tuple : PySem.W.nsIn K mainGlobals "tuple" = some none)
    (z_zip : PySem.W.nsIn K mainGlobals "zip" = some none)
    (z_repr : PySem.W.nsIn K mainGlobals "repr" = some none)
    (y_WHOLE_PART : PySem.W.nsIn K mainGlobals "WHOLE_PART" = some (some (.int 100 t_WHOLE_PART)))
    (y_SMALL_SIGNS : PySem.W.nsIn K mainGlobals "SMALL_SIGNS" = some (some (.str "abcdefghijklmnopqrstuvwxyz" t_SMALL_SIGNS)))
    (y_MOST_SIGNS : PySem.W.nsIn K mainGlobals "MOST_SIGNS" = some (some (.int 8 t_MOST_SIGNS)))
    (y_MOST_NUMBER : PySem.W.nsIn K mainGlobals "MOST_NUMBER" = some (some (.int 9999 t_MOST_NUMBER)))
    (y_MOST_PRICE : PySem.W.nsIn K mainGlobals "MOST_PRICE" = some (some (.int 99999 t_MOST_PRICE)))
    (y_MOST_DAY : PySem.W.nsIn K mainGlobals "MOST_DAY" = some (some (.int 999 t_MOST_DAY)))
    : ∃ fd : FuncData, (∀ (s : Shared) (v : Value), BindsTo s fd ⟨[v], []⟩ [("_law_script", v)]) ∧ ∀ base : Heap, K.In base → base.Ns mainGlobals mg → FnG l.prog w K mg base 10 fa fd ["_law_script"] (sp_law K) := by
  have e := hfa.symm.trans (PySem.W.mg_of X G a_law)
  cases e
  have F_is_name := fun_mk (st := s_is_name) l_is_name e_is_name k_is_name
  have b_is_name := F_is_name.binds (ps := ["thing"]) fun _ _ _ _ _ _ us hl => match us, hl with | [_], _ => rfl
  have F_is_whole := fun_mk (st := s_is_whole) l_is_whole e_is_whole k_is_whole
  have b_is_whole := F_is_whole.binds (ps := ["thing", "least", "most"]) fun _ _ _ _ _ _ us hl => match us, hl with | [_, _, _], _ => rfl
  have F_Tag_init : FunD K "__init__" "Tag.__init__" (defArgs s_Tag_init) (defBody s_Tag_init) (defScope s_Tag_init) [.int 0, .int 0] [] f_Tag_init _ := ⟨⟨_, _, _, _, _, _, _, _, _, _, rfl, l_Tag_init, e_Tag_init, .inr ⟨by simp, T_Tag_init, _, _, _, rfl, t_Tag_init, rfl, (.cons ⟨_, rfl⟩ (.cons ⟨_, rfl⟩ .nil))⟩, .inl rfl⟩, k_Tag_init⟩
  have b_Tag_init_6 := FunD.binds1 (ps := ["self", "owner", "number", "price", "least", "day"]) F_Tag_init 6 2 (by simp) rfl (fun _ _ _ _ _ _ _ us its h1 h2 => match us, its, h1, h2 with | [_, _, _, _, _, _], [_, _], _, _ => ⟨_, rfl, rfl⟩)
  have b_Tag_init_4 := FunD.binds1 (ps := ["self", "owner", "number", "price", "least", "day"]) F_Tag_init 4 0 (by simp) rfl (fun _ _ _ _ _ _ _ us its h1 h2 => match us, its, h1, h2 with | [_, _, _, _], [_, _], _, _ => ⟨_, rfl, rfl⟩)
  have kb_Tag_init_4_day := FunD.kbindsD (ps := ["self", "owner", "number", "price", "least", "day"]) F_Tag_init 4 ["day"] (fun a b c => a ++ (b.drop 0).take 1 ++ (c.drop 0).take 1) (by simp) (fun r1 r2 r3 => ((r1.append ((r2.drop 0).take 1)).append ((r3.drop 0).take 1))) (fun _ _ _ _ _ _ _ us its ws h1 h2 h3 => match us, its, ws, h1, h2, h3 with | [_, _, _, _], [_, _], [_], _, _, _ => ⟨_, rfl, rfl⟩)
  have b_Tag_init_5 := FunD.binds1 (ps := ["self", "owner", "number", "price", "least", "day"]) F_Tag_init 5 1 (by simp) rfl (fun _ _ _ _ _ _ _ us its h1 h2 => match us, its, h1, h2 with | [_, _, _, _, _], [_, _], _, _ => ⟨_, rfl, rfl⟩)
  have kb_Tag_init_4_day_least := FunD.kbindsD (ps := ["self", "owner", "number", "price", "least", "day"]) F_Tag_init 4 ["day", "least"] (fun a b c => a ++ (c.drop 1).take 1 ++ (c.drop 0).take 1) (by simp) (fun r1 r2 r3 => ((r1.append ((r3.drop 1).take 1)).append ((r3.drop 0).take 1))) (fun _ _ _ _ _ _ _ us its ws h1 h2 h3 => match us, its, ws, h1, h2, h3 with | [_, _, _, _], [_, _], [_, _], _, _, _ => ⟨_, rfl, rfl⟩)
  have F_part_at := fun_mk (st := s_part_at) l_part_at e_part_at k_part_at
  have b_part_at := F_part_at.binds (ps := ["rule", "age"]) fun _ _ _ _ _ _ us hl => match us, hl with | [_, _], _ => rfl
  have F_price_by := fun_mk (st := s_price_by) l_price_by e_price_by k_price_by
  have b_price_by := F_price_by.binds (ps := ["rule", "price", "age"]) fun _ _ _ _ _ _ us hl => match us, hl with | [_, _, _], _ => rfl
  have F_price_on : FunD K "price_on" "price_on" (defArgs s_price_on) (defBody s_price_on) (defScope s_price_on) [.bl false] [] f_price_on _ := ⟨⟨_, _, _, _, _, _, _, _, _, _, rfl, l_price_on, e_price_on, .inr ⟨by simp, T_price_on, _, _, _, rfl, t_price_on, rfl, (.cons rfl .nil)⟩, .inl rfl⟩, k_price_on⟩
  have kb_price_on_3_leave := FunD.kbindsD (ps := ["rule", "tag", "day", "leave"]) F_price_on 3 ["leave"] (fun a b c => a ++ (c.drop 0).take 1) (by simp) (fun r1 r2 r3 => (r1.append ((r3.drop 0).take 1))) (fun _ _ _ _ _ _ _ us its ws h1 h2 h3 => match us, its, ws, h1, h2, h3 with | [_, _, _], [_], [_], _, _, _ => ⟨_, rfl, rfl⟩)
  have F_falls : FunD K "falls" "falls" (defArgs s_falls) (defBody s_falls) (defScope s_falls) [.bl false] [] f_falls _ := ⟨⟨_, _, _, _, _, _, _, _, _, _, rfl, l_falls, e_falls, .inr ⟨by simp, T_falls, _, _, _, rfl, t_falls, rfl, (.cons rfl .nil)⟩, .inl rfl⟩, k_falls⟩
  have kb_falls_2_leave := FunD.kbindsD (ps := ["rule", "tag", "leave"]) F_falls 2 ["leave"] (fun a b c => a ++ (c.drop 0).take 1) (by simp) (fun r1 r2 r3 => (r1.append ((r3.drop 0).take 1))) (fun _ _ _ _ _ _ _ us its ws h1 h2 h3 => match us, its, ws, h1, h2, h3 with | [_, _], [_], [_], _, _, _ => ⟨_, rfl, rfl⟩)
  have b_falls_3 := FunD.binds1 (ps := ["rule", "tag", "leave"]) F_falls 3 1 (by simp) rfl (fun _ _ _ _ _ _ _ us its h1 h2 => match us, its, h1, h2 with | [_, _, _], [_], _, _ => ⟨_, rfl, rfl⟩)
  have F_first_day : FunD K "first_day" "first_day" (defArgs s_first_day) (defBody s_first_day) (defScope s_first_day) [.bl false] [] f_first_day _ := ⟨⟨_, _, _, _, _, _, _, _, _, _, rfl, l_first_day, e_first_day, .inr ⟨by simp, T_first_day, _, _, _, rfl, t_first_day, rfl, (.cons rfl .nil)⟩, .inl rfl⟩, k_first_day⟩
  have b_first_day_3 := FunD.binds1 (ps := ["rule", "tag", "amount", "leave"]) F_first_day 3 0 (by simp) rfl (fun _ _ _ _ _ _ _ us its h1 h2 => match us, its, h1, h2 with | [_, _, _], [_], _, _ => ⟨_, rfl, rfl⟩)
  have b_first_day_4 := FunD.binds1 (ps := ["rule", "tag", "amount", "leave"]) F_first_day 4 1 (by simp) rfl (fun _ _ _ _ _ _ _ us its h1 h2 => match us, its, h1, h2 with | [_, _, _, _], [_], _, _ => ⟨_, rfl, rfl⟩)
  have kb_first_day_3_leave := FunD.kbindsD (ps := ["rule", "tag", "amount", "leave"]) F_first_day 3 ["leave"] (fun a b c => a ++ (c.drop 0).take 1) (by simp) (fun r1 r2 r3 => (r1.append ((r3.drop 0).take 1))) (fun _ _ _ _ _ _ _ us its ws h1 h2 h3 => match us, its, ws, h1, h2, h3 with | [_, _, _], [_], [_], _, _, _ => ⟨_, rfl, rfl⟩)
  have F__law_box := fun_mk (st := s__law_box) l__law_box e__law_box k__law_box
  have b__law_box := F__law_box.binds (ps := ["_law_script", "_law_k"]) fun _ _ _ _ _ _ us hl => match us, hl with | [_, _], _ => rfl
  have F__law_take := fun_mk (st := s__law_take) l__law_take e__law_take k__law_take
  have b__law_take := F__law_take.binds (ps := ["_law_box_here", "_law_size"]) fun _ _ _ _ _ _ us hl => match us, hl with | [_, _], _ => rfl
  have F__law_folded := fun_mk (st := s__law_folded) l__law_folded e__law_folded k__law_folded
  have b__law_folded := F__law_folded.binds (ps := ["_law_script", "_law_size"]) fun _ _ _ _ _ _ us hl => match us, hl with | [_, _], _ => rfl
  have F__law_names := fun_mk (st := s__law_names) l__law_names e__law_names k__law_names
  have b__law_names := F__law_names.binds (ps := ["_law_box_here", "_law_many"]) fun _ _ _ _ _ _ us hl => match us, hl with | [_, _], _ => rfl
  have F__law_price := fun_mk (st := s__law_price) l__law_price e__law_price k__law_price
  have b__law_price := F__law_price.binds (ps := ["_law_box_here"]) fun _ _ _ _ _ _ us hl => match us, hl with | [_], _ => rfl
  have F__law_five := fun_mk (st := s__law_five) l__law_five e__law_five k__law_five
  have b__law_five := F__law_five.binds (ps := ["_law_box_here", "_law_people"]) fun _ _ _ _ _ _ us hl => match us, hl with | [_, _], _ => rfl
  have F__law_rule := fun_mk (st := s__law_rule) l__law_rule e__law_rule k__law_rule
  have b__law_rule := F__law_rule.binds (ps := ["_law_box_here"]) fun _ _ _ _ _ _ us hl => match us, hl with | [_], _ => rfl
  have F__law_made := fun_mk (st := s__law_made) l__law_made e__law_made k__law_made
  have b__law_made := F__law_made.binds (ps := ["_law_box_here", "_law_five_here"]) fun _ _ _ _ _ _ us hl => match us, hl with | [_, _], _ => rfl
  have F__law_fields := fun_mk (st := s__law_fields) l__law_fields e__law_fields k__law_fields
  have b__law_fields := F__law_fields.binds (ps := ["_law_tag"]) fun _ _ _ _ _ _ us hl => match us, hl with | [_], _ => rfl
  have F__law_part := fun_mk (st := s__law_part) l__law_part e__law_part k__law_part
  have b__law_part := F__law_part.binds (ps := ["_law_rule_here", "_law_age"]) fun _ _ _ _ _ _ us hl => match us, hl with | [_, _], _ => rfl
  have F__law_day_price := fun_mk (st := s__law_day_price) l__law_day_price e__law_day_price k__law_day_price
  have b__law_day_price := F__law_day_price.binds (ps := ["_law_rule_here", "_law_five_here", "_law_when", "_law_freely"]) fun _ _ _ _ _ _ us hl => match us, hl with | [_, _, _, _], _ => rfl
  have F__law_same := fun_mk (st := s__law_same) l__law_same e__law_same k__law_same
  have b__law_same := F__law_same.binds (ps := ["_law_found", "_law_due_here"]) fun _ _ _ _ _ _ us hl => match us, hl with | [_, _], _ => rfl
  have F__law_prices := fun_mk (st := s__law_prices) l__law_prices e__law_prices k__law_prices
  have b__law_prices := F__law_prices.binds (ps := ["_law_rule_here", "_law_five_here", "_law_freely"]) fun _ _ _ _ _ _ us hl => match us, hl with | [_, _, _], _ => rfl
  have F__law_due := fun_mk (st := s__law_due) l__law_due e__law_due k__law_due
  have b__law_due := F__law_due.binds (ps := ["_law_prices_here", "_law_begin", "_law_amount"]) fun _ _ _ _ _ _ us hl => match us, hl with | [_, _, _], _ => rfl
  have F__law_asked := fun_mk (st := s__law_asked) l__law_asked e__law_asked k__law_asked
  have b__law_asked := F__law_asked.binds (ps := ["_law_box_here", "_law_rule_here", "_law_tag", "_law_amount", "_law_freely"]) fun _ _ _ _ _ _ us hl => match us, hl with | [_, _, _, _, _], _ => rfl
  have F__law_right := fun_mk (st := s__law_right) l__law_right e__law_right k__law_right
  have b__law_right := F__law_right.binds (ps := ["_law_box_here"]) fun _ _ _ _ _ _ us hl => match us, hl with | [_], _ => rfl
  have F_law := fun_mk (st := s_law) l_law e_law k_law
  have T : Txt K mg ⟨C_Tag, f_is_name, PySem.W.fnOf "is_name" "is_name" (defArgs s_is_name) (defBody s_is_name) (defScope s_is_name) .none kV_is_name dc_is_name pm_is_name an_is_name cd_is_name ct_is_name, f_is_whole, PySem.W.fnOf "is_whole" "is_whole" (defArgs s_is_whole) (defBody s_is_whole) (defScope s_is_whole) .none kV_is_whole dc_is_whole pm_is_whole an_is_whole cd_is_whole ct_is_whole, f_Tag_init, PySem.W.fnOf "__init__" "Tag.__init__" (defArgs s_Tag_init) (defBody s_Tag_init) (defScope s_Tag_init) (.ref T_Tag_init) kV_Tag_init dc_Tag_init pm_Tag_init an_Tag_init cd_Tag_init ct_Tag_init, f_part_at, PySem.W.fnOf "part_at" "part_at" (defArgs s_part_at) (defBody s_part_at) (defScope s_part_at) .none kV_part_at dc_part_at pm_part_at an_part_at cd_part_at ct_part_at, f_price_by, PySem.W.fnOf "price_by" "price_by" (defArgs s_price_by) (defBody s_price_by) (defScope s_price_by) .none kV_price_by dc_price_by pm_price_by an_price_by cd_price_by ct_price_by, f_price_on, PySem.W.fnOf "price_on" "price_on" (defArgs s_price_on) (defBody s_price_on) (defScope s_price_on) (.ref T_price_on) kV_price_on dc_price_on pm_price_on an_price_on cd_price_on ct_price_on, f_falls, PySem.W.fnOf "falls" "falls" (defArgs s_falls) (defBody s_falls) (defScope s_falls) (.ref T_falls) kV_falls dc_falls pm_falls an_falls cd_falls ct_falls, f_first_day, PySem.W.fnOf "first_day" "first_day" (defArgs s_first_day) (defBody s_first_day) (defScope s_first_day) (.ref T_first_day) kV_first_day dc_first_day pm_first_day an_first_day cd_first_day ct_first_day, f__law_box, PySem.W.fnOf "_law_box" "_law_box" (defArgs s__law_box) (defBody s__law_box) (defScope s__law_box) .none kV__law_box dc__law_box pm__law_box an__law_box cd__law_box ct__law_box, f__law_take, PySem.W.fnOf "_law_take" "_law_take" (defArgs s__law_take) (defBody s__law_take) (defScope s__law_take) .none kV__law_take dc__law_take pm__law_take an__law_take cd__law_take ct__law_take, f__law_folded, PySem.W.fnOf "_law_folded" "_law_folded" (defArgs s__law_folded) (defBody s__law_folded) (defScope s__law_folded) .none kV__law_folded dc__law_folded pm__law_folded an__law_folded cd__law_folded ct__law_folded, f__law_names, PySem.W.fnOf "_law_names" "_law_names" (defArgs s__law_names) (defBody s__law_names) (defScope s__law_names) .none kV__law_names dc__law_names pm__law_names an__law_names cd__law_names ct__law_names, f__law_price, PySem.W.fnOf "_law_price" "_law_price" (defArgs s__law_price) (defBody s__law_price) (defScope s__law_price) .none kV__law_price dc__law_price pm__law_price an__law_price cd__law_price ct__law_price, f__law_five, PySem.W.fnOf "_law_five" "_law_five" (defArgs s__law_five) (defBody s__law_five) (defScope s__law_five) .none kV__law_five dc__law_five pm__law_five an__law_five cd__law_five ct__law_five, f__law_rule, PySem.W.fnOf "_law_rule" "_law_rule" (defArgs s__law_rule) (defBody s__law_rule) (defScope s__law_rule) .none kV__law_rule dc__law_rule pm__law_rule an__law_rule cd__law_rule ct__law_rule, f__law_made, PySem.W.fnOf "_law_made" "_law_made" (defArgs s__law_made) (defBody s__law_made) (defScope s__law_made) .none kV__law_made dc__law_made pm__law_made an__law_made cd__law_made ct__law_made, f__law_fields, PySem.W.fnOf "_law_fields" "_law_fields" (defArgs s__law_fields) (defBody s__law_fields) (defScope s__law_fields) .none kV__law_fields dc__law_fields pm__law_fields an__law_fields cd__law_fields ct__law_fields, f__law_part, PySem.W.fnOf "_law_part" "_law_part" (defArgs s__law_part) (defBody s__law_part) (defScope s__law_part) .none kV__law_part dc__law_part pm__law_part an__law_part cd__law_part ct__law_part, f__law_day_price, PySem.W.fnOf "_law_day_price" "_law_day_price" (defArgs s__law_day_price) (defBody s__law_day_price) (defScope s__law_day_price) .none kV__law_day_price dc__law_day_price pm__law_day_price an__law_day_price cd__law_day_price ct__law_day_price, f__law_same, PySem.W.fnOf "_law_same" "_law_same" (defArgs s__law_same) (defBody s__law_same) (defScope s__law_same) .none kV__law_same dc__law_same pm__law_same an__law_same cd__law_same ct__law_same, f__law_prices, PySem.W.fnOf "_law_prices" "_law_prices" (defArgs s__law_prices) (defBody s__law_prices) (defScope s__law_prices) .none kV__law_prices dc__law_prices pm__law_prices an__law_prices cd__law_prices ct__law_prices, f__law_due, PySem.W.fnOf "_law_due" "_law_due" (defArgs s__law_due) (defBody s__law_due) (defScope s__law_due) .none kV__law_due dc__law_due pm__law_due an__law_due cd__law_due ct__law_due, f__law_asked, PySem.W.fnOf "_law_asked" "_law_asked" (defArgs s__law_asked) (defBody s__law_asked) (defScope s__law_asked) .none kV__law_asked dc__law_asked pm__law_asked an__law_asked cd__law_asked ct__law_asked, f__law_right, PySem.W.fnOf "_law_right" "_law_right" (defArgs s__law_right) (defBody s__law_right) (defScope s__law_right) .none kV__law_right dc__law_right pm__law_right an__law_right cd__law_right ct__law_right, fa, PySem.W.fnOf "law" "law" (defArgs s_law) (defBody s_law) (defScope s_law) .none kV_law dc_law pm_law an_law cd_law ct_law⟩ := ⟨PySem.W.mg_none_of X G z_all, PySem.W.mg_none_of X G z_isinstance, PySem.W.mg_none_of X G z_str, PySem.W.mg_none_of X G z_len, PySem.W.mg_none_of X G z_int, PySem.W.mg_none_of X G z_bool, PySem.W.mg_none_of X G z_max, PySem.W.mg_none_of X G z_abs, PySem.W.mg_none_of X G z_divmod, PySem.W.mg_none_of X G z_list, PySem.W.mg_none_of X G z_enumerate, PySem.W.mg_none_of X G z_range, PySem.W.mg_none_of X G z_tuple, PySem.W.mg_none_of X G z_zip, PySem.W.mg_none_of X G z_repr, ⟨_, PySem.W.mg_of X G y_WHOLE_PART, ⟨_, rfl⟩⟩, ⟨_, PySem.W.mg_of X G y_SMALL_SIGNS, ⟨_, rfl⟩⟩, ⟨_, PySem.W.mg_of X G y_MOST_SIGNS, ⟨_, rfl⟩⟩, ⟨_, PySem.W.mg_of X G y_MOST_NUMBER, ⟨_, rfl⟩⟩, ⟨_, PySem.W.mg_of X G y_MOST_PRICE, ⟨_, rfl⟩⟩, ⟨_, PySem.W.mg_of X G y_MOST_DAY, ⟨_, rfl⟩⟩, ⟨pg_Tag, hd_Tag, po_Tag, sa_Tag⟩, PySem.W.mg_of X G a_Tag, ⟨mk_Tag, a_Tag_init, i_Tag_init, kc_Tag⟩, na_Tag_owner, na_Tag_number, na_Tag_price, na_Tag_least, na_Tag_day, F_is_name, PySem.W.mg_of X G a_is_name, b_is_name, F_is_whole, PySem.W.mg_of X G a_is_whole, b_is_whole, F_Tag_init, b_Tag_init_6, b_Tag_init_4, kb_Tag_init_4_day, b_Tag_init_5, kb_Tag_init_4_day_least, F_part_at, PySem.W.mg_of X G a_part_at, b_part_at, F_price_by, PySem.W.mg_of X G a_price_by, b_price_by, F_price_on, PySem.W.mg_of X G a_price_on, kb_price_on_3_leave, F_falls, PySem.W.mg_of X G a_falls, kb_falls_2_leave, b_falls_3, F_first_day, PySem.W.mg_of X G a_first_day, b_first_day_3, b_first_day_4, kb_first_day_3_leave, F__law_box, PySem.W.mg_of X G a__law_box, b__law_box, F__law_take, PySem.W.mg_of X G a__law_take, b__law_take, F__law_folded, PySem.W.mg_of X G a__law_folded, b__law_folded, F__law_names, PySem.W.mg_of X G a__law_names, b__law_names, F__law_price, PySem.W.mg_of X G a__law_price, b__law_price, F__law_five, PySem.W.mg_of X G a__law_five, b__law_five, F__law_rule, PySem.W.mg_of X G a__law_rule, b__law_rule, F__law_made, PySem.W.mg_of X G a__law_made, b__law_made, F__law_fields, PySem.W.mg_of X G a__law_fields, b__law_fields, F__law_part, PySem.W.mg_of X G a__law_part, b__law_part, F__law_day_price, PySem.W.mg_of X G a__law_day_price, b__law_day_price, F__law_same, PySem.W.mg_of X G a__law_same, b__law_same, F__law_prices, PySem.W.mg_of X G a__law_prices, b__law_prices, F__law_due, PySem.W.mg_of X G a__law_due, b__law_due, F__law_asked, PySem.W.mg_of X G a__law_asked, b__law_asked, F__law_right, PySem.W.mg_of X G a__law_right, b__law_right, F_law⟩
  exact ⟨_, fun s v => .of_eq rfl, fun base _ _ => ok_law T⟩
theorem walk {l : PySem.W.OpenLaw} {q : Program} {loose : List Str} {XP : (Str → Option Value) → Heap → Prop} {YP : World → Heap → Prop} {d : DefRec} {K : Params → PySem.W.Frag} (hn : l.most = some 63) (hdf : d.params.defaults = [])
    (hY : ∀ (w : World) (h : Heap), YP w h → (K w.params).In h)
    (F : ∀ (w : World) (mg : Str → Option Value) (fa : Addr) (h : Heap), (K w.params).In h → h.Ns mainGlobals mg → mg d.name = some (.ref fa) →
      ∃ fd : FuncData, (∀ (s : Shared) (u : Value), BindsTo s fd ⟨[u], []⟩ [("_law_script", u)]) ∧ ∀ base : Heap, (K w.params).In base → base.Ns mainGlobals mg → FnG l.prog w (K w.params) mg base 10 fa fd ["_law_script"] (sp_law (K w.params))) :
    PySem.W.WalkO q loose XP YP l.row.toRowW d [] (fun f vs => PySem.call f vs) :=
  walk_ofG (n := 63) (k := 10) (x := "_law_script") (sp := sp_law) hn (by decide) hdf ⟨rfl, by decide, by decide⟩ hY F (fun _ _ a ns hl _ hS => ⟨a, ns, rfl, hS, hl, fun _ => rfl⟩)
end K

open PySem PySem.W PyProof.Rows in
set_option maxRecDepth 100000 in
set_option maxHeartbeats 0 in
theorem PySem.Challenge.cw_stallshares_k19_first_days_holds : PySem.Challenge.rw_stallshares_k19_first_days.Holds := by
  w_on; o_law; k_head; (case hw => w_witness2)
  k_fill
  refine K.walk (l := PySem.Challenge.rw_stallshares_k19_first_days) rfl rfl (fun w h Y => PySem.W.kIn_of Y) ?F
  case F =>
    intro w mg fa h KX G hmg
    refine' K.all_mk KX G hmg ?a_Tag ?pg_Tag ?hd_Tag ?po_Tag ?sa_Tag ?mk_Tag ?kc_Tag ?na_Tag_owner ?na_Tag_number ?na_Tag_price ?na_Tag_least ?na_Tag_day ?a_is_name ?l_is_name ?e_is_name ?k_is_name ?a_is_whole ?l_is_whole ?e_is_whole ?k_is_whole ?a_Tag_init ?i_Tag_init ?l_Tag_init ?e_Tag_init ?k_Tag_init ?t_Tag_init ?a_part_at ?l_part_at ?e_part_at ?k_part_at ?a_price_by ?l_price_by ?e_price_by ?k_price_by ?a_price_on ?l_price_on ?e_price_on ?k_price_on ?t_price_on ?a_falls ?l_falls ?e_falls ?k_falls ?t_falls ?a_first_day ?l_first_day ?e_first_day ?k_first_day ?t_first_day ?a__law_box ?l__law_box ?e__law_box ?k__law_box ?a__law_take ?l__law_take ?e__law_take ?k__law_take ?a__law_folded ?l__law_folded ?e__law_folded ?k__law_folded ?a__law_names ?l__law_names ?e__law_names ?k__law_names ?a__law_price ?l__law_price ?e__law_price ?k__law_price ?a__law_five ?l__law_five ?e__law_five ?k__law_five ?a__law_rule ?l__law_rule ?e__law_rule ?k__law_rule ?a__law_made ?l__law_made ?e__law_made ?k__law_made ?a__law_fields ?l__law_fields ?e__law_fields ?k__law_fields ?a__law_part ?l__law_part ?e__law_part ?k__law_part ?a__law_day_price ?l__law_day_price ?e__law_day_price ?k__law_day_price ?a__law_same ?l__law_same ?e__law_same ?k__law_same ?a__law_prices ?l__law_prices ?e__law_prices ?k__law_prices ?a__law_due ?l__law_due ?e__law_due ?k__law_due ?a__law_asked ?l__law_asked ?e__law_asked ?k__law_asked ?a__law_right ?l__law_right ?e__law_right ?k__law_right ?a_law ?l_law ?e_law ?k_law ?z_all ?z_isinstance ?z_str ?z_len ?z_int ?z_bool ?z_max ?z_abs ?z_divmod ?z_list ?z_enumerate ?z_range ?z_tuple ?z_zip ?z_repr ?y_WHOLE_PART ?y_SMALL_SIGNS ?y_MOST_SIGNS ?y_MOST_NUMBER ?y_MOST_PRICE ?y_MOST_DAY
    (case a_Tag => k_is)
    (case pg_Tag => k_is)
    (case hd_Tag => k_is)
    (case po_Tag => k_is)
    (case sa_Tag => k_is)
    (case mk_Tag => k_is)
    (case kc_Tag => k_is)
    (case na_Tag_owner => k_is)
    (case na_Tag_number => k_is)
    (case na_Tag_price => k_is)
    (case na_Tag_least => k_is)
    (case na_Tag_day => k_is)
    (case a_is_name => k_is)
    (case l_is_name => k_is)
    (case e_is_name => k_is)
    (case k_is_name => k_is)
    (case a_is_whole => k_is)
    (case l_is_whole => k_is)
    (case e_is_whole => k_is)
    (case k_is_whole => k_is)
    (case a_Tag_init => k_is)
    (case i_Tag_init => k_is)
    (case l_Tag_init => k_is)
    (case e_Tag_init => k_is)
    (case k_Tag_init => k_is)
    (case t_Tag_init => k_is)
    (case a_part_at => k_is)
    (case l_part_at => k_is)
    (case e_part_at => k_is)
    (case k_part_at => k_is)
    (case a_price_by => k_is)
    (case l_price_by => k_is)
    (case e_price_by => k_is)
    (case k_price_by => k_is)
    (case a_price_on => k_is)
    (case l_price_on => k_is)
    (case e_price_on => k_is)
    (case k_price_on => k_is)
    (case t_price_on => k_is)
    (case a_falls => k_is)
    (case l_falls => k_is)
    (case e_falls => k_is)
    (case k_falls => k_is)
    (case t_falls => k_is)
    (case a_first_day => k_is)
    (case l_first_day => k_is)
    (case e_first_day => k_is)
    (case k_first_day => k_is)
    (case t_first_day => k_is)
    (case a__law_box => k_is)
    (case l__law_box => k_is)
    (case e__law_box => k_is)
    (case k__law_box => k_is)
    (case a__law_take => k_is)
    (case l__law_take => k_is)
    (case e__law_take => k_is)
    (case k__law_take => k_is)
    (case a__law_folded => k_is)
    (case l__law_folded => k_is)
    (case e__law_folded => k_is)
    (case k__law_folded => k_is)
    (case a__law_names => k_is)
    (case l__law_names => k_is)
    (case e__law_names => k_is)
    (case k__law_names => k_is)
    (case a__law_price => k_is)
    (case l__law_price => k_is)
    (case e__law_price => k_is)
    (case k__law_price => k_is)
    (case a__law_five => k_is)
    (case l__law_five => k_is)
    (case e__law_five => k_is)
    (case k__law_five => k_is)
    (case a__law_rule => k_is)
    (case l__law_rule => k_is)
    (case e__law_rule => k_is)
    (case k__law_rule => k_is)
    (case a__law_made => k_is)
    (case l__law_made => k_is)
    (case e__law_made => k_is)
    (case k__law_made => k_is)
    (case a__law_fields => k_is)
    (case l__law_fields => k_is)
    (case e__law_fields => k_is)
    (case k__law_fields => k_is)
    (case a__law_part => k_is)
    (case l__law_part => k_is)
    (case e__law_part => k_is)
    (case k__law_part => k_is)
    (case a__law_day_price => k_is)
    (case l__law_day_price => k_is)
    (case e__law_day_price => k_is)
    (case k__law_day_price => k_is)
    (case a__law_same => k_is)
    (case l__law_same => k_is)
    (case e__law_same => k_is)
    (case k__law_same => k_is)
    (case a__law_prices => k_is)
    (case l__law_prices => k_is)
    (case e__law_prices => k_is)
    (case k__law_prices => k_is)
    (case a__law_due => k_is)
    (case l__law_due => k_is)
    (case e__law_due => k_is)
    (case k__law_due => k_is)
    (case a__law_asked => k_is)
    (case l__law_asked => k_is)
    (case e__law_asked => k_is)
    (case k__law_asked => k_is)
    (case a__law_right => k_is)
    (case l__law_right => k_is)
    (case e__law_right => k_is)
    (case k__law_right => k_is)
    (case a_law => k_is)
    (case l_law => k_is)
    (case e_law => k_is)
    (case k_law => k_is)
    (case z_all => k_is)
    (case z_isinstance => k_is)
    (case z_str => k_is)
    (case z_len => k_is)
    (case z_int => k_is)
    (case z_bool => k_is)
    (case z_max => k_is)
    (case z_abs => k_is)
    (case z_divmod => k_is)
    (case z_list => k_is)
    (case z_enumerate => k_is)
    (case z_range => k_is)
    (case z_tuple => k_is)
    (case z_zip => k_is)
    (case z_repr => k_is)
    (case y_WHOLE_PART => k_is)
    (case y_SMALL_SIGNS => k_is)
    (case y_MOST_SIGNS => k_is)
    (case y_MOST_NUMBER => k_is)
    (case y_MOST_PRICE => k_is)
    (case y_MOST_DAY => k_is)

