import PyProof.Rows.All
import Wide.All
import OpenK.AllK
import Wide.FinOn
import HandS.ForMost
import HandS.IsInst
import HandS.StrMore
import HandS.Walk
import HandS.SortInts
import HandS.Zip
import HandS.Style
import HandS.MakeKw
import HandS.TupAny
import PySem.Challenge.RW_stallshares_k20_whole_parted_and_prices
set_option Elab.async false
set_option linter.all false
set_option maxRecDepth 100000
set_option maxHeartbeats 4000000
/-! the shared layer: heaps but for some mutable places, the box of draws -/
namespace Z
open PySem L2

/-- H without the places of M -/
def hid (M : List Addr) (H : Hp) : Hp := fun a => if a ∈ M then none else H a
theorem hid_of {M : List Addr} {H : Hp} {a : Addr} (h : a ∉ M) : hid M H a = H a := if_neg h
theorem hid_none {M : List Addr} {H : Hp} {a : Addr} (h : H a = none) : hid M H a = none := by
  unfold hid; split <;> simp_all
theorem hid_same {M : List Addr} {H : Hp} : Same (hid M H) H := fun a o h => by
  unfold hid at h
  split at h
  · cases h
  · exact h
/-- what stands outside M is as it was -/
def Fr (M : List Addr) (H H' : Hp) : Prop := ∀ a o, a ∉ M → H a = some o → H' a = some o
theorem Fr.refl (M : List Addr) (H : Hp) : Fr M H H := fun _ _ _ h => h
theorem Fr.trans {M : List Addr} {H H1 H2 : Hp} (a : Fr M H H1) (b : Fr M H1 H2) : Fr M H H2 := fun x o n h => b x o n (a x o n h)
theorem Same.fr {M : List Addr} {H H' : Hp} (s : Same H H') : Fr M H H' := fun a o _ h => s a o h
theorem Fr.same {M : List Addr} {H H' : Hp} (f : Fr M H H') : Same (hid M H) (hid M H') := fun a o h => by
  unfold hid at h ⊢
  split at h
  · cases h
  · next n => rw [if_neg n]; exact f a o n h
theorem Fr.new {M : List Addr} {H : Hp} {p : Addr} {o : HO} (h : H p = none) : Fr M H (upd H p o) := fun a u _ e => by
  rw [upd_ne (ne_of_none e h)]; exact e
theorem Same.new {H : Hp} {p : Addr} {o : HO} (h : H p = none) : Same H (upd H p o) := fun a u e => by
  rw [upd_ne (ne_of_none e h)]; exact e
theorem Fr.put {M : List Addr} {H H' : Hp} {p : Addr} {o : HO} (f : Fr M H H') (h : p ∈ M) : Fr M H (upd H' p o) := fun a u n e => by
  rw [upd_ne (fun q : a = p => n (by rw [q]; exact h))]; exact f a u n e
theorem Fr.mono {M N : List Addr} {H H' : Hp} (f : Fr M H H') (s : ∀ a ∈ M, a ∈ N) : Fr N H H' := fun a o n h => f a o (fun q => n (s a q)) h
theorem Fr.nil {H H' : Hp} (f : Fr [] H H') : Same H H' := fun a o h => f a o (by simp) h
theorem Fr.back {M : List Addr} {H H' : Hp} {p : Addr} (f : Fr M H H') (hp : p ∉ M) (h : H' p = none) : H p = none := by
  cases q : H p with
  | none => rfl
  | some o => rw [f p o hp q] at h; cases h
theorem Fr.out {M : List Addr} {H H1 H2 : Hp} (f : Fr M H1 H2) (s : Same H H1) (hM : ∀ b ∈ M, H b = none) : Same H H2 := fun a o h => f a o (fun q => by rw [hM a q] at h; cases h) (s a o h)
theorem Fr.drop {M : List Addr} {H H' : Hp} {f : Addr} (fr : Fr (M ++ [f]) H H') (h : H f = none) : Fr M H H' := fun a o n e => fr a o (by
  simp only [List.mem_append, List.mem_singleton, not_or]
  exact ⟨n, ne_of_none e h⟩) e
theorem SqL.mono {K : PySem.W.Frag} {H H' : Hp} {a : Addr} {xs : List V} (e : Same H H') (h : SqL K H a xs) : SqL K H' a xs := e.seq h
theorem SqT.mono {K : PySem.W.Frag} {H H' : Hp} {a : Addr} {xs : List V} (e : Same H H') (h : SqT K H a xs) : SqT K H' a xs := by
  rcases h with (h | ⟨o, h⟩) | h
  · exact .inl (.inl (e _ _ h))
  · exact .inl (.inr ⟨o, e _ _ h⟩)
  · exact .inr h
mutual
theorem Dp.mono {K : PySem.W.Frag} {H H' : Hp} (e : Same H H') : ∀ {v : V} {d : PyData}, Dp K H v d → Dp K H' v d
  | _, _, .non => .non
  | _, _, .bl b => .bl b
  | _, _, .int i => .int i
  | _, _, .str x => .str x
  | _, _, .lst h r => .lst (SqL.mono e h) (DpAll.mono e r)
  | _, _, .tup h r => .tup (SqT.mono e h) (DpAll.mono e r)
theorem DpAll.mono {K : PySem.W.Frag} {H H' : Hp} (e : Same H H') : ∀ {v : List V} {d : List PyData}, DpAll K H v d → DpAll K H' v d
  | _, _, .nil => .nil
  | _, _, .cons a b => .cons (Dp.mono e a) (DpAll.mono e b)
end

theorem DpAll.length {K : PySem.W.Frag} {H : Hp} : ∀ {v : List V} {d : List PyData}, DpAll K H v d → v.length = d.length
  | _, _, .nil => rfl
  | _, _, .cons _ b => by rw [List.length_cons, List.length_cons, DpAll.length b]
theorem DpAll.get {K : PySem.W.Frag} {H : Hp} : ∀ {v : List V} {d : List PyData} {i : Nat} {x : V}, DpAll K H v d → v[i]? = some x → ∃ y, d[i]? = some y ∧ Dp K H x y
  | _, _, _, _, .nil, h => by simp at h
  | _, _, 0, _, .cons a _, h => by simp at h; subst h; exact ⟨_, rfl, a⟩
  | _, _, i + 1, _, .cons _ b, h => by
    obtain ⟨y, e, q⟩ := DpAll.get (i := i) b (by simpa using h)
    exact ⟨y, by simpa using e, q⟩
theorem Dp.list_of {K : PySem.W.Frag} {H : Hp} {v : V} {ds : List PyData} (h : Dp K H v (.list ds)) : ∃ a xs, v = .ref a ∧ SqL K H a xs ∧ DpAll K H xs ds := by
  cases h with
  | lst s r => exact ⟨_, _, rfl, s, r⟩
theorem Dp.tuple_of {K : PySem.W.Frag} {H : Hp} {v : V} {ds : List PyData} (h : Dp K H v (.tuple ds)) : ∃ a xs, v = .ref a ∧ SqT K H a xs ∧ DpAll K H xs ds := by
  cases h with
  | tup s r => exact ⟨_, _, rfl, s, r⟩
/-- the built-in class of data -/
def kindD : PyData → String
  | .none => "NoneType"
  | .bool _ => "bool"
  | .int _ => "int"
  | .str _ => "str"
  | .list _ => "list"
  | .tuple _ => "tuple"
  | .dict _ => "dict"
theorem SqL.ty {K : PySem.W.Frag} {H : Hp} {a : Addr} {xs : List V} (h : SqL K H a xs) : TyX K H (.ref a) (.type "list") := by
  rcases h with (h | ⟨o, h⟩) | ⟨o, its, n, e, c, _⟩
  · exact .base (.lst h)
  · exact .base (.frz h)
  · exact .kList e c
theorem SqT.ty {K : PySem.W.Frag} {H : Hp} {a : Addr} {xs : List V} (h : SqT K H a xs) : TyX K H (.ref a) (.type "tuple") := by
  rcases h with (h | ⟨o, h⟩) | ⟨o, its, n, e, c, _⟩
  · exact .base (.tup h)
  · exact .fTuple h
  · exact .kTuple e c
theorem Dp.ty {K : PySem.W.Frag} {H : Hp} {v : V} {d : PyData} (h : Dp K H v d) : TyX K H v (.type (kindD d)) := by
  cases h with
  | non => exact .base .non
  | bl b => exact .base (.bl b)
  | int i => exact .base (.int i)
  | str x => exact .base (.str x)
  | lst s _ => exact SqL.ty s
  | tup s _ => exact SqT.ty s
theorem tyD {K : PySem.W.Frag} {H : Hp} {v : V} {d : PyData} (A : String) (h : Dp K H v d) (e : kindD d = A) : TyX K H v (.type A) := e ▸ Dp.ty h
theorem ltC : Paired ClsV [.ty "list", .ty "tuple"] [.type "list", .type "tuple"] := .cons (.ty _) (.cons (.ty _) .nil)
theorem kitLT {K : PySem.W.Frag} (A : String) (b c : Bool) (k : kitB A "list" = some b) (k2 : kitB A "tuple" = some c) : PySem.W.kitAny K (.type A) [.type "list", .type "tuple"] = some (b || c) := by
  refine kitAny_cons (kit_ty k) (fun e => ?_) (fun e => by rw [e]; rfl)
  subst e
  exact kitAny_cons (kit_ty k2) (fun e => by subst e; exact kitAny_nil) (fun e => by rw [e]; rfl)
theorem lay_mem : ∀ {ds : List PyData} {d : PyData}, PyData.canLayAll0 ds = true → d ∈ ds → d.canLay0 = true
  | [], _, _, h => by cases h
  | x :: r, d, h, hm => by
    have h' : (x.canLay0 && PyData.canLayAll0 r) = true := h
    rw [Bool.and_eq_true] at h'
    rcases List.mem_cons.mp hm with rfl | hm
    · exact h'.1
    · exact lay_mem h'.2 hm
theorem depth_mem : ∀ {ds : List PyData} {d : PyData}, d ∈ ds → d.depth ≤ PyData.depthAll ds
  | [], _, h => by cases h
  | x :: r, d, hm => by
    show _ ≤ max x.depth (PyData.depthAll r)
    rcases List.mem_cons.mp hm with rfl | hm
    · exact Nat.le_max_left _ _
    · exact Nat.le_trans (depth_mem hm) (Nat.le_max_right _ _)
theorem shaped_mem {ds : List PyData} {d : PyData} (h : SeqAt.shaped (.list ds) = true ∨ SeqAt.shaped (.tuple ds) = true) (hm : d ∈ ds) : SeqAt.shaped d = true ∧ d.depth ≤ PyData.depthAll ds := by
  have h1 : PyData.canLayAll0 ds = true ∧ PyData.depthAll ds + 1 ≤ 64 := by
    rcases h with h | h
    · exact ⟨SeqAt.canLay_of_shaped h, SeqAt.depth_of_shaped h⟩
    · exact ⟨SeqAt.canLay_of_shaped h, SeqAt.depth_of_shaped h⟩
  have h2 := depth_mem hm
  refine ⟨?_, h2⟩
  unfold SeqAt.shaped
  rw [lay_mem h1.1 hm, decide_eq_true (by omega)]
  rfl
mutual
/-- how many things data is made of -/
def nodes : PyData → Nat
  | .list xs => nodesAll xs + 1
  | .tuple xs => nodesAll xs + 1
  | _ => 1
def nodesAll : List PyData → Nat
  | [] => 0
  | x :: r => nodes x + nodesAll r
end
theorem nodes_pos (d : PyData) : 1 ≤ nodes d := by cases d <;> simp [nodes]
theorem len_nodes : ∀ ds : List PyData, ds.length ≤ nodesAll ds
  | [] => Nat.le_refl _
  | x :: r => by
    have h1 := nodes_pos x
    have h2 := len_nodes r
    show r.length + 1 ≤ nodes x + nodesAll r
    omega
theorem nodes_mem : ∀ {ds : List PyData} {d : PyData}, d ∈ ds → nodes d ≤ nodesAll ds
  | [], _, h => by cases h
  | x :: r, d, hm => by
    show _ ≤ nodes x + nodesAll r
    rcases List.mem_cons.mp hm with rfl | hm
    · omega
    · have := nodes_mem hm
      omega
theorem walk_zipT {K : PySem.W.Frag} {a b : Addr} {xs ys : List V} {n : Nat} (hn : n = min xs.length ys.length) :
    Walk (RZ.ItzT K a b) n (fun H => SqT K H a xs ∧ SqT K H b ys) (YPair (fun i => xs[i]?) (fun i => ys[i]?)) := by
  refine ⟨fun i H hi q => ?_, fun H q => ⟨xs, ys, q.1, q.2, by omega⟩, fun i H v H' hi q y => ?_⟩
  · exact ⟨xs, ys, xs[i]'(by omega), ys[i]'(by omega), q.1, q.2, List.getElem?_eq_getElem (by omega), List.getElem?_eq_getElem (by omega)⟩
  · obtain ⟨t, x, z, e1, e2, e3, e4, e5⟩ := y
    exact ⟨t, x, z, e1, e2, e3, e4 xs q.1, e5 ys q.2⟩
/-- a comprehension that lays g of each, nothing else being changed -/
structure LcP {α : Type} (H1 : Hp) (D : Addr) (xs : List α) (g : α → V) (i : Nat) (H : Hp) : Prop where
  new : H1 D = none
  same : Same H1 H
  at_ : H D = some (.lst ((xs.take i).map g))
theorem LcP.start {α : Type} {H1 : Hp} {D : Addr} {xs : List α} {g : α → V} (h : H1 D = none) : LcP H1 D xs g 0 (upd H1 D (.lst [])) := ⟨h, Same.new h, upd_same⟩
theorem LcP.step {α : Type} {H1 H H4 : Hp} {D : Addr} {xs : List α} {g : α → V} {i : Nat} {x : α} {y : V} (p : LcP H1 D xs g i H) (s : Same H H4) (hx : xs[i]? = some x) (hy : y = g x) (hl : xs.length ≤ sizeLine) :
    ∃ acc, H4 D = some (.lst acc) ∧ acc.length < sizeLine ∧ LcP H1 D xs g (i + 1) (upd H4 D (.lst (acc ++ [y]))) := by
  have hi : i < xs.length := (List.getElem?_eq_some_iff.mp hx).1
  refine ⟨_, s _ _ p.at_, by simp; omega, p.new, fun b o e => ?_, ?_⟩
  · rw [upd_ne (ne_of_none e p.new)]
    exact s _ _ (p.same _ _ e)
  · rw [upd_same, hy, List.take_add_one, hx, List.map_append]
    rfl
theorem LcP.done {α : Type} {H1 H : Hp} {D : Addr} {xs : List α} {g : α → V} (p : LcP H1 D xs g xs.length H) : H D = some (.lst (xs.map g)) := by
  have h := p.at_
  rw [List.take_length] at h
  exact h

/-- a comprehension: what is laid so far is told by A -/
structure LcA (H1 : Hp) (D : Addr) (A : Nat → List V) (i : Nat) (H : Hp) : Prop where
  new : H1 D = none
  same : Same H1 H
  at_ : H D = some (.lst (A i))
theorem LcA.start {H1 : Hp} {D : Addr} {A : Nat → List V} (h : H1 D = none) (h0 : A 0 = []) : LcA H1 D A 0 (upd H1 D (.lst [])) := ⟨h, Same.new h, by rw [upd_same, h0]⟩
theorem LcA.put {H1 H H4 : Hp} {D : Addr} {A : Nat → List V} {i : Nat} {y : V} (p : LcA H1 D A i H) (s : Same H H4) (hA : A (i + 1) = A i ++ [y]) (hl : (A i).length < sizeLine) :
    ∃ acc, H4 D = some (.lst acc) ∧ acc.length < sizeLine ∧ LcA H1 D A (i + 1) (upd H4 D (.lst (acc ++ [y]))) := by
  refine ⟨_, s _ _ p.at_, hl, p.new, fun b o e => ?_, by rw [upd_same, hA]⟩
  rw [upd_ne (ne_of_none e p.new)]
  exact s _ _ (p.same _ _ e)
theorem LcA.skip {H1 H H4 : Hp} {D : Addr} {A : Nat → List V} {i : Nat} (p : LcA H1 D A i H) (s : Same H H4) (hA : A (i + 1) = A i) : LcA H1 D A (i + 1) H4 :=
  ⟨p.new, p.same.trans s, by rw [hA]; exact s _ _ p.at_⟩

/-- tuples and locked things stay -/
def Immut : HO → Prop
  | .tup _ => True
  | .frz _ _ => True
  | .ins _ _ _ => True
  | .own _ => True
  | _ => False
def KeepT (H H' : Hp) : Prop := ∀ t u, Immut u → H t = some u → H' t = some u
theorem KeepT.refl (H : Hp) : KeepT H H := fun _ _ _ h => h
theorem KeepT.trans {H H1 H2 : Hp} (a : KeepT H H1) (b : KeepT H1 H2) : KeepT H H2 := fun t u i h => b t u i (a t u i h)
theorem Same.kt {H H' : Hp} (s : Same H H') : KeepT H H' := fun t u _ h => s t u h
theorem KeepT.new {H : Hp} {p : Addr} {o : HO} (h : H p = none) : KeepT H (upd H p o) := Same.kt (Same.new h)
theorem KeepT.lst {H : Hp} {p : Addr} {xs : List V} {o : HO} (h : H p = some (.lst xs)) : KeepT H (upd H p o) := fun t u i e => by
  have hn : t ≠ p := fun q => by
    rw [q, h] at e
    cases e
    exact i
  rw [upd_ne hn]
  exact e
mutual
def noList : PyData → Bool
  | .list _ => false
  | .dict _ => false
  | .tuple xs => noLists xs
  | _ => true
def noLists : List PyData → Bool
  | [] => true
  | x :: r => noList x && noLists r
end
theorem SqT.keep {K : PySem.W.Frag} {H H' : Hp} {a : Addr} {xs : List V} (e : KeepT H H') (h : SqT K H a xs) : SqT K H' a xs := by
  rcases h with (h | ⟨o, h⟩) | h
  · exact .inl (.inl (e _ _ trivial h))
  · exact .inl (.inr ⟨o, e _ _ trivial h⟩)
  · exact .inr h
mutual
theorem Dp.keep {K : PySem.W.Frag} {H H' : Hp} (e : KeepT H H') : ∀ {v : V} {d : PyData}, Dp K H v d → noList d = true → Dp K H' v d
  | _, _, .non, _ => .non
  | _, _, .bl b, _ => .bl b
  | _, _, .int i, _ => .int i
  | _, _, .str x, _ => .str x
  | _, _, .lst _ _, h => by cases h
  | _, _, .tup s r, h => .tup (SqT.keep e s) (DpAll.keep e r h)
theorem DpAll.keep {K : PySem.W.Frag} {H H' : Hp} (e : KeepT H H') : ∀ {v : List V} {d : List PyData}, DpAll K H v d → noLists d = true → DpAll K H' v d
  | _, _, .nil, _ => .nil
  | _, _, .cons a b, h => by
    have h' := Bool.and_eq_true_iff.mp h
    exact .cons (Dp.keep e a h'.1) (DpAll.keep e b h'.2)
end
theorem DpAll.snoc {K : PySem.W.Frag} {H : Hp} {y : V} {c : PyData} (hy : Dp K H y c) : ∀ {v : List V} {d : List PyData}, DpAll K H v d → DpAll K H (v ++ [y]) (d ++ [c])
  | _, _, .nil => .cons hy .nil
  | _, _, .cons a b => .cons a (DpAll.snoc hy b)
theorem DpAll.take {K : PySem.W.Frag} {H : Hp} : ∀ {v : List V} {d : List PyData} (n : Nat), DpAll K H v d → DpAll K H (v.take n) (d.take n)
  | _, _, 0, _ => .nil
  | _, _, _ + 1, .nil => .nil
  | _, _, n + 1, .cons a b => .cons a (DpAll.take n b)
theorem DpAll.set {K : PySem.W.Frag} {H : Hp} {y : V} {c : PyData} (hy : Dp K H y c) : ∀ {v : List V} {d : List PyData} (n : Nat), DpAll K H v d → DpAll K H (v.set n y) (d.set n c)
  | _, _, _, .nil => .nil
  | _, _, 0, .cons _ b => .cons hy b
  | _, _, n + 1, .cons a b => .cons a (DpAll.set hy n b)

theorem DpAll.ints {K : PySem.W.Frag} {H : Hp} : ∀ ns : List Int, DpAll K H (ns.map V.int) (ns.map .int)
  | [] => .nil
  | n :: r => .cons (.int n) (DpAll.ints r)
theorem lay_ints (ns : List Int) : PyData.canLayAll0 (ns.map .int) = true ∧ PyData.depthAll (ns.map .int) = 0 ∧ nodesAll (ns.map .int) = ns.length := by
  induction ns with
  | nil => exact ⟨rfl, rfl, rfl⟩
  | cons n r ih =>
    refine ⟨ih.1, ?_, ?_⟩
    · show max 0 (PyData.depthAll (r.map .int)) = 0
      rw [ih.2.1]
      rfl
    · show 1 + nodesAll (r.map .int) = r.length + 1
      rw [ih.2.2]
      omega
theorem shaped_ints (ns : List Int) : SeqAt.shaped (.list (ns.map .int)) = true := by
  obtain ⟨h1, h2, _⟩ := lay_ints ns
  show (PyData.canLayAll0 (ns.map .int) && decide (PyData.depthAll (ns.map .int) + 1 ≤ 64)) = true
  rw [h1, h2]
  rfl
/-- those of xs whose data is kept -/
def selV {α : Type} (k : α → Bool) (xs : List V) (ps : List α) : List V := ((xs.zip ps).filter fun z => k z.2).map Prod.fst
theorem DpAll.sel {α : Type} {K : PySem.W.Frag} {H : Hp} {k : α → Bool} {g : α → PyData} : ∀ {xs : List V} {ps : List α}, DpAll K H xs (ps.map g) → DpAll K H (selV k xs ps) ((ps.filter k).map g)
  | [], [], _ => .nil
  | _ :: _, [], h => by cases h
  | [], _ :: _, h => by cases h
  | x :: xs, p :: ps, h => by
    cases h with
    | cons a b =>
      have ih := DpAll.sel (k := k) b
      unfold selV at ih ⊢
      rw [List.zip_cons_cons, List.filter_cons, List.filter_cons]
      cases hk : k p
      · rw [if_neg (by simp [hk]), if_neg (by simp)]
        exact ih
      · rw [if_pos (by simp [hk]), if_pos rfl]
        exact .cons a ih
theorem selV_take {α : Type} {k : α → Bool} {xs : List V} {ps : List α} {i : Nat} {x : V} {p : α} (hx : xs[i]? = some x) (hp : ps[i]? = some p) :
    selV k (xs.take (i + 1)) (ps.take (i + 1)) = selV k (xs.take i) (ps.take i) ++ (if k p then [x] else []) := by
  unfold selV
  have tz : ∀ n, (xs.take n).zip (ps.take n) = (xs.zip ps).take n := fun n => by rw [List.zip_eq_zipWith, List.zip_eq_zipWith, List.take_zipWith]
  rw [tz, tz, List.take_add_one, (List.getElem?_zip_eq_some (z := (x, p))).mpr ⟨hx, hp⟩, List.filter_append, List.map_append]
  congr 1
  cases hk : k p <;> simp [hk]
theorem selV_len {α : Type} {k : α → Bool} {xs : List V} {ps : List α} : (selV k xs ps).length ≤ xs.length := by
  unfold selV
  rw [List.length_map]
  exact Nat.le_trans (List.length_filter_le _ _) (by rw [List.length_zip]; omega)

/-- the box of draws at B, n draws behind it at most -/
def Box (H : Hp) (B : Addr) (n : Nat) : Prop := ∃ b0 b1 b2 : Int, H B = some (.lst [.int b0, .int b1, .int b2]) ∧ 0 ≤ b0 ∧ 0 ≤ b1 ∧ b1 < 2147483647 ∧ 0 ≤ b2 ∧ b2 ≤ (n : Int)
theorem Box.mono {H : Hp} {B : Addr} {n m : Nat} (b : Box H B n) (h : n ≤ m) : Box H B m := by
  obtain ⟨b0, b1, b2, e, h0, h1, h2, h3, h4⟩ := b
  exact ⟨b0, b1, b2, e, h0, h1, h2, h3, by omega⟩
theorem Box.some {H : Hp} {B : Addr} {n : Nat} (b : Box H B n) : ∃ o, H B = some o := by
  obtain ⟨b0, b1, b2, e, _⟩ := b
  exact ⟨_, e⟩
theorem Box.keep {H H' : Hp} {B : Addr} {n : Nat} (b : Box H B n) (s : Same H H') : Box H' B n := by
  obtain ⟨b0, b1, b2, e, h⟩ := b
  exact ⟨b0, b1, b2, s _ _ e, h⟩
theorem Box.put {H : Hp} {B p : Addr} {n : Nat} {o : HO} (b : Box H B n) (h : p ≠ B) : Box (upd H p o) B n := by
  obtain ⟨b0, b1, b2, e, r⟩ := b
  exact ⟨b0, b1, b2, by rw [upd_ne h.symm]; exact e, r⟩
theorem Box.ne {H : Hp} {B p : Addr} {n : Nat} (b : Box H B n) (h : H p = none) : p ≠ B := by
  obtain ⟨o, e⟩ := b.some
  exact (ne_of_none e h).symm
theorem Fr.kt {H H' : Hp} {B : Addr} {n : Nat} (f : Fr [B] H H') (b : Box H B n) : KeepT H H' := fun t u i e => by
  have hn : t ≠ B := fun q => by
    obtain ⟨b0, b1, b2, hB, _⟩ := b
    rw [q, hB] at e
    cases e
    exact i
  exact f t u (by simp [hn]) e
theorem atI_in {xs : List V} {r : Int} (h0 : 0 ≤ r) (h1 : r < xs.length) : ∃ v, atI xs r = some v ∧ v ∈ xs := by
  obtain ⟨j, rfl⟩ := Int.eq_ofNat_of_zero_le h0
  have hj : j < xs.length := by omega
  exact ⟨xs[j], atI_nat (List.getElem?_eq_getElem hj), List.getElem_mem hj⟩
theorem walk_range0 {n : Nat} : Walk (Itr 0 n) n (fun _ => True) (YFn fun i => .int ((i : Nat) : Int)) :=
  walk_range.mono (fun _ h => h) fun i H x H' _ _ y => ⟨y.1, by rw [y.2]; show V.int (0 + (i : Int)) = V.int (i : Int); rw [Int.zero_add]⟩
theorem iteD {p A B : Prop} [Decidable p] (h1 : p → A) (h2 : ¬ p → B) : if decide p = true then A else B := by
  by_cases h : p
  · rw [if_pos (decide_eq_true h)]; exact h1 h
  · rw [if_neg (by rw [decide_eq_false h]; exact Bool.false_ne_true)]; exact h2 h
theorem iteND {p A B : Prop} [Decidable p] (h1 : ¬ p → A) (h2 : p → B) : if (!decide p) = true then A else B := by
  by_cases h : p
  · rw [decide_eq_true h]; exact iteF (h2 h)
  · rw [decide_eq_false h]; exact iteT (h1 h)
theorem iteDS {p A B : Prop} [Decidable p] (h : p) (a : A) : if decide p = true then A else B := by rw [if_pos (decide_eq_true h)]; exact a
theorem iteDN {p A B : Prop} [Decidable p] (h : ¬ p) (b : B) : if decide p = true then A else B := by rw [decide_eq_false h]; exact iteF b
theorem iteNDN {p A B : Prop} [Decidable p] (h : ¬ p) (a : A) : if (!decide p) = true then A else B := by rw [decide_eq_false h]; exact iteT a
theorem ixN_nat {n j : Nat} (h : j < n) : ixN n (j : Int) = some j := by
  unfold ixN
  rw [if_pos (by omega), if_pos (by omega), Int.toNat_natCast]
def rLenK (K : PySem.W.Frag) : List V → Hp → VK → Prop := fun xs H Q => ∃ p ys, xs = [.ref p] ∧ (SqL K H p ys ∨ SqT K H p ys) ∧ Q (.int ys.length) H
theorem call_len_seqK {X : Cx} {K : PySem.W.Frag} (h : X.K = K) : CallR X (.builtin "len") (rLenK K) := by
  subst h
  exact call_len_seq
theorem atI_last {xs : List V} {x : V} (h : xs[xs.length - 1]? = some x) : atI xs (-1) = some x := by
  have hl : xs.length - 1 < xs.length := (List.getElem?_eq_some_iff.mp h).1
  have e : ixN xs.length (-1) = some (xs.length - 1) := by
    unfold ixN
    rw [if_neg (by decide), if_pos (by omega)]
    congr 1
    omega
  unfold atI
  rw [e]
  exact h
theorem ixN_last {n : Nat} (h : 0 < n) : ixN n (-1) = some (n - 1) := by
  unfold ixN
  rw [if_neg (by decide), if_pos (by omega)]
  congr 1
  omega
theorem vals3 {a b c : V} {us : List Value} (r : Vals [a, b, c] us) : ∃ x y z, us = [x, y, z] ∧ RelV a x ∧ RelV b y ∧ RelV c z := by
  cases r with
  | cons r1 r => cases r with
    | cons r2 r => cases r with
      | cons r3 r => cases r; exact ⟨_, _, _, rfl, r1, r2, r3⟩
def max3 (i j k : Int) : Int := if k > (if j > i then j else i) then k else (if j > i then j else i)
theorem call_max3 {X : Cx} (hc : X.calm = true) : CallR X (.builtin "max") (fun xs H Q => ∃ i j k, xs = [.int i, .int j, .int k] ∧ Q (.int (max3 i j k)) H) := by
  intro pins s σ H xs us Q I r h
  obtain ⟨i, j, k, rfl, q⟩ := h
  obtain ⟨u, v, w', rfl, ⟨t, rfl⟩, ⟨t', rfl⟩, ⟨t'', rfl⟩⟩ := vals3 r
  refine max_three_ints (I.ok.hd hc) fun h' tk kk => ⟨_, H, I.kept kk, ?_, q⟩
  unfold max3
  by_cases h1 : j > i
  · rw [if_pos h1, if_pos h1]
    by_cases h2 : k > j
    · rw [if_pos h2, if_pos h2]; exact ⟨_, rfl⟩
    · rw [if_neg h2, if_neg h2]; exact ⟨_, rfl⟩
  · rw [if_neg h1, if_neg h1]
    by_cases h2 : k > i
    · rw [if_pos h2, if_pos h2]; exact ⟨_, rfl⟩
    · rw [if_neg h2, if_neg h2]; exact ⟨_, rfl⟩
theorem putF_len (f : Str) (v : V) : ∀ l : List (Str × V), (putF f v l).length ≤ l.length + 1
  | [] => Nat.le_refl _
  | (g, w) :: r => by
    unfold putF
    split
    · exact Nat.le_succ _
    · have := putF_len f v r
      simp only [List.length_cons]
      omega
theorem putF_few {f : Str} {v : V} {l : List (Str × V)} {n : Nat} (h : l.length ≤ n) : (putF f v l).length ≤ n + 1 := Nat.le_trans (putF_len f v l) (Nat.succ_le_succ h)
theorem putF_ok {l : List (Str × V)} {n : Nat} (h : l.length ≤ n) (hn : n < 1000) : l.length < 1000 := Nat.lt_of_le_of_lt h hn
theorem ix3 {a b c : V} : (atI [a, b, c] 0 = some a ∧ atI [a, b, c] 1 = some b ∧ atI [a, b, c] 2 = some c) := ⟨rfl, rfl, rfl⟩

theorem log2_ok {x : Int} (h : x.natAbs < 2 ^ 200) : x.natAbs.log2 < 1920 := by
  by_cases h0 : x.natAbs = 0
  · rw [h0]; decide
  · exact Nat.lt_of_lt_of_le ((Nat.log2_lt h0).mpr h) (by decide)
theorem log2_ok18 {x : Int} (h : x.natAbs < 10 ^ 18) : x.natAbs.log2 < 1920 := log2_ok (Nat.lt_of_lt_of_le h (by decide))
theorem ite01 (b : Bool) : (0 : Int) ≤ (if b = true then 1 else 0) := by cases b <;> decide
theorem pe_globE {X : Cx} {x : Str} {v : V} {pos : Pos} (hg : Gl X x) (h : ∃ u, X.mg x = some u ∧ RelV v u) (hd : (x == ("__debug__" : Str)) = false := by decide) : PE X (.Name x pos) (tC v) := by
  obtain ⟨u, hm, r⟩ := h
  exact pe_glob hg hm r hd
/-- s.rpartition(t) -/
theorem mt_rpartition {X : Cx} : MtR X "str.rpartition" (fun x xs H Q => ∃ a b, x = .str a ∧ xs = [.str b] ∧ (b.length == 0) = false ∧ a.length ≤ sizeLine ∧
    ∀ p, H p = none → Q (.ref p) (upd H p (.tup [.str (Txt.rpartition a b).1, .str (Txt.rpartition a b).2.1, .str (Txt.rpartition a b).2.2]))) := by
  intro pins s σ H x xs v us Q I rx rs h
  obtain ⟨a, b, rfl, rfl, hb, hz, h⟩ := h
  obtain ⟨t, rfl⟩ := rx
  cases rs with
  | cons r1 rs =>
    cases rs
    obtain ⟨u, rfl⟩ := r1
    refine call_meets F.slot_str_rpartition (typeIs_str _ _ _) F.entry_str_rpartition (F.args_str_rpartition_2 _ _) (meets_str_rpartition a b t u hb hz) ?_
    unfold Txt.rpartition at h
    revert h
    cases Builtin.Str.lastOccurrence a b 0 a.length with
    | none => intro h; exact laid_parts I h
    | some i => intro h; exact laid_parts I h
end Z
/-! defs that run while no repr is under way; repr and str of data -/
namespace Z
open PySem L2 PySem.Spec PyProof.Rows

/-- a promise that is kept wherever no repr is under way -/
structure FnG (P : Program) (w : World) (K : PySem.W.Frag) (mg : Str → Option Value) (base : Heap) (k : Nat) (f : Addr) (fd : FuncData)
    (ps : List Str) (sp : Sp) : Prop where
  size : ∀ vs H Q E, sp vs H Q E → vs.length = ps.length
  goes : ∀ (A : Around) (outer : List Env) (s : Shared) (H : Hp) (args : Args) (us : List Value) (vs : List V) (Q : VK) (E : XK),
    Room k A → A.guards = some [] → Env0 P w K mg base A outer s H → BindsTo s fd args (ps.zip us) → Vals vs us → sp vs H Q E →
    codeAny (model P w) A (.call (.ref f) args) (CR CX0 outer P w H s Q E) s
section
variable {P : Program} {w : World} {K : PySem.W.Frag} {mg : Str → Option Value} {base : Heap} {k : Nat} {f : Addr} {fd : FuncData} {ps : List Str} {sp : Sp}
theorem FnG.of (F : FnOk P w K mg base CX0 k f fd ps sp) : FnG P w K mg base k f fd ps sp :=
  ⟨F.len, fun A outer s H args us vs Q E hr _ => F.run A outer s H args us vs Q E hr⟩
theorem FnG.fit (F : FnG P w K mg base k f fd ps sp) {j : Nat} (h : k ≤ j) : FnG P w K mg base j f fd ps sp :=
  ⟨F.size, fun A outer s H args us vs Q E hr => F.goes A outer s H args us vs Q E (hr.mono h)⟩
/-- its body, in a frame of which it is known that no repr is under way -/
theorem okG {x qual : Str} {st : Stmt} {N : List Str} (F : Fun K x qual st f fd) (S : FnScope N ps (defScope st))
    (len : ∀ vs H Q E, sp vs H Q E → vs.length = ps.length)
    (body : ∀ (cdv : Value) (A : Around) (outer : List Env) (s : Shared) (H : Hp) (vs : List V) (Q : VK) (E : XK),
      Room k (A.deeper (envOfC qual (defScope st) s.heap.objs.size f cdv)) →
      (A.deeper (envOfC qual (defScope st) s.heap.objs.size f cdv)).guards = some [] → sp vs H Q E →
      ∃ t, PSs (cxOf CX0 P w K mg base N qual (defScope st) f cdv A outer s H E).nox (defBody st) t ∧
        t { nx := fun _ H' => Q .non H', rt := Q } (start N vs) H) :
    FnG P w K mg base (k + 1) f fd ps sp := by
  obtain ⟨oc, od, kV, doc, pm, an, cdv, ct, osl, rfl, at_f, code⟩ := F.ex
  refine ⟨len, fun A outer s H args us vs Q E room calm start0 binds rel want => ?_⟩
  have here : K.In s.heap := start0.mod.kin.keeps fun b o e => (start0.bs b o e).1
  have nolim : s.heap.NoLimit := start0.mod.nolimit.keeps fun b o e => (start0.bs b o e).1
  obtain ⟨t, der, rd⟩ := body cdv A outer s H vs Q E (room.deeper _) calm want
  have kinds : ∀ y ∈ ps.zip us, (defScope st).names.lookup y.1 = some .local ∨
      ((defScope st).names.lookup y.1 = some .cell ∧ ((cellsFrom (s.heap.objs.size + 1) (defScope st).names []).lookup y.1).isSome = true) := by
    rintro ⟨n, v⟩ hy
    refine (S.par n (List.of_mem_zip hy).1).imp id fun q => ⟨q, PySem.W.cellsFrom_some _ _ _ (.inl q)⟩
  refine codeAny_call_function room.depth (here _ _ at_f) rfl S.co S.gen rfl (PySem.W.codeRec_of here code) (binds _ _ _ _ ?_)
  refine wpAny_newFunctionEnv_cells S.kind kinds fun env he s1 inside => ?_
  subst he
  refine ⟨nolim.keeps inside.toInCall.keep, codeAny_func ?_⟩
  have I := inv_start (CX := CX0) (E := E) S room.hd start0 (len _ _ _ _ want) rel inside
  refine wpAny_mono (der.nox.run [] s1 (start N vs) H _ I rd) (fun fl s' ends => ?_) fun e s' ends => ends
  cases fl with
  | ret u => obtain ⟨v, σ', H', J, rv, q⟩ := ends; exact ⟨v, H', J.os, J.bare, J.base, J.hok, rv, q⟩
  | next => obtain ⟨σ', H', J, q⟩ := ends; exact ⟨.non, H', J.os, J.bare, J.base, J.hok, rfl, q⟩
  | brk => obtain ⟨_, _, _, q⟩ := ends; exact q.elim
  | cont => obtain ⟨_, _, _, q⟩ := ends; exact q.elim
end
section
variable {X : Cx} {k : Nat} {f : Addr} {fd : FuncData} {ps : List Str} {sp : Sp} {dvs : List V} {ds : List Value} {x : Str} {p pos : Pos} {e : Expr} {es : List Expr} {t : TA}
/-- such a callee runs -/
theorem runG {pins : List (Addr × Obj)} {σ : L2.St} {H : Hp} {s : Shared} {Q : VK} {us : List Value} {vs : List V} (F : FnG X.prog X.w X.K X.mg X.base k f fd ps sp)
    (hr : Room k X.A) (calm : X.A.guards = some []) (hb : Binds X.K fd ps ds) (hd : Vals dvs ds) (I : Inv X pins σ H s) (r : Vals vs us)
    (h : sp (vs ++ dvs) H Q E0) : wpAny (model X.prog X.w) X.A (call (.ref f) us) (EP X pins σ Q) X.xe s := by
  have both : Vals (vs ++ dvs) (us ++ ds) := r.append hd
  have enough : (us ++ ds).length = ps.length := both.length ▸ F.size _ _ _ _ h
  refine wpAny_call (codeAny_mono (F.goes X.A X.stack s H ⟨us, []⟩ _ _ Q E0 hr calm I.env0 (hb s us I.kIn enough) both h) fun res s' out => ?_)
  match res, out with
  | .ok (.ret u), out => exact I.after out
  | .ok .next, out => exact (out : False).elim
  | .ok .brk, out => exact (out : False).elim
  | .ok .cont, out => exact (out : False).elim
  | .error _, out => exact (out : False).elim
theorem pe_callG (F : FnG X.prog X.w X.K X.mg X.base k f fd ps sp) (hr : Room k X.A) (calm : X.A.guards = some []) (hg : Gl X x)
    (hm : X.mg x = some (.ref f)) (hk : PySem.W.keepIn X.K (.ref f) = true) (hb : Binds X.K fd ps ds) (hd : Vals dvs ds) (ha : PA X (e :: es) t)
    (nodebug : (x == ("__debug__" : Str)) = false := by decide)
    (nostar : starEach (e :: es) X.env = (false, eval e X.env) :: starEach es X.env := by rfl)
    (plain : (backTo pos (starEach es X.env)).any (·.1) = false := by rfl) : PE X (.Call (.Name x p) (e :: es) [] pos) (tCall sp dvs E0 t) :=
  ⟨fun pins s σ H Q I h => wpAny_Call_Name_kw (ld_glob I hg hm
    (PySem.W.callWith_K (h₀ := X.base) I.ok.mod.kin hk (thn (ha.run pos pins s σ H _ I h) fun us s1 ⟨vs, H1, I1, r, q⟩ =>
      ⟨I1.kIn, runG F hr calm hb hd I1 r q⟩) nostar plain) nodebug)⟩
theorem pe_callG0 (F : FnG X.prog X.w X.K X.mg X.base k f fd ps sp) (hr : Room k X.A) (calm : X.A.guards = some []) (hg : Gl X x)
    (hm : X.mg x = some (.ref f)) (hk : PySem.W.keepIn X.K (.ref f) = true) (hb : Binds X.K fd ps ds) (hd : Vals dvs ds)
    (nodebug : (x == ("__debug__" : Str)) = false := by decide) : PE X (.Call (.Name x p) [] [] pos) (tCall sp dvs E0 tNil) :=
  ⟨fun pins s σ H Q I h => wpAny_Call_Name_kw (ld_glob I hg hm (PySem.W.callWith_K0 I.kIn hk (runG (us := []) F hr calm hb hd I .nil h)) nodebug)⟩
end

/-! the law's call, its def being such a one -/
theorem law_callG {P : Program} {w : World} {K : PySem.W.Frag} {mg mb : Str → Option Value} {k : Nat} {fa a : Addr} {fd : FuncData} {x : Str} {sp : Sp} {s₁ : Shared} {vs : List Value} {ns : List Int}
    (kin : K.In s₁.heap) (ng : s₁.heap.Ns mainGlobals mg) (nb : s₁.heap.Ns builtinsNs mb) (boot : ∀ x : Str, x ≠ "__name__" → mb x = bootBuiltins x)
    (nolim : s₁.heap.NoLimit) (nogen : s₁.gens = #[]) (at_a : s₁.heap.get? a = some { cls := .type "list", data := .seq vs.toArray })
    (ints_ : IntsAre vs ns) (few : ns.length ≤ sizeLine) (room : Room k callerA)
    (F : ∀ base : Heap, K.In base → base.Ns mainGlobals mg → FnG P w K mg base k fa fd [x] sp) (bind : ∀ (s : Shared) (u : Value), BindsTo s fd ⟨[u], []⟩ [(x, u)])
    (want : ∀ H : Hp, Only H → SqL K H a (ns.map V.int) → sp [.ref a] H (fun v _ => v = .bl true) fun _ _ _ => False) :
    codeAny (model P w) callerA (.call (.ref fa) ⟨[.ref a], []⟩)
      (fun r s' => r = .ok (.ret (.bool true)) ∧ OldK s₁.heap s'.heap ∧ s'.os = s₁.os ∧ AllBare s'.gens) s₁ := by
  have rel := vals_ints ints_
  have one : ∀ H : Hp, Only H → SqL K H a (ns.map V.int) → HOk P w H s₁.heap → (∀ b, H b ≠ none → b = a) → (H a ≠ none → K.lookup a = none) →
      codeAny (model P w) callerA (.call (.ref fa) ⟨[.ref a], []⟩)
        (fun r s' => r = .ok (.ret (.bool true)) ∧ OldK s₁.heap s'.heap ∧ s'.os = s₁.os ∧ AllBare s'.gens) s₁ := fun H only sq hok alone noK => by
    have dictOut : ∀ {b : Addr} {o : Obj} {es : Array DictEntry} {ep : Nat}, s₁.heap.get? b = some o → o.data = .dict es ep → H b = none := by
      intro b o es ep e d
      refine Option.eq_none_iff_forall_ne_some.mpr fun u q => ?_
      have hb := alone b (q ▸ Option.some_ne_none u)
      rw [hb, at_a] at e
      injection e with e
      rw [← e] at d
      exact Data.noConfusion d
    have nsIn : ∀ {b : Addr} {m : Str → Option Value}, s₁.heap.Ns b m → (hidT s₁.heap H).Ns b m := by
      rintro b m ⟨o, es, ep, e, d, r⟩
      exact ⟨o, es, ep, hidT_get e (dictOut e d), d, r⟩
    have kb : K.In (hidT s₁.heap H) := fun b o e => hidT_get (kin b o e) (Option.eq_none_iff_forall_ne_some.mpr fun u q => by
      have hb := alone b (q ▸ Option.some_ne_none u)
      rw [hb] at q e
      rw [noK (q ▸ Option.some_ne_none u)] at e
      cases e)
    have lim' : (hidT s₁.heap H).NoLimit := by
      obtain ⟨mc, h1, h2⟩ := nolim
      exact ⟨mc, nsIn h1, h2⟩
    have start0 : Env0 P w K mg (hidT s₁.heap H) callerA [] s₁ H :=
      ⟨rfl, ⟨kb, nsIn ng, ⟨mb, nsIn nb, boot⟩, lim'⟩, fun b o e => of_hidT e, Nat.le_of_eq (hidT_size _ _), trivial, (fun b hb => (List.not_mem_nil hb).elim), hok, .of_eq nogen⟩
    refine codeAny_mono ((F _ kb (nsIn ng)).goes callerA [] s₁ H ⟨[.ref a], []⟩ [.ref a] [.ref a] _ _ room rfl start0 (bind s₁ (.ref a)) (.cons rfl .nil) (want H only sq)) ?_
    intro res s' out
    match res, out with
    | .ok .next, out => exact (out : False).elim
    | .ok .brk, out => exact (out : False).elim
    | .ok .cont, out => exact (out : False).elim
    | .error _, out => exact (out : False).elim
    | .ok (.ret u), out =>
      obtain ⟨v, H', os, bare, un, hok', rv, q⟩ := out
      cases (show v = .bl true from q)
      cases (show u = Value.bool true from rv)
      refine ⟨rfl, OldK.of_keep fun b o e => ?_, os, bare⟩
      rcases only b with z | ⟨ob, xs, z⟩
      · exact un.keep b o e z (fun q => by cases q) (fun q => by cases q)
      · have e1 := (hok b _ z).1
        have e2 := (hok' b _ (un.frzs b ob _ z)).1
        rw [e] at e1
        injection e1 with e1
        rw [e1]
        exact e2
  by_cases hk : K.lookup a = none
  · refine one (fun b => if b = a then some (.frz { cls := .type "list", data := .seq vs.toArray } (.lst (ns.map V.int))) else none) (fun b => ?_)
      (.inl (.inr ⟨_, if_pos rfl⟩)) (fun b u z => ?_) (fun b z => ?_) fun _ => hk
    · exact if h : b = a then .inr ⟨_, _, if_pos h⟩ else .inl (if_neg h)
    · refine if h : b = a then ?_ else ?_
      · dsimp only at z
        rw [if_pos h] at z
        cases z
        rw [h]
        exact ⟨at_a, by rw [List.length_map]; exact few, vs, _, rel, at_a⟩
      · dsimp only at z
        rw [if_neg h] at z
        cases z
    · exact Decidable.byContradiction fun h => z (if_neg h)
  · obtain ⟨o, ho⟩ := Option.ne_none_iff_exists'.mp hk
    have e := kin a o ho
    rw [at_a] at e
    injection e with e
    refine one (fun _ => none) (fun _ => .inl rfl) (.inr ⟨_, vs.toArray, _, ho, by rw [← e], by rw [← e], by rw [← e], ?_, ?_⟩) (fun b u z => by cases z) (fun b z => (z rfl).elim) fun z => (z rfl).elim
    · rw [List.size_toArray, ints_.length]
      exact few
    · simpa using rel
theorem walk_ofG {l : PySem.W.OpenLaw} {n k : Nat} {q : Program} {loose : List Str} {XP : (Str → Option Value) → Heap → Prop} {YP : World → Heap → Prop} {d : DefRec} {K : Params → PySem.W.Frag}
    {sp : PySem.W.Frag → Sp} {x : Str} (most : l.most = some n) (line : n ≤ sizeLine) (nodef : d.params.defaults = []) (room : Room k callerA)
    (kin : ∀ (w : World) (h : Heap), YP w h → (K w.params).In h)
    (F : ∀ (w : World) (mg : Str → Option Value) (fa : Addr) (h : Heap), (K w.params).In h → h.Ns mainGlobals mg → mg d.name = some (.ref fa) →
      ∃ fd : FuncData, (∀ (s : Shared) (u : Value), BindsTo s fd ⟨[u], []⟩ [(x, u)]) ∧
        ∀ base : Heap, (K w.params).In base → base.Ns mainGlobals mg → FnG l.prog w (K w.params) mg base k fa fd [x] (sp (K w.params)))
    (want : ∀ (K : PySem.W.Frag) (H : Hp) (a : Addr) (ns : List Int), ns.length ≤ n → Only H → SqL K H a (ns.map V.int) → sp K [.ref a] H (fun v _ => v = .bl true) fun _ _ _ => False) :
    PySem.W.WalkO q loose XP YP l.row.toRowW d [] (fun f vs => PySem.call f vs) := by
  refine Att.attach_call most nodef fun w s₀ s₁ mg mb fa o pm cd doc a vs ns G Y ho hd hcd hmg hobj hints hlen hg => ?_
  obtain ⟨fd, hb, hF⟩ := F w mg fa _ (kin w _ Y) G.T.g hmg
  exact law_callG (kin w _ Y) G.T.g G.T.b G.T.builtins G.T.nolimit hg hobj hints (Nat.le_trans hlen line) room hF hb fun H only sq => want _ H a ns hlen only sq
end Z
namespace Z
open PySem L2 PySem.Spec PyProof.Rows
section
variable {X : Cx}
mutual
theorem Dp.plain {K : PySem.W.Frag} {H : Hp} : ∀ {v : V} {d : PyData}, Dp K H v d → d.hasDict = false
  | _, _, .non => rfl
  | _, _, .bl _ => rfl
  | _, _, .int _ => rfl
  | _, _, .str _ => rfl
  | _, _, .lst _ r => DpAll.plain r
  | _, _, .tup _ r => DpAll.plain r
theorem DpAll.plain {K : PySem.W.Frag} {H : Hp} : ∀ {v : List V} {d : List PyData}, DpAll K H v d → PyData.hasDictAll d = false
  | _, _, .nil => rfl
  | _, _, .cons a b => by
    show (PyData.hasDict _ || PyData.hasDictAll _) = false
    rw [Dp.plain a, DpAll.plain b]
    rfl
end
/-- repr(x), x a list or a tuple of data -/
theorem call_reprD (calm : X.A.guards = some []) (hu : X.A.units + 64 < cLine) : CallR X (.builtin "repr") (fun xs H Q => ∃ (a : Addr) (d : PyData), xs = [.ref a] ∧ Dp X.K H (.ref a) d ∧
    d.showable = true ∧ d.depth ≤ 60 ∧ d.shown.length ≤ sizeLine ∧ Q (.str d.shown) H) := by
  intro pins s σ H xs us Q I r h
  obtain ⟨a, d, rfl, hd, sh, dp, sz, q⟩ := h
  obtain ⟨u, rfl, rx⟩ := vals1 r
  obtain ⟨as, rd⟩ := Dp.reads I d _ u hd rx
  cases (show u = Value.ref a from rx)
  exact repr_of_reads' rd sh (PyData.noDict_hsm (Dp.plain hd)) calm (by omega) (fun _ _ e => e) (fun h' u tk hk => ⟨.str d.shown, H, I.kept (t' := tk) hk, ⟨u, rfl⟩, q⟩) sz
/-- str(x), x a list or a tuple of data -/
theorem call_strD (calm : X.A.guards = some []) (hu : X.A.units + 64 < cLine) : CallR X (.type "str") (fun xs H Q => ∃ (a : Addr) (d : PyData), xs = [.ref a] ∧ Dp X.K H (.ref a) d ∧
    d.showable = true ∧ d.depth ≤ 60 ∧ d.shown.length ≤ sizeLine ∧ Q (.str d.shown) H) := by
  intro pins s σ H xs us Q I r h
  obtain ⟨a, d, rfl, hd, sh, dp, sz, q⟩ := h
  obtain ⟨u, rfl, rx⟩ := vals1 r
  obtain ⟨as, rd⟩ := Dp.reads I d _ u hd rx
  cases (show u = Value.ref a from rx)
  exact str_of_reads rd sh (PyData.noDict_hsm (Dp.plain hd)) calm (by omega) (fun _ _ e => e) (fun h' u tk hk => ⟨.str d.shown, H, I.kept (t' := tk) hk, ⟨u, rfl⟩, q⟩) sz
end
end Z
/-! carrying facts along heaps -/
namespace Z
open PySem L2
theorem Same.at {H H' : Hp} {p : Addr} {o : HO} (s : Same H H') (h : H p = some o) : H' p = some o := s _ _ h
theorem Fr.at1 {H H' : Hp} {B p : Addr} {o : HO} (f : Fr [B] H H') (n : p ≠ B) (h : H p = some o) : H' p = some o := f p o (by simp [n]) h
theorem upd_at {H : Hp} {p q : Addr} {o u : HO} (n : q ≠ p) (h : H q = some o) : upd H p u q = some o := by rw [upd_ne n]; exact h
theorem upd_new {H : Hp} {p q : Addr} {o u : HO} (n : H p = none) (h : H q = some o) : upd H p u q = some o := by rw [upd_ne (ne_of_none h n)]; exact h
theorem KeepT.bySame {H H1 H2 : Hp} (s : Same H1 H2) (k : KeepT H H1) : KeepT H H2 := k.trans (Same.kt s)
theorem KeepT.byFr {H H1 H2 : Hp} {B : Addr} {n : Nat} (f : Fr [B] H1 H2) (b : Box H1 B n) (k : KeepT H H1) : KeepT H H2 := k.trans (f.kt b)
theorem Fr.bySame {H H1 H2 : Hp} {M : List Addr} (s : Same H1 H2) (f : Fr M H H1) : Fr M H H2 := f.trans (Same.fr s)
theorem Fr.byFr {H H1 H2 : Hp} {M : List Addr} (g : Fr M H1 H2) (f : Fr M H H1) : Fr M H H2 := f.trans g
theorem Same.bySame {H H1 H2 : Hp} (s : Same H1 H2) (f : Same H H1) : Same H H2 := f.trans s
theorem Box.bySame {H H' : Hp} {B : Addr} {n : Nat} (s : Same H H') (b : Box H B n) : Box H' B n := b.keep s
theorem Dp.bySame {K : PySem.W.Frag} {H H' : Hp} {v : V} {d : PyData} (s : Same H H') (h : Dp K H v d) : Dp K H' v d := Dp.mono s h
theorem Dp.byFr {K : PySem.W.Frag} {H H' : Hp} {v : V} {d : PyData} {B : Addr} {n : Nat} (f : Fr [B] H H') (b : Box H B n) (nl : noList d = true) (h : Dp K H v d) : Dp K H' v d := Dp.keep (f.kt b) h nl
theorem DpAll.bySame {K : PySem.W.Frag} {H H' : Hp} {v : List V} {d : List PyData} (s : Same H H') (h : DpAll K H v d) : DpAll K H' v d := DpAll.mono s h
theorem DpAll.byFr {K : PySem.W.Frag} {H H' : Hp} {v : List V} {d : List PyData} {B : Addr} {n : Nat} (f : Fr [B] H H') (b : Box H B n) (nl : noLists d = true) (h : DpAll K H v d) : DpAll K H' v d := DpAll.keep (f.kt b) h nl
theorem SqT.bySame {K : PySem.W.Frag} {H H' : Hp} {a : Addr} {xs : List V} (s : Same H H') (h : SqT K H a xs) : SqT K H' a xs := SqT.mono s h
theorem SqT.byFr {K : PySem.W.Frag} {H H' : Hp} {a : Addr} {xs : List V} {B : Addr} {n : Nat} (f : Fr [B] H H') (b : Box H B n) (h : SqT K H a xs) : SqT K H' a xs := SqT.keep (f.kt b) h
theorem SqL.bySame {K : PySem.W.Frag} {H H' : Hp} {a : Addr} {xs : List V} (s : Same H H') (h : SqL K H a xs) : SqL K H' a xs := SqL.mono s h
theorem Box.byPut {H : Hp} {B p : Addr} {n : Nat} {o : HO} (h : p ≠ B) (b : Box H B n) : Box (upd H p o) B n := b.put h
theorem Fr.byPut {M : List Addr} {H H' : Hp} {p : Addr} {o : HO} (h : p ∈ M) (f : Fr M H H') : Fr M H (upd H' p o) := f.put h
theorem none_of_same {H H' : Hp} {p : Addr} (s : Same H H') (h : H' p = none) : H p = none := by
  cases e : H p with
  | none => rfl
  | some o => rw [s _ _ e] at h; cases h
end Z
/-! tuples cut and put together, by what is to be read there -/
namespace Z
open PySem L2
theorem cut_to (xs : List V) (k : Nat) : cutV xs none (some (k : Int)) = xs.take k := by
  unfold cutV
  rw [HT.sIx_nat, HT.sIx_none, List.drop_zero, Nat.sub_zero]
  by_cases h : k ≤ xs.length
  · rw [Nat.min_eq_left h]
  · rw [Nat.min_eq_right (by omega), List.take_length, List.take_of_length_le (by omega)]
theorem cut_from (xs : List V) (k : Nat) : cutV xs (some (k : Int)) none = xs.drop k := by
  unfold cutV
  rw [HT.sIx_nat, HT.sIx_none]
  by_cases h : k ≤ xs.length
  · rw [Nat.min_eq_left h, List.take_of_length_le (by rw [List.length_drop]; omega)]
  · rw [Nat.min_eq_right (by omega), List.drop_length, List.take_nil, List.drop_of_length_le (by omega)]
theorem cut_mid (xs : List V) (k l : Nat) : cutV xs (some (k : Int)) (some (l : Int)) = (xs.take l).drop k := by
  unfold cutV
  rw [HT.sIx_nat, HT.sIx_nat, List.drop_take]
  by_cases h : k ≤ xs.length
  · rw [Nat.min_eq_left h]
    by_cases h2 : l ≤ xs.length
    · rw [Nat.min_eq_left h2]
    · rw [Nat.min_eq_right (by omega), List.take_of_length_le (by rw [List.length_drop]; omega), List.take_of_length_le (by rw [List.length_drop]; omega)]
  · rw [show min k xs.length = xs.length by omega, List.drop_length, List.drop_of_length_le (show xs.length ≤ k by omega), List.take_nil, List.take_nil]
theorem sl_of {K : PySem.W.Frag} {H : Hp} {a : Addr} {xs : List V} {lo hi : Option Int} {Q : VK} (h : SqT K H a xs)
    (q : ∀ p H', Same H H' → SqT K H' p (cutV xs lo hi) → Q (.ref p) H') : rSlA K (.ref a) lo hi H Q := by
  refine ⟨a, xs, rfl, h, fun e => q a H (Same.refl _) ?_, fun _ p hp => q p _ (Same.new hp) (SqT.of upd_same)⟩
  unfold cutV
  rw [e.1, e.2, List.drop_zero, Nat.sub_zero, List.take_length]
  exact h
theorem cat_of {K : PySem.W.Frag} {H : Hp} {a b : Addr} {xs ys : List V} {Q : VK} (h : SqT K H a xs) (h2 : SqT K H b ys) (hl : xs.length + ys.length ≤ sizeLine)
    (q : ∀ p H', Same H H' → SqT K H' p (xs ++ ys) → Q (.ref p) H') : rCatA K (.ref a) (.ref b) H Q := by
  refine ⟨a, b, xs, ys, rfl, rfl, h, h2, hl, fun e => ?_, fun _ e => ?_, fun _ _ p hp => q p _ (Same.new hp) (SqT.of upd_same)⟩
  · subst e
    exact q b H (Same.refl _) h2
  · subst e
    exact q a H (Same.refl _) (by rw [List.append_nil]; exact h)
end Z
/-! defs with defaults -/
namespace Z
open PySem L2 PySem.Spec PyProof.Rows
section
variable {P : Program} {w : World} {K : PySem.W.Frag} {mg : Str → Option Value} {base : Heap} {x qual : Str} {params : Arguments} {body : List Stmt} {scope : Scope} {dvs : List V} {kws : List (Str × V)} {f : Addr} {fd : FuncData}
theorem okD {N ps : List Str} {k : Nat} {sp : Sp} (F : FunD K x qual params body scope dvs kws f fd) (S : FnScope N ps scope) (len : ∀ vs H Q E, sp vs H Q E → vs.length = ps.length)
    (walk : ∀ (cdv : Value) (A : Around) (outer : List Env) (s : Shared) (H : Hp) (vs : List V) (Q : VK) (E : XK), Room k (A.deeper (envOfC qual scope s.heap.objs.size f cdv)) → sp vs H Q E →
      ∃ t, PSs (cxOf CX0 P w K mg base N qual scope f cdv A outer s H E).nox body t ∧ t { nx := fun _ H' => Q .non H', rt := Q } (start N vs) H) : FnOk P w K mg base CX0 (k + 1) f fd ps sp :=
  FunD.ok F S len fun cdv A outer s H vs Q E hr h => by
    obtain ⟨t, der, rd⟩ := walk cdv A outer s H vs Q E hr h
    exact ⟨t, der.nox, rd⟩
theorem binds_full {ps : List Str} (F : FunD K x qual params body scope dvs kws f fd)
    (h : ∀ (dV kV doc pm : Value) (an : Option Addr) (cdv ct : Value) (us : List Value), us.length = ps.length → bindArgs (PySem.W.fnOf x qual params body scope dV kV doc pm an cdv ct) ⟨us, []⟩ = pure (ps.zip us)) : Binds K fd ps [] := by
  obtain ⟨oc, od, dV, kV, doc, pm, an, cdv, ct, osl, rfl, _⟩ := F.ex
  exact .all (h dV kV doc pm an cdv ct)
theorem kb_full {ps : List Str} (F : FunD K x qual params body scope dvs kws f fd) (n : Nat) (ks : List Str) (g : {α : Type} → List α → List α → List α → List α)
    (rel : ∀ {vs ds zs : List V} {us its ws : List Value}, Vals vs us → Vals ds its → Vals zs ws → Vals (g vs ds zs) (g us its ws))
    (h : ∀ (dV kV doc pm : Value) (an : Option Addr) (cdv ct : Value) (us its ws : List Value), us.length = n → its.length = dvs.length → ws.length = ks.length →
      bindArgs (PySem.W.fnOf x qual params body scope dV kV doc pm an cdv ct) ⟨us, ks.zip ws⟩ = pure (ps.zip (g us its ws))) :
    ∃ its : List Value, KBn K fd ps n ks (fun us ws => g us its ws) (fun vs zs => g vs dvs zs) := by
  obtain ⟨oc, od, dV, kV, doc, pm, an, cdv, ct, osl, rfl, _, _, hD, _⟩ := F.ex
  obtain ⟨its, rI⟩ : ∃ its, Vals dvs its := by
    rcases hD with ⟨e, _⟩ | ⟨_, T, o, its, m, _, _, _, rT⟩
    · exact ⟨[], by rw [e]; exact .nil⟩
    · exact ⟨its, rT⟩
  exact ⟨its, fun s us ws _ l1 l2 => BindsTo.of_eq (h dV kV doc pm an cdv ct us its ws l1 rI.length.symm l2), fun r1 r2 => rel r1 rI r2⟩
end
end Z
/-! values as data: heaps but for some places, slots, what stands in them -/
namespace DL
open PySem L2 Z
open Classical in
/-- H without the places of A -/
noncomputable def hp (A : Addr → Prop) (H : Hp) : Hp := fun a => if A a then none else H a
theorem hp_of {A : Addr → Prop} {H : Hp} {a : Addr} (h : ¬ A a) : hp A H a = H a := if_neg h
theorem hp_some {A : Addr → Prop} {H : Hp} {a : Addr} {o : HO} (h : hp A H a = some o) : ¬ A a ∧ H a = some o := by
  by_cases q : A a
  · rw [show hp A H a = none from if_pos q] at h; cases h
  · exact ⟨q, by rw [← hp_of (H := H) q]; exact h⟩
theorem hp_mk {A : Addr → Prop} {H : Hp} {a : Addr} {o : HO} (h : ¬ A a) (e : H a = some o) : hp A H a = some o := by rw [hp_of h]; exact e
theorem hp_same {A : Addr → Prop} {H : Hp} : Same (hp A H) H := fun _ _ h => (hp_some h).2
def FrA (A : Addr → Prop) (H H' : Hp) : Prop := ∀ a o, ¬ A a → H a = some o → H' a = some o
theorem FrA.refl (A : Addr → Prop) (H : Hp) : FrA A H H := fun _ _ _ h => h
theorem FrA.trans {A : Addr → Prop} {H H1 H2 : Hp} (f : FrA A H H1) (g : FrA A H1 H2) : FrA A H H2 := fun a o n h => g a o n (f a o n h)
theorem FrA.of {A : Addr → Prop} {H H' : Hp} (s : Same H H') : FrA A H H' := fun a o _ h => s a o h
theorem FrA.up {A B : Addr → Prop} {H H' : Hp} (f : FrA A H H') (h : ∀ a, A a → B a) : FrA B H H' := fun a o n e => f a o (fun q => n (h a q)) e
theorem hp_less {A B : Addr → Prop} {H : Hp} (h : ∀ a, B a → A a) : Same (hp A H) (hp B H) := fun a o e => by
  obtain ⟨n, e⟩ := hp_some e
  exact hp_mk (fun q => n (h a q)) e
theorem hp_fr {A W : Addr → Prop} {H H' : Hp} (f : FrA W H H') (h : ∀ a, W a → A a) : Same (hp A H) (hp A H') := fun a o e => by
  obtain ⟨n, e⟩ := hp_some e
  exact hp_mk n (f a o (fun q => n (h a q)) e)
theorem hp_grow {A : Addr → Prop} {H H' : Hp} (s : Same H H') : Same (hp A H) (hp A H') := hp_fr (W := fun _ => False) (FrA.of s) (fun _ q => q.elim)
mutual
inductive Dq (K : PySem.W.Frag) (H : Hp) : V → PyData → Prop
  | non : Dq K H .non .none
  | bl (b : Bool) : Dq K H (.bl b) (.bool b)
  | int (i : Int) : Dq K H (.int i) (.int i)
  | str (x : Str) : Dq K H (.str x) (.str x)
  | lst {a : Addr} {xs : List V} {ds : List PyData} : H a = some (.lst xs) → DqAll K H xs ds → Dq K H (.ref a) (.list ds)
  | tup {a : Addr} {xs : List V} {ds : List PyData} : SqT K H a xs → DqAll K H xs ds → Dq K H (.ref a) (.tuple ds)
  | obj {a C dx : Addr} {c : Str} {fv : List (Str × V)} {fs : List (PyData × PyData)} : PySem.W.nsIn K mainGlobals c = some (some (.ref C)) → H a = some (.ins C dx fv) → DqFs K H fv fs → Dq K H (.ref a) (.dict ((.str c, .none) :: fs))
/-- the fields of an object -/
inductive DqFs (K : PySem.W.Frag) (H : Hp) : List (Str × V) → List (PyData × PyData) → Prop
  | nil : DqFs K H [] []
  | cons {f : Str} {v : V} {d : PyData} {fv : List (Str × V)} {fs : List (PyData × PyData)} : Dq K H v d → DqFs K H fv fs → DqFs K H ((f, v) :: fv) ((.str f, d) :: fs)
inductive DqAll (K : PySem.W.Frag) (H : Hp) : List V → List PyData → Prop
  | nil : DqAll K H [] []
  | cons {v : V} {vs : List V} {d : PyData} {ds : List PyData} : Dq K H v d → DqAll K H vs ds → DqAll K H (v :: vs) (d :: ds)
end
mutual
theorem Dq.mono {K : PySem.W.Frag} {H H' : Hp} (e : Same H H') : ∀ {v : V} {d : PyData}, Dq K H v d → Dq K H' v d
  | _, _, .non => .non
  | _, _, .bl b => .bl b
  | _, _, .int i => .int i
  | _, _, .str x => .str x
  | _, _, .lst h r => .lst (e _ _ h) (DqAll.mono e r)
  | _, _, .tup h r => .tup (SqT.mono e h) (DqAll.mono e r)
  | _, _, .obj c h r => .obj c (e _ _ h) (DqFs.mono e r)
theorem DqFs.mono {K : PySem.W.Frag} {H H' : Hp} (e : Same H H') : ∀ {fv : List (Str × V)} {fs : List (PyData × PyData)}, DqFs K H fv fs → DqFs K H' fv fs
  | _, _, .nil => .nil
  | _, _, .cons a b => .cons (Dq.mono e a) (DqFs.mono e b)
theorem DqAll.mono {K : PySem.W.Frag} {H H' : Hp} (e : Same H H') : ∀ {v : List V} {d : List PyData}, DqAll K H v d → DqAll K H' v d
  | _, _, .nil => .nil
  | _, _, .cons a b => .cons (Dq.mono e a) (DqAll.mono e b)
end
mutual
theorem Dq.dp {K : PySem.W.Frag} {H : Hp} : ∀ {v : V} {d : PyData}, Dq K H v d → d.hasDict = false → Dp K H v d
  | _, _, .non, _ => .non
  | _, _, .bl b, _ => .bl b
  | _, _, .int i, _ => .int i
  | _, _, .str x, _ => .str x
  | _, _, .lst h r, e => .lst (SqL.of h) (DqAll.dp r e)
  | _, _, .tup h r, e => .tup h (DqAll.dp r e)
  | _, _, .obj _ _ _, e => by cases e
theorem DqAll.dp {K : PySem.W.Frag} {H : Hp} : ∀ {v : List V} {d : List PyData}, DqAll K H v d → PyData.hasDictAll d = false → DpAll K H v d
  | _, _, .nil, _ => .nil
  | _, _, .cons a b, e => by
    have e' : (PyData.hasDict _ || PyData.hasDictAll _) = false := e
    rw [Bool.or_eq_false_iff] at e'
    exact .cons (Dq.dp a e'.1) (DqAll.dp b e'.2)
end
theorem plain_of {d : PyData} (h : SeqAt.shaped d = true) : d.hasDict = false := PyData.hasDict_of_canLay d (SeqAt.canLay_of_shaped h)
def fldD (f : Str) : List (PyData × PyData) → Option PyData
  | [] => none
  | (.str g, d) :: r => if f = g then some d else fldD f r
  | _ :: r => fldD f r
theorem DqFs.get {K : PySem.W.Frag} {H : Hp} {f : Str} {d : PyData} : ∀ {fv : List (Str × V)} {fs : List (PyData × PyData)}, DqFs K H fv fs → fldD f fs = some d → ∃ v, fv.lookup f = some v ∧ Dq K H v d
  | _, _, .nil, h => by cases h
  | _, _, .cons (f := g) (v := v) (d := c) a b, h => by
    unfold fldD at h
    rw [List.lookup_cons]
    by_cases e : f = g
    · rw [if_pos e] at h
      cases h
      have : (f == g) = true := by rw [e]; exact beq_self_eq_true g
      rw [this]
      exact ⟨_, rfl, a⟩
    · rw [if_neg e] at h
      have : (f == g) = false := by simpa using e
      rw [this]
      exact DqFs.get b h
section
variable {K : PySem.W.Frag} {H : Hp}
theorem DqAll.length : ∀ {v : List V} {d : List PyData}, DqAll K H v d → v.length = d.length
  | _, _, .nil => rfl
  | _, _, .cons _ b => by rw [List.length_cons, List.length_cons, DqAll.length b]
theorem DqAll.get : ∀ {v : List V} {d : List PyData} {i : Nat} {x : V}, DqAll K H v d → v[i]? = some x → ∃ y, d[i]? = some y ∧ Dq K H x y
  | _, _, _, _, .nil, h => by simp at h
  | _, _, 0, _, .cons a _, h => by simp at h; subst h; exact ⟨_, rfl, a⟩
  | _, _, i + 1, _, .cons _ b, h => by
    obtain ⟨y, e, q⟩ := DqAll.get (i := i) b (by simpa using h)
    exact ⟨y, by simpa using e, q⟩
theorem DqAll.got : ∀ {v : List V} {d : List PyData} {i : Nat} {y : PyData}, DqAll K H v d → d[i]? = some y → ∃ x, v[i]? = some x ∧ Dq K H x y
  | _, _, _, _, .nil, h => by simp at h
  | _, _, 0, _, .cons a _, h => by simp at h; subst h; exact ⟨_, rfl, a⟩
  | _, _, i + 1, _, .cons _ b, h => by
    obtain ⟨y, e, q⟩ := DqAll.got (i := i) b (by simpa using h)
    exact ⟨y, by simpa using e, q⟩
theorem DqAll.append : ∀ {v : List V} {d : List PyData} {w : List V} {e : List PyData}, DqAll K H v d → DqAll K H w e → DqAll K H (v ++ w) (d ++ e)
  | _, _, _, _, .nil, h => h
  | _, _, _, _, .cons a b, h => .cons a (DqAll.append b h)
theorem DqAll.take : ∀ {v : List V} {d : List PyData} (n : Nat), DqAll K H v d → DqAll K H (v.take n) (d.take n)
  | _, _, 0, _ => .nil
  | _, _, _ + 1, .nil => .nil
  | _, _, n + 1, .cons a b => .cons a (DqAll.take n b)
theorem DqAll.drop : ∀ {v : List V} {d : List PyData} (n : Nat), DqAll K H v d → DqAll K H (v.drop n) (d.drop n)
  | _, _, 0, h => h
  | _, _, _ + 1, .nil => .nil
  | _, _, n + 1, .cons _ b => DqAll.drop n b
theorem DqAll.set {y : V} {c : PyData} (hy : Dq K H y c) : ∀ {v : List V} {d : List PyData} (n : Nat), DqAll K H v d → DqAll K H (v.set n y) (d.set n c)
  | _, _, _, .nil => .nil
  | _, _, 0, .cons _ b => .cons hy b
  | _, _, n + 1, .cons a b => .cons a (DqAll.set hy n b)
theorem DqAll.rev : ∀ {v : List V} {d : List PyData}, DqAll K H v d → DqAll K H v.reverse d.reverse
  | _, _, .nil => .nil
  | _, _, .cons a b => by rw [List.reverse_cons, List.reverse_cons]; exact DqAll.append (DqAll.rev b) (.cons a .nil)
theorem DqAll.rep {v : List V} {d : List PyData} (h : DqAll K H v d) : ∀ n : Nat, DqAll K H (List.replicate n v).flatten (List.replicate n d).flatten
  | 0 => .nil
  | n + 1 => by rw [List.replicate_succ, List.replicate_succ, List.flatten_cons, List.flatten_cons]; exact DqAll.append h (DqAll.rep h n)
theorem DqAll.ints : ∀ ns : List Int, DqAll K H (ns.map V.int) (ns.map .int)
  | [] => .nil
  | n :: r => .cons (.int n) (DqAll.ints r)
theorem DqAll.strs : ∀ ns : List Str, DqAll K H (ns.map V.str) (ns.map .str)
  | [] => .nil
  | n :: r => .cons (.str n) (DqAll.strs r)
theorem DqAll.ints_of : ∀ {ns : List Int} {v : List V}, DqAll K H v (ns.map .int) → v = ns.map V.int
  | [], _, .nil => rfl
  | n :: r, _, .cons a b => by cases a; rw [DqAll.ints_of b]; rfl
theorem DqAll.strs_of : ∀ {ns : List Str} {v : List V}, DqAll K H v (ns.map .str) → v = ns.map V.str
  | [], _, .nil => rfl
  | n :: r, _, .cons a b => by cases a; rw [DqAll.strs_of b]; rfl
theorem DqAll.bools_of : ∀ {ns : List Bool} {v : List V}, DqAll K H v (ns.map .bool) → v = ns.map V.bl
  | [], _, .nil => rfl
  | n :: r, _, .cons a b => by cases a; rw [DqAll.bools_of b]; rfl
theorem Dq.list_of {v : V} {ds : List PyData} (h : Dq K H v (.list ds)) : ∃ a xs, v = .ref a ∧ H a = some (.lst xs) ∧ DqAll K H xs ds := by
  cases h with
  | lst s r => exact ⟨_, _, rfl, s, r⟩
theorem Dq.tuple_of {v : V} {ds : List PyData} (h : Dq K H v (.tuple ds)) : ∃ a xs, v = .ref a ∧ SqT K H a xs ∧ DqAll K H xs ds := by
  cases h with
  | tup s r => exact ⟨_, _, rfl, s, r⟩
end

/-- a slot: nothing that is known, data that stays, a list that is its own -/
inductive Sl where
  | no
  | fz (d : PyData)
  | own (ds : List PyData)
abbrev En := List Sl
def Own (as : Nat → Option Addr) (a : Addr) : Prop := ∃ i, as i = some a
def Hid (O : Addr → Prop) (as : Nat → Option Addr) (a : Addr) : Prop := O a ∨ Own as a
inductive SlR (K : PySem.W.Frag) (G H : Hp) : Option Addr → Sl → Option V → Prop
  | no {o : Option V} : SlR K G H none .no o
  | fz {v : V} {d : PyData} : Dq K G v d → SlR K G H none (.fz d) (some v)
  | own {a : Addr} {xs : List V} {ds : List PyData} : H a = some (.lst xs) → DqAll K G xs ds → SlR K G H (some a) (.own ds) (some (.ref a))
structure EnR (K : PySem.W.Frag) (O : Addr → Prop) (as : Nat → Option Addr) (H : Hp) (ρ : En) (σ : L2.St) : Prop where
  len : ρ.length = σ.length
  at_ : ∀ (i : Nat) (sl : Sl) (o : Option V), ρ[i]? = some sl → σ[i]? = some o → SlR K (hp (Hid O as) H) H (as i) sl o
  inj : ∀ (i j : Nat) (a : Addr), as i = some a → as j = some a → i = j
  out : ∀ (i : Nat) (a : Addr), as i = some a → ¬ O a
  bnd : ∀ (i : Nat) (a : Addr), as i = some a → i < ρ.length
  occ : ∀ a, O a → H a ≠ none
section
variable {K : PySem.W.Frag} {O : Addr → Prop} {as as' as'' : Nat → Option Addr} {H H' H'' : Hp} {ρ : En} {σ : L2.St} {i : Nat} {v : V} {d : PyData} {ds : List PyData} {n : Nat}
theorem EnR.at' (E : EnR K O as H ρ σ) {sl : Sl} (h : ρ[i]? = some sl) : ∃ o, σ[i]? = some o ∧ SlR K (hp (Hid O as) H) H (as i) sl o := by
  have hi : i < σ.length := by rw [← E.len]; exact (List.getElem?_eq_some_iff.mp h).1
  exact ⟨_, List.getElem?_eq_getElem hi, E.at_ i sl _ h (List.getElem?_eq_getElem hi)⟩
theorem EnR.fz_at (E : EnR K O as H ρ σ) (h : ρ[i]? = some (.fz d)) : ∃ v, σ[i]? = some (some v) ∧ as i = none ∧ Dq K (hp (Hid O as) H) v d := by
  obtain ⟨o, e, r⟩ := E.at' h
  generalize as i = z at r
  cases r with
  | fz q => exact ⟨_, e, rfl, q⟩
theorem EnR.own_at (E : EnR K O as H ρ σ) (h : ρ[i]? = some (.own ds)) : ∃ a xs, σ[i]? = some (some (.ref a)) ∧ as i = some a ∧ H a = some (.lst xs) ∧ DqAll K (hp (Hid O as) H) xs ds := by
  obtain ⟨o, e, r⟩ := E.at' h
  generalize as i = z at r
  cases r with
  | own q z => exact ⟨_, _, e, rfl, q, z⟩
theorem EnR.is_own (E : EnR K O as H ρ σ) {a : Addr} (h : as i = some a) : ∃ ds xs, ρ[i]? = some (.own ds) ∧ σ[i]? = some (some (.ref a)) ∧ H a = some (.lst xs) ∧ DqAll K (hp (Hid O as) H) xs ds := by
  have hi := E.bnd i a h
  obtain ⟨o, e, r⟩ := E.at' (List.getElem?_eq_getElem hi)
  rw [h] at r
  rw [List.getElem?_eq_getElem hi]
  generalize ρ[i] = sl at r
  cases r with
  | own q z => exact ⟨_, _, rfl, e, q, z⟩
theorem EnR.not_own (E : EnR K O as H ρ σ) {sl : Sl} (h : ρ[i]? = some sl) (n : ∀ ds, sl ≠ .own ds) : as i = none := by
  cases e : as i with
  | none => rfl
  | some a =>
    obtain ⟨ds, xs, h', _⟩ := E.is_own e
    rw [h] at h'
    exact absurd (Option.some.inj h') (n ds)
theorem EnR.full (E : EnR K O as H ρ σ) {a : Addr} (h : Hid O as a) : H a ≠ none := by
  rcases h with h | ⟨i, h⟩
  · exact E.occ a h
  · obtain ⟨ds, xs, _, _, e, _⟩ := E.is_own h
    rw [e]
    exact Option.some_ne_none _
theorem EnR.fresh (E : EnR K O as H ρ σ) {a : Addr} (h : H a = none) : ¬ Hid O as a := fun q => E.full q h
theorem SlR.mono {G G' H H' : Hp} {a : Option Addr} {sl : Sl} {o : Option V} (s : Same G G') (f : ∀ b, a = some b → H' b = H b) (r : SlR K G H a sl o) : SlR K G' H' a sl o := by
  cases r with
  | no => exact .no
  | fz q => exact .fz (q.mono s)
  | own q z => exact .own (by rw [f _ rfl]; exact q) (z.mono s)
/-- more objects -/
theorem EnR.grow (E : EnR K O as H ρ σ) (s : Same H H') : EnR K O as H' ρ σ := by
  refine ⟨E.len, fun i sl o h1 h2 => (E.at_ i sl o h1 h2).mono (hp_grow s) fun b hb => ?_, E.inj, E.out, E.bnd, fun a h => ?_⟩
  · obtain ⟨ds, xs, _, _, e, _⟩ := E.is_own hb
    rw [e, s _ _ e]
  · obtain ⟨o, e⟩ := Option.ne_none_iff_exists'.mp (E.occ a h)
    rw [s _ _ e]
    exact Option.some_ne_none _
def Sl.isOwn : Sl → Bool
  | .own _ => true
  | _ => false
/-- the slot is there and no list of its own -/
def slotF (ρ : En) (i : Nat) : Bool := match ρ[i]? with
  | some (.own _) => false
  | some _ => true
  | none => false
theorem slotF_of (h : slotF ρ i = true) : ∃ sl, ρ[i]? = some sl ∧ ∀ ds, sl ≠ .own ds := by
  unfold slotF at h
  split at h
  · cases h
  · next sl e hn => exact ⟨sl, hn, fun ds q => e ds (by rw [q])⟩
  · cases h
theorem EnR.none_of (E : EnR K O as H ρ σ) (h : slotF ρ i = true) : as i = none := by
  obtain ⟨sl, e, n⟩ := slotF_of h
  exact E.not_own e n
/-- data stored -/
theorem EnR.setFz (E : EnR K O as H ρ σ) (h : slotF ρ i = true) (q : Dq K (hp (Hid O as) H) v d) : EnR K O as H (ρ.set i (.fz d)) (σ.set i (some v)) := by
  have hn := E.none_of h
  refine ⟨by rw [List.length_set, List.length_set]; exact E.len, fun j sl o h1 h2 => ?_, E.inj, E.out, fun j a e => by rw [List.length_set]; exact E.bnd j a e, E.occ⟩
  rw [List.getElem?_set] at h1 h2
  by_cases e : i = j
  · subst e
    rw [if_pos rfl] at h1 h2
    split at h1
    · split at h2
      · cases h1; cases h2
        rw [hn]
        exact .fz q
      · cases h2
    · cases h1
  · rw [if_neg e] at h1 h2
    exact E.at_ j sl o h1 h2
theorem EnR.setNo (E : EnR K O as H ρ σ) (h : slotF ρ i = true) (o : Option V) : EnR K O as H (ρ.set i .no) (σ.set i o) := by
  have hn := E.none_of h
  refine ⟨by rw [List.length_set, List.length_set]; exact E.len, fun j sl o h1 h2 => ?_, E.inj, E.out, fun j a e => by rw [List.length_set]; exact E.bnd j a e, E.occ⟩
  rw [List.getElem?_set] at h1 h2
  by_cases e : i = j
  · subst e
    rw [if_pos rfl] at h1 h2
    split at h1
    · cases h1
      rw [hn]
      exact .no
    · cases h1
  · rw [if_neg e] at h1 h2
    exact E.at_ j sl o h1 h2
/-- an own list changed -/
theorem EnR.put (E : EnR K O as H ρ σ) {a : Addr} (ha : as i = some a) {xs : List V} (q : DqAll K (hp (Hid O as) H) xs ds) : EnR K O as (upd H a (.lst xs)) (ρ.set i (.own ds)) σ := by
  have hS : Same (hp (Hid O as) H) (hp (Hid O as) (upd H a (.lst xs))) := fun b o e => by
    obtain ⟨n, e⟩ := hp_some e
    exact hp_mk n (by rw [upd_ne (fun z : b = a => n (by rw [z]; exact .inr ⟨i, ha⟩))]; exact e)
  refine ⟨by rw [List.length_set]; exact E.len, fun j sl o h1 h2 => ?_, E.inj, E.out, fun j a e => by rw [List.length_set]; exact E.bnd j a e, fun b h => ?_⟩
  · rw [List.getElem?_set] at h1
    by_cases e : i = j
    · subst e
      rw [if_pos rfl] at h1
      obtain ⟨ds0, xs0, e0, e1, _, _⟩ := E.is_own ha
      rw [e1] at h2
      cases h2
      split at h1
      · cases h1
        rw [ha]
        exact .own upd_same (q.mono hS)
      · cases h1
    · rw [if_neg e] at h1
      refine (E.at_ j sl o h1 h2).mono hS fun b hb => ?_
      rw [upd_ne]
      intro z
      rw [z] at hb
      exact e (E.inj i j a ha hb)
  · by_cases z : b = a
    · rw [z, upd_same]; exact Option.some_ne_none _
    · rw [upd_ne z]; exact E.occ b h
def upA (as : Nat → Option Addr) (i : Nat) (o : Option Addr) : Nat → Option Addr := fun j => if j = i then o else as j
theorem upA_at {o : Option Addr} : upA as i o i = o := if_pos rfl
theorem upA_ne {o : Option Addr} {j : Nat} (h : j ≠ i) : upA as i o j = as j := if_neg h
theorem Own.up {a : Addr} {o : Option Addr} (h : Own (upA as i o) a) : o = some a ∨ Own as a := by
  obtain ⟨j, h⟩ := h
  by_cases e : j = i
  · rw [e, upA_at] at h; exact .inl h
  · rw [upA_ne e] at h; exact .inr ⟨j, h⟩
/-- a new list of its own -/
theorem EnR.setOwn (E : EnR K O as H ρ σ) (hi : i < ρ.length) {p : Addr} {xs : List V} (hp0 : ¬ Hid O as p) (hp1 : H p = some (.lst xs))
    (hf : ∀ (j : Nat) (sl : Sl) (o : Option V), ρ[j]? = some sl → σ[j]? = some o → j ≠ i → SlR K (hp (fun a => Hid O as a ∨ a = p) H) H (as j) sl o)
    (q : DqAll K (hp (fun a => Hid O as a ∨ a = p) H) xs ds) : EnR K O (upA as i (some p)) H (ρ.set i (.own ds)) (σ.set i (some (.ref p))) := by
  have hS : Same (hp (fun a => Hid O as a ∨ a = p) H) (hp (Hid O (upA as i (some p))) H) := hp_less fun a h => by
    rcases h with h | h
    · exact .inl (.inl h)
    · rcases h.up with h | h
      · exact .inr (Option.some.inj h).symm
      · exact .inl (.inr h)
  refine ⟨by rw [List.length_set, List.length_set]; exact E.len, fun j sl o h1 h2 => ?_, fun j k a h1 h2 => ?_, fun j a h => ?_, fun j a h => ?_, E.occ⟩
  · rw [List.getElem?_set] at h1 h2
    by_cases e : i = j
    · subst e
      rw [if_pos rfl, if_pos hi] at h1
      rw [if_pos rfl, if_pos (by rw [← E.len]; exact hi)] at h2
      cases h1; cases h2
      rw [upA_at]
      exact .own hp1 (q.mono hS)
    · rw [if_neg e] at h1 h2
      rw [upA_ne (fun z => e z.symm)]
      exact (hf j sl o h1 h2 (fun z => e z.symm)).mono hS fun _ _ => rfl
  · by_cases e1 : j = i
    · rw [e1, upA_at] at h1
      by_cases e2 : k = i
      · rw [e1, e2]
      · rw [upA_ne e2] at h2
        have := Option.some.inj h1
        exact absurd (.inr ⟨k, by rw [this]; exact h2⟩) hp0
    · rw [upA_ne e1] at h1
      by_cases e2 : k = i
      · rw [e2, upA_at] at h2
        have := Option.some.inj h2
        exact absurd (.inr ⟨j, by rw [this]; exact h1⟩) hp0
      · rw [upA_ne e2] at h2
        exact E.inj j k a h1 h2
  · by_cases e1 : j = i
    · rw [e1, upA_at] at h
      rw [← Option.some.inj h]
      exact fun z => hp0 (.inl z)
    · rw [upA_ne e1] at h
      exact E.out j a h
  · rw [List.length_set]
    by_cases e1 : j = i
    · rw [e1]; exact hi
    · rw [upA_ne e1] at h
      exact E.bnd j a h
/-- an own list that stays from now on -/
theorem EnR.freeze (E : EnR K O as H ρ σ) (h : ρ[i]? = some (.own ds)) : EnR K O (upA as i none) H (ρ.set i (.fz (.list ds))) σ := by
  obtain ⟨a, xs, e1, e2, e3, e4⟩ := E.own_at h
  have hS : Same (hp (Hid O as) H) (hp (Hid O (upA as i none)) H) := hp_less fun a h => by
    rcases h with h | h
    · exact .inl h
    · rcases h.up with h | h
      · cases h
      · exact .inr h
  have hn : ¬ Hid O (upA as i none) a := by
    rintro (z | ⟨j, z⟩)
    · exact E.out i a e2 z
    · by_cases q : j = i
      · rw [q, upA_at] at z; cases z
      · rw [upA_ne q] at z
        exact q (E.inj j i a z e2)
  refine ⟨by rw [List.length_set]; exact E.len, fun j sl o h1 h2 => ?_, fun j k b h1 h2 => ?_, fun j b h => ?_, fun j b h => ?_, E.occ⟩
  · rw [List.getElem?_set] at h1
    by_cases e : i = j
    · subst e
      rw [e1] at h2
      cases h2
      rw [if_pos rfl] at h1
      split at h1
      · cases h1
        rw [upA_at]
        exact .fz (.lst (hp_mk hn e3) (e4.mono hS))
      · cases h1
    · rw [if_neg e] at h1
      rw [upA_ne (fun z => e z.symm)]
      exact (E.at_ j sl o h1 h2).mono hS fun _ _ => rfl
  · by_cases q : j = i
    · rw [q, upA_at] at h1; cases h1
    · by_cases q2 : k = i
      · rw [q2, upA_at] at h2; cases h2
      · rw [upA_ne q] at h1; rw [upA_ne q2] at h2
        exact E.inj j k b h1 h2
  · by_cases q : j = i
    · rw [q, upA_at] at h; cases h
    · rw [upA_ne q] at h; exact E.out j b h
  · by_cases q : j = i
    · rw [q, upA_at] at h; cases h
    · rw [upA_ne q] at h; rw [List.length_set]; exact E.bnd j b h
/-- how one state comes of another: but for own lists and new objects all stays -/
structure Ext (n : Nat) (as as' : Nat → Option Addr) (H H' : Hp) : Prop where
  fr : FrA (Own as) H H'
  new : ∀ a, Own as' a → Own as a ∨ H a = none
  fix : ∀ i, i < n → as' i = as i
theorem Ext.refl : Ext n as as H H := ⟨FrA.refl _ _, fun _ h => .inl h, fun _ _ => rfl⟩
theorem Ext.of (f : FrA (Own as) H H') : Ext n as as H H' := ⟨f, fun _ h => .inl h, fun _ _ => rfl⟩
theorem Ext.trans (x : Ext n as as' H H') (y : Ext n as' as'' H' H'') : Ext n as as'' H H'' := by
  refine ⟨fun a o h e => y.fr a o (fun q => ?_) (x.fr a o h e), fun a q => ?_, fun i h => (y.fix i h).trans (x.fix i h)⟩
  · rcases x.new a q with z | z
    · exact h z
    · rw [z] at e; cases e
  · rcases y.new a q with z | z
    · exact x.new a z
    · by_cases w : Own as a
      · exact .inl w
      · cases e : H a with
        | none => exact .inr rfl
        | some o => rw [x.fr a o w e] at z; cases z
theorem Ext.same (x : Ext n as as' H H') : Same (hp (Hid O as) H) (hp (Hid O as') H') := fun a o e => by
  obtain ⟨h, e⟩ := hp_some e
  refine hp_mk (fun q => ?_) (x.fr a o (fun z => h (.inr z)) e)
  rcases q with q | q
  · exact h (.inl q)
  · rcases x.new a q with z | z
    · exact h (.inr z)
    · rw [z] at e; cases e
theorem Ext.less {m : Nat} (x : Ext n as as' H H') (h : m ≤ n) : Ext m as as' H H' := ⟨x.fr, x.new, fun i q => x.fix i (Nat.lt_of_lt_of_le q h)⟩
end
end DL
/-! what expressions, tests, arguments, stores and statements come to -/
namespace DL
open PySem L2 Z
abbrev FE := En → (PyData → En → Prop) → Prop
abbrev FT := En → (Bool → En → Prop) → Prop
abbrev FA := En → (List PyData → En → Prop) → Prop
abbrev FG := PyData → En → (En → Prop) → Prop
abbrev FGs := List PyData → En → (En → Prop) → Prop
inductive Ar where
  | dat (d : PyData)
  | own (i : Nat)
abbrev FC := En → (List Ar → En → Prop) → Prop
structure FEnds where
  nx : En → Prop
  rt : PyData → En → Prop
  bk : En → Prop := fun _ => False
  ct : En → Prop := fun _ => False
abbrev FS := FEnds → En → Prop
abbrev FN := List Sl → (PyData → List Sl → Prop) → Prop
def RE (K : PySem.W.Frag) (t : TE) (f : FE) : Prop := ∀ (O : Addr → Prop) (as : Nat → Option Addr) (σ : L2.St) (H : Hp) (Q : VK) (ρ : En) (P : PyData → En → Prop), EnR K O as H ρ σ → f ρ P →
  (∀ d ρ' v H', P d ρ' → FrA (Own as) H H' → EnR K O as H' ρ' σ → Dq K (hp (Hid O as) H') v d → Q v H') → t σ H Q
/-- one place more -/
def plus (O : Addr → Prop) (p : Addr) : Addr → Prop := fun a => O a ∨ a = p
theorem hid_plus {O : Addr → Prop} {p : Addr} {as : Nat → Option Addr} {a : Addr} (h : Hid O as a) : Hid (plus O p) as a := by
  rcases h with h | h
  · exact .inl (.inl h)
  · exact .inr h
theorem EnR.addO {K : PySem.W.Frag} {O : Addr → Prop} {as : Nat → Option Addr} {H : Hp} {ρ : En} {σ : L2.St} {p : Addr} {o : HO} (E : EnR K O as H ρ σ) (h : H p = none) :
    EnR K (plus O p) as (upd H p o) ρ σ ∧ Same (hp (Hid O as) H) (hp (Hid (plus O p) as) (upd H p o)) := by
  have np := E.fresh h
  have hS : Same (hp (Hid O as) H) (hp (Hid (plus O p) as) (upd H p o)) := fun a u e => by
    obtain ⟨n, e⟩ := hp_some e
    have ne : a ≠ p := ne_of_none e h
    refine hp_mk (fun q => ?_) (by rw [upd_ne ne]; exact e)
    rcases q with (q | q) | q
    · exact n (.inl q)
    · exact ne q
    · exact n (.inr q)
  refine ⟨⟨E.len, fun i sl o' h1 h2 => (E.at_ i sl o' h1 h2).mono hS fun b hb => ?_, E.inj, fun i a e q => ?_, E.bnd, fun a q => ?_⟩, hS⟩
  · rw [upd_ne]
    rintro rfl
    exact np (.inr ⟨i, hb⟩)
  · rcases q with q | rfl
    · exact E.out i a e q
    · exact np (.inr ⟨i, e⟩)
  · by_cases z : a = p
    · rw [z, upd_same]; exact Option.some_ne_none _
    · rw [upd_ne z]
      rcases q with q | q
      · exact E.occ a q
      · exact absurd q z
theorem EnR.lessO {K : PySem.W.Frag} {O : Addr → Prop} {as : Nat → Option Addr} {H : Hp} {ρ : En} {σ : L2.St} {p : Addr} (E : EnR K (plus O p) as H ρ σ) : EnR K O as H ρ σ :=
  ⟨E.len, fun i sl o h1 h2 => (E.at_ i sl o h1 h2).mono (hp_less fun _ => hid_plus) fun _ _ => rfl, E.inj, fun i a e q => E.out i a e (.inl q), E.bnd, fun a q => E.occ a (.inl q)⟩
theorem EnR.putO {K : PySem.W.Frag} {O : Addr → Prop} {as : Nat → Option Addr} {H : Hp} {ρ : En} {σ : L2.St} {p : Addr} {o : HO} (E : EnR K O as H ρ σ) (h : O p) :
    EnR K O as (upd H p o) ρ σ ∧ Same (hp (Hid O as) H) (hp (Hid O as) (upd H p o)) := by
  have hS : Same (hp (Hid O as) H) (hp (Hid O as) (upd H p o)) := fun a u e => by
    obtain ⟨n, e⟩ := hp_some e
    exact hp_mk n (by rw [upd_ne (fun z : a = p => n (by rw [z]; exact .inl h))]; exact e)
  refine ⟨⟨E.len, fun i sl o' h1 h2 => (E.at_ i sl o' h1 h2).mono hS fun b hb => ?_, E.inj, E.out, E.bnd, fun a q => ?_⟩, hS⟩
  · rw [upd_ne]
    rintro rfl
    exact E.out i b hb h
  · by_cases z : a = p
    · rw [z, upd_same]; exact Option.some_ne_none _
    · rw [upd_ne z]; exact E.occ a q
/-- an expression that makes a new list -/
def RN (K : PySem.W.Frag) (t : TE) (f : FA) : Prop := ∀ (O : Addr → Prop) (as : Nat → Option Addr) (σ : L2.St) (H : Hp) (Q : VK) (ρ : En) (P : List PyData → En → Prop), EnR K O as H ρ σ → f ρ P →
  (∀ ds ρ' p xs H', P ds ρ' → FrA (Own as) H H' → H p = none → EnR K (plus O p) as H' ρ' σ → H' p = some (.lst xs) → DqAll K (hp (Hid (plus O p) as) H') xs ds → Q (.ref p) H') → t σ H Q
def RT (K : PySem.W.Frag) (t : TT) (f : FT) : Prop := ∀ (O : Addr → Prop) (as : Nat → Option Addr) (σ : L2.St) (H : Hp) (Q : Bool → Hp → Prop) (ρ : En) (P : Bool → En → Prop), EnR K O as H ρ σ → f ρ P →
  (∀ b ρ' H', P b ρ' → FrA (Own as) H H' → EnR K O as H' ρ' σ → Q b H') → t σ H Q
def RA (K : PySem.W.Frag) (t : TA) (f : FA) : Prop := ∀ (O : Addr → Prop) (as : Nat → Option Addr) (σ : L2.St) (H : Hp) (Q : List V → Hp → Prop) (ρ : En) (P : List PyData → En → Prop), EnR K O as H ρ σ → f ρ P →
  (∀ ds ρ' vs H', P ds ρ' → FrA (Own as) H H' → EnR K O as H' ρ' σ → DqAll K (hp (Hid O as) H') vs ds → Q vs H') → t σ H Q
inductive ArR (K : PySem.W.Frag) (G : Hp) (as : Nat → Option Addr) : V → Ar → Prop
  | dat {v : V} {d : PyData} : Dq K G v d → ArR K G as v (.dat d)
  | own {a : Addr} {i : Nat} : as i = some a → ArR K G as (.ref a) (.own i)
inductive ArsR (K : PySem.W.Frag) (G : Hp) (as : Nat → Option Addr) : List V → List Ar → Prop
  | nil : ArsR K G as [] []
  | cons {v : V} {vs : List V} {x : Ar} {xs : List Ar} : ArR K G as v x → ArsR K G as vs xs → ArsR K G as (v :: vs) (x :: xs)
def RC (K : PySem.W.Frag) (t : TA) (f : FC) : Prop := ∀ (O : Addr → Prop) (as : Nat → Option Addr) (σ : L2.St) (H : Hp) (Q : List V → Hp → Prop) (ρ : En) (P : List Ar → En → Prop), EnR K O as H ρ σ → f ρ P →
  (∀ xs ρ' vs H', P xs ρ' → FrA (Own as) H H' → EnR K O as H' ρ' σ → ArsR K (hp (Hid O as) H') as vs xs → Q vs H') → t σ H Q
/-- but for these slots all is as it was -/
def Touch (vs : List Nat) (σ σ' : L2.St) : Prop := σ'.length = σ.length ∧ ∀ j, j ∉ vs → σ'[j]? = σ[j]?
def RG (K : PySem.W.Frag) (vs : List Nat) (g : TG) (f : FG) : Prop := ∀ (O : Addr → Prop) (as : Nat → Option Addr) (σ : L2.St) (H : Hp) (R : L2.St → Hp → Prop) (ρ : En) (P : En → Prop) (v : V) (d : PyData), EnR K O as H ρ σ → Dq K (hp (Hid O as) H) v d → f d ρ P →
  (∀ ρ' σ' H', P ρ' → FrA (Own as) H H' → EnR K O as H' ρ' σ' → Touch vs σ σ' → R σ' H') → g v σ H R
def RGs (K : PySem.W.Frag) (vs : List Nat) (g : TGs) (f : FGs) : Prop := ∀ (O : Addr → Prop) (as : Nat → Option Addr) (σ : L2.St) (H : Hp) (R : L2.St → Hp → Prop) (ρ : En) (P : En → Prop) (ys : List V) (ds : List PyData), EnR K O as H ρ σ → DqAll K (hp (Hid O as) H) ys ds → f ds ρ P →
  (∀ ρ' σ' H', P ρ' → FrA (Own as) H H' → EnR K O as H' ρ' σ' → Touch vs σ σ' → R σ' H') → g ys σ H R
/-- what the ends ask, carried over -/
structure Car (K : PySem.W.Frag) (n : Nat) (O : Addr → Prop) (as : Nat → Option Addr) (H : Hp) (E : FEnds) (D : Ends) : Prop where
  nx : ∀ ρ' as' σ' H', E.nx ρ' → Ext n as as' H H' → EnR K O as' H' ρ' σ' → D.nx σ' H'
  rt : ∀ d ρ' v as' σ' H', E.rt d ρ' → Ext n as as' H H' → EnR K O as' H' ρ' σ' → Dq K (hp (Hid O as') H') v d → D.rt v H'
  bk : ∀ ρ' as' σ' H', E.bk ρ' → Ext n as as' H H' → EnR K O as' H' ρ' σ' → D.bk σ' H'
  ct : ∀ ρ' as' σ' H', E.ct ρ' → Ext n as as' H H' → EnR K O as' H' ρ' σ' → D.ct σ' H'
theorem Car.ext {K : PySem.W.Frag} {n : Nat} {O : Addr → Prop} {as as' : Nat → Option Addr} {H H' : Hp} {E : FEnds} {D : Ends} (C : Car K n O as H E D) (x : Ext n as as' H H') : Car K n O as' H' E D :=
  ⟨fun ρ' as2 σ' H2 p y => C.nx ρ' as2 σ' H2 p (x.trans y), fun d ρ' v as2 σ' H2 p y => C.rt d ρ' v as2 σ' H2 p (x.trans y), fun ρ' as2 σ' H2 p y => C.bk ρ' as2 σ' H2 p (x.trans y), fun ρ' as2 σ' H2 p y => C.ct ρ' as2 σ' H2 p (x.trans y)⟩
def RS (K : PySem.W.Frag) (n : Nat) (t : TS) (f : FS) : Prop := ∀ (O : Addr → Prop) (as : Nat → Option Addr) (σ : L2.St) (H : Hp) (D : Ends) (ρ : En) (E : FEnds), EnR K O as H ρ σ → f E ρ → Car K n O as H E D → t D σ H

section
variable {K : PySem.W.Frag} {n : Nat}
theorem own_hid {O : Addr → Prop} {as : Nat → Option Addr} : ∀ a, Own as a → Hid O as a := fun _ h => .inr h
theorem Dq.fr {O : Addr → Prop} {as : Nat → Option Addr} {H H' : Hp} {v : V} {d : PyData} (q : Dq K (hp (Hid O as) H) v d) (f : FrA (Own as) H H') : Dq K (hp (Hid O as) H') v d := q.mono (hp_fr f own_hid)
theorem DqAll.fr {O : Addr → Prop} {as : Nat → Option Addr} {H H' : Hp} {v : List V} {d : List PyData} (q : DqAll K (hp (Hid O as) H) v d) (f : FrA (Own as) H H') : DqAll K (hp (Hid O as) H') v d := q.mono (hp_fr f own_hid)
/-! constants, names -/
def fC (d : PyData) : FE := fun ρ P => P d ρ
theorem re_c {v : V} {d : PyData} (h : ∀ H, Dq K H v d) : RE K (tC v) (fC d) := fun O as σ H Q ρ P E f k => k d ρ v H f (FrA.refl _ _) E (h _)
def fV (i : Nat) : FE := fun ρ P => match ρ[i]? with
  | some (.fz d) => P d ρ
  | _ => False
theorem re_v {i : Nat} : RE K (tVar i) (fV i) := by
  intro O as σ H Q ρ P E f k
  unfold fV at f
  split at f
  · next d h =>
    obtain ⟨v, e, _, q⟩ := E.fz_at h
    exact ⟨v, e, k d ρ v H f (FrA.refl _ _) E q⟩
  · exact f.elim
/-! arguments -/
def fNil : FA := fun ρ P => P [] ρ
def fCons (a : FE) (b : FA) : FA := fun ρ P => a ρ fun d ρ1 => b ρ1 fun ds ρ2 => P (d :: ds) ρ2
theorem ra_nil : RA K tNil fNil := fun O as σ H Q ρ P E f k => k [] ρ [] H f (FrA.refl _ _) E .nil
theorem ra_cons {ta : TE} {t : TA} {fa : FE} {f : FA} (ha : RE K ta fa) (h : RA K t f) : RA K (tCons ta t) (fCons fa f) := by
  intro O as σ H Q ρ P E q k
  refine ha O as σ H _ ρ _ E q fun d ρ1 v H1 q1 f1 E1 d1 => ?_
  refine h O as σ H1 _ ρ1 _ E1 q1 fun ds ρ2 vs H2 q2 f2 E2 d2 => ?_
  exact k _ _ _ _ q2 (f1.trans f2) E2 (.cons (d1.fr f2) d2)
/-! operators -/
def RR (K : PySem.W.Frag) (r : R2) (g : PyData → PyData → (PyData → Prop) → Prop) : Prop := ∀ (A : Addr → Prop) (H : Hp) (Q : VK) (x y : V) (a b : PyData) (P : PyData → Prop), (∀ c, A c → H c ≠ none) →
  Dq K (hp A H) x a → Dq K (hp A H) y b → g a b P → (∀ d v H', P d → Same H H' → Dq K (hp A H') v d → Q v H') → r x y H Q
def fOp (g : PyData → PyData → (PyData → Prop) → Prop) (a b : FE) : FE := fun ρ P => a ρ fun x ρ1 => b ρ1 fun y ρ2 => g x y fun d => P d ρ2
theorem re_op {r : R2} {g : PyData → PyData → (PyData → Prop) → Prop} {ta tb : TE} {fa fb : FE} (hr : RR K r g) (ha : RE K ta fa) (hb : RE K tb fb) : RE K (tOp r ta tb) (fOp g fa fb) := by
  intro O as σ H Q ρ P E q k
  refine ha O as σ H _ ρ _ E q fun a ρ1 x H1 q1 f1 E1 d1 => ?_
  refine hb O as σ H1 _ ρ1 _ E1 q1 fun b ρ2 y H2 q2 f2 E2 d2 => ?_
  refine hr (Hid O as) H2 _ x y a b _ (fun c h => E2.full h) (d1.fr f2) d2 q2 fun d v H3 p s3 d3 => ?_
  exact k d ρ2 v H3 p ((f1.trans f2).trans (FrA.of s3)) (E2.grow s3) d3
def RU (K : PySem.W.Frag) (r : V → Hp → VK → Prop) (g : PyData → (PyData → Prop) → Prop) : Prop := ∀ (A : Addr → Prop) (H : Hp) (Q : VK) (x : V) (a : PyData) (P : PyData → Prop), (∀ c, A c → H c ≠ none) →
  Dq K (hp A H) x a → g a P → (∀ d v H', P d → Same H H' → Dq K (hp A H') v d → Q v H') → r x H Q
def fUn (g : PyData → (PyData → Prop) → Prop) (a : FE) : FE := fun ρ P => a ρ fun x ρ1 => g x fun d => P d ρ1
theorem re_un {r : V → Hp → VK → Prop} {g : PyData → (PyData → Prop) → Prop} {ta : TE} {fa : FE} (hr : RU K r g) (ha : RE K ta fa) : RE K (tUn r ta) (fUn g fa) := by
  intro O as σ H Q ρ P E q k
  refine ha O as σ H _ ρ _ E q fun a ρ1 x H1 q1 f1 E1 d1 => ?_
  refine hr (Hid O as) H1 _ x a _ (fun c h => E1.full h) d1 q1 fun d v H3 p s3 d3 => ?_
  exact k d ρ1 v H3 p (f1.trans (FrA.of s3)) (E1.grow s3) d3
/-! built-in calls -/
def RB (K : PySem.W.Frag) (r : List V → Hp → VK → Prop) (g : List PyData → (PyData → Prop) → Prop) : Prop := ∀ (A : Addr → Prop) (H : Hp) (Q : VK) (xs : List V) (ds : List PyData) (P : PyData → Prop), (∀ c, A c → H c ≠ none) →
  DqAll K (hp A H) xs ds → g ds P → (∀ d v H', P d → Same H H' → Dq K (hp A H') v d → Q v H') → r xs H Q
def fCB (g : List PyData → (PyData → Prop) → Prop) (a : FA) : FE := fun ρ P => a ρ fun ds ρ1 => g ds fun d => P d ρ1
theorem re_cb {r : List V → Hp → VK → Prop} {g : List PyData → (PyData → Prop) → Prop} {t : TA} {f : FA} (hr : RB K r g) (ha : RA K t f) : RE K (tCB r t) (fCB g f) := by
  intro O as σ H Q ρ P E q k
  refine ha O as σ H _ ρ _ E q fun ds ρ1 vs H1 q1 f1 E1 d1 => ?_
  refine hr (Hid O as) H1 _ vs ds _ (fun c h => E1.full h) d1 q1 fun d v H3 p s3 d3 => ?_
  exact k d ρ1 v H3 p (f1.trans (FrA.of s3)) (E1.grow s3) d3
/-- methods of texts -/
def RM (K : PySem.W.Frag) (r : V → List V → Hp → VK → Prop) (g : Str → List PyData → (PyData → Prop) → Prop) : Prop := ∀ (A : Addr → Prop) (H : Hp) (Q : VK) (z : Str) (xs : List V) (ds : List PyData) (P : PyData → Prop), (∀ c, A c → H c ≠ none) →
  DqAll K (hp A H) xs ds → g z ds P → (∀ d v H', P d → Same H H' → Dq K (hp A H') v d → Q v H') → r (.str z) xs H Q
def strF (a : PyData) (k : Str → Prop) : Prop := match a with
  | .str z => k z
  | _ => False
def fBM (g : Str → List PyData → (PyData → Prop) → Prop) (a : FE) (b : FA) : FE := fun ρ P => a ρ fun x ρ1 => strF x fun z => b ρ1 fun ds ρ2 => g z ds fun d => P d ρ2
theorem re_bm {r : V → List V → Hp → VK → Prop} {g : Str → List PyData → (PyData → Prop) → Prop} {to : TE} {t : TA} {fo : FE} {f : FA} (hr : RM K r g) (ho : RE K to fo) (ha : RA K t f) : RE K (tBM K "str" r to t) (fBM g fo f) := by
  intro O as σ H Q ρ P E q k
  refine ho O as σ H _ ρ _ E q fun a ρ1 x H1 q1 f1 E1 d1 => ?_
  unfold strF at q1
  split at q1
  · next z =>
    cases d1
    refine ⟨rfl, ?_⟩
    refine ha O as σ H1 _ ρ1 _ E1 q1 fun ds ρ2 vs H2 q2 f2 E2 d2 => ?_
    refine hr (Hid O as) H2 _ z vs ds _ (fun c h => E2.full h) d2 q2 fun d v H3 p s3 d3 => ?_
    exact k d ρ2 v H3 p ((f1.trans f2).trans (FrA.of s3)) (E2.grow s3) d3
  · exact q1.elim
/-! displays -/
def fTup (f : FA) : FE := fun ρ P => f ρ fun ds ρ1 => ds.length ≤ sizeLine ∧ P (.tuple ds) ρ1
theorem re_tup {t : TA} {f : FA} (h : RA K t f) : RE K (tTup t) (fTup f) := by
  intro O as σ H Q ρ P E q k
  refine h O as σ H _ ρ _ E q fun ds ρ1 vs H1 q1 f1 E1 d1 => ⟨by rw [d1.length]; exact q1.1, fun p hp1 => ?_⟩
  have s := Same.new (o := .tup vs) hp1
  refine k _ _ _ _ q1.2 (f1.trans (FrA.of s)) (E1.grow s) (.tup (SqT.of (hp_mk (E1.fresh hp1) upd_same)) (d1.mono (hp_grow s)))
def fLst (f : FA) : FA := fun ρ P => f ρ fun ds ρ1 => ds.length ≤ sizeLine ∧ P ds ρ1
theorem rn_lst {t : TA} {f : FA} (h : RA K t f) : RN K (tLst t) (fLst f) := by
  intro O as σ H Q ρ P E q k
  refine h O as σ H _ ρ _ E q fun ds ρ1 vs H1 q1 f1 E1 d1 => ⟨by rw [d1.length]; exact q1.1, fun p hp1 => ?_⟩
  obtain ⟨E2, s2⟩ := E1.addO (o := .lst vs) hp1
  refine k _ _ _ _ _ q1.2 (f1.trans (FrA.of (Same.new hp1))) ?_ E2 upd_same (d1.mono s2)
  cases e : H p with
  | none => rfl
  | some o =>
    by_cases w : Own as p
    · exact absurd (.inr w) (E1.fresh hp1)
    · rw [f1 _ _ w e] at hp1; cases hp1
def fNew (f : FA) : FE := fun ρ P => f ρ fun ds ρ1 => P (.list ds) ρ1
theorem RN.re {t : TE} {f : FA} (h : RN K t f) : RE K t (fNew f) := by
  intro O as σ H Q ρ P E q k
  refine h O as σ H _ ρ _ E q fun ds ρ1 p xs H2 q1 f1 hp1 E1 hp2 d1 => ?_
  exact k _ _ _ _ q1 f1 E1.lessO (.lst (hp_mk (E.fresh hp1) hp2) (d1.mono (hp_less fun _ => hid_plus)))
/-! tests -/
def boolF (a : PyData) (k : Bool → Prop) : Prop := match a with
  | .bool b => k b
  | _ => False
def fB (f : FE) : FT := fun ρ P => f ρ fun d ρ1 => boolF d fun b => P b ρ1
theorem rt_b {t : TE} {f : FE} (h : RE K t f) : RT K (tB t) (fB f) := by
  intro O as σ H Q ρ P E q k
  refine h O as σ H _ ρ _ E q fun d ρ1 v H1 q1 f1 E1 d1 => ?_
  unfold boolF at q1
  split at q1
  · cases d1; exact ⟨_, rfl, k _ _ _ q1 f1 E1⟩
  · exact q1.elim
theorem rt_test {t : TE} {f : FE} (h : RE K t f) : RT K (tTest t) (fB f) := rt_b h
def fAnd (a b : FT) : FT := fun ρ P => a ρ fun c ρ1 => if c = true then b ρ1 P else P false ρ1
def fOr (a b : FT) : FT := fun ρ P => a ρ fun c ρ1 => if c = true then P true ρ1 else b ρ1 P
def fNot (a : FT) : FT := fun ρ P => a ρ fun c ρ1 => P (!c) ρ1
theorem rt_and {t u : TT} {a b : FT} (ha : RT K t a) (hb : RT K u b) : RT K (tAnd t u) (fAnd a b) := by
  intro O as σ H Q ρ P E q k
  refine ha O as σ H _ ρ _ E q fun c ρ1 H1 q1 f1 E1 => ?_
  cases c
  · exact k _ _ _ q1 f1 E1
  · exact hb O as σ H1 _ ρ1 _ E1 q1 fun b ρ2 H2 q2 f2 E2 => k _ _ _ q2 (f1.trans f2) E2
theorem rt_or {t u : TT} {a b : FT} (ha : RT K t a) (hb : RT K u b) : RT K (tOr t u) (fOr a b) := by
  intro O as σ H Q ρ P E q k
  refine ha O as σ H _ ρ _ E q fun c ρ1 H1 q1 f1 E1 => ?_
  cases c
  · exact hb O as σ H1 _ ρ1 _ E1 q1 fun b ρ2 H2 q2 f2 E2 => k _ _ _ q2 (f1.trans f2) E2
  · exact k _ _ _ q1 f1 E1
theorem rt_not {t : TT} {a : FT} (ha : RT K t a) : RT K (tNot t) (fNot a) := by
  intro O as σ H Q ρ P E q k
  exact ha O as σ H _ ρ _ E q fun c ρ1 H1 q1 f1 E1 => k _ _ _ q1 f1 E1
def fAndV (a b : FE) : FE := fun ρ P => a ρ fun d ρ1 => boolF d fun c => if c = true then b ρ1 P else P (.bool false) ρ1
def fOrV (a b : FE) : FE := fun ρ P => a ρ fun d ρ1 => boolF d fun c => if c = true then P (.bool true) ρ1 else b ρ1 P
def fNotV (a : FE) : FE := fun ρ P => a ρ fun d ρ1 => boolF d fun c => P (.bool (!c)) ρ1
theorem re_and {t u : TE} {a b : FE} (ha : RE K t a) (hb : RE K u b) : RE K (tAndV t u) (fAndV a b) := by
  intro O as σ H Q ρ P E q k
  refine ha O as σ H _ ρ _ E q fun d ρ1 v H1 q1 f1 E1 d1 => ?_
  unfold boolF at q1
  split at q1
  · next c =>
    cases d1
    refine ⟨_, rfl, ?_⟩
    cases c
    · exact k _ _ _ _ q1 f1 E1 (.bl _)
    · exact hb O as σ H1 _ ρ1 _ E1 q1 fun b ρ2 v H2 q2 f2 E2 => k _ _ _ _ q2 (f1.trans f2) E2
  · exact q1.elim
theorem re_or {t u : TE} {a b : FE} (ha : RE K t a) (hb : RE K u b) : RE K (tOrV t u) (fOrV a b) := by
  intro O as σ H Q ρ P E q k
  refine ha O as σ H _ ρ _ E q fun d ρ1 v H1 q1 f1 E1 d1 => ?_
  unfold boolF at q1
  split at q1
  · next c =>
    cases d1
    refine ⟨_, rfl, ?_⟩
    cases c
    · exact hb O as σ H1 _ ρ1 _ E1 q1 fun b ρ2 v H2 q2 f2 E2 => k _ _ _ _ q2 (f1.trans f2) E2
    · exact k _ _ _ _ q1 f1 E1 (.bl _)
  · exact q1.elim
theorem re_not {t : TE} {a : FE} (ha : RE K t a) : RE K (tNotV t) (fNotV a) := by
  intro O as σ H Q ρ P E q k
  refine ha O as σ H _ ρ _ E q fun d ρ1 v H1 q1 f1 E1 d1 => ?_
  unfold boolF at q1
  split at q1
  · cases d1
    exact ⟨_, rfl, k _ _ _ _ q1 f1 E1 (.bl _)⟩
  · exact q1.elim
def fIf (c : FT) (a b : FE) : FE := fun ρ P => c ρ fun k ρ1 => if k = true then a ρ1 P else b ρ1 P
theorem re_if {t : TT} {ta tb : TE} {c : FT} {a b : FE} (hc : RT K t c) (ha : RE K ta a) (hb : RE K tb b) : RE K (tIf t ta tb) (fIf c a b) := by
  intro O as σ H Q ρ P E q k
  refine hc O as σ H _ ρ _ E q fun c ρ1 H1 q1 f1 E1 => ?_
  cases c
  · exact hb O as σ H1 _ ρ1 _ E1 q1 fun b ρ2 v H2 q2 f2 E2 => k _ _ _ _ q2 (f1.trans f2) E2
  · exact ha O as σ H1 _ ρ1 _ E1 q1 fun b ρ2 v H2 q2 f2 E2 => k _ _ _ _ q2 (f1.trans f2) E2
def fChain (g g' : PyData → PyData → (PyData → Prop) → Prop) (a b c : FE) : FE := fun ρ P => a ρ fun x ρ1 => b ρ1 fun y ρ2 => g x y fun z => boolF z fun k => if k = true then c ρ2 fun w ρ3 => g' y w fun d => P d ρ3 else P (.bool false) ρ2
theorem re_chain {r r' : R2} {g g' : PyData → PyData → (PyData → Prop) → Prop} {ta tb tc : TE} {fa fb fc : FE} (hr : RR K r g) (hr' : RR K r' g') (ha : RE K ta fa) (hb : RE K tb fb) (hc : RE K tc fc) : RE K (tChain r r' ta tb tc) (fChain g g' fa fb fc) := by
  intro O as σ H Q ρ P E q k
  refine ha O as σ H _ ρ _ E q fun a ρ1 x H1 q1 f1 E1 d1 => ?_
  refine hb O as σ H1 _ ρ1 _ E1 q1 fun b ρ2 y H2 q2 f2 E2 d2 => ?_
  refine hr (Hid O as) H2 _ x y a b _ (fun c h => E2.full h) (d1.fr f2) d2 q2 fun d v H3 p s3 d3 => ?_
  unfold boolF at p
  split at p
  · next c =>
    cases d3
    refine ⟨_, rfl, ?_⟩
    have E3 := E2.grow s3
    have f3 := (f1.trans f2).trans (FrA.of s3)
    cases c
    · exact k _ _ _ _ p f3 E3 (.bl _)
    · refine hc O as σ H3 _ ρ2 _ E3 p fun e ρ4 w H4 q4 f4 E4 d4 => ?_
      refine hr' (Hid O as) H4 _ y w b e _ (fun c h => E4.full h) ((d2.mono (hp_grow s3)).fr f4) d4 q4 fun d v H5 p s5 d5 => ?_
      exact k _ _ _ _ p ((f3.trans f4).trans (FrA.of s5)) (E4.grow s5) d5
  · exact p.elim
/-! stores -/
def gN (i : Nat) : FG := fun d ρ P => slotF ρ i = true ∧ P (ρ.set i (.fz d))
theorem rg_name {i : Nat} : RG K [i] (gName i) (gN i) := fun O as σ H R ρ P v d E q f k => k _ _ H f.2 (FrA.refl _ _) (E.setFz f.1 q) ⟨List.length_set, fun j hj => by
  rw [List.getElem?_set, if_neg (fun z => hj (by simp [z]))]⟩
def gsNil : FGs := fun ds ρ P => ds = [] ∧ P ρ
def gsCons (a : FG) (b : FGs) : FGs := fun ds ρ P => match ds with
  | d :: r => a d ρ fun ρ1 => b r ρ1 P
  | [] => False
theorem rgs_nil : RGs K [] gNil gsNil := by
  intro O as σ H R ρ P vs ds E q f k
  obtain ⟨rfl, f⟩ := f
  cases q
  exact ⟨rfl, k _ _ H f (FrA.refl _ _) E ⟨rfl, fun _ _ => rfl⟩⟩
theorem rgs_cons {us ws : List Nat} {g : TG} {gs : TGs} {a : FG} {b : FGs} (ha : RG K us g a) (hb : RGs K ws gs b) : RGs K (us ++ ws) (gCons g gs) (gsCons a b) := by
  intro O as σ H R ρ P vs ds E q f k
  cases q with
  | nil => exact f.elim
  | cons q1 q2 =>
    refine ⟨_, _, rfl, ?_⟩
    refine ha O as σ H _ ρ _ _ _ E q1 f fun ρ1 σ1 H1 p1 f1 E1 z1 => ?_
    exact hb O as σ1 H1 _ ρ1 _ _ _ E1 (q2.fr f1) p1 fun ρ2 σ2 H2 p2 f2 E2 z2 => k _ _ _ p2 (f1.trans f2) E2 ⟨z2.1.trans z1.1, fun j hj => by
      rw [List.mem_append, not_or] at hj
      rw [z2.2 j hj.2, z1.2 j hj.1]⟩
def gT (m : Nat) (b : FGs) : FG := fun d ρ P => match d with
  | .tuple ds => ds.length = m ∧ b ds ρ P
  | _ => False
theorem rg_tup {ws : List Nat} {m : Nat} {gs : TGs} {b : FGs} (h : RGs K ws gs b) : RG K ws (gTup K m gs) (gT m b) := by
  intro O as σ H R ρ P v d E q f k
  unfold gT at f
  split at f
  · obtain ⟨a, xs, rfl, s, r⟩ := q.tuple_of
    exact ⟨_, _, rfl, SqT.mono hp_same s, by rw [r.length]; exact f.1, h O as σ H _ ρ _ _ _ E r f.2 k⟩
  · exact f.elim
/-! statements -/
def fSeq (a b : FS) : FS := fun E ρ => a { E with nx := b E } ρ
theorem rs_seq {t u : TS} {a b : FS} (ha : RS K n t a) (hb : RS K n u b) : RS K n (tSeq t u) (fSeq a b) := by
  intro O as σ H D ρ E R f C
  refine ha O as σ H _ ρ _ R f ⟨fun ρ' as' σ' H' p x R' => ?_, C.rt, C.bk, C.ct⟩
  exact hb O as' σ' H' D ρ' E R' p (C.ext x)
def fNext : FS := fun E ρ => E.nx ρ
theorem rs_next : RS K n tNext fNext := fun O as σ H D ρ E R f C => C.nx ρ as σ H f .refl R
def fAsg (a : FE) (g : FG) : FS := fun E ρ => a ρ fun d ρ1 => g d ρ1 E.nx
theorem rs_asg {ws : List Nat} {te : TE} {g : TG} {a : FE} {b : FG} (ha : RE K te a) (hg : RG K ws g b) : RS K n (tAsg te g) (fAsg a b) := by
  intro O as σ H D ρ E R f C
  refine ha O as σ H _ ρ _ R f fun d ρ1 v H1 q1 f1 E1 d1 => ?_
  refine hg O as σ H1 _ ρ1 _ v d E1 d1 q1 fun ρ2 σ2 H2 p2 f2 E2 _ => ?_
  exact C.nx _ _ _ _ p2 (.of (f1.trans f2)) E2
def fRet (a : FE) : FS := fun E ρ => a ρ E.rt
theorem rs_ret {te : TE} {a : FE} (ha : RE K te a) : RS K n (tRet te) (fRet a) := by
  intro O as σ H D ρ E R f C
  exact ha O as σ H _ ρ _ R f fun d ρ1 v H1 q1 f1 E1 d1 => C.rt _ _ _ _ _ _ q1 (.of f1) E1 d1
def fRetN : FS := fun E ρ => E.rt .none ρ
theorem rs_retN : RS K n tRetN fRetN := fun O as σ H D ρ E R f C => C.rt _ _ _ _ _ _ f .refl R .non
def fDrop (a : FE) : FS := fun E ρ => a ρ fun _ ρ1 => E.nx ρ1
theorem rs_drop {te : TE} {a : FE} (ha : RE K te a) : RS K n (tDrop te) (fDrop a) := by
  intro O as σ H D ρ E R f C
  exact ha O as σ H _ ρ _ R f fun d ρ1 v H1 q1 f1 E1 d1 => C.nx _ _ _ _ q1 (.of f1) E1
def fIfS (c : FT) (a b : FS) : FS := fun E ρ => c ρ fun k ρ1 => if k = true then a E ρ1 else b E ρ1
theorem rs_if {c : TT} {t u : TS} {fc : FT} {a b : FS} (hc : RT K c fc) (ha : RS K n t a) (hb : RS K n u b) : RS K n (tIfS c t u) (fIfS fc a b) := by
  intro O as σ H D ρ E R f C
  refine hc O as σ H _ ρ _ R f fun k ρ1 H1 q1 f1 E1 => ?_
  cases k
  · exact hb O as σ H1 D ρ1 E E1 q1 (C.ext (.of f1))
  · exact ha O as σ H1 D ρ1 E E1 q1 (C.ext (.of f1))
def fNever : FS := fun _ _ => False
theorem rs_never : RS K n tNever fNever := fun O as σ H D ρ E R f C => f.elim
def fBreak : FS := fun E ρ => E.bk ρ
theorem rs_break : RS K n tBreak fBreak := fun O as σ H D ρ E R f C => C.bk ρ as σ H f .refl R
def fCont : FS := fun E ρ => E.ct ρ
theorem rs_cont : RS K n tCont fCont := fun O as σ H D ρ E R f C => C.ct ρ as σ H f .refl R
def fPar (i j : Nat) (a : FA) : FS := fun E ρ => a ρ fun ds ρ1 => match ds with
  | [x, y] => gN i x ρ1 fun ρ2 => gN j y ρ2 E.nx
  | _ => False
theorem rs_par {i j : Nat} {t : TA} {a : FA} (ha : RA K t a) : RS K n (tPar i j t) (fPar i j a) := by
  intro O as σ H D ρ E R f C
  refine ha O as σ H _ ρ _ R f fun ds ρ1 vs H1 q1 f1 E1 d1 => ?_
  split at q1
  · cases d1 with
    | cons d1 r => cases r with
      | cons d2 r =>
        cases r
        refine ⟨_, _, rfl, ?_⟩
        exact C.nx _ _ _ _ q1.2.2 (.of f1) ((E1.setFz q1.1 d1).setFz q1.2.1 d2)
  · exact q1.elim
/-- an own list that is so from now on -/
def fFreeze (i : Nat) (a : FS) : FS := fun E ρ => match ρ[i]? with
  | some (.own ds) => a E (ρ.set i (.fz (.list ds)))
  | _ => a E ρ
theorem rs_freeze {i : Nat} {t : TS} {a : FS} (hi : n ≤ i) (ha : RS K n t a) : RS K n t (fFreeze i a) := by
  intro O as σ H D ρ E R f C
  unfold fFreeze at f
  split at f
  · next ds h =>
    refine ha O _ σ H D _ E (R.freeze h) f (C.ext ⟨FrA.refl _ _, fun a q => ?_, fun j hj => upA_ne (by omega)⟩)
    rcases q.up with q | q
    · cases q
    · exact .inl q
  · exact ha O as σ H D ρ E R f C
/-- a new list into a slot, its own -/
def fOwn (i : Nat) (a : FA) : FS := fun E ρ => a ρ fun ds ρ1 => i < ρ1.length ∧ E.nx (ρ1.set i (.own ds))
theorem rs_own {i : Nat} {te : TE} {a : FA} (hi : n ≤ i) (ha : RN K te a) : RS K n (tAsg te (gName i)) (fOwn i a) := by
  intro O as σ H D ρ E R f C
  refine ha O as σ H _ ρ _ R f fun ds ρ1 p xs H2 q1 f1 hp1 E1 hp2 d1 => ?_
  have np := R.fresh hp1
  have hS : Same (hp (Hid (plus O p) as) H2) (hp (fun a => Hid O as a ∨ a = p) H2) := hp_less fun a q => by
    rcases q with (q | q) | q
    · exact .inl (.inl q)
    · exact .inr q
    · exact .inl (.inr q)
  have E2 := E1.lessO.setOwn q1.1 np hp2 (fun j sl o h1 h2 _ => (E1.at_ j sl o h1 h2).mono hS fun b hb => rfl) (d1.mono hS)
  refine C.nx _ _ _ _ q1.2 ⟨f1, fun a q => ?_, fun j hj => upA_ne (by omega)⟩ E2
  rcases q.up with q | q
  · rw [← Option.some.inj q]; exact .inr hp1
  · exact .inl q
end
end DL
/-! loops, comprehensions, calls -/
namespace DL
open PySem L2 Z
/-- what is gone through: the data of each turn -/
def IsIt (K : PySem.W.Frag) (A : Addr → Prop) (J : It) (H : Hp) (ds : List PyData) : Prop := ∃ (G : Hp → Prop) (Y : Nat → Hp → V → Hp → Prop), Walk J ds.length G Y ∧ (∀ (A' : Addr → Prop) (H1 : Hp), Same (hp A H) (hp A' H1) → G H1) ∧
  ∀ (i : Nat) (d : PyData) (A' : Addr → Prop) (H1 : Hp) (x : V) (H2 : Hp), ds[i]? = some d → Same (hp A H) (hp A' H1) → (∀ c, A' c → H1 c ≠ none) → Y i H1 x H2 → Same H1 H2 ∧ Dq K (hp A' H2) x d
def RI (K : PySem.W.Frag) (wi : TI) (f : FA) : Prop := ∀ (O : Addr → Prop) (as : Nat → Option Addr) (σ : L2.St) (H : Hp) (R : It → Hp → Prop) (ρ : En) (P : List PyData → En → Prop), EnR K O as H ρ σ → f ρ P →
  (∀ ds ρ' J H', P ds ρ' → FrA (Own as) H H' → EnR K O as H' ρ' σ → IsIt K (Hid O as) J H' ds → R J H') → wi σ H R
section
variable {K : PySem.W.Frag} {n : Nat}
def listF (a : PyData) (k : List PyData → Prop) : Prop := match a with
  | .list ds => k ds
  | _ => False
def tupleF (a : PyData) (k : List PyData → Prop) : Prop := match a with
  | .tuple ds => k ds
  | _ => False
def intF (a : PyData) (k : Int → Prop) : Prop := match a with
  | .int i => k i
  | _ => False
def iL (f : FE) : FA := fun ρ P => f ρ fun d ρ1 => listF d fun ds => P ds ρ1
theorem ri_list {tl : TE} {f : FE} (h : RE K tl f) : RI K (iList K tl) (iL f) := by
  intro O as σ H R ρ P E q k
  refine h O as σ H _ ρ _ E q fun d ρ1 v H1 q1 f1 E1 d1 => ?_
  unfold listF at q1
  split at q1
  · next ds =>
    obtain ⟨a, xs, rfl, s, r⟩ := d1.list_of
    obtain ⟨na, ea⟩ := hp_some s
    refine ⟨a, rfl, ⟨_, SqL.of ea⟩, k _ _ _ _ q1 f1 E1 ?_⟩
    refine ⟨_, _, by rw [← r.length]; exact walk_list (xs := xs), fun A' H2 s2 => SqL.of (hp_some (s2 _ _ s)).2, fun i d A' H2 x H3 hd s2 oc y => ?_⟩
    obtain ⟨rfl, hx⟩ := y
    obtain ⟨d', e, q⟩ := r.get hx
    rw [hd] at e
    cases e
    exact ⟨Same.refl _, q.mono s2⟩
  · exact q1.elim
def iT (f : FE) : FA := fun ρ P => f ρ fun d ρ1 => tupleF d fun ds => P ds ρ1
theorem ri_tup {tl : TE} {f : FE} (h : RE K tl f) : RI K (iTup K tl) (iT f) := by
  intro O as σ H R ρ P E q k
  refine h O as σ H _ ρ _ E q fun d ρ1 v H1 q1 f1 E1 d1 => ?_
  unfold tupleF at q1
  split at q1
  · next ds =>
    obtain ⟨a, xs, rfl, s, r⟩ := d1.tuple_of
    refine ⟨a, rfl, ⟨_, SqT.mono hp_same s⟩, k _ _ _ _ q1 f1 E1 ?_⟩
    refine ⟨_, _, by rw [← r.length]; exact walk_tup (xs := xs), fun A' H2 s2 => SqT.mono hp_same (SqT.mono s2 s), fun i d A' H2 x H3 hd s2 oc y => ?_⟩
    obtain ⟨rfl, hx⟩ := y
    obtain ⟨d', e, q⟩ := r.get hx
    rw [hd] at e
    cases e
    exact ⟨Same.refl _, q.mono s2⟩
  · exact q1.elim
def signs (z : Str) : List PyData := z.cps.toList.map fun c => .str ⟨#[c]⟩
def iS (f : FE) : FA := fun ρ P => f ρ fun d ρ1 => strF d fun z => P (signs z) ρ1
theorem ri_str {te : TE} {f : FE} (h : RE K te f) : RI K (iStr te) (iS f) := by
  intro O as σ H R ρ P E q k
  refine h O as σ H _ ρ _ E q fun d ρ1 v H1 q1 f1 E1 d1 => ?_
  unfold strF at q1
  split at q1
  · next z =>
    cases d1
    refine ⟨z, rfl, k _ _ _ _ q1 f1 E1 ?_⟩
    refine ⟨_, _, by rw [signs, List.length_map, Array.length_toList]; exact walk_str (z := z), fun _ _ _ => trivial, fun i d A' H2 x H3 hd s2 oc y => ?_⟩
    obtain ⟨rfl, c, hc, rfl⟩ := y
    rw [signs, List.getElem?_map, Array.getElem?_toList, hc] at hd
    cases hd
    exact ⟨Same.refl _, .str _⟩
  · exact q1.elim
def rangeD (lo : Int) (m : Nat) : List PyData := (List.range m).map fun k : Nat => .int (lo + (k : Int))
theorem isIt_range {A : Addr → Prop} {H : Hp} {lo : Int} {m : Nat} : IsIt K A (Itr lo m) H (rangeD lo m) := by
  refine ⟨_, _, by rw [rangeD, List.length_map, List.length_range]; exact walk_range (lo := lo) (n := m), fun _ _ _ => trivial, fun i d A' H2 x H3 hd s2 oc y => ?_⟩
  obtain ⟨rfl, rfl⟩ := y
  rw [rangeD, List.getElem?_map] at hd
  have hi : i < m := by
    by_cases h : i < m
    · exact h
    · rw [List.getElem?_eq_none (by rw [List.length_range]; omega)] at hd; cases hd
  rw [List.getElem?_range hi] at hd
  cases hd
  exact ⟨Same.refl _, .int _⟩
def iR1 (f : FA) : FA := fun ρ P => f ρ fun ds ρ1 => match ds with
  | [.int j] => -(2 ^ 62) ≤ j ∧ j < 2 ^ 62 ∧ P (rangeD 0 j.toNat) ρ1
  | _ => False
theorem ri_rng1 {ta : TA} {f : FA} (h : RA K ta f) : RI K (iRng1 ta) (iR1 f) := by
  intro O as σ H R ρ P E q k
  refine h O as σ H _ ρ _ E q fun ds ρ1 vs H1 q1 f1 E1 d1 => ?_
  split at q1
  · cases d1 with
    | cons a b => cases a; cases b; exact ⟨_, rfl, q1.1, q1.2.1, k _ _ _ _ q1.2.2 f1 E1 isIt_range⟩
  · exact q1.elim
def iR2 (f : FA) : FA := fun ρ P => f ρ fun ds ρ1 => match ds with
  | [.int i, .int j] => (-(2 ^ 62) ≤ i ∧ i < 2 ^ 62 ∧ -(2 ^ 62) ≤ j ∧ j < 2 ^ 62) ∧ P (rangeD i (j - i).toNat) ρ1
  | _ => False
theorem ri_rng2 {ta : TA} {f : FA} (h : RA K ta f) : RI K (iRng2 ta) (iR2 f) := by
  intro O as σ H R ρ P E q k
  refine h O as σ H _ ρ _ E q fun ds ρ1 vs H1 q1 f1 E1 d1 => ?_
  split at q1
  · cases d1 with
    | cons a b => cases a; cases b with
      | cons a b => cases a; cases b; exact ⟨_, _, rfl, q1.1, k _ _ _ _ q1.2 f1 E1 isIt_range⟩
  · exact q1.elim
def downD (lo : Int) (m : Nat) : List PyData := (List.range m).map fun k : Nat => .int (lo - (k : Int))
/-- range(i, j, -1) -/
def iR3 (f : FA) : FA := fun ρ P => f ρ fun ds ρ1 => match ds with
  | [.int i, .int j, .int c] => c = -1 ∧ (-(2 ^ 62) ≤ i ∧ i < 2 ^ 62 ∧ -(2 ^ 62) ≤ j ∧ j < 2 ^ 62) ∧ P (downD i (i - j).toNat) ρ1
  | _ => False
theorem ri_rng3 {ta : TA} {f : FA} (h : RA K ta f) : RI K (iRng3 ta) (iR3 f) := by
  intro O as σ H R ρ P E q k
  refine h O as σ H _ ρ _ E q fun ds ρ1 vs H1 q1 f1 E1 d1 => ?_
  split at q1
  · next i j c =>
    cases d1 with
    | cons a b => cases a; cases b with
      | cons a b => cases a; cases b with
        | cons a b =>
          cases a; cases b
          obtain ⟨rfl, ⟨b1, b2, b3, b4⟩, q1⟩ := q1
          refine ⟨_, _, _, _, rfl, RgC.neg b1 b2 b3 b4, k _ _ _ _ q1 f1 E1 ?_⟩
          refine ⟨_, _, by rw [downD, List.length_map, List.length_range]; exact walk_rangeC (lo := i) (c := -1) (n := (i - j).toNat), fun _ _ _ => trivial, fun l d A' H2 x H3 hd s2 oc y => ?_⟩
          obtain ⟨rfl, rfl⟩ := y
          rw [downD, List.getElem?_map] at hd
          have hi : l < (i - j).toNat := by
            by_cases h : l < (i - j).toNat
            · exact h
            · rw [List.getElem?_eq_none (by rw [List.length_range]; omega)] at hd; cases hd
          rw [List.getElem?_range hi] at hd
          cases hd
          refine ⟨Same.refl _, ?_⟩
          dsimp only
          rw [show i + (l : Int) * -1 = i - (l : Int) by omega]
          exact .int _
  · exact q1.elim
theorem yPair {A A' : Addr → Prop} {H H1 H2 : Hp} {T : Addr} {x y : V} {a b : PyData} (hT : H1 T = none) (e : H2 = upd H1 T (.tup [x, y])) (oc : ∀ c, A' c → H1 c ≠ none) (hx : Dq K (hp A' H1) x a) (hy : Dq K (hp A' H1) y b) :
    Same H1 H2 ∧ Dq K (hp A' H2) (.ref T) (.tuple [a, b]) := by
  subst e
  have s := Same.new (o := .tup [x, y]) hT
  exact ⟨s, .tup (SqT.of (hp_mk (fun q => oc _ q hT) upd_same)) (.cons (hx.mono (hp_grow s)) (.cons (hy.mono (hp_grow s)) .nil))⟩
def enumD (ds : List PyData) : List PyData := ds.zipIdx.map fun z => .tuple [.int (z.2 : Nat), z.1]
def iE (f : FA) : FA := fun ρ P => f ρ fun ds ρ1 => match ds with
  | [.list es] => P (enumD es) ρ1
  | _ => False
theorem ri_enum {ta : TA} {f : FA} (h : RA K ta f) : RI K (iEnum K ta) (iE f) := by
  intro O as σ H R ρ P E q k
  refine h O as σ H _ ρ _ E q fun ds ρ1 vs H1 q1 f1 E1 d1 => ?_
  split at q1
  · next es =>
    cases d1 with
    | cons d1 b =>
      cases b
      obtain ⟨a, xs, rfl, s, r⟩ := d1.list_of
      refine ⟨a, xs, rfl, SqL.of (hp_some s).2, k _ _ _ _ q1 f1 E1 ?_⟩
      refine ⟨_, _, by rw [enumD, List.length_map, List.length_zipIdx, ← r.length]; exact walk_enum (xs := xs), fun A' H2 s2 => SqL.of (hp_some (s2 _ _ s)).2, fun i d A' H2 x H3 hd s2 oc y => ?_⟩
      obtain ⟨T, x1, y1, rfl, hT, e, e1, e2⟩ := y
      cases e1
      obtain ⟨d', e', q'⟩ := r.get e2
      rw [enumD, List.getElem?_map, List.getElem?_zipIdx, e'] at hd
      simp only [Option.map_some, Nat.zero_add] at hd
      cases hd
      exact yPair (A := fun _ => False) (H := H) hT e oc (.int _) (q'.mono s2)
  · exact q1.elim
def zipD (a b : List PyData) : List PyData := (a.zip b).map fun z => .tuple [z.1, z.2]
def iZ (f : FA) : FA := fun ρ P => f ρ fun ds ρ1 => match ds with
  | [.list es, .list gs] => P (zipD es gs) ρ1
  | [.tuple es, .tuple gs] => P (zipD es gs) ρ1
  | _ => False
theorem zipD_get {es gs : List PyData} {i : Nat} {d d1 d2 : PyData} (h : (zipD es gs)[i]? = some d) (h1 : es[i]? = some d1) (h2 : gs[i]? = some d2) : d = .tuple [d1, d2] := by
  rw [zipD, List.getElem?_map, (List.getElem?_zip_eq_some (z := (d1, d2))).mpr ⟨h1, h2⟩] at h
  cases h
  rfl
theorem zipD_len {es gs : List PyData} : (zipD es gs).length = min es.length gs.length := by rw [zipD, List.length_map, List.length_zip]
theorem ri_zip {ta : TA} {f : FA} (h : RA K ta f) : RI K (RZ.iZipA K ta) (iZ f) := by
  intro O as σ H R ρ P E q k
  refine h O as σ H _ ρ _ E q fun ds ρ1 vs H1 q1 f1 E1 d1 => ?_
  split at q1
  · next es gs =>
    cases d1 with
    | cons d1 b => cases b with
      | cons d2 b =>
        cases b
        obtain ⟨a, xs, rfl, s, r⟩ := d1.list_of
        obtain ⟨a', xs', rfl, s', r'⟩ := d2.list_of
        refine ⟨a, a', xs, xs', rfl, .inl ⟨SqL.of (hp_some s).2, SqL.of (hp_some s').2, k _ _ _ _ q1 f1 E1 ?_⟩⟩
        refine ⟨_, _, walk_zip (xs := xs) (ys := xs') (n := (zipD es gs).length) (by rw [zipD_len, ← r.length, ← r'.length]), fun A' H2 s2 => ⟨SqL.of (hp_some (s2 _ _ s)).2, SqL.of (hp_some (s2 _ _ s')).2⟩, fun i d A' H2 x H3 hd s2 oc y => ?_⟩
        obtain ⟨T, x1, y1, rfl, hT, e, e1, e2⟩ := y
        obtain ⟨c1, g1, q1'⟩ := r.get e1
        obtain ⟨c2, g2, q2'⟩ := r'.get e2
        rw [zipD_get hd g1 g2]
        exact yPair (A := fun _ => False) (H := H) hT e oc (q1'.mono s2) (q2'.mono s2)
  · next es gs =>
    cases d1 with
    | cons d1 b => cases b with
      | cons d2 b =>
        cases b
        obtain ⟨a, xs, rfl, s, r⟩ := d1.tuple_of
        obtain ⟨a', xs', rfl, s', r'⟩ := d2.tuple_of
        refine ⟨a, a', xs, xs', rfl, .inr ⟨SqT.mono hp_same s, SqT.mono hp_same s', k _ _ _ _ q1 f1 E1 ?_⟩⟩
        refine ⟨_, _, walk_zipT (xs := xs) (ys := xs') (n := (zipD es gs).length) (by rw [zipD_len, ← r.length, ← r'.length]), fun A' H2 s2 => ⟨SqT.mono hp_same (SqT.mono s2 s), SqT.mono hp_same (SqT.mono s2 s')⟩, fun i d A' H2 x H3 hd s2 oc y => ?_⟩
        obtain ⟨T, x1, y1, rfl, hT, e, e1, e2⟩ := y
        obtain ⟨c1, g1, q1'⟩ := r.get e1
        obtain ⟨c2, g2, q2'⟩ := r'.get e2
        rw [zipD_get hd g1 g2]
        exact yPair (A := fun _ => False) (H := H) hT e oc (q1'.mono s2) (q2'.mono s2)
  · exact q1.elim
/-! for, while -/
/-- slots forgotten -/
def fgt (ρ : En) : List Nat → En
  | [] => ρ
  | v :: vs => fgt (ρ.set v .no) vs
theorem EnR.forget1 {O : Addr → Prop} {as : Nat → Option Addr} {H : Hp} {ρ : En} {σ : L2.St} {v : Nat} (R : EnR K O as H ρ σ) (hv : n ≤ v) : ∃ as', Ext n as as' H H ∧ EnR K O as' H (ρ.set v .no) σ := by
  have self : ∀ {ρ : En} {as : Nat → Option Addr}, EnR K O as H ρ σ → slotF ρ v = true → EnR K O as H (ρ.set v .no) σ := fun {ρ as} R h => by
    obtain ⟨sl, e, _⟩ := slotF_of h
    obtain ⟨o, eo, _⟩ := R.at' e
    have := R.setNo h o
    rw [show σ.set v o = σ from by
      refine List.ext_getElem? fun j => ?_
      rw [List.getElem?_set]
      by_cases z : v = j
      · subst z
        rw [if_pos rfl, eo, if_pos (List.getElem?_eq_some_iff.mp eo).1]
      · rw [if_neg z]] at this
    exact this
  cases e : ρ[v]? with
  | none =>
    rw [List.set_eq_of_length_le (List.getElem?_eq_none_iff.mp e)]
    exact ⟨as, .refl, R⟩
  | some sl =>
    cases sl with
    | no => exact ⟨as, .refl, self R (by unfold slotF; rw [e])⟩
    | fz d => exact ⟨as, .refl, self R (by unfold slotF; rw [e])⟩
    | own ds =>
      have R2 := R.freeze e
      have hl := (List.getElem?_eq_some_iff.mp e).1
      have R3 := self R2 (by unfold slotF; rw [List.getElem?_set, if_pos rfl, if_pos hl])
      rw [List.set_set] at R3
      refine ⟨_, ⟨FrA.refl _ _, fun a q => ?_, fun j hj => upA_ne (by omega)⟩, R3⟩
      rcases q.up with q | q
      · cases q
      · exact .inl q
theorem EnR.forget {O : Addr → Prop} {H : Hp} {σ : L2.St} : ∀ (vs : List Nat) {as : Nat → Option Addr} {ρ : En}, EnR K O as H ρ σ → (∀ v ∈ vs, n ≤ v) → ∃ as', Ext n as as' H H ∧ EnR K O as' H (fgt ρ vs) σ
  | [], as, ρ, R, _ => ⟨as, .refl, R⟩
  | v :: vs, as, ρ, R, h => by
    obtain ⟨a1, x1, R1⟩ := R.forget1 (h v (List.mem_cons_self ..))
    obtain ⟨a2, x2, R2⟩ := EnR.forget vs R1 (fun u hu => h u (List.mem_cons_of_mem _ hu))
    exact ⟨a2, x1.trans x2, R2⟩
/-- a loop over data from now on; the slots us are forgotten at each turn's end -/
def forW (us : List Nat) (ds : List PyData) (g : FG) (b : FS) (E : FEnds) (ρ : En) : Prop := ∃ W : Nat → En → Prop, W 0 (fgt ρ us) ∧ (∀ i d ρ2, ds[i]? = some d → W i ρ2 → g d ρ2 fun ρ3 => b { E with nx := fun ρ4 => W (i + 1) (fgt ρ4 us), ct := fun ρ4 => W (i + 1) (fgt ρ4 us), bk := E.nx } ρ3) ∧ ∀ ρ2, W ds.length ρ2 → E.nx ρ2
def fFor (us : List Nat) (fi : FA) (g : FG) (b : FS) : FS := fun E ρ => fi ρ fun ds ρ1 => forW us ds g b E ρ1
theorem rs_for {us ws : List Nat} {wi : TI} {g : TG} {tb : TS} {fi : FA} {fg : FG} {b : FS} (hu : ∀ u ∈ us, n ≤ u) (hi : RI K wi fi) (hg : RG K ws g fg) (hb : RS K n tb b) : RS K n (tFor wi g tb) (fFor us fi fg b) := by
  intro O as σ H D ρ E R f C
  refine hi O as σ H _ ρ _ R f fun ds ρ1 J H1 q1 f1 E1 it => ?_
  obtain ⟨W, w0, ws', we⟩ := q1
  obtain ⟨G, Y, wk, hG, hY⟩ := it
  have C1 := C.ext (.of f1)
  obtain ⟨a0, x0, R0⟩ := E1.forget us hu
  refine for_it wk (fun i σ' H' => ∃ as' ρ', Ext n as as' H1 H' ∧ EnR K O as' H' ρ' σ' ∧ W i ρ') ⟨a0, _, x0, R0, w0⟩ (fun i σ' H' _ ⟨as', ρ', x, _, _⟩ => hG _ _ x.same) ?_ ?_
  · rintro i x σ2 H2 H3 hi' ⟨as', ρ', x2, E2, w⟩ y
    obtain ⟨s3, d3⟩ := hY i _ (Hid O as') H2 x H3 (List.getElem?_eq_getElem hi') x2.same (fun c h => E2.full h) y
    have x3 : Ext n as' as' H2 H3 := .of (FrA.of s3)
    refine hg O as' σ2 H3 _ ρ' _ x _ (E2.grow s3) d3 (ws' i _ ρ' (List.getElem?_eq_getElem hi') w) fun ρ4 σ4 H4 p4 f4 E4 _ => ?_
    have x4 := (x2.trans x3).trans (Ext.of (n := n) f4)
    have C4 := C1.ext x4
    have fin : ∀ ρ5 as5 σ5 H5, W (i + 1) (fgt ρ5 us) → Ext n as' as5 H4 H5 → EnR K O as5 H5 ρ5 σ5 → ∃ as' ρ', Ext n as as' H1 H5 ∧ EnR K O as' H5 ρ' σ5 ∧ W (i + 1) ρ' := fun ρ5 as5 σ5 H5 p5 x5 E5 => by
      obtain ⟨a6, x6, R6⟩ := E5.forget us hu
      exact ⟨a6, _, (x4.trans x5).trans x6, R6, p5⟩
    refine hb O as' σ4 H4 _ ρ4 _ E4 p4 ⟨fin, C4.rt, C4.nx, fin⟩
  · rintro σ2 H2 ⟨as', ρ', x2, E2, w⟩
    exact C1.nx _ _ _ _ (we _ w) x2 E2
def whileW (us : List Nat) (c : FT) (b : FS) (E : FEnds) (ρ : En) : Prop := ∃ W : Nat → En → Prop, (∃ m, W m (fgt ρ us)) ∧ ∀ m ρ1, W m ρ1 → c ρ1 fun k ρ2 => if k = true then b { E with nx := fun ρ' => ∃ m', m' < m ∧ W m' (fgt ρ' us), ct := fun ρ' => ∃ m', m' < m ∧ W m' (fgt ρ' us), bk := E.nx } ρ2 else E.nx ρ2
def fWhile (us : List Nat) (c : FT) (b : FS) : FS := fun E ρ => whileW us c b E ρ
theorem rs_while {us : List Nat} {c : TT} {tb : TS} {fc : FT} {b : FS} (hu : ∀ u ∈ us, n ≤ u) (hc : RT K c fc) (hb : RS K n tb b) : RS K n (tWhile c tb) (fWhile us fc b) := by
  intro O as σ H D ρ E R f C
  obtain ⟨W, ⟨m0, w0⟩, st⟩ := f
  obtain ⟨a0, x0, R0⟩ := R.forget us hu
  refine ⟨fun m σ' H' => ∃ as' ρ', Ext n as as' H H' ∧ EnR K O as' H' ρ' σ' ∧ W m ρ', ⟨m0, a0, _, x0, R0, w0⟩, ?_⟩
  rintro m σ1 H1 ⟨as1, ρ1, x1, E1, w⟩
  refine hc O as1 σ1 H1 _ ρ1 _ E1 (st m ρ1 w) fun k ρ2 H2 q2 f2 E2 => ?_
  have x2 := x1.trans (Ext.of (n := n) f2)
  cases k
  · exact C.nx _ _ _ _ q2 x2 E2
  · refine ⟨fun σ' H' => ∃ m', m' < m ∧ ∃ as' ρ', Ext n as as' H H' ∧ EnR K O as' H' ρ' σ' ∧ W m' ρ', fun σ' H' h => h, ?_⟩
    have C2 := C.ext x2
    have fin : ∀ ρ5 as5 σ5 H5, (∃ m', m' < m ∧ W m' (fgt ρ5 us)) → Ext n as1 as5 H2 H5 → EnR K O as5 H5 ρ5 σ5 → ∃ m', m' < m ∧ ∃ as' ρ', Ext n as as' H H5 ∧ EnR K O as' H5 ρ' σ5 ∧ W m' ρ' := fun ρ5 as5 σ5 H5 ⟨m', hm, p5⟩ x5 E5 => by
      obtain ⟨a6, x6, R6⟩ := E5.forget us hu
      exact ⟨m', hm, a6, _, (x2.trans x5).trans x6, R6, p5⟩
    exact hb O as1 σ1 H2 _ ρ2 _ E2 q2 ⟨fin, C2.rt, C2.nx, fin⟩
/-! comprehensions -/
def wipeF (ρ : En) : List Nat → En
  | [] => ρ
  | v :: vs => (wipeF ρ vs).set v .no
theorem wipe_at (σ : L2.St) (j : Nat) : ∀ vs : List Nat, (wipe σ vs)[j]? = if j ∈ vs ∧ j < σ.length then some none else σ[j]?
  | [] => by simp [wipe]
  | v :: vs => by
    rw [wipe, List.getElem?_set, wipe_length, wipe_at σ j vs]
    by_cases e : v = j
    · subst e
      by_cases h : v < σ.length
      · simp [h]
      · simp [h]
    · rw [if_neg e]
      simp [show ¬ j = v from fun z => e z.symm]
theorem wipe_eq {σ σ' : L2.St} {vs : List Nat} (hl : σ'.length = σ.length) (h : ∀ j, j ∉ vs → σ'[j]? = σ[j]?) : wipe σ' vs = wipe σ vs := by
  refine List.ext_getElem? fun j => ?_
  rw [wipe_at, wipe_at, hl]
  by_cases q : j ∈ vs
  · by_cases z : j < σ.length
    · rw [if_pos ⟨q, z⟩, if_pos ⟨q, z⟩]
    · rw [if_neg (fun w => z w.2), if_neg (fun w => z w.2), List.getElem?_eq_none (by omega), List.getElem?_eq_none (by omega)]
  · rw [if_neg (fun w => q w.1), if_neg (fun w => q w.1)]
    exact h j q
theorem slotF_set {ρ : En} {i j : Nat} (h : slotF ρ j = true) : slotF (ρ.set i .no) j = true := by
  obtain ⟨sl, q, _⟩ := slotF_of h
  have hj : j < ρ.length := (List.getElem?_eq_some_iff.mp q).1
  unfold slotF at *
  rw [List.getElem?_set]
  by_cases e : i = j
  · subst e
    simp [hj]
  · rw [if_neg e]
    exact h
theorem EnR.wipes {O : Addr → Prop} {as : Nat → Option Addr} {H : Hp} {ρ : En} {σ : L2.St} (E : EnR K O as H ρ σ) : ∀ vs : List Nat, vs.all (slotF ρ) = true → EnR K O as H (wipeF ρ vs) (wipe σ vs) ∧ ∀ j, slotF ρ j = true → slotF (wipeF ρ vs) j = true
  | [], _ => ⟨E, fun _ h => h⟩
  | v :: vs, h => by
    have h' : (slotF ρ v && vs.all (slotF ρ)) = true := h
    rw [Bool.and_eq_true] at h'
    obtain ⟨E1, k⟩ := EnR.wipes E vs h'.2
    exact ⟨E1.setNo (k v h'.1) none, fun j hj => slotF_set (k j hj)⟩
theorem wipeF_len (ρ : En) : ∀ vs : List Nat, (wipeF ρ vs).length = ρ.length
  | [] => rfl
  | v :: vs => by rw [wipeF, List.length_set, wipeF_len ρ vs]
theorem wipeF_at (ρ : En) (j : Nat) : ∀ vs : List Nat, (wipeF ρ vs)[j]? = if j ∈ vs ∧ j < ρ.length then some .no else ρ[j]?
  | [] => by simp [wipeF]
  | v :: vs => by
    rw [wipeF, List.getElem?_set, wipeF_len, wipeF_at ρ j vs]
    by_cases e : v = j
    · subst e
      by_cases h : v < ρ.length
      · simp [h]
      · simp [h]
    · rw [if_neg e]
      simp [show ¬ j = v from fun z => e z.symm]
/-- slots that are known of nothing may hold anything -/
theorem EnR.unwipe {O : Addr → Prop} {as : Nat → Option Addr} {H : Hp} {ρ : En} {σ σ' : L2.St} {vs : List Nat} (E : EnR K O as H (wipeF ρ vs) (wipe σ vs)) (h : ∀ j, j ∈ vs → as j = none) (hl : σ'.length = σ.length) (h' : ∀ j, j ∉ vs → σ'[j]? = σ[j]?) :
    EnR K O as H (wipeF ρ vs) σ' := by
  refine ⟨by rw [E.len, wipe_length, hl], fun j sl o h1 h2 => ?_, E.inj, E.out, E.bnd, E.occ⟩
  by_cases q : j ∈ vs
  · rw [wipeF_at] at h1
    have hj : j < ρ.length := by
      have := (List.getElem?_eq_some_iff.mp h2).1
      have e := E.len
      rw [wipeF_len, wipe_length] at e
      omega
    rw [if_pos ⟨q, hj⟩] at h1
    cases h1
    rw [h j q]
    exact .no
  · refine E.at_ j sl o h1 ?_
    rw [wipe_at, if_neg (fun w => q w.1), ← h' j q]
    exact h2
def lcW (ds : List PyData) (g : FG) (ft : FT) (fe : FE) (vs : List Nat) (ρ : En) (P : List PyData → En → Prop) : Prop := vs.all (slotF ρ) = true ∧ ∃ W : Nat → List PyData → En → Prop, W 0 [] (wipeF ρ vs) ∧
  (∀ i d acc ρ2, ds[i]? = some d → W i acc ρ2 → g d ρ2 fun ρ3 => ft ρ3 fun b ρ4 => if b = true then fe ρ4 fun y ρ5 => acc.length < sizeLine ∧ vs.all (slotF ρ5) = true ∧ W (i + 1) (acc ++ [y]) (wipeF ρ5 vs) else vs.all (slotF ρ4) = true ∧ W (i + 1) acc (wipeF ρ4 vs)) ∧
  ∀ acc ρ2, W ds.length acc (wipeF ρ2 vs) → P acc (wipeF ρ2 vs)
def fLc (fi : FA) (g : FG) (ft : FT) (fe : FE) (vs : List Nat) : FA := fun ρ P => fi ρ fun ds ρ1 => lcW ds g ft fe vs ρ1 P
theorem rn_lc {ws vs : List Nat} {wi : TI} {g : TG} {tt : TT} {te : TE} {fi : FA} {fg : FG} {ft : FT} {fe : FE} (hw : ∀ j ∈ ws, j ∈ vs) (hi : RI K wi fi) (hg : RG K ws g fg) (ht : RT K tt ft) (he : RE K te fe) : RN K (tLc wi g tt te vs) (fLc fi fg ft fe vs) := by
  intro O as σ H Q ρ P E q k
  refine hi O as σ H _ ρ _ E q fun ds ρ1 J H1 q1 f1 E1 it => ?_
  obtain ⟨hv, W, w0, ws', we⟩ := q1
  obtain ⟨G, Y, wk, hG, hY⟩ := it
  intro D hD
  have hvn : ∀ j, j ∈ vs → as j = none := fun j hj => E1.none_of (List.all_eq_true.mp hv j hj)
  have sO : ∀ {H2 : Hp}, FrA (Own as) H1 H2 → Same (hp (Hid O as) H1) (hp (Hid (plus O D) as) H2) := fun f a o e => by
    obtain ⟨na, e⟩ := hp_some e
    refine hp_mk (fun z => ?_) (f a o (fun z => na (.inr z)) e)
    rcases z with (z | z) | z
    · exact na (.inl z)
    · rw [z, hD] at e; cases e
    · exact na (.inr z)
  have hD0 : H D = none := by
    cases e : H D with
    | none => rfl
    | some o =>
      by_cases w : Own as D
      · exact absurd (.inr w) (E1.fresh hD)
      · rw [f1 _ _ w e] at hD; cases hD
  have nD : ¬ Own as D := fun w => E1.fresh hD (.inr w)
  refine lc_it wk (fun i H2 => ∃ acc ρ2 xs, FrA (Own as) H1 H2 ∧ EnR K (plus O D) as H2 (wipeF ρ2 vs) (wipe σ vs) ∧ H2 D = some (.lst xs) ∧ DqAll K (hp (Hid (plus O D) as) H2) xs acc ∧ W i acc (wipeF ρ2 vs)) ?_ (fun i H2 _ ⟨acc, ρ2, xs, f2, _⟩ => hG _ _ (sO f2)) ?_ ?_
  · exact ⟨[], ρ1, [], FrA.of (Same.new hD), ((E1.addO (o := .lst []) hD).1.wipes vs hv).1, upd_same, .nil, w0⟩
  · rintro i x H2 H3 hi' ⟨acc, ρ2, xs, f2, E2, hx, dx, w⟩ y
    obtain ⟨s3, d3⟩ := hY i _ (Hid (plus O D) as) H2 x H3 (List.getElem?_eq_getElem hi') (sO f2) (fun c h => E2.full h) y
    have E3 := E2.grow s3
    refine hg (plus O D) as _ H3 _ _ _ x _ E3 d3 (ws' i _ acc _ (List.getElem?_eq_getElem hi') w) fun ρ4 σ4 H4 p4 f4 E4 z4 => ?_
    have len4 : σ4.length = σ.length := by rw [z4.1, wipe_length]
    have z4' : ∀ j, j ∉ vs → σ4[j]? = σ[j]? := fun j hj => by
      rw [z4.2 j (fun z => hj (hw j z)), wipe_at, if_neg (fun w => hj w.1)]
    refine ⟨wipe_eq len4 z4', ?_⟩
    refine ht (plus O D) as σ4 H4 _ ρ4 _ E4 p4 fun b ρ5 H5 q5 f5 E5 => ?_
    cases b
    · obtain ⟨v5, w5⟩ := q5
      have E6 := ((E5.wipes vs v5).1)
      rw [wipe_eq len4 z4'] at E6
      have f35 := (FrA.of s3).trans (f4.trans f5)
      exact ⟨acc, ρ5, xs, f2.trans f35, E6, f35 _ _ nD hx, dx.fr f35, w5⟩
    · refine he (plus O D) as σ4 H5 _ ρ5 _ E5 q5 fun d ρ6 v H6 q6 f6 E6 d6 => ?_
      obtain ⟨l6, v6, w6⟩ := q6
      have f36 := (FrA.of (A := Own as) s3).trans ((f4.trans f5).trans f6)
      have hx6 := f36 _ _ nD hx
      have dx6 := dx.fr f36
      obtain ⟨E7, s7⟩ := E6.putO (p := D) (o := .lst (xs ++ [v])) (.inr rfl)
      have E8 := ((E7.wipes vs v6).1)
      rw [wipe_eq len4 z4'] at E8
      refine ⟨xs, hx6, by rw [dx.length]; exact l6, acc ++ [d], ρ6, xs ++ [v], fun a o na e => ?_, E8, upd_same, (dx6.mono s7).append (.cons (d6.mono s7) .nil), w6⟩
      by_cases z : a = D
      · rw [z, hD] at e; cases e
      · rw [upd_ne z]; exact f36 a o na (f2 a o na e)
  · rintro H2 ⟨acc, ρ2, xs, f2, E2, hx, dx, w⟩
    have E3 := E2.unwipe hvn (σ' := σ) rfl fun j hj => rfl
    exact k _ _ _ _ _ (we acc ρ2 w) (f1.trans f2) hD0 E3 hx dx
end
end DL
/-! calls of defs, own lists, the def itself -/
namespace DL
open PySem L2 Z PySem.Spec PyProof.Rows
section
variable {K : PySem.W.Frag} {n : Nat}
def spF (K : PySem.W.Frag) (n : Nat) (F : FN) : Sp := fun vs H Q _ => vs.length = n ∧ ∃ (O : Addr → Prop) (as : Nat → Option Addr) (ρ : En) (P : PyData → List Sl → Prop), EnR K O as H ρ (vs.map some) ∧ F ρ P ∧
  ∀ d out v H', P d out → FrA (Own as) H H' → (∀ i a, as i = some a → ∃ ds xs, out[i]? = some (.own ds) ∧ H' a = some (.lst xs) ∧ DqAll K (hp (Hid O as) H') xs ds) → Dq K (hp (Hid O as) H') v d → Q v H'
/-! arguments -/
def cNil : FC := fun ρ P => P [] ρ
def cDat (a : FE) (b : FC) : FC := fun ρ P => a ρ fun d ρ1 => b ρ1 fun xs ρ2 => P (.dat d :: xs) ρ2
def cOwn (i : Nat) (b : FC) : FC := fun ρ P => match ρ[i]? with
  | some (.own _) => b ρ fun xs ρ1 => P (.own i :: xs) ρ1
  | _ => False
theorem ArsR.fr {O : Addr → Prop} {as : Nat → Option Addr} {H H' : Hp} (f : FrA (Own as) H H') : ∀ {vs : List V} {xs : List Ar}, ArsR K (hp (Hid O as) H) as vs xs → ArsR K (hp (Hid O as) H') as vs xs
  | _, _, .nil => .nil
  | _, _, .cons (.dat q) r => .cons (.dat (q.fr f)) (ArsR.fr f r)
  | _, _, .cons (.own q) r => .cons (.own q) (ArsR.fr f r)
theorem rc_nil : RC K tNil cNil := fun O as σ H Q ρ P E f k => k [] ρ [] H f (FrA.refl _ _) E .nil
theorem rc_dat {ta : TE} {t : TA} {fa : FE} {f : FC} (ha : RE K ta fa) (h : RC K t f) : RC K (tCons ta t) (cDat fa f) := by
  intro O as σ H Q ρ P E q k
  refine ha O as σ H _ ρ _ E q fun d ρ1 v H1 q1 f1 E1 d1 => ?_
  refine h O as σ H1 _ ρ1 _ E1 q1 fun ds ρ2 vs H2 q2 f2 E2 d2 => ?_
  exact k _ _ _ _ q2 (f1.trans f2) E2 (.cons (.dat (d1.fr f2)) d2)
theorem rc_own {i : Nat} {t : TA} {f : FC} (h : RC K t f) : RC K (tCons (tVar i) t) (cOwn i f) := by
  intro O as σ H Q ρ P E q k
  unfold cOwn at q
  split at q
  · next ds hs =>
    obtain ⟨a, xs, e1, e2, e3, e4⟩ := E.own_at hs
    refine ⟨_, e1, ?_⟩
    exact h O as σ H _ ρ _ E q fun ds ρ2 vs H2 q2 f2 E2 d2 => k _ _ _ _ q2 f2 E2 (.cons (.own e2) d2)
  · exact q.elim
def argF (ρ : En) : List Ar → (List Sl → Prop) → Prop
  | [], k => k []
  | .dat d :: xs, k => argF ρ xs fun r => k (.fz d :: r)
  | .own i :: xs, k => match ρ[i]? with
    | some (.own ds) => argF ρ xs fun r => k (.own ds :: r)
    | _ => False
def ownIx : List Ar → List Nat
  | [] => []
  | .dat _ :: xs => ownIx xs
  | .own i :: xs => i :: ownIx xs
/-- what comes back -/
def wb (ρ : En) : List Ar → List Sl → En
  | [], _ => ρ
  | .own i :: xs, r => (wb ρ xs r.tail).set i (r.headD .no)
  | .dat _ :: xs, r => wb ρ xs r.tail
def adrs (as : Nat → Option Addr) (xs : List Ar) : Nat → Option Addr := fun j => match xs[j]? with
  | some (.own i) => as i
  | _ => none
theorem adrs_own {as : Nat → Option Addr} {xs : List Ar} {j : Nat} {a : Addr} (h : adrs as xs j = some a) : ∃ i, xs[j]? = some (.own i) ∧ as i = some a := by
  unfold adrs at h
  split at h
  · next i e => exact ⟨i, e, h⟩
  · cases h
theorem ownIx_mem {i : Nat} : ∀ {xs : List Ar}, i ∈ ownIx xs → ∃ j : Nat, xs[j]? = some (Ar.own i)
  | .dat _ :: xs, h => by
    obtain ⟨j, e⟩ := ownIx_mem (xs := xs) h
    exact ⟨j + 1, e⟩
  | .own k :: xs, h => by
    rcases List.mem_cons.mp h with rfl | h
    · exact ⟨0, rfl⟩
    · obtain ⟨j, e⟩ := ownIx_mem (xs := xs) h
      exact ⟨j + 1, e⟩
theorem mem_ownIx {i : Nat} : ∀ {xs : List Ar} {j : Nat}, xs[j]? = some (.own i) → i ∈ ownIx xs
  | .dat _ :: xs, 0, h => by cases h
  | .dat _ :: xs, j + 1, h => mem_ownIx (xs := xs) (j := j) h
  | .own k :: xs, 0, h => by cases h; exact List.mem_cons_self ..
  | .own k :: xs, j + 1, h => List.mem_cons_of_mem _ (mem_ownIx (xs := xs) (j := j) h)
theorem ownIx_inj {i : Nat} : ∀ {xs : List Ar} {j k : Nat}, (ownIx xs).Nodup → xs[j]? = some (.own i) → xs[k]? = some (.own i) → j = k
  | [], _, _, _, h, _ => by cases h
  | .dat _ :: xs, 0, _, _, h, _ => by cases h
  | .dat _ :: xs, _ + 1, 0, _, _, h => by cases h
  | .dat _ :: xs, j + 1, k + 1, nd, h, h' => by rw [ownIx_inj (xs := xs) nd h h']
  | .own m :: xs, 0, 0, _, _, _ => rfl
  | .own m :: xs, 0, k + 1, nd, h, h' => by cases h; exact absurd (mem_ownIx (xs := xs) (j := k) h') (List.nodup_cons.mp nd).1
  | .own m :: xs, j + 1, 0, nd, h', h => by cases h; exact absurd (mem_ownIx (xs := xs) (j := j) h') (List.nodup_cons.mp nd).1
  | .own m :: xs, j + 1, k + 1, nd, h, h' => by rw [ownIx_inj (xs := xs) (List.nodup_cons.mp nd).2 h h']
theorem wb_len (ρ : En) : ∀ (xs : List Ar) (r : List Sl), (wb ρ xs r).length = ρ.length
  | [], _ => rfl
  | .own i :: xs, r => by rw [wb, List.length_set, wb_len ρ xs r.tail]
  | .dat _ :: xs, r => by rw [wb, wb_len ρ xs r.tail]
theorem wb_other (ρ : En) {i : Nat} : ∀ (xs : List Ar) (r : List Sl), i ∉ ownIx xs → (wb ρ xs r)[i]? = ρ[i]?
  | [], _, _ => rfl
  | .own k :: xs, r, h => by
    have h' := not_or.mp (fun q => h (List.mem_cons.mpr q))
    rw [wb, List.getElem?_set, if_neg (fun z => h'.1 z.symm), wb_other ρ xs r.tail h'.2]
  | .dat _ :: xs, r, h => by rw [wb, wb_other ρ xs r.tail h]
theorem wb_own (ρ : En) {i : Nat} {sl : Sl} (hi : i < ρ.length) : ∀ {xs : List Ar} {r : List Sl} {j : Nat}, (ownIx xs).Nodup → xs[j]? = some (.own i) → r[j]? = some sl → (wb ρ xs r)[i]? = some sl
  | [], _, _, _, h, _ => by cases h
  | _, [], _, _, _, h => by cases h
  | .dat _ :: xs, _, 0, _, h, _ => by cases h
  | .dat _ :: xs, _ :: r, j + 1, nd, h, h' => by rw [wb]; exact wb_own ρ hi (xs := xs) (r := r) (j := j) nd h h'
  | .own k :: xs, s :: r, 0, nd, h, h' => by
    cases h; cases h'
    rw [wb, List.getElem?_set, if_pos rfl, wb_len, if_pos hi]
    rfl
  | .own k :: xs, _ :: r, j + 1, nd, h, h' => by
    have nd' := List.nodup_cons.mp nd
    have hk : k ≠ i := fun z => nd'.1 (by rw [z]; exact mem_ownIx (xs := xs) (j := j) h)
    rw [wb, List.getElem?_set, if_neg hk]
    exact wb_own ρ hi (xs := xs) (r := r) (j := j) nd'.2 h h'
inductive Fits (ρ : En) : List Ar → List Sl → Prop
  | nil : Fits ρ [] []
  | dat {d : PyData} {xs : List Ar} {r : List Sl} : Fits ρ xs r → Fits ρ (.dat d :: xs) (.fz d :: r)
  | own {i : Nat} {ds : List PyData} {xs : List Ar} {r : List Sl} : ρ[i]? = some (.own ds) → Fits ρ xs r → Fits ρ (.own i :: xs) (.own ds :: r)
theorem argF_of {ρ : En} : ∀ {xs : List Ar} {k : List Sl → Prop}, argF ρ xs k → ∃ r, Fits ρ xs r ∧ k r
  | [], k, h => ⟨_, .nil, h⟩
  | .dat d :: xs, k, h => by
    obtain ⟨r, f, q⟩ := argF_of (xs := xs) h
    exact ⟨_, .dat f, q⟩
  | .own i :: xs, k, h => by
    unfold argF at h
    split at h
    · next ds e =>
      obtain ⟨r, f, q⟩ := argF_of (xs := xs) h
      exact ⟨_, .own e f, q⟩
    · exact h.elim
/-- one argument's slot -/
theorem fits_at {O : Addr → Prop} {as : Nat → Option Addr} {H G : Hp} {ρ : En} {σ : L2.St} (E : EnR K O as H ρ σ) (s : Same (hp (Hid O as) H) G) : ∀ {xs : List Ar} {r : List Sl} {vs : List V} {j : Nat} {sl : Sl} {o : Option V}, Fits ρ xs r → ArsR K (hp (Hid O as) H) as vs xs →
    r[j]? = some sl → (vs.map some)[j]? = some o → SlR K G H (adrs as xs j) sl o
  | _, _, _, _, _, _, .nil, _, h, _ => by cases h
  | _, _, _, 0, _, _, .dat f, .cons (.dat q) _, h, h' => by cases h; cases h'; exact .fz (q.mono s)
  | _, _, _, 0, _, _, .own e f, .cons (.own q) _, h, h' => by
    cases h; cases h'
    obtain ⟨a, xs, e1, e2, e3, e4⟩ := E.own_at e
    rw [q] at e2
    cases e2
    show SlR K G H (as _) _ _
    rw [q]
    exact .own e3 (e4.mono s)
  | _, _, _, j + 1, _, _, .dat f, .cons _ r', h, h' => fits_at E s (j := j) f r' h h'
  | _, _, _, j + 1, _, _, .own _ f, .cons _ r', h, h' => fits_at E s (j := j) f r' h h'
theorem Fits.len {ρ : En} : ∀ {xs : List Ar} {r : List Sl}, Fits ρ xs r → r.length = xs.length
  | _, _, .nil => rfl
  | _, _, .dat f => by rw [List.length_cons, List.length_cons, Fits.len f]
  | _, _, .own _ f => by rw [List.length_cons, List.length_cons, Fits.len f]
theorem ArsR.len {G : Hp} {as : Nat → Option Addr} : ∀ {vs : List V} {xs : List Ar}, ArsR K G as vs xs → vs.length = xs.length
  | _, _, .nil => rfl
  | _, _, .cons _ r => by rw [List.length_cons, List.length_cons, ArsR.len r]
def fCall (m : Nat) (F : FN) (dv : List PyData) (a : FC) : FE := fun ρ P => a ρ fun xs ρ1 => xs.length + dv.length = m ∧ (ownIx xs).Nodup ∧ argF ρ1 xs fun r => F (r ++ dv.map .fz) fun d out => P d (wb ρ1 xs out)
theorem dat_ars {G : Hp} {as : Nat → Option Addr} : ∀ {vs : List V} {ds : List PyData}, DqAll K G vs ds → ArsR K G as vs (ds.map .dat)
  | _, _, .nil => .nil
  | _, _, .cons a b => .cons (.dat a) (dat_ars b)
theorem fits_dat {ρ : En} : ∀ ds : List PyData, Fits ρ (ds.map .dat) (ds.map .fz)
  | [] => .nil
  | d :: r => .dat (fits_dat r)
theorem ArsR.app {G : Hp} {as : Nat → Option Addr} : ∀ {vs ws : List V} {xs ys : List Ar}, ArsR K G as vs xs → ArsR K G as ws ys → ArsR K G as (vs ++ ws) (xs ++ ys)
  | _, _, _, _, .nil, h => h
  | _, _, _, _, .cons a b, h => .cons a (ArsR.app b h)
theorem Fits.app {ρ : En} : ∀ {xs ys : List Ar} {r s : List Sl}, Fits ρ xs r → Fits ρ ys s → Fits ρ (xs ++ ys) (r ++ s)
  | _, _, _, _, .nil, h => h
  | _, _, _, _, .dat f, h => .dat (Fits.app f h)
  | _, _, _, _, .own e f, h => .own e (Fits.app f h)
theorem ownIx_app : ∀ (xs : List Ar) (ds : List PyData), ownIx (xs ++ ds.map .dat) = ownIx xs
  | [], [] => rfl
  | [], d :: r => ownIx_app [] r
  | .dat _ :: xs, ds => ownIx_app xs ds
  | .own i :: xs, ds => by show i :: ownIx (xs ++ _) = _; rw [ownIx_app xs ds]; rfl
theorem wb_app (ρ : En) : ∀ (xs : List Ar) (ds : List PyData) (r : List Sl), wb ρ (xs ++ ds.map .dat) r = wb ρ xs r
  | [], [], r => rfl
  | [], d :: ds, r => by
    show wb ρ (ds.map .dat) r.tail = _
    have := wb_app ρ [] ds r.tail
    rw [List.nil_append] at this
    rw [this]
    rfl
  | .dat _ :: xs, ds, r => wb_app ρ xs ds r.tail
  | .own i :: xs, ds, r => by show (wb ρ (xs ++ _) r.tail).set i _ = _; rw [wb_app ρ xs ds r.tail]; rfl
theorem ArsR.own_at {G : Hp} {as : Nat → Option Addr} {i : Nat} : ∀ {vs : List V} {xs : List Ar} {j : Nat}, ArsR K G as vs xs → xs[j]? = some (Ar.own i) → ∃ a, as i = some a
  | _, _, _, .nil, h => by cases h
  | _, _, 0, .cons (.dat _) _, h => by cases h
  | _, _, 0, .cons (.own q) _, h => by cases h; exact ⟨_, q⟩
  | _, _, j + 1, .cons _ r, h => ArsR.own_at (j := j) r h
/-- the callee's view of the state, and back -/
theorem call_core {O : Addr → Prop} {as : Nat → Option Addr} {H : Hp} {ρ : En} {σ : L2.St} {xs : List Ar} {r : List Sl} {vs : List V} {m : Nat} {F : FN} {P : PyData → En → Prop} {Q : VK} {E0 : XK} (E : EnR K O as H ρ σ) (fit : Fits ρ xs r) (ar : ArsR K (hp (Hid O as) H) as vs xs) (hm : xs.length = m) (nd : (ownIx xs).Nodup)
    (f : F r fun d out => P d (wb ρ xs out)) (k : ∀ d ρ' v H', P d ρ' → FrA (Own as) H H' → EnR K O as H' ρ' σ → Dq K (hp (Hid O as) H') v d → Q v H') : spF K m F vs H Q E0 := by
  have sub : ∀ a, Own (adrs as xs) a → Own as a := fun a ⟨j, h⟩ => by
    obtain ⟨i, _, h⟩ := adrs_own h
    exact ⟨i, h⟩
  have hid : ∀ a, Hid (fun a => Hid O as a ∧ ¬ Own (adrs as xs) a) (adrs as xs) a ↔ Hid O as a := fun a => by
    constructor
    · rintro (h | h)
      · exact h.1
      · exact .inr (sub a h)
    · intro h
      by_cases q : Own (adrs as xs) a
      · exact .inr q
      · exact .inl ⟨h, q⟩
  have s1 : ∀ H', Same (hp (Hid O as) H') (hp (Hid (fun a => Hid O as a ∧ ¬ Own (adrs as xs) a) (adrs as xs)) H') := fun H' => hp_less fun a h => (hid a).mp h
  have s2 : ∀ H', Same (hp (Hid (fun a => Hid O as a ∧ ¬ Own (adrs as xs) a) (adrs as xs)) H') (hp (Hid O as) H') := fun H' => hp_less fun a h => (hid a).mpr h
  refine ⟨by rw [ar.len, hm], fun a => Hid O as a ∧ ¬ Own (adrs as xs) a, adrs as xs, r, _, ⟨by rw [List.length_map, fit.len, ar.len], fun j sl o h1 h2 => fits_at E (s1 H) fit ar h1 h2, fun j1 j2 a h1 h2 => ?_, fun j a h q => q.2 ⟨j, h⟩, fun j a h => ?_, fun a h => E.full h.1⟩, f, fun d out v H' p fr ow dv => ?_⟩
  · obtain ⟨i1, e1, h1⟩ := adrs_own h1
    obtain ⟨i2, e2, h2⟩ := adrs_own h2
    rw [E.inj i1 i2 a h1 h2] at e1
    exact ownIx_inj nd e1 e2
  · obtain ⟨i, e, _⟩ := adrs_own h
    rw [fit.len]
    exact (List.getElem?_eq_some_iff.mp e).1
  · have fr' : FrA (Own as) H H' := fr.up sub
    refine k d _ v H' p fr' ⟨by rw [wb_len]; exact E.len, fun i sl o h1 h2 => ?_, E.inj, E.out, fun i a h => by rw [wb_len]; exact E.bnd i a h, fun a h => ?_⟩ (dv.mono (s2 H'))
    · by_cases q : i ∈ ownIx xs
      · obtain ⟨j, e⟩ := ownIx_mem q
        have hi : i < ρ.length := by
          have := (List.getElem?_eq_some_iff.mp h1).1
          rw [wb_len] at this
          exact this
        have hown : ∃ a, as i = some a := ar.own_at e
        obtain ⟨a, ha⟩ := hown
        have hadr : adrs as xs j = some a := by unfold adrs; rw [e]; exact ha
        obtain ⟨ds, ys, e1, e2, e3⟩ := ow j a hadr
        rw [wb_own ρ hi nd e e1] at h1
        cases h1
        obtain ⟨_, _, _, e4, _⟩ := E.is_own ha
        rw [e4] at h2
        cases h2
        rw [ha]
        exact .own e2 (e3.mono (s2 H'))
      · rw [wb_other ρ xs out q] at h1
        refine (E.at_ i sl o h1 h2).mono (hp_fr fr' own_hid) fun b hb => ?_
        obtain ⟨_, _, _, _, e, _⟩ := E.is_own hb
        rw [e]
        refine fr _ _ (fun z => ?_) e
        obtain ⟨j, z⟩ := z
        obtain ⟨i', e', h'⟩ := adrs_own z
        rw [E.inj i' i b h' hb] at e'
        exact q (mem_ownIx e')
    · obtain ⟨o, e⟩ := Option.ne_none_iff_exists'.mp (E.occ a h)
      rw [fr' a o (fun ⟨i, z⟩ => E.out i a z h) e]
      exact Option.some_ne_none _
theorem re_call {m : Nat} {F : FN} {dvs : List V} {dv : List PyData} {E0 : XK} {t : TA} {f : FC} (hd : ∀ H, DqAll K H dvs dv) (ha : RC K t f) : RE K (tCall (spF K m F) dvs E0 t) (fCall m F dv f) := by
  intro O as σ H Q ρ P E q k
  refine ha O as σ H _ ρ _ E q fun xs ρ1 vs H1 q1 f1 E1 d1 => ?_
  obtain ⟨hm, nd, q1⟩ := q1
  obtain ⟨r, fit, q1⟩ := argF_of q1
  refine call_core (xs := xs ++ dv.map .dat) E1 (fit.app (fits_dat dv)) (d1.app (dat_ars (hd _))) (by rw [List.length_append, List.length_map]; exact hm) (by rw [ownIx_app]; exact nd) ?_ fun d ρ' v H' p fr E' q' => k d ρ' v H' p (f1.trans fr) E' q'
  · simp only [wb_app]
    exact q1
/-! own lists -/
def ownF (ρ : En) (i : Nat) (k : List PyData → Prop) : Prop := match ρ[i]? with
  | some (.own ds) => k ds
  | _ => False
theorem ownF_of {ρ : En} {i : Nat} {k : List PyData → Prop} (h : ownF ρ i k) : ∃ ds, ρ[i]? = some (.own ds) ∧ k ds := by
  unfold ownF at h
  split at h
  · next ds e => exact ⟨ds, e, h⟩
  · exact h.elim
theorem DqAll.atI {G : Hp} {xs : List V} {ds : List PyData} {k : Int} {d : PyData} (r : DqAll K G xs ds) (h : L2.atI ds k = some d) : ∃ v, L2.atI xs k = some v ∧ Dq K G v d := by
  unfold L2.atI at h ⊢
  rw [r.length]
  cases e : ixN ds.length k with
  | none => rw [e] at h; cases h
  | some j =>
    rw [e] at h
    exact r.got h
def fIxO (i : Nat) (b : FE) : FE := fun ρ P => ownF ρ i fun _ => b ρ fun x ρ1 => intF x fun k => ownF ρ1 i fun ds => ∃ d, atI ds k = some d ∧ P d ρ1
theorem re_ixO {i : Nat} {tb : TE} {b : FE} (hb : RE K tb b) : RE K (tOp (rIxL K) (tVar i) tb) (fIxO i b) := by
  intro O as σ H Q ρ P E q k
  obtain ⟨ds0, h0, q⟩ := ownF_of q
  obtain ⟨a, xs0, e1, e2, _, _⟩ := E.own_at h0
  refine ⟨_, e1, ?_⟩
  refine hb O as σ H _ ρ _ E q fun x ρ1 v H1 q1 f1 E1 d1 => ?_
  unfold intF at q1
  split at q1
  · next z =>
    cases d1
    obtain ⟨ds, hds, d, hd, p⟩ := ownF_of q1
    obtain ⟨a', xs, e1', e2', e3, e4⟩ := E1.own_at hds
    rw [e2] at e2'
    cases e2'
    obtain ⟨v, hv, dv⟩ := e4.atI hd
    exact ⟨a, xs, z, v, rfl, rfl, SqL.of e3, hv, k d ρ1 v H1 p f1 E1 dv⟩
  · exact q1.elim
/-- len of an own list -/
def fLenO (i : Nat) : FE := fun ρ P => ownF ρ i fun ds => P (.int ds.length) ρ
theorem re_lenO {i : Nat} : RE K (tCB (fun xs H Q => ∃ p ys, xs = [.ref p] ∧ (SqL K H p ys ∨ SqT K H p ys) ∧ Q (.int ys.length) H) (tCons (tVar i) tNil)) (fLenO i) := by
  intro O as σ H Q ρ P E q k
  obtain ⟨ds, h0, q⟩ := ownF_of q
  obtain ⟨a, xs, e1, e2, e3, e4⟩ := E.own_at h0
  refine ⟨_, e1, a, xs, rfl, .inl (SqL.of e3), ?_⟩
  rw [e4.length]
  exact k _ _ _ _ q (FrA.refl _ _) E (.int _)
def fLenOK (i : Nat) : FE := fLenO i
theorem re_lenOK {i : Nat} : RE K (tCB (rLenK K) (tCons (tVar i) tNil)) (fLenO i) := re_lenO
/-- own.append(e) -/
def fAppend (i : Nat) (a : FE) : FS := fun E ρ => ownF ρ i fun _ => a ρ fun d ρ1 => ownF ρ1 i fun ds => ds.length < sizeLine ∧ E.nx (ρ1.set i (.own (ds ++ [d])))
theorem rs_append {i : Nat} {te : TE} {a : FE} (ha : RE K te a) : RS K n (tDrop (tBM K "list" rAppend (tVar i) (tCons te tNil))) (fAppend i a) := by
  intro O as σ H D ρ E R f C
  obtain ⟨ds0, h0, f⟩ := ownF_of f
  obtain ⟨p, xs0, e1, e2, e3, _⟩ := R.own_at h0
  refine ⟨_, e1, .inl ⟨rfl, _, SqL.of e3⟩, ?_⟩
  refine ha O as σ H _ ρ _ R f fun d ρ1 v H1 q1 f1 E1 d1 => ?_
  obtain ⟨ds, hds, hl, q1⟩ := ownF_of q1
  obtain ⟨p', xs, e1', e2', e3', e4'⟩ := E1.own_at hds
  rw [e2] at e2'
  cases e2'
  refine ⟨p, xs, v, rfl, rfl, e3', by rw [e4'.length]; exact hl, ?_⟩
  refine C.nx _ _ _ _ q1 (.of (f1.trans fun b o nb e => ?_)) (E1.put e2 (e4'.append (.cons d1 .nil)))
  rw [upd_ne (fun z : b = p => nb (by rw [z]; exact ⟨i, e2⟩))]
  exact e
/-- own[k] = e -/
def gSubO (i : Nat) (b : FE) : FG := fun d ρ P => ownF ρ i fun _ => b ρ fun x ρ1 => intF x fun k => ownF ρ1 i fun ds => ∃ j, ixN ds.length k = some j ∧ P (ρ1.set i (.own (ds.set j d)))
theorem rg_subO {i : Nat} {ti : TE} {b : FE} (hb : RE K ti b) : RG K [] (gSub (tVar i) ti rSetL) (gSubO i b) := by
  intro O as σ H R ρ P v d E q f k
  obtain ⟨ds0, h0, f⟩ := ownF_of f
  obtain ⟨p, xs0, e1, e2, e3, _⟩ := E.own_at h0
  refine ⟨_, e1, ?_⟩
  refine hb O as σ H _ ρ _ E f fun x ρ1 w H1 q1 f1 E1 d1 => ?_
  unfold intF at q1
  split at q1
  · next z =>
    cases d1
    obtain ⟨ds, hds, j, hj, q1⟩ := ownF_of q1
    obtain ⟨p', xs, e1', e2', e3', e4'⟩ := E1.own_at hds
    rw [e2] at e2'
    cases e2'
    refine ⟨p, xs, z, j, rfl, rfl, e3', by rw [e4'.length]; exact hj, ?_⟩
    refine k _ _ _ q1 (f1.trans fun b o nb e => ?_) (E1.put e2 (e4'.set (q.fr f1) j)) ⟨rfl, fun _ _ => rfl⟩
    rw [upd_ne (fun z : b = p => nb (by rw [z]; exact ⟨i, e2⟩))]
    exact e
  · exact q1.elim
/-! the def -/
def fnF (n m : Nat) (b : FS) : FN := fun sls P => b { nx := fun ρ' => P .none (ρ'.take n), rt := fun d ρ' => P d (ρ'.take n) } (sls ++ List.replicate (m - n) .no)
theorem EnR.start {O : Addr → Prop} {as : Nat → Option Addr} {H : Hp} {ρ : En} {vs : List V} (N : List Str) (E : EnR K O as H ρ (vs.map some)) (hv : vs.length = n) : EnR K O as H (ρ ++ List.replicate (N.length - n) .no) (L2.start N vs) := by
  have hl : ρ.length = n := by have := E.len; rw [List.length_map] at this; omega
  refine ⟨by rw [L2.start, List.length_append, List.length_append, List.length_replicate, List.length_replicate, E.len, hv], fun i sl o h1 h2 => ?_, E.inj, E.out, fun i a h => by have := E.bnd i a h; rw [List.length_append]; omega, E.occ⟩
  by_cases q : i < n
  · rw [List.getElem?_append_left (by omega)] at h1
    rw [L2.start, List.getElem?_append_left (by rw [List.length_map]; omega)] at h2
    exact E.at_ i sl o h1 h2
  · rw [List.getElem?_append_right (by omega), List.getElem?_replicate] at h1
    split at h1
    · cases h1
      have : as i = none := by
        cases e : as i with
        | none => rfl
        | some a => have := E.bnd i a e; omega
      rw [this]
      exact .no
    · cases h1
theorem fn_core {ps : List Str} {N : List Str} {b : FS} {t : TS} (rs : RS K ps.length t b) {vs : List V} {H : Hp} {Q : VK} {E : XK} (h : spF K ps.length (fnF ps.length N.length b) vs H Q E) : t { nx := fun _ H' => Q .non H', rt := Q } (L2.start N vs) H := by
  obtain ⟨hv, O, as, ρ, P, R, hF, q⟩ := h
  have own : ∀ {ρ' : En} {as' : Nat → Option Addr} {σ' : L2.St} {H' : Hp}, Ext ps.length as as' H H' → EnR K O as' H' ρ' σ' → ∀ i a, as i = some a → ∃ ds xs, (ρ'.take ps.length)[i]? = some (.own ds) ∧ H' a = some (.lst xs) ∧ DqAll K (hp (Hid O as) H') xs ds := by
    intro ρ' as' σ' H' x R' i a h
    have hi : i < ps.length := by have := R.bnd i a h; have := R.len; rw [List.length_map] at this; omega
    have h' : as' i = some a := by rw [x.fix i hi]; exact h
    obtain ⟨ds, xs, e1, _, e3, e4⟩ := R'.is_own h'
    refine ⟨ds, xs, by rw [List.getElem?_take, if_pos hi]; exact e1, e3, e4.mono ?_⟩
    refine hp_less fun c hc => ?_
    rcases hc with hc | ⟨j, hc⟩
    · exact .inl hc
    · have hj : j < ps.length := by have := R.bnd j c hc; have := R.len; rw [List.length_map] at this; omega
      exact .inr ⟨j, by rw [x.fix j hj]; exact hc⟩
  have less : ∀ {as' : Nat → Option Addr} {H' : Hp}, Ext ps.length as as' H H' → (∀ i a, as i = some a → i < ps.length) → Same (hp (Hid O as') H') (hp (Hid O as) H') := by
    intro as' H' x hb
    refine hp_less fun c hc => ?_
    rcases hc with hc | ⟨j, hc⟩
    · exact .inl hc
    · exact .inr ⟨j, by rw [x.fix j (hb j c hc)]; exact hc⟩
  have hb : ∀ i a, as i = some a → i < ps.length := fun i a h => by have := R.bnd i a h; have := R.len; rw [List.length_map] at this; omega
  refine rs O as _ H _ _ _ (R.start N hv) hF ⟨fun ρ' as' σ' H' p x R' => ?_, fun d ρ' v as' σ' H' p x R' dv => ?_, fun _ _ _ _ p => p.elim, fun _ _ _ _ p => p.elim⟩
  · exact q _ _ _ _ p x.fr (own x R') .non
  · exact q _ _ _ _ p x.fr (own x R') (dv.mono (less x hb))
section
variable {P : Program} {w : World} {mg : Str → Option Value} {base : Heap} {k : Nat} {f : Addr} {fd : FuncData} {ps : List Str} {x qual : Str} {st : Stmt} {N : List Str} {b : FS}
theorem okF (F : Fun K x qual st f fd) (S : FnScope N ps (defScope st))
    (body : ∀ (cdv : Value) (A : Around) (outer : List Env) (s : Shared) (H : Hp) (E : XK), Room k (A.deeper (envOfC qual (defScope st) s.heap.objs.size f cdv)) →
      (A.deeper (envOfC qual (defScope st) s.heap.objs.size f cdv)).guards = some [] →
      ∃ t, PSs (cxOf CX0 P w K mg base N qual (defScope st) f cdv A outer s H E).nox (defBody st) t ∧ RS K ps.length t b) :
    FnG P w K mg base (k + 1) f fd ps (spF K ps.length (fnF ps.length N.length b)) := by
  refine okG F S (fun vs H Q E h => h.1) (fun cdv A outer s H vs Q E hr hg h => ?_)
  obtain ⟨t, pt, rs⟩ := body cdv A outer s H E hr hg
  exact ⟨t, pt, fn_core rs h⟩
/-- without repr -/
theorem okF0 (F : Fun K x qual st f fd) (S : FnScope N ps (defScope st))
    (body : ∀ (cdv : Value) (A : Around) (outer : List Env) (s : Shared) (H : Hp) (E : XK), Room k (A.deeper (envOfC qual (defScope st) s.heap.objs.size f cdv)) →
      ∃ t, PSs (cxOf CX0 P w K mg base N qual (defScope st) f cdv A outer s H E).nox (defBody st) t ∧ RS K ps.length t b) :
    FnOk P w K mg base CX0 (k + 1) f fd ps (spF K ps.length (fnF ps.length N.length b)) := by
  refine F.ok S (fun vs H Q E h => h.1) (fun cdv A outer s H vs Q E hr h => ?_)
  obtain ⟨t, pt, rs⟩ := body cdv A outer s H E hr
  exact ⟨t, pt, fn_core rs h⟩
/-- with defaults -/
theorem okFD {params : Arguments} {bd : List Stmt} {scope : Scope} {dvs : List V} {kws : List (Str × V)} (F : FunD K x qual params bd scope dvs kws f fd) (S : FnScope N ps scope)
    (body : ∀ (cdv : Value) (A : Around) (outer : List Env) (s : Shared) (H : Hp) (E : XK), Room k (A.deeper (envOfC qual scope s.heap.objs.size f cdv)) →
      ∃ t, PSs (cxOf CX0 P w K mg base N qual scope f cdv A outer s H E).nox bd t ∧ RS K ps.length t b) :
    FnOk P w K mg base CX0 (k + 1) f fd ps (spF K ps.length (fnF ps.length N.length b)) := by
  refine okD F S (fun vs H Q E h => h.1) (fun cdv A outer s H vs Q E hr h => ?_)
  obtain ⟨t, pt, rs⟩ := body cdv A outer s H E hr
  exact ⟨t, pt, fn_core rs h⟩
end
end
end DL
/-! operators and built-in calls over data -/
namespace DL
open PySem L2 Z PySem.Spec PyProof.Rows
abbrev G2 := PyData → PyData → (PyData → Prop) → Prop
section
variable {K : PySem.W.Frag} {n : Nat}
def o2 (h : Int → Int → PyData) : G2 := fun a b P => match a, b with
  | .int i, .int j => P (h i j)
  | _, _ => False
def o2c (C : Int → Int → Prop) (h : Int → Int → PyData) : G2 := fun a b P => match a, b with
  | .int i, .int j => C i j ∧ P (h i j)
  | _, _ => False
theorem rr_i0 {h : Int → Int → V} {h' : Int → Int → PyData} (e : ∀ i j H, Dq K H (h i j) (h' i j)) : RR K (rI0 h) (o2 h') := by
  intro A H Q x y a b P oc da db g k
  unfold o2 at g
  split at g
  · cases da; cases db; exact ⟨_, _, rfl, rfl, k _ _ _ g (Same.refl _) (e _ _ _)⟩
  · exact g.elim
theorem rr_ic {C : Int → Int → Prop} {h : Int → Int → V} {h' : Int → Int → PyData} (e : ∀ i j H, Dq K H (h i j) (h' i j)) : RR K (rI C h) (o2c C h') := by
  intro A H Q x y a b P oc da db g k
  unfold o2c at g
  split at g
  · cases da; cases db; exact ⟨_, _, rfl, rfl, g.1, k _ _ _ g.2 (Same.refl _) (e _ _ _)⟩
  · exact g.elim
abbrev oAdd : G2 := o2 fun i j => .int (i + j)
abbrev oSub : G2 := o2 fun i j => .int (i - j)
abbrev oMul : G2 := o2c CMul fun i j => .int (i * j)
abbrev oDiv : G2 := o2c CDiv fun i j => .int (i / j)
abbrev oMod : G2 := o2c (fun _ j => 0 < j) fun i j => .int (i % j)
abbrev oPow : G2 := o2c CPow fun i j => .int (i ^ j.toNat)
abbrev oShl : G2 := o2c CPow fun i j => .int (i * 2 ^ j.toNat)
abbrev oShr : G2 := o2c (fun _ j => 0 ≤ j) fun i j => .int (i / 2 ^ j.toNat)
abbrev oBAnd : G2 := o2 fun i j => .int (Builtin.bitAnd i j)
abbrev oBOr : G2 := o2 fun i j => .int (Builtin.bitOr i j)
abbrev oLt : G2 := o2 fun i j => .bool (decide (i < j))
abbrev oLe : G2 := o2 fun i j => .bool (decide (i ≤ j))
abbrev oGt : G2 := o2 fun i j => .bool (decide (j < i))
abbrev oGe : G2 := o2 fun i j => .bool (decide (j ≤ i))
theorem rr_add : RR K (rI0 fun i j => .int (i + j)) oAdd := rr_i0 fun _ _ _ => .int _
theorem rr_sub : RR K (rI0 fun i j => .int (i - j)) oSub := rr_i0 fun _ _ _ => .int _
theorem rr_mul : RR K (rI CMul fun i j => .int (i * j)) oMul := rr_ic fun _ _ _ => .int _
theorem rr_fdiv : RR K (rI CDiv fun i j => .int (i / j)) oDiv := rr_ic fun _ _ _ => .int _
theorem rr_mod : RR K (rI (fun _ j => 0 < j) fun i j => .int (i % j)) oMod := rr_ic fun _ _ _ => .int _
theorem rr_pow : RR K (rI CPow fun i j => .int (i ^ j.toNat)) oPow := rr_ic fun _ _ _ => .int _
theorem rr_shl : RR K (rI CPow fun i j => .int (i * 2 ^ j.toNat)) oShl := rr_ic fun _ _ _ => .int _
theorem rr_shr : RR K (rI (fun _ j => 0 ≤ j) fun i j => .int (i / 2 ^ j.toNat)) oShr := rr_ic fun _ _ _ => .int _
theorem rr_and : RR K (rI0 fun i j => .int (Builtin.bitAnd i j)) oBAnd := rr_i0 fun _ _ _ => .int _
theorem rr_or : RR K (rI0 fun i j => .int (Builtin.bitOr i j)) oBOr := rr_i0 fun _ _ _ => .int _
theorem rr_lt : RR K (rI0 fun i j => .bl (decide (i < j))) oLt := rr_i0 fun _ _ _ => .bl _
theorem rr_le : RR K (rI0 fun i j => .bl (decide (i ≤ j))) oLe := rr_i0 fun _ _ _ => .bl _
theorem rr_gt : RR K (rI0 fun i j => .bl (decide (j < i))) oGt := rr_i0 fun _ _ _ => .bl _
theorem rr_ge : RR K (rI0 fun i j => .bl (decide (j ≤ i))) oGe := rr_i0 fun _ _ _ => .bl _
def oStr (C : Str → Str → Prop) (h : Str → Str → PyData) : G2 := fun a b P => match a, b with
  | .str i, .str j => C i j ∧ P (h i j)
  | _, _ => False
abbrev oAddS : G2 := oStr (fun i j => i.length + j.length ≤ sizeLine) fun i j => .str (i ++ j)
theorem rr_add_str : RR K (fun x y H Q => ∃ i j, x = .str i ∧ y = .str j ∧ i.length + j.length ≤ sizeLine ∧ Q (.str (i ++ j)) H) oAddS := by
  intro A H Q x y a b P oc da db g k
  unfold oAddS oStr at g
  split at g
  · cases da; cases db; exact ⟨_, _, rfl, rfl, g.1, k _ _ _ g.2 (Same.refl _) (.str _)⟩
  · exact g.elim
abbrev oLtS : G2 := oStr (fun _ _ => True) fun i j => .bool (decide (i.cps.toList < j.cps.toList))
theorem rr_lt_str : RR K (fun x y H Q => ∃ i j, x = .str i ∧ y = .str j ∧ Q (.bl (decide (i.cps.toList < j.cps.toList))) H) oLtS := by
  intro A H Q x y a b P oc da db g k
  unfold oLtS oStr at g
  split at g
  · cases da; cases db; exact ⟨_, _, rfl, rfl, k _ _ _ g.2 (Same.refl _) (.bl _)⟩
  · exact g.elim
/-- == of plain things -/
def oEqB (h : Bool → Bool) : G2 := fun a b P => match a, b with
  | .int i, .int j => P (.bool (h (decide (i = j))))
  | .str i, .str j => P (.bool (h (decide (i = j))))
  | .bool i, .bool j => P (.bool (h (decide (i = j))))
  | .none, .none => P (.bool (h true))
  | .none, .int _ => P (.bool (h false))
  | .int _, .none => P (.bool (h false))
  | .none, .str _ => P (.bool (h false))
  | .str _, .none => P (.bool (h false))
  | .none, .bool _ => P (.bool (h false))
  | .bool _, .none => P (.bool (h false))
  | .int _, .str _ => P (.bool (h false))
  | .str _, .int _ => P (.bool (h false))
  | _, _ => False
abbrev oEq : G2 := oEqB id
abbrev oNe : G2 := oEqB not
theorem dec_int {i j : Int} : decide (V.int i = V.int j) = decide (i = j) := by by_cases h : i = j <;> simp [h]
theorem dec_str {i j : Str} : decide (V.str i = V.str j) = decide (i = j) := by by_cases h : i = j <;> simp [h]
theorem dec_bl {i j : Bool} : decide (V.bl i = V.bl j) = decide (i = j) := by by_cases h : i = j <;> simp [h]
theorem rr_eq : RR K rEq oEq := by
  intro A H Q x y a b P oc da db g k
  unfold oEq oEqB at g
  split at g
  · cases da; cases db; refine ⟨rfl, ?_⟩; rw [dec_int]; exact k _ _ _ g (Same.refl _) (.bl _)
  · cases da; cases db; refine ⟨rfl, ?_⟩; rw [dec_str]; exact k _ _ _ g (Same.refl _) (.bl _)
  · cases da; cases db; refine ⟨rfl, ?_⟩; rw [dec_bl]; exact k _ _ _ g (Same.refl _) (.bl _)
  all_goals first | (exact g.elim) | (cases da; cases db; exact ⟨rfl, k _ _ _ g (Same.refl _) (.bl _)⟩)
theorem rr_ne : RR K rNe oNe := by
  intro A H Q x y a b P oc da db g k
  unfold oNe oEqB at g
  split at g
  · cases da; cases db; refine ⟨rfl, ?_⟩; rw [dec_int]; exact k _ _ _ g (Same.refl _) (.bl _)
  · cases da; cases db; refine ⟨rfl, ?_⟩; rw [dec_str]; exact k _ _ _ g (Same.refl _) (.bl _)
  · cases da; cases db; refine ⟨rfl, ?_⟩; rw [dec_bl]; exact k _ _ _ g (Same.refl _) (.bl _)
  all_goals first | (exact g.elim) | (cases da; cases db; exact ⟨rfl, k _ _ _ g (Same.refl _) (.bl _)⟩)
/-- == of data -/
def oEqD : G2 := fun a b P => SeqAt.shaped a = true ∧ SeqAt.shaped b = true ∧ P (.bool (PyData.eqv a b))
def oNeD : G2 := fun a b P => SeqAt.shaped a = true ∧ SeqAt.shaped b = true ∧ P (.bool (!PyData.eqv a b))
theorem rr_eqD : RR K (rEqD K) oEqD := fun A H Q x y a b P oc da db g k => ⟨a, b, Dp.mono hp_same (da.dp (plain_of g.1)), Dp.mono hp_same (db.dp (plain_of g.2.1)), g.1, g.2.1, k _ _ _ g.2.2 (Same.refl _) (.bl _)⟩
theorem rr_neD : RR K (rNeD K) oNeD := fun A H Q x y a b P oc da db g k => ⟨a, b, Dp.mono hp_same (da.dp (plain_of g.1)), Dp.mono hp_same (db.dp (plain_of g.2.1)), g.1, g.2.1, k _ _ _ g.2.2 (Same.refl _) (.bl _)⟩
def isNone : PyData → Bool
  | .none => true
  | _ => false
def oIsB (h : Bool → Bool) : G2 := fun a b P => match b with
  | .none => P (.bool (h (isNone a)))
  | _ => False
abbrev oIs : G2 := oIsB id
abbrev oIsnt : G2 := oIsB not
theorem isNone_of {H : Hp} {x : V} {a : PyData} (d : Dq K H x a) : decide (x = .non) = isNone a := by cases d <;> rfl
theorem rr_isN : RR K (fun x y H Q => y = .non ∧ Q (.bl (decide (x = .non))) H) oIs := by
  intro A H Q x y a b P oc da db g k
  unfold oIs oIsB at g
  split at g
  · cases db; refine ⟨rfl, ?_⟩; rw [isNone_of da]; exact k _ _ _ g (Same.refl _) (.bl _)
  · exact g.elim
theorem rr_notN : RR K (fun x y H Q => y = .non ∧ Q (.bl (!decide (x = .non))) H) oIsnt := by
  intro A H Q x y a b P oc da db g k
  unfold oIsnt oIsB at g
  split at g
  · cases db; refine ⟨rfl, ?_⟩; rw [isNone_of da]; exact k _ _ _ g (Same.refl _) (.bl _)
  · exact g.elim
/-- a sign in a text -/
def oInSB (h : Bool → Bool) : G2 := fun a b P => match a, b with
  | .str s, .str z => ∃ c, s = ⟨#[c]⟩ ∧ P (.bool (h (decide (c ∈ z.cps.toList))))
  | _, _ => False
abbrev oInS : G2 := oInSB id
abbrev oNinS : G2 := oInSB not
theorem rr_in_sign : RR K (fun x y H Q => ∃ (c : Nat) (z : Str), x = .str ⟨#[c]⟩ ∧ y = .str z ∧ Q (.bl (decide (c ∈ z.cps.toList))) H) oInS := by
  intro A H Q x y a b P oc da db g k
  unfold oInS oInSB at g
  split at g
  · cases da; cases db; obtain ⟨c, rfl, g⟩ := g; exact ⟨_, _, rfl, rfl, k _ _ _ g (Same.refl _) (.bl _)⟩
  · exact g.elim
theorem rr_notIn_sign : RR K (fun x y H Q => ∃ (c : Nat) (z : Str), x = .str ⟨#[c]⟩ ∧ y = .str z ∧ Q (.bl (!decide (c ∈ z.cps.toList))) H) oNinS := by
  intro A H Q x y a b P oc da db g k
  unfold oNinS oInSB at g
  split at g
  · cases da; cases db; obtain ⟨c, rfl, g⟩ := g; exact ⟨_, _, rfl, rfl, k _ _ _ g (Same.refl _) (.bl _)⟩
  · exact g.elim
def flatD : PyData → Bool
  | .none => true
  | .bool _ => true
  | .int _ => true
  | .str _ => true
  | _ => false
theorem flat_of {H : Hp} {x : V} {a : PyData} (d : Dq K H x a) (h : flatD a = true) : flatV x = true := by
  cases d <;> first | rfl | cases h
theorem eqV_of {H : Hp} {x y : V} {a b : PyData} (d : Dq K H x a) (e : Dq K H y b) (h : flatD a = true) (h' : flatD b = true) : eqV x y = PyData.eqv a b := by
  cases d <;> first | (cases h; done) | (cases e <;> first | (cases h'; done) | (unfold PyData.eqv; rfl))
theorem flats_of {H : Hp} : ∀ {xs : List V} {ds : List PyData}, DqAll K H xs ds → ds.all flatD = true → xs.all flatV = true
  | _, _, .nil, _ => rfl
  | _, _, .cons a b, h => by
    have h' := Bool.and_eq_true_iff.mp h
    exact Bool.and_eq_true_iff.mpr ⟨flat_of a h'.1, flats_of b h'.2⟩
def inD (a : PyData) (ds : List PyData) : Bool := ds.any fun y => PyData.eqv y a
theorem in_of {H : Hp} {x : V} {a : PyData} (d : Dq K H x a) (h : flatD a = true) : ∀ {xs : List V} {ds : List PyData}, DqAll K H xs ds → ds.all flatD = true → inV x xs = inD a ds
  | _, _, .nil, _ => rfl
  | _, _, .cons e b, h' => by
    have h' := Bool.and_eq_true_iff.mp h'
    show (eqV _ x || inV x _) = (PyData.eqv _ a || inD a _)
    rw [eqV_of e d h'.1 h, in_of d h b h'.2]
def seqF (a : PyData) (k : List PyData → Prop) : Prop := match a with
  | .list ds => k ds
  | .tuple ds => k ds
  | _ => False
def oIn (neg : Bool) : G2 := fun a b P => seqF b fun ds => flatD a = true ∧ ds.all flatD = true ∧ P (.bool (if neg then !inD a ds else inD a ds))
theorem seqF_of {A : Addr → Prop} {H : Hp} {x : V} {a : PyData} {k : List PyData → Prop} (d : Dq K (hp A H) x a) (h : seqF a k) : ∃ p xs ds, x = .ref p ∧ (SqL K H p xs ∨ SqT K H p xs) ∧ DqAll K (hp A H) xs ds ∧ k ds := by
  unfold seqF at h
  split at h
  · obtain ⟨p, xs, rfl, s, r⟩ := d.list_of
    exact ⟨p, xs, _, rfl, .inl (SqL.of (hp_some s).2), r, h⟩
  · obtain ⟨p, xs, rfl, s, r⟩ := d.tuple_of
    exact ⟨p, xs, _, rfl, .inr (SqT.mono hp_same s), r, h⟩
  · exact h.elim
theorem rr_in {neg : Bool} : RR K (rIn K neg) (oIn neg) := by
  intro A H Q x y a b P oc da db g k
  obtain ⟨p, xs, ds, rfl, s, r, h1, h2, g⟩ := seqF_of db g
  refine ⟨p, xs, rfl, s, flat_of da h1, flats_of r h2, ?_⟩
  rw [in_of da h1 r h2]
  exact k _ _ _ g (Same.refl _) (.bl _)
/-- x in own -/
def fInO (neg : Bool) (i : Nat) (a : FE) : FE := fun ρ P => a ρ fun x ρ1 => ownF ρ1 i fun ds => flatD x = true ∧ ds.all flatD = true ∧ P (.bool (if neg then !inD x ds else inD x ds)) ρ1
theorem re_inO {neg : Bool} {i : Nat} {ta : TE} {a : FE} (ha : RE K ta a) : RE K (tOp (rIn K neg) ta (tVar i)) (fInO neg i a) := by
  intro O as σ H Q ρ P E q k
  refine ha O as σ H _ ρ _ E q fun x ρ1 v H1 q1 f1 E1 d1 => ?_
  obtain ⟨ds, hds, h1, h2, q1⟩ := ownF_of q1
  obtain ⟨p, xs, e1, e2, e3, e4⟩ := E1.own_at hds
  refine ⟨_, e1, p, xs, rfl, .inl (SqL.of e3), flat_of d1 h1, flats_of e4 h2, ?_⟩
  rw [in_of d1 h1 e4 h2]
  exact k _ _ _ _ q1 f1 E1 (.bl _)
/-! places -/
def oIxL : G2 := fun a b P => match a, b with
  | .list ds, .int k => ∃ d, atI ds k = some d ∧ P d
  | _, _ => False
def oIxT : G2 := fun a b P => match a, b with
  | .tuple ds, .int k => ∃ d, atI ds k = some d ∧ P d
  | _, _ => False
def oIxS : G2 := fun a b P => match a, b with
  | .str z, .int k => z.length ≤ sizeLine ∧ ∃ c, atI z.cps.toList k = some c ∧ P (.str ⟨#[c]⟩)
  | _, _ => False
theorem rr_ixL : RR K (rIxL K) oIxL := by
  intro A H Q x y a b P oc da db g k
  unfold oIxL at g
  split at g
  · cases db
    obtain ⟨p, xs, rfl, s, r⟩ := da.list_of
    obtain ⟨d, hd, g⟩ := g
    obtain ⟨v, hv, dv⟩ := r.atI hd
    exact ⟨p, xs, _, v, rfl, rfl, SqL.of (hp_some s).2, hv, k _ _ _ g (Same.refl _) dv⟩
  · exact g.elim
theorem rr_ixT : RR K (rIxT K) oIxT := by
  intro A H Q x y a b P oc da db g k
  unfold oIxT at g
  split at g
  · cases db
    obtain ⟨p, xs, rfl, s, r⟩ := da.tuple_of
    obtain ⟨d, hd, g⟩ := g
    obtain ⟨v, hv, dv⟩ := r.atI hd
    exact ⟨p, xs, _, v, rfl, rfl, SqT.mono hp_same s, hv, k _ _ _ g (Same.refl _) dv⟩
  · exact g.elim
theorem rr_ixS : RR K rIxS oIxS := by
  intro A H Q x y a b P oc da db g k
  unfold oIxS at g
  split at g
  · cases da; cases db
    obtain ⟨hz, c, hc, g⟩ := g
    exact ⟨_, _, c, rfl, rfl, hz, hc, k _ _ _ g (Same.refl _) (.str _)⟩
  · exact g.elim
def oIx : G2 := fun a b P => match a, b with
  | .list ds, .int k => ∃ d, atI ds k = some d ∧ P d
  | .tuple ds, .int k => ∃ d, atI ds k = some d ∧ P d
  | .str z, .int k => z.length ≤ sizeLine ∧ ∃ c, atI z.cps.toList k = some c ∧ P (.str ⟨#[c]⟩)
  | _, _ => False
theorem rr_ix : RR K (rIx K) oIx := by
  intro A H Q x y a b P oc da db g k
  unfold oIx at g
  split at g
  · exact .inl (rr_ixL A H Q x y _ _ P oc da db g k)
  · exact .inr (.inl (rr_ixT A H Q x y _ _ P oc da db g k))
  · exact .inr (.inr (rr_ixS A H Q x y _ _ P oc da db g k))
  · exact g.elim
/-! slices -/
abbrev FO := En → (Option Int → En → Prop) → Prop
def RO (K : PySem.W.Frag) (t : TO) (f : FO) : Prop := ∀ (O : Addr → Prop) (as : Nat → Option Addr) (σ : L2.St) (H : Hp) (Q : Option Int → Hp → Prop) (ρ : En) (P : Option Int → En → Prop), EnR K O as H ρ σ → f ρ P →
  (∀ o ρ' H', P o ρ' → FrA (Own as) H H' → EnR K O as H' ρ' σ → Q o H') → t σ H Q
def pNo : FO := fun ρ P => P none ρ
def pSo (a : FE) : FO := fun ρ P => a ρ fun d ρ1 => intF d fun i => P (some i) ρ1
theorem ro_no : RO K tNoPart pNo := fun O as σ H Q ρ P E f k => k none ρ H f (FrA.refl _ _) E
theorem ro_so {t : TE} {a : FE} (ha : RE K t a) : RO K (tPart t) (pSo a) := by
  intro O as σ H Q ρ P E q k
  refine ha O as σ H _ ρ _ E q fun d ρ1 v H1 q1 f1 E1 d1 => ?_
  unfold intF at q1
  split at q1
  · cases d1; exact ⟨_, rfl, k _ _ _ q1 f1 E1⟩
  · exact q1.elim
def RL (K : PySem.W.Frag) (r : V → Option Int → Option Int → Hp → VK → Prop) (g : PyData → Option Int → Option Int → (PyData → Prop) → Prop) : Prop := ∀ (A : Addr → Prop) (H : Hp) (Q : VK) (x : V) (a : PyData) (lo hi : Option Int) (P : PyData → Prop), (∀ c, A c → H c ≠ none) →
  Dq K (hp A H) x a → g a lo hi P → (∀ d v H', P d → Same H H' → Dq K (hp A H') v d → Q v H') → r x lo hi H Q
def fSl (g : PyData → Option Int → Option Int → (PyData → Prop) → Prop) (a : FE) (lo hi : FO) : FE := fun ρ P => a ρ fun x ρ1 => lo ρ1 fun l ρ2 => hi ρ2 fun u ρ3 => g x l u fun d => P d ρ3
theorem re_sl {r : V → Option Int → Option Int → Hp → VK → Prop} {g : PyData → Option Int → Option Int → (PyData → Prop) → Prop} {te : TE} {tl th : TO} {a : FE} {lo hi : FO} (hr : RL K r g) (ha : RE K te a) (hl : RO K tl lo) (hh : RO K th hi) : RE K (tSl r te tl th) (fSl g a lo hi) := by
  intro O as σ H Q ρ P E q k
  refine ha O as σ H _ ρ _ E q fun x ρ1 v H1 q1 f1 E1 d1 => ?_
  refine hl O as σ H1 _ ρ1 _ E1 q1 fun l ρ2 H2 q2 f2 E2 => ?_
  refine hh O as σ H2 _ ρ2 _ E2 q2 fun u ρ3 H3 q3 f3 E3 => ?_
  refine hr (Hid O as) H3 _ v x l u _ (fun c h => E3.full h) ((d1.fr f2).fr f3) q3 fun d w H4 p s4 d4 => ?_
  exact k _ _ _ _ p (((f1.trans f2).trans f3).trans (FrA.of s4)) (E3.grow s4) d4
def cutD (xs : List PyData) (lo hi : Option Int) : List PyData := (xs.drop (HT.sIx xs.length 0 lo)).take (HT.sIx xs.length xs.length hi - HT.sIx xs.length 0 lo)
theorem DqAll.cut {G : Hp} {xs : List V} {ds : List PyData} (r : DqAll K G xs ds) (lo hi : Option Int) : DqAll K G (cutV xs lo hi) (cutD ds lo hi) := by
  unfold cutV cutD
  rw [r.length]
  exact (r.drop _).take _
def sL : PyData → Option Int → Option Int → (PyData → Prop) → Prop := fun a lo hi P => listF a fun ds => P (.list (cutD ds lo hi))
def sT : PyData → Option Int → Option Int → (PyData → Prop) → Prop := fun a lo hi P => tupleF a fun ds => P (.tuple (cutD ds lo hi))
def sS : PyData → Option Int → Option Int → (PyData → Prop) → Prop := fun a lo hi P => strF a fun z => z.length ≤ sizeLine ∧ P (.str (cutS z lo hi))
theorem rl_list : RL K (rSlL K) sL := by
  intro A H Q x a lo hi P oc da g k
  unfold sL listF at g
  split at g
  · obtain ⟨p, xs, rfl, s, r⟩ := da.list_of
    refine ⟨p, xs, rfl, SqL.of (hp_some s).2, fun l hl => ?_⟩
    have sm := Same.new (o := .lst (cutV xs lo hi)) hl
    exact k _ _ _ g sm (.lst (hp_mk (fun q => oc _ q hl) upd_same) ((r.mono (hp_grow sm)).cut lo hi))
  · exact g.elim
theorem rl_tupA : RL K (rSlA K) sT := by
  intro A H Q x a lo hi P oc da g k
  unfold sT tupleF at g
  split at g
  · obtain ⟨p, xs, rfl, s, r⟩ := da.tuple_of
    refine ⟨p, xs, rfl, SqT.mono hp_same s, fun e => ?_, fun _ l hl => ?_⟩
    · refine k _ _ _ g (Same.refl _) (.tup (xs := cutV xs lo hi) ?_ (r.cut lo hi))
      unfold cutV
      rw [e.1, e.2, List.drop_zero, Nat.sub_zero, List.take_length]
      exact s
    · have sm := Same.new (o := .tup (cutV xs lo hi)) hl
      exact k _ _ _ g sm (.tup (SqT.of (hp_mk (fun q => oc _ q hl) upd_same)) ((r.mono (hp_grow sm)).cut lo hi))
  · exact g.elim
theorem rl_str : RL K rSlS sS := by
  intro A H Q x a lo hi P oc da g k
  unfold sS strF at g
  split at g
  · cases da; exact ⟨_, rfl, g.1, k _ _ _ g.2 (Same.refl _) (.str _)⟩
  · exact g.elim
end
end DL
namespace DL
open PySem L2 Z PySem.Spec PyProof.Rows
section
variable {K : PySem.W.Frag} {n : Nat}
def oCatL : G2 := fun a b P => match a, b with
  | .list xs, .list ys => xs.length + ys.length ≤ sizeLine ∧ P (.list (xs ++ ys))
  | _, _ => False
theorem rr_cat : RR K rCat oCatL := by
  intro A H Q x y a b P oc da db g k
  unfold oCatL at g
  split at g
  · obtain ⟨p, xs, rfl, s, r⟩ := da.list_of
    obtain ⟨p', xs', rfl, s', r'⟩ := db.list_of
    refine ⟨p, p', xs, xs', rfl, rfl, (hp_some s).2, (hp_some s').2, by rw [r.length, r'.length]; exact g.1, fun l hl => ?_⟩
    have sm := Same.new (o := .lst (xs ++ xs')) hl
    exact k _ _ _ g.2 sm (.lst (hp_mk (fun q => oc _ q hl) upd_same) ((r.mono (hp_grow sm)).append (r'.mono (hp_grow sm))))
  · exact g.elim
def oCatT : G2 := fun a b P => match a, b with
  | .tuple xs, .tuple ys => xs.length + ys.length ≤ sizeLine ∧ P (.tuple (xs ++ ys))
  | _, _ => False
theorem rr_catA : RR K (rCatA K) oCatT := by
  intro A H Q x y a b P oc da db g k
  unfold oCatT at g
  split at g
  · obtain ⟨p, xs, rfl, s, r⟩ := da.tuple_of
    obtain ⟨p', xs', rfl, s', r'⟩ := db.tuple_of
    have rr := r.append r'
    refine ⟨p, p', xs, xs', rfl, rfl, SqT.mono hp_same s, SqT.mono hp_same s', by rw [r.length, r'.length]; exact g.1, fun e => ?_, fun _ e => ?_, fun _ _ l hl => ?_⟩
    · subst e
      exact k _ _ _ g.2 (Same.refl _) (.tup s' rr)
    · subst e
      rw [List.append_nil] at rr
      exact k _ _ _ g.2 (Same.refl _) (.tup s rr)
    · have sm := Same.new (o := .tup (xs ++ xs')) hl
      exact k _ _ _ g.2 sm (.tup (SqT.of (hp_mk (fun q => oc _ q hl) upd_same)) (rr.mono (hp_grow sm)))
  · exact g.elim
def oRep : G2 := fun a b P => match a, b with
  | .list xs, .int k => -(2 ^ 63) ≤ k ∧ k < 2 ^ 63 ∧ xs.length * k.toNat ≤ sizeLine ∧ P (.list (List.replicate k.toNat xs).flatten)
  | _, _ => False
theorem rr_rep : RR K rRep oRep := by
  intro A H Q x y a b P oc da db g k
  unfold oRep at g
  split at g
  · next ys kk =>
    cases db
    obtain ⟨p, xs, rfl, s, r⟩ := da.list_of
    refine ⟨p, _, xs, rfl, rfl, (hp_some s).2, g.1, g.2.1, by rw [r.length]; exact g.2.2.1, fun l hl => ?_⟩
    have sm := Same.new (o := .lst (List.replicate kk.toNat xs).flatten) hl
    exact k _ _ _ g.2.2.2 sm (.lst (hp_mk (fun q => oc _ q hl) upd_same) ((r.mono (hp_grow sm)).rep _))
  · exact g.elim
def uNeg (a : PyData) (P : PyData → Prop) : Prop := intF a fun i => P (.int (-i))
theorem ru_neg : RU K (rU fun i => .int (-i)) uNeg := by
  intro A H Q x a P oc da g k
  unfold uNeg intF at g
  split at g
  · cases da; exact ⟨_, rfl, k _ _ _ g (Same.refl _) (.int _)⟩
  · exact g.elim
/-! built-in calls -/
def one (ds : List PyData) (k : PyData → Prop) : Prop := match ds with
  | [d] => k d
  | _ => False
theorem one_of {G : Hp} {vs : List V} {ds : List PyData} {k : PyData → Prop} (r : DqAll K G vs ds) (h : one ds k) : ∃ v d, vs = [v] ∧ Dq K G v d ∧ k d := by
  unfold one at h
  split at h
  · cases r with
    | cons a b => cases b; exact ⟨_, _, rfl, a, h⟩
  · exact h.elim
def bLenS (ds : List PyData) (P : PyData → Prop) : Prop := one ds fun d => strF d fun z => z.length ≤ sizeLine ∧ P (.int z.length)
theorem rb_len_str : RB K (fun xs H Q => ∃ z, xs = [.str z] ∧ z.length ≤ sizeLine ∧ Q (.int z.length) H) bLenS := by
  intro A H Q xs ds P oc r g k
  obtain ⟨v, d, rfl, q, g⟩ := one_of r g
  unfold strF at g
  split at g
  · cases q; exact ⟨_, rfl, g.1, k _ _ _ g.2 (Same.refl _) (.int _)⟩
  · exact g.elim
def bLen (ds : List PyData) (P : PyData → Prop) : Prop := one ds fun d => seqF d fun es => P (.int es.length)
theorem rb_len : RB K (fun xs H Q => ∃ p ys, xs = [.ref p] ∧ (SqL K H p ys ∨ SqT K H p ys) ∧ Q (.int ys.length) H) bLen := by
  intro A H Q xs ds P oc r g k
  obtain ⟨v, d, rfl, q, g⟩ := one_of r g
  obtain ⟨p, xs, ds, rfl, s, r, g⟩ := seqF_of q g
  refine ⟨p, xs, rfl, s, ?_⟩
  rw [r.length]
  exact k _ _ _ g (Same.refl _) (.int _)
theorem rb_lenK : RB K (rLenK K) bLen := rb_len
def bAbs (ds : List PyData) (P : PyData → Prop) : Prop := one ds fun d => intF d fun i => P (.int (if i < 0 then -i else i))
theorem rb_abs : RB K (fun xs H Q => ∃ i, xs = [.int i] ∧ Q (.int (if i < 0 then -i else i)) H) bAbs := by
  intro A H Q xs ds P oc r g k
  obtain ⟨v, d, rfl, q, g⟩ := one_of r g
  unfold intF at g
  split at g
  · cases q; exact ⟨_, rfl, k _ _ _ g (Same.refl _) (.int _)⟩
  · exact g.elim
def two (ds : List PyData) (k : Int → Int → Prop) : Prop := match ds with
  | [.int i, .int j] => k i j
  | _ => False
theorem two_of {G : Hp} {vs : List V} {ds : List PyData} {k : Int → Int → Prop} (r : DqAll K G vs ds) (h : two ds k) : ∃ i j, vs = [.int i, .int j] ∧ k i j := by
  unfold two at h
  split at h
  · cases r with
    | cons a b => cases b with
      | cons c d => cases a; cases c; cases d; exact ⟨_, _, rfl, h⟩
  · exact h.elim
def bMin (ds : List PyData) (P : PyData → Prop) : Prop := two ds fun i j => P (.int (if j < i then j else i))
def bMax (ds : List PyData) (P : PyData → Prop) : Prop := two ds fun i j => P (.int (if j > i then j else i))
theorem rb_min2 : RB K (fun xs H Q => ∃ i j, xs = [.int i, .int j] ∧ Q (.int (if j < i then j else i)) H) bMin := by
  intro A H Q xs ds P oc r g k
  obtain ⟨i, j, rfl, g⟩ := two_of r g
  exact ⟨_, _, rfl, k _ _ _ g (Same.refl _) (.int _)⟩
theorem rb_max2 : RB K (fun xs H Q => ∃ i j, xs = [.int i, .int j] ∧ Q (.int (if j > i then j else i)) H) bMax := by
  intro A H Q xs ds P oc r g k
  obtain ⟨i, j, rfl, g⟩ := two_of r g
  exact ⟨_, _, rfl, k _ _ _ g (Same.refl _) (.int _)⟩
def bDivmod (ds : List PyData) (P : PyData → Prop) : Prop := two ds fun i j => CDiv i j ∧ P (.tuple [.int (i / j), .int (i % j)])
theorem rb_divmod : RB K (fun xs H Q => ∃ i j, xs = [.int i, .int j] ∧ CDiv i j ∧ ∀ p, H p = none → Q (.ref p) (upd H p (.tup [.int (i / j), .int (i % j)]))) bDivmod := by
  intro A H Q xs ds P oc r g k
  obtain ⟨i, j, rfl, g⟩ := two_of r g
  refine ⟨_, _, rfl, g.1, fun p hp1 => ?_⟩
  exact k _ _ _ g.2 (Same.new hp1) (.tup (SqT.of (hp_mk (fun q => oc _ q hp1) upd_same)) (.cons (.int _) (.cons (.int _) .nil)))
def boolsF : List PyData → (List Bool → Prop) → Prop
  | [], k => k []
  | .bool b :: r, k => boolsF r fun bs => k (b :: bs)
  | _ :: _, _ => False
theorem boolsF_of : ∀ {ds : List PyData} {k : List Bool → Prop}, boolsF ds k → ∃ bs : List Bool, ds = bs.map .bool ∧ k bs
  | [], k, h => ⟨[], rfl, h⟩
  | .bool b :: r, k, h => by
    obtain ⟨bs, e, h'⟩ := boolsF_of (ds := r) h
    exact ⟨b :: bs, by rw [e]; rfl, h'⟩
theorem boolsF_map {bs : List Bool} : ∀ {k : List Bool → Prop}, k bs → boolsF (bs.map .bool) k := by
  induction bs with
  | nil => exact fun h => h
  | cons b r ih => exact fun {k} h => ih (k := fun bs => k (b :: bs)) h
def intsF : List PyData → (List Int → Prop) → Prop
  | [], k => k []
  | .int b :: r, k => intsF r fun bs => k (b :: bs)
  | _ :: _, _ => False
theorem intsF_of : ∀ {ds : List PyData} {k : List Int → Prop}, intsF ds k → ∃ bs : List Int, ds = bs.map .int ∧ k bs
  | [], k, h => ⟨[], rfl, h⟩
  | .int b :: r, k, h => by
    obtain ⟨bs, e, h'⟩ := intsF_of (ds := r) h
    exact ⟨b :: bs, by rw [e]; rfl, h'⟩
theorem intsF_map {bs : List Int} : ∀ {k : List Int → Prop}, k bs → intsF (bs.map .int) k := by
  induction bs with
  | nil => exact fun h => h
  | cons b r ih => exact fun {k} h => ih (k := fun bs => k (b :: bs)) h
def strsF : List PyData → (List Str → Prop) → Prop
  | [], k => k []
  | .str b :: r, k => strsF r fun bs => k (b :: bs)
  | _ :: _, _ => False
theorem strsF_of : ∀ {ds : List PyData} {k : List Str → Prop}, strsF ds k → ∃ bs : List Str, ds = bs.map .str ∧ k bs
  | [], k, h => ⟨[], rfl, h⟩
  | .str b :: r, k, h => by
    obtain ⟨bs, e, h'⟩ := strsF_of (ds := r) h
    exact ⟨b :: bs, by rw [e]; rfl, h'⟩
theorem strsF_map {bs : List Str} : ∀ {k : List Str → Prop}, k bs → strsF (bs.map .str) k := by
  induction bs with
  | nil => exact fun h => h
  | cons b r ih => exact fun {k} h => ih (k := fun bs => k (b :: bs)) h
def bAll (ds : List PyData) (P : PyData → Prop) : Prop := one ds fun d => listF d fun es => boolsF es fun bs => P (.bool (bs.all id))
def bAny (ds : List PyData) (P : PyData → Prop) : Prop := one ds fun d => listF d fun es => boolsF es fun bs => P (.bool (bs.any id))
def bSum (ds : List PyData) (P : PyData → Prop) : Prop := one ds fun d => listF d fun es => intsF es fun ns => P (.int ns.sum)
theorem rb_all : RB K (rAll K) bAll := by
  intro A H Q xs ds P oc r g k
  obtain ⟨v, d, rfl, q, g⟩ := one_of r g
  unfold listF at g
  split at g
  · obtain ⟨bs, e, g'⟩ := boolsF_of g
    subst e
    obtain ⟨a, ys, rfl, s, r⟩ := q.list_of
    cases r.bools_of
    exact ⟨a, bs, rfl, SqL.of (hp_some s).2, k _ _ _ g' (Same.refl _) (.bl _)⟩
  · exact g.elim
theorem rb_any : RB K (rAny K) bAny := by
  intro A H Q xs ds P oc r g k
  obtain ⟨v, d, rfl, q, g⟩ := one_of r g
  unfold listF at g
  split at g
  · obtain ⟨bs, e, g'⟩ := boolsF_of g
    subst e
    obtain ⟨a, ys, rfl, s, r⟩ := q.list_of
    cases r.bools_of
    exact ⟨a, bs, rfl, SqL.of (hp_some s).2, k _ _ _ g' (Same.refl _) (.bl _)⟩
  · exact g.elim
theorem rb_sum : RB K (rSum K) bSum := by
  intro A H Q xs ds P oc r g k
  obtain ⟨v, d, rfl, q, g⟩ := one_of r g
  unfold listF at g
  split at g
  · obtain ⟨bs, e, g'⟩ := intsF_of g
    subst e
    obtain ⟨a, ys, rfl, s, r⟩ := q.list_of
    cases r.ints_of
    exact ⟨a, bs, rfl, SqL.of (hp_some s).2, k _ _ _ g' (Same.refl _) (.int _)⟩
  · exact g.elim
def bMinL (ds : List PyData) (P : PyData → Prop) : Prop := one ds fun d => listF d fun es => intsF es fun ns => 0 < ns.length ∧ ∀ m, m ∈ ns → (∀ y, y ∈ ns → m ≤ y) → P (.int m)
def bMaxL (ds : List PyData) (P : PyData → Prop) : Prop := one ds fun d => listF d fun es => intsF es fun ns => 0 < ns.length ∧ ∀ m, m ∈ ns → (∀ y, y ∈ ns → y ≤ m) → P (.int m)
theorem rb_min : RB K (rMin K) bMinL := by
  intro A H Q xs ds P oc r g k
  obtain ⟨v, d, rfl, q, g⟩ := one_of r g
  unfold listF at g
  split at g
  · obtain ⟨bs, e, g'⟩ := intsF_of g
    subst e
    obtain ⟨a, ys, rfl, s, r⟩ := q.list_of
    cases r.ints_of
    exact ⟨a, bs, rfl, SqL.of (hp_some s).2, g'.1, fun m h1 h2 => k _ _ _ (g'.2 m h1 h2) (Same.refl _) (.int _)⟩
  · exact g.elim
theorem rb_max : RB K (rMax K) bMaxL := by
  intro A H Q xs ds P oc r g k
  obtain ⟨v, d, rfl, q, g⟩ := one_of r g
  unfold listF at g
  split at g
  · obtain ⟨bs, e, g'⟩ := intsF_of g
    subst e
    obtain ⟨a, ys, rfl, s, r⟩ := q.list_of
    cases r.ints_of
    exact ⟨a, bs, rfl, SqL.of (hp_some s).2, g'.1, fun m h1 h2 => k _ _ _ (g'.2 m h1 h2) (Same.refl _) (.int _)⟩
  · exact g.elim
def bSortI (ds : List PyData) (P : PyData → Prop) : Prop := one ds fun d => listF d fun es => intsF es fun ns => ∀ ms : List Int, ms.Perm ns → ms.Pairwise (· ≤ ·) → P (.list (ms.map .int))
theorem rb_sortI : RB K (rSortedI K) bSortI := by
  intro A H Q xs ds P oc r g k
  obtain ⟨v, d, rfl, q, g⟩ := one_of r g
  unfold listF at g
  split at g
  · obtain ⟨bs, e, g'⟩ := intsF_of g
    subst e
    obtain ⟨a, ys, rfl, s, r⟩ := q.list_of
    cases r.ints_of
    refine ⟨a, bs, rfl, SqL.of (hp_some s).2, fun ms p h1 h2 hp1 => ?_⟩
    exact k _ _ _ (g' ms h1 h2) (Same.new hp1) (.lst (hp_mk (fun q => oc _ q hp1) upd_same) (DqAll.ints _))
  · exact g.elim
def bInt (ds : List PyData) (P : PyData → Prop) : Prop := one ds fun d => match d with
  | .int i => P (.int i)
  | .bool b => P (.int (if b then 1 else 0))
  | _ => False
theorem rb_int : RB K (fun xs H Q => (∃ i, xs = [.int i] ∧ Q (.int i) H) ∨ ∃ k, xs = [.bl k] ∧ Q (.int (if k then 1 else 0)) H) bInt := by
  intro A H Q xs ds P oc r g k
  obtain ⟨v, d, rfl, q, g⟩ := one_of r g
  split at g
  · cases q; exact .inl ⟨_, rfl, k _ _ _ g (Same.refl _) (.int _)⟩
  · cases q; exact .inr ⟨_, rfl, k _ _ _ g (Same.refl _) (.int _)⟩
  · exact g.elim
def bIntS (ds : List PyData) (P : PyData → Prop) : Prop := one ds fun d => strF d fun a => ∃ m, PySem.intText? a = some m ∧ a.length ≤ 640 ∧ P (.int m)
theorem rb_int_str : RB K (fun xs H Q => ∃ a n, xs = [.str a] ∧ PySem.intText? a = some n ∧ a.length ≤ 640 ∧ Q (.int n) H) bIntS := by
  intro A H Q xs ds P oc r g k
  obtain ⟨v, d, rfl, q, g⟩ := one_of r g
  unfold strF at g
  split at g
  · cases q; obtain ⟨m, h1, h2, g⟩ := g; exact ⟨_, _, rfl, h1, h2, k _ _ _ g (Same.refl _) (.int _)⟩
  · exact g.elim
def bStrI (ds : List PyData) (P : PyData → Prop) : Prop := one ds fun d => intF d fun i => i.natAbs.log2 < 1920 ∧ P (.str (toString i))
theorem rb_str_int : RB K (fun xs H Q => ∃ i, xs = [.int i] ∧ i.natAbs.log2 < 1920 ∧ Q (.str (toString i)) H) bStrI := by
  intro A H Q xs ds P oc r g k
  obtain ⟨v, d, rfl, q, g⟩ := one_of r g
  unfold intF at g
  split at g
  · cases q; exact ⟨_, rfl, g.1, k _ _ _ g.2 (Same.refl _) (.str _)⟩
  · exact g.elim
def bBool (ds : List PyData) (P : PyData → Prop) : Prop := one ds fun d => match d with
  | .int i => P (.bool (i != 0))
  | .bool b => P (.bool b)
  | _ => False
theorem rb_bool : RB K (fun xs H Q => (∃ i, xs = [.int i] ∧ Q (.bl (i != 0)) H) ∨ ∃ k, xs = [.bl k] ∧ Q (.bl k) H) bBool := by
  intro A H Q xs ds P oc r g k
  obtain ⟨v, d, rfl, q, g⟩ := one_of r g
  split at g
  · cases q; exact .inl ⟨_, rfl, k _ _ _ g (Same.refl _) (.bl _)⟩
  · cases q; exact .inr ⟨_, rfl, k _ _ _ g (Same.refl _) (.bl _)⟩
  · exact g.elim
def bList (ds : List PyData) (P : PyData → Prop) : Prop := one ds fun d => seqF d fun es => P (.list es)
theorem rb_list : RB K (fun xs H Q => ∃ p ys, xs = [.ref p] ∧ (SqL K H p ys ∨ SqT K H p ys) ∧ ∀ l, H l = none → Q (.ref l) (upd H l (.lst ys))) bList := by
  intro A H Q xs ds P oc r g k
  obtain ⟨v, d, rfl, q, g⟩ := one_of r g
  obtain ⟨p, xs, ds, rfl, s, r, g⟩ := seqF_of q g
  refine ⟨p, xs, rfl, s, fun l hl => ?_⟩
  have sm := Same.new (o := .lst xs) hl
  exact k _ _ _ g sm (.lst (hp_mk (fun q => oc _ q hl) upd_same) (r.mono (hp_grow sm)))
def bTuple (ds : List PyData) (P : PyData → Prop) : Prop := one ds fun d => seqF d fun es => P (.tuple es)
theorem rb_tuple : RB K (fun xs H Q => ∃ p ys, xs = [.ref p] ∧ ((SqL K H p ys ∧ ∀ l, H l = none → Q (.ref l) (upd H l (.tup ys))) ∨ (SqT K H p ys ∧ Q (.ref p) H))) bTuple := by
  intro A H Q xs ds P oc r g k
  obtain ⟨v, d, rfl, q, g⟩ := one_of r g
  unfold seqF at g
  split at g
  · obtain ⟨p, xs, rfl, s, r⟩ := q.list_of
    refine ⟨p, xs, rfl, .inl ⟨SqL.of (hp_some s).2, fun l hl => ?_⟩⟩
    have sm := Same.new (o := .tup xs) hl
    exact k _ _ _ g sm (.tup (SqT.of (hp_mk (fun q => oc _ q hl) upd_same)) (r.mono (hp_grow sm)))
  · obtain ⟨p, xs, rfl, s, r⟩ := q.tuple_of
    exact ⟨p, xs, rfl, .inr ⟨SqT.mono hp_same s, k _ _ _ g (Same.refl _) (.tup s r)⟩⟩
  · exact g.elim
def bRepr (ds : List PyData) (P : PyData → Prop) : Prop := one ds fun d => seqF d fun _ => d.hasDict = false ∧ d.showable = true ∧ d.depth ≤ 60 ∧ d.shown.length ≤ sizeLine ∧ P (.str d.shown)
theorem rb_repr : RB K (fun xs H Q => ∃ (a : Addr) (d : PyData), xs = [.ref a] ∧ Dp K H (.ref a) d ∧ d.showable = true ∧ d.depth ≤ 60 ∧ d.shown.length ≤ sizeLine ∧ Q (.str d.shown) H) bRepr := by
  intro A H Q xs ds P oc r g k
  obtain ⟨v, d, rfl, q, g⟩ := one_of r g
  obtain ⟨p, xs, es, rfl, s, r, h0, h1, h2, h3, g⟩ := seqF_of q g
  exact ⟨p, d, rfl, Dp.mono hp_same (q.dp h0), h1, h2, h3, k _ _ _ g (Same.refl _) (.str _)⟩
/-! isinstance -/
def isObjD : PyData → Bool
  | .dict _ => true
  | _ => false
def fIsi (b : String) (a : FE) : FE := fun ρ P => a ρ fun d ρ1 => isObjD d = false ∧ ∃ c, kitB (kindD d) b = some c ∧ P (.bool c) ρ1
theorem Dq.ty {A : Addr → Prop} {H : Hp} {v : V} {d : PyData} (q : Dq K (hp A H) v d) (h : isObjD d = false) : TyX K H v (.type (kindD d)) := by
  cases q with
  | non => exact .base .non
  | bl b => exact .base (.bl b)
  | int i => exact .base (.int i)
  | str x => exact .base (.str x)
  | lst s _ => exact SqL.ty (SqL.of (hp_some s).2)
  | tup s _ => exact SqT.ty (SqT.mono hp_same s)
  | obj _ _ _ => cases h
theorem re_isi {b : String} {ta : TE} {a : FE} (ha : RE K ta a) : RE K (tCB (rIsi K) (tCons ta (tCons (tC (.ty b)) tNil))) (fIsi b a) := by
  intro O as σ H Q ρ P E q k
  refine ha O as σ H _ ρ _ E q fun d ρ1 v H1 q1 f1 E1 d1 => ?_
  obtain ⟨ho, c, hc, q1⟩ := q1
  exact ⟨_, _, _, _, c, rfl, .ty _, d1.ty ho, kit_ty hc, k _ _ _ _ q1 f1 E1 (.bl _)⟩
/-! methods of texts -/
def mStr1 (C : Str → Str → Prop) (h : Str → Str → PyData) : Str → List PyData → (PyData → Prop) → Prop := fun z ds P => one ds fun d => strF d fun b => C z b ∧ P (h z b)
theorem strs1_of {G : Hp} {vs : List V} {ds : List PyData} {k : Str → Prop} (r : DqAll K G vs ds) (h : one ds fun d => strF d k) : ∃ b, vs = [.str b] ∧ k b := by
  obtain ⟨v, d, rfl, q, g⟩ := one_of r h
  unfold strF at g
  split at g
  · cases q; exact ⟨_, rfl, g⟩
  · exact g.elim
abbrev mFind := mStr1 (fun _ _ => True) fun a b => .int (Txt.find a b)
theorem rm_find : RM K (fun x xs H Q => ∃ a b, x = .str a ∧ xs = [.str b] ∧ Q (.int (Txt.find a b)) H) mFind := by
  intro A H Q z xs ds P oc r g k
  obtain ⟨b, rfl, g⟩ := strs1_of r g
  exact ⟨_, _, rfl, rfl, k _ _ _ g.2 (Same.refl _) (.int _)⟩
abbrev mCount := mStr1 (fun _ _ => True) fun a b => .int (Txt.count a b)
theorem rm_count : RM K (fun x xs H Q => ∃ a b, x = .str a ∧ xs = [.str b] ∧ Q (.int (Txt.count a b)) H) mCount := by
  intro A H Q z xs ds P oc r g k
  obtain ⟨b, rfl, g⟩ := strs1_of r g
  exact ⟨_, _, rfl, rfl, k _ _ _ g.2 (Same.refl _) (.int _)⟩
abbrev mSplit := mStr1 (fun a b => (b.length == 0) = false ∧ a.length + 2 ≤ sizeLine) fun a b => .list ((Txt.split a b).map .str)
theorem rm_split : RM K (fun x xs H Q => ∃ a b, x = .str a ∧ xs = [.str b] ∧ (b.length == 0) = false ∧ a.length + 2 ≤ sizeLine ∧ rNewStrs (Txt.split a b) H Q) mSplit := by
  intro A H Q z xs ds P oc r g k
  obtain ⟨b, rfl, g⟩ := strs1_of r g
  refine ⟨_, _, rfl, rfl, g.1.1, g.1.2, fun p hp1 => ?_⟩
  exact k _ _ _ g.2 (Same.new hp1) (.lst (hp_mk (fun q => oc _ q hp1) upd_same) (DqAll.strs _))
abbrev mPart := mStr1 (fun a b => (b.length == 0) = false ∧ a.length ≤ sizeLine) fun a b => .tuple [.str (Txt.partition a b).1, .str (Txt.partition a b).2.1, .str (Txt.partition a b).2.2]
theorem rm_partition : RM K (fun x xs H Q => ∃ a b, x = .str a ∧ xs = [.str b] ∧ (b.length == 0) = false ∧ a.length ≤ sizeLine ∧ ∀ p, H p = none → Q (.ref p) (upd H p (.tup [.str (Txt.partition a b).1, .str (Txt.partition a b).2.1, .str (Txt.partition a b).2.2]))) mPart := by
  intro A H Q z xs ds P oc r g k
  obtain ⟨b, rfl, g⟩ := strs1_of r g
  refine ⟨_, _, rfl, rfl, g.1.1, g.1.2, fun p hp1 => ?_⟩
  exact k _ _ _ g.2 (Same.new hp1) (.tup (SqT.of (hp_mk (fun q => oc _ q hp1) upd_same)) (.cons (.str _) (.cons (.str _) (.cons (.str _) .nil))))
abbrev mRpart := mStr1 (fun a b => (b.length == 0) = false ∧ a.length ≤ sizeLine) fun a b => .tuple [.str (Txt.rpartition a b).1, .str (Txt.rpartition a b).2.1, .str (Txt.rpartition a b).2.2]
theorem rm_rpartition : RM K (fun x xs H Q => ∃ a b, x = .str a ∧ xs = [.str b] ∧ (b.length == 0) = false ∧ a.length ≤ sizeLine ∧ ∀ p, H p = none → Q (.ref p) (upd H p (.tup [.str (Txt.rpartition a b).1, .str (Txt.rpartition a b).2.1, .str (Txt.rpartition a b).2.2]))) mRpart := by
  intro A H Q z xs ds P oc r g k
  obtain ⟨b, rfl, g⟩ := strs1_of r g
  refine ⟨_, _, rfl, rfl, g.1.1, g.1.2, fun p hp1 => ?_⟩
  exact k _ _ _ g.2 (Same.new hp1) (.tup (SqT.of (hp_mk (fun q => oc _ q hp1) upd_same)) (.cons (.str _) (.cons (.str _) (.cons (.str _) .nil))))
def mZfill : Str → List PyData → (PyData → Prop) → Prop := fun z ds P => one ds fun d => intF d fun i => PadOk i = true ∧ P (.str (Txt.zfill z i))
theorem rm_zfill : RM K (fun x xs H Q => ∃ (a : Str) (i : Int), x = .str a ∧ xs = [.int i] ∧ PadOk i = true ∧ Q (.str (Txt.zfill a i)) H) mZfill := by
  intro A H Q z xs ds P oc r g k
  obtain ⟨v, d, rfl, q, g⟩ := one_of r g
  unfold intF at g
  split at g
  · cases q; exact ⟨_, _, rfl, rfl, g.1, k _ _ _ g.2 (Same.refl _) (.str _)⟩
  · exact g.elim
def mJoin : Str → List PyData → (PyData → Prop) → Prop := fun z ds P => one ds fun d => seqF d fun es => strsF es fun ys => (ys.map (·.length)).sum + ys.length * z.length ≤ 16777216 ∧ P (.str (Txt.join z ys))
theorem rm_join : RM K (fun x xs H Q => ∃ a p, ∃ ys : List Str, x = .str a ∧ xs = [.ref p] ∧ (SqL K H p (ys.map V.str) ∨ SqT K H p (ys.map V.str)) ∧ (ys.map (·.length)).sum + ys.length * a.length ≤ 16777216 ∧ Q (.str (Txt.join a ys)) H) mJoin := by
  intro A H Q z xs ds P oc r g k
  obtain ⟨v, d, rfl, q, g⟩ := one_of r g
  obtain ⟨p, xs, es, rfl, s, r, g⟩ := seqF_of q g
  obtain ⟨ys, e, h, g'⟩ := strsF_of g
  subst e
  cases r.strs_of
  exact ⟨_, p, ys, rfl, rfl, s, h, k _ _ _ g' (Same.refl _) (.str _)⟩
/-! x += e -/
def fAug (i : Nat) (a : FE) (h : Int → Int → Int) : FS := fun E ρ => match ρ[i]? with
  | some (.fz (.int x)) => a ρ fun y ρ1 => intF y fun j => gN i (.int (h x j)) ρ1 E.nx
  | _ => False
theorem rs_aug {i : Nat} {te : TE} {a : FE} {h : Int → Int → Int} (ha : RE K te a) : RS K n (tAug i te (ipI h)) (fAug i a h) := by
  intro O as σ H D ρ E R f C
  unfold fAug at f
  split at f
  · next x hx =>
    obtain ⟨v, e, _, q⟩ := R.fz_at hx
    cases q
    refine ⟨_, e, ?_⟩
    refine ha O as σ H _ ρ _ R f fun d ρ1 v H1 q1 f1 E1 d1 => ?_
    unfold intF at q1
    split at q1
    · cases d1
      exact ⟨_, _, rfl, rfl, C.nx _ _ _ _ q1.2 (.of f1) (E1.setFz q1.1 (.int _))⟩
    · exact q1.elim
  · exact f.elim
def fPar3 (i j l : Nat) (a : FA) : FS := fun E ρ => a ρ fun ds ρ1 => match ds with
  | [x, y, z] => gN i x ρ1 fun ρ2 => gN j y ρ2 fun ρ3 => gN l z ρ3 E.nx
  | _ => False
theorem rs_par3 {i j l : Nat} {t : TA} {a : FA} (ha : RA K t a) : RS K n (tPar3 i j l t) (fPar3 i j l a) := by
  intro O as σ H D ρ E R f C
  refine ha O as σ H _ ρ _ R f fun ds ρ1 vs H1 q1 f1 E1 d1 => ?_
  split at q1
  · cases d1 with
    | cons d1 r => cases r with
      | cons d2 r => cases r with
        | cons d3 r =>
          cases r
          exact ⟨_, _, _, rfl, C.nx _ _ _ _ q1.2.2.2 (.of f1) (((E1.setFz q1.1 d1).setFz q1.2.1 d2).setFz q1.2.2.1 d3)⟩
  · exact q1.elim
/-! truth -/
theorem DqAll.empty {G : Hp} {xs : List V} {ds : List PyData} (r : DqAll K G xs ds) : xs.isEmpty = ds.isEmpty := by cases r <;> rfl
def truF (d : PyData) (k : Bool → Prop) : Prop := match d with
  | .none => k false
  | .bool b => k b
  | .int i => k (i != 0)
  | .str z => z.length ≤ sizeLine ∧ k ((z.length : Int) != 0)
  | .list ds => k (!ds.isEmpty)
  | .tuple ds => k (!ds.isEmpty)
  | _ => False
def fTru (f : FE) : FT := fun ρ P => f ρ fun d ρ1 => truF d fun b => P b ρ1
theorem rt_tru {t : TE} {f : FE} (h : RE K t f) : RT K (fun σ H Q => t σ H fun x H' => ∃ k, TruV K x H' k ∧ Q k H') (fTru f) := by
  intro O as σ H Q ρ P E q k
  refine h O as σ H _ ρ _ E q fun d ρ1 v H1 q1 f1 E1 d1 => ?_
  unfold truF at q1
  split at q1
  · cases d1; exact ⟨_, rfl, k _ _ _ q1 f1 E1⟩
  · cases d1; exact ⟨_, rfl, k _ _ _ q1 f1 E1⟩
  · cases d1; exact ⟨_, rfl, k _ _ _ q1 f1 E1⟩
  · cases d1; exact ⟨_, ⟨q1.1, rfl⟩, k _ _ _ q1.2 f1 E1⟩
  · obtain ⟨p, xs, rfl, s, r⟩ := d1.list_of
    refine ⟨_, .inl ⟨xs, SqL.of (hp_some s).2, rfl⟩, ?_⟩
    rw [r.empty]
    exact k _ _ _ q1 f1 E1
  · obtain ⟨p, xs, rfl, s, r⟩ := d1.tuple_of
    refine ⟨_, .inr (.inl ⟨xs, SqT.mono hp_same s, rfl⟩), ?_⟩
    rw [r.empty]
    exact k _ _ _ q1 f1 E1
  · exact q1.elim
def fYes : FT := fun ρ P => P true ρ
theorem rt_yes : RT K tYes fYes := fun O as σ H Q ρ P E f k => k true ρ H f (FrA.refl _ _) E
end
end DL
/-! the box of draws as data; promises weakened -/
namespace DL
open PySem L2 Z PySem.Spec PyProof.Rows
def BoxD (ds : List PyData) (n : Nat) : Prop := ∃ b0 b1 b2 : Int, ds = [.int b0, .int b1, .int b2] ∧ 0 ≤ b0 ∧ 0 ≤ b1 ∧ b1 < 2147483647 ∧ 0 ≤ b2 ∧ b2 ≤ (n : Int)
theorem BoxD.mono {ds : List PyData} {n m : Nat} (b : BoxD ds n) (h : n ≤ m) : BoxD ds m := by
  obtain ⟨b0, b1, b2, e, h0, h1, h2, h3, h4⟩ := b
  exact ⟨b0, b1, b2, e, h0, h1, h2, h3, by omega⟩
/-- a draw: any number below m -/
def takeF (ds : List PyData) (m : Int) (P : Int → List PyData → Prop) : Prop := ∃ n, BoxD ds n ∧ 0 < m ∧ m < 1073741824 ∧ n < 1000000000 ∧ ∀ r ds', 0 ≤ r → r < m → BoxD ds' (n + 1) → P r ds'
def F__law_take : FN := fun sls P => match sls with
  | [.own ds, .fz (.int m)] => takeF ds m fun r ds' => P (.int r) [.own ds', .no]
  | _ => False
section
variable {P : Program} {w : World} {K : PySem.W.Frag} {mg : Str → Option Value} {base : Heap} {k : Nat} {f : Addr} {fd : FuncData} {ps : List Str} {sp sp' : Sp}
theorem _root_.Z.FnG.weak (F : FnG P w K mg base k f fd ps sp) (h : ∀ vs H Q E, sp' vs H Q E → sp vs H Q E) : FnG P w K mg base k f fd ps sp' :=
  ⟨fun vs H Q E q => F.size vs H Q E (h vs H Q E q), fun A outer s H args us vs Q E hr hg e b r q => F.goes A outer s H args us vs Q E hr hg e b r (h vs H Q E q)⟩
theorem _root_.L2.FnOk.guarded (F : FnOk P w K mg base CX0 k f fd ps sp) (h : ∀ vs H Q E, sp' vs H Q E → sp vs H Q E) : FnG P w K mg base k f fd ps sp' := (FnG.of F).weak h
def spTake : Sp := fun vs H Q _ => ∃ (B : Addr) (m : Int) (n : Nat), vs = [.ref B, .int m] ∧ Box H B n ∧ 0 < m ∧ m < 1073741824 ∧ n < 1000000000 ∧ ∀ (r : Int) H', 0 ≤ r → r < m → Fr [B] H H' → Box H' B (n + 1) → Q (.int r) H'
theorem boxD_ints {G : Hp} {xs : List V} {b0 b1 b2 : Int} (h : DqAll K G xs [.int b0, .int b1, .int b2]) : xs = [.int b0, .int b1, .int b2] := by
  cases h with
  | cons a r => cases r with
    | cons b r => cases r with
      | cons c r => cases r; cases a; cases b; cases c; rfl
theorem take_of {vs : List V} {H : Hp} {Q : VK} {E : XK} (h : spF K 2 F__law_take vs H Q E) : spTake vs H Q E := by
  obtain ⟨hv, O, as, ρ, P, R, hF, q⟩ := h
  match vs, hv with
  | [v0, v1], _ =>
    have hl : ρ.length = 2 := R.len
    match ρ, hl with
    | [s0, s1], _ =>
      unfold F__law_take at hF
      split at hF
      · next ds m e =>
        injection e with e1 e2
        injection e2 with e2 _
        subst e1
        subst e2
        obtain ⟨n, hb, m0, m1, hn, st⟩ := hF
        obtain ⟨b0, b1, b2, rfl, h0, h1, h2, h3, h4⟩ := hb
        obtain ⟨B, xs, z1, z2, z3, z4⟩ := R.own_at (i := 0) rfl
        obtain ⟨v, y1, y2, y3⟩ := R.fz_at (i := 1) rfl
        cases boxD_ints z4
        cases z1
        cases y1
        cases y3
        refine ⟨B, m, n, rfl, ⟨b0, b1, b2, z3, h0, h1, h2, h3, h4⟩, m0, m1, hn, fun r H' r0 r1 fr hB => ?_⟩
        obtain ⟨c0, c1, c2, ec, k0, k1, k2, k3, k4⟩ := hB
        have hfr : FrA (Own as) H H' := fun a o na e => fr a o (fun z => na ⟨0, by rw [z2]; simpa using (List.mem_singleton.mp z).symm⟩) e
        refine q _ _ _ _ (st r [.int c0, .int c1, .int c2] r0 r1 ⟨c0, c1, c2, rfl, k0, k1, k2, k3, k4⟩) hfr (fun i a ha => ?_) (.int _)
        have hi := R.bnd i a ha
        match i, hi, ha with
        | 0, _, ha =>
          rw [z2] at ha
          cases ha
          exact ⟨_, _, rfl, ec, .cons (.int _) (.cons (.int _) (.cons (.int _) .nil))⟩
        | 1, _, ha => rw [y2] at ha; cases ha
      · exact hF.elim
def spBox : Sp := fun vs H Q _ => ∃ (B : Addr), vs = [.ref B] ∧ Box H B 0 ∧ ∀ H', Fr [B] H H' → Q (.bl true) H'
/-- a law's def over the box alone -/
theorem box_of {F : FN} (hF : ∀ ds, BoxD ds 0 → F [.own ds] fun d _ => d = .bool true) {vs : List V} {H : Hp} {Q : VK} {E : XK} (h : spBox vs H Q E) : spF K 1 F vs H Q E := by
  obtain ⟨B, rfl, ⟨b0, b1, b2, e, h0, h1, h2, h3, h4⟩, q⟩ := h
  refine ⟨rfl, fun _ => False, fun i => if i = 0 then some B else none, [.own [.int b0, .int b1, .int b2]], _, ⟨rfl, fun i sl o e1 e2 => ?_, fun i j a h1 h2 => ?_, fun _ _ _ z => z, fun i a h => ?_, fun a z => z.elim⟩, hF _ ⟨b0, b1, b2, rfl, h0, h1, h2, h3, h4⟩, fun d out v H' hd fr _ dv => ?_⟩
  · match i, e1, e2 with
    | 0, e1, e2 =>
      cases e1; cases e2
      exact .own e (.cons (.int _) (.cons (.int _) (.cons (.int _) .nil)))
  · split at h1
    · split at h2
      · omega
      · cases h2
    · cases h1
  · split at h
    · next z => rw [z]; exact Nat.one_pos
    · cases h
  · subst hd
    cases dv
    refine q H' fun a o na e => fr a o (fun ⟨i, z⟩ => ?_) e
    dsimp only at z
    split at z
    · cases z; exact na (List.mem_singleton.mpr rfl)
    · cases z
end
end DL
/-! going through data -/
namespace DL
open PySem L2 Z PySem.Spec PyProof.Rows
theorem kit_none_int : kitB (kindD .none) "int" = some false := by show kitB "NoneType" "int" = _; decide +kernel
theorem kit_none_bool : kitB (kindD .none) "bool" = some false := by show kitB "NoneType" "bool" = _; decide +kernel
theorem kit_none_str : kitB (kindD .none) "str" = some false := by show kitB "NoneType" "str" = _; decide +kernel
theorem kit_none_list : kitB (kindD .none) "list" = some false := by show kitB "NoneType" "list" = _; decide +kernel
theorem kit_none_tuple : kitB (kindD .none) "tuple" = some false := by show kitB "NoneType" "tuple" = _; decide +kernel
theorem kit_bool_int {b : Bool} : kitB (kindD (.bool b)) "int" = some true := by show kitB "bool" "int" = _; decide +kernel
theorem kit_bool_bool {b : Bool} : kitB (kindD (.bool b)) "bool" = some true := by show kitB "bool" "bool" = _; decide +kernel
theorem kit_bool_str {b : Bool} : kitB (kindD (.bool b)) "str" = some false := by show kitB "bool" "str" = _; decide +kernel
theorem kit_bool_list {b : Bool} : kitB (kindD (.bool b)) "list" = some false := by show kitB "bool" "list" = _; decide +kernel
theorem kit_bool_tuple {b : Bool} : kitB (kindD (.bool b)) "tuple" = some false := by show kitB "bool" "tuple" = _; decide +kernel
theorem kit_int_int {i : Int} : kitB (kindD (.int i)) "int" = some true := by show kitB "int" "int" = _; decide +kernel
theorem kit_int_bool {i : Int} : kitB (kindD (.int i)) "bool" = some false := by show kitB "int" "bool" = _; decide +kernel
theorem kit_int_str {i : Int} : kitB (kindD (.int i)) "str" = some false := by show kitB "int" "str" = _; decide +kernel
theorem kit_int_list {i : Int} : kitB (kindD (.int i)) "list" = some false := by show kitB "int" "list" = _; decide +kernel
theorem kit_int_tuple {i : Int} : kitB (kindD (.int i)) "tuple" = some false := by show kitB "int" "tuple" = _; decide +kernel
theorem kit_str_int {s : Str} : kitB (kindD (.str s)) "int" = some false := by show kitB "str" "int" = _; decide +kernel
theorem kit_str_bool {s : Str} : kitB (kindD (.str s)) "bool" = some false := by show kitB "str" "bool" = _; decide +kernel
theorem kit_str_str {s : Str} : kitB (kindD (.str s)) "str" = some true := by show kitB "str" "str" = _; decide +kernel
theorem kit_str_list {s : Str} : kitB (kindD (.str s)) "list" = some false := by show kitB "str" "list" = _; decide +kernel
theorem kit_str_tuple {s : Str} : kitB (kindD (.str s)) "tuple" = some false := by show kitB "str" "tuple" = _; decide +kernel
theorem kit_list_int {l : List PyData} : kitB (kindD (.list l)) "int" = some false := by show kitB "list" "int" = _; decide +kernel
theorem kit_list_bool {l : List PyData} : kitB (kindD (.list l)) "bool" = some false := by show kitB "list" "bool" = _; decide +kernel
theorem kit_list_str {l : List PyData} : kitB (kindD (.list l)) "str" = some false := by show kitB "list" "str" = _; decide +kernel
theorem kit_list_list {l : List PyData} : kitB (kindD (.list l)) "list" = some true := by show kitB "list" "list" = _; decide +kernel
theorem kit_list_tuple {l : List PyData} : kitB (kindD (.list l)) "tuple" = some false := by show kitB "list" "tuple" = _; decide +kernel
theorem kit_tuple_int {l : List PyData} : kitB (kindD (.tuple l)) "int" = some false := by show kitB "tuple" "int" = _; decide +kernel
theorem kit_tuple_bool {l : List PyData} : kitB (kindD (.tuple l)) "bool" = some false := by show kitB "tuple" "bool" = _; decide +kernel
theorem kit_tuple_str {l : List PyData} : kitB (kindD (.tuple l)) "str" = some false := by show kitB "tuple" "str" = _; decide +kernel
theorem kit_tuple_list {l : List PyData} : kitB (kindD (.tuple l)) "list" = some false := by show kitB "tuple" "list" = _; decide +kernel
theorem kit_tuple_tuple {l : List PyData} : kitB (kindD (.tuple l)) "tuple" = some true := by show kitB "tuple" "tuple" = _; decide +kernel
/-- a comprehension that draws nothing: of xs those of which k tells something -/
theorem lc_map {α : Type} {g : FG} {ft : FT} {fe : FE} {vs : List Nat} {ρ : En} {P : List PyData → En → Prop} {ds : List PyData} (xs : List α) (e : α → PyData) (k : α → Option PyData) (hd : ds = xs.map e) (hv : vs.all (slotF ρ) = true) (hl : xs.length ≤ sizeLine)
    (st : ∀ (x : α) (R : List PyData → En → Prop) (acc : List PyData), x ∈ xs → acc.length < sizeLine → R (acc ++ (k x).toList) (wipeF ρ vs) →
      g (e x) (wipeF ρ vs) fun ρ3 => ft ρ3 fun b ρ4 => if b = true then fe ρ4 fun y ρ5 => acc.length < sizeLine ∧ vs.all (slotF ρ5) = true ∧ R (acc ++ [y]) (wipeF ρ5 vs) else vs.all (slotF ρ4) = true ∧ R acc (wipeF ρ4 vs))
    (q : P (xs.filterMap k) (wipeF ρ vs)) : lcW ds g ft fe vs ρ P := by
  subst hd
  refine ⟨hv, fun i acc ρ2 => acc = (xs.take i).filterMap k ∧ ρ2 = wipeF ρ vs, ⟨rfl, rfl⟩, ?_, ?_⟩
  · rintro i d acc ρ2 hd ⟨rfl, rfl⟩
    rw [List.getElem?_map] at hd
    cases ex : xs[i]? with
    | none => rw [ex] at hd; cases hd
    | some x =>
      rw [ex] at hd
      cases hd
      have hi := (List.getElem?_eq_some_iff.mp ex).1
      refine st x (fun acc ρ2 => acc = (xs.take (i + 1)).filterMap k ∧ ρ2 = wipeF ρ vs) _ (List.mem_of_getElem? ex) ?_ ⟨?_, rfl⟩
      · refine Nat.lt_of_le_of_lt (List.length_filterMap_le _ _) ?_
        rw [List.length_take]
        omega
      · rw [List.take_add_one, ex, List.filterMap_append]
        cases h : k x <;> simp [h]
  · rintro acc ρ2 ⟨rfl, h⟩
    rw [h, List.length_map, List.take_length]
    exact q
/-- a comprehension by its state: W of the turn, what is laid, the slots -/
theorem lc_inv {α : Type} {g : FG} {ft : FT} {fe : FE} {vs : List Nat} {ρ : En} {P : List PyData → En → Prop} {ds : List PyData} (xs : List α) (e : α → PyData) (W : Nat → List PyData → En → Prop) (hd : ds = xs.map e) (hv : vs.all (slotF ρ) = true) (h0 : W 0 [] (wipeF ρ vs))
    (st : ∀ (i : Nat) (x : α) (acc : List PyData) (ρ2 : En), xs[i]? = some x → i < xs.length → W i acc ρ2 →
      g (e x) ρ2 fun ρ3 => ft ρ3 fun b ρ4 => if b = true then fe ρ4 fun y ρ5 => acc.length < sizeLine ∧ vs.all (slotF ρ5) = true ∧ W (i + 1) (acc ++ [y]) (wipeF ρ5 vs) else vs.all (slotF ρ4) = true ∧ W (i + 1) acc (wipeF ρ4 vs))
    (q : ∀ acc ρ2, W xs.length acc (wipeF ρ2 vs) → P acc (wipeF ρ2 vs)) : lcW ds g ft fe vs ρ P := by
  subst hd
  refine ⟨hv, W, h0, ?_, by rw [List.length_map]; exact q⟩
  intro i d acc ρ2 hd w
  rw [List.getElem?_map] at hd
  cases ex : xs[i]? with
  | none => rw [ex] at hd; cases hd
  | some x =>
    rw [ex] at hd
    cases hd
    exact st i x acc ρ2 ex (List.getElem?_eq_some_iff.mp ex).1 w
theorem boolsF_f {α : Type} {f : α → Bool} {xs : List α} {k : List Bool → Prop} (h : k (xs.map f)) : boolsF (xs.map fun x => .bool (f x)) k := by
  have := boolsF_map (bs := xs.map f) (k := k) h
  rw [List.map_map] at this
  exact this
theorem intsF_f {α : Type} {f : α → Int} {xs : List α} {k : List Int → Prop} (h : k (xs.map f)) : intsF (xs.map fun x => .int (f x)) k := by
  have := intsF_map (bs := xs.map f) (k := k) h
  rw [List.map_map] at this
  exact this
theorem strsF_f {α : Type} {f : α → Str} {xs : List α} {k : List Str → Prop} (h : k (xs.map f)) : strsF (xs.map fun x => .str (f x)) k := by
  have := strsF_map (bs := xs.map f) (k := k) h
  rw [List.map_map] at this
  exact this
theorem filterMap_if {α β : Type} (k : α → Bool) (f : α → β) (xs : List α) : xs.filterMap (fun x => if k x = true then some (f x) else none) = (xs.filter k).map f := by
  induction xs with
  | nil => rfl
  | cons x r ih =>
    rw [List.filterMap_cons, List.filter_cons, ih]
    cases h : k x <;> simp
theorem filterMap_some {α β : Type} (f : α → β) (xs : List α) : xs.filterMap (fun x => some (f x)) = xs.map f := by
  induction xs with
  | nil => rfl
  | cons x r ih => rw [List.filterMap_cons, ih]; rfl
/-- a loop by its state -/
theorem for_map {α : Type} {us : List Nat} {g : FG} {b : FS} {E : FEnds} {ρ : En} {ds : List PyData} (xs : List α) (e : α → PyData) (W : Nat → En → Prop) (hd : ds = xs.map e) (h0 : W 0 (fgt ρ us))
    (st : ∀ (i : Nat) (x : α) (ρ2 : En), xs[i]? = some x → i < xs.length → W i ρ2 → g (e x) ρ2 fun ρ3 => b { E with nx := fun ρ4 => W (i + 1) (fgt ρ4 us), ct := fun ρ4 => W (i + 1) (fgt ρ4 us), bk := E.nx } ρ3) (q : ∀ ρ2, W xs.length ρ2 → E.nx ρ2) : forW us ds g b E ρ := by
  subst hd
  refine ⟨W, h0, ?_, by rw [List.length_map]; exact q⟩
  intro i d ρ2 hd w
  rw [List.getElem?_map] at hd
  cases ex : xs[i]? with
  | none => rw [ex] at hd; cases hd
  | some x =>
    rw [ex] at hd
    cases hd
    exact st i x ρ2 ex (List.getElem?_eq_some_iff.mp ex).1 w
/-- a loop over range(m) -/
theorem for_range {us : List Nat} {g : FG} {b : FS} {E : FEnds} {ρ : En} {lo : Int} {m : Nat} (W : Nat → En → Prop) (h0 : W 0 (fgt ρ us))
    (st : ∀ (i : Nat) (ρ2 : En), i < m → W i ρ2 → g (.int (lo + (i : Int))) ρ2 fun ρ3 => b { E with nx := fun ρ4 => W (i + 1) (fgt ρ4 us), ct := fun ρ4 => W (i + 1) (fgt ρ4 us), bk := E.nx } ρ3) (q : ∀ ρ2, W m ρ2 → E.nx ρ2) : forW us (rangeD lo m) g b E ρ := by
  refine for_map (List.range m) (fun k : Nat => .int (lo + (k : Int))) W rfl h0 (fun i x ρ2 hx hi w => ?_) (by rw [List.length_range]; exact q)
  rw [List.length_range] at hi
  rw [List.getElem?_range hi] at hx
  cases hx
  exact st i ρ2 hi w
/-- a draw -/
theorem take_step {ds : List PyData} {m : Int} {n : Nat} {P : Int → List PyData → Prop} (hb : BoxD ds n) (h0 : 0 < m) (h1 : m < 1073741824) (h2 : n < 1000000000) (k : ∀ r ds', 0 ≤ r → r < m → BoxD ds' (n + 1) → P r ds') : takeF ds m P := ⟨n, hb, h0, h1, h2, k⟩
theorem sz0 : (0 ≤ sizeLine) = True := eq_true (by decide)
theorem sz1 : (1 ≤ sizeLine) = True := eq_true (by decide)
theorem sz2 : (2 ≤ sizeLine) = True := eq_true (by decide)
theorem sz3 : (3 ≤ sizeLine) = True := eq_true (by decide)
theorem sz4 : (4 ≤ sizeLine) = True := eq_true (by decide)
theorem sz5 : (5 ≤ sizeLine) = True := eq_true (by decide)
theorem sz6 : (6 ≤ sizeLine) = True := eq_true (by decide)
theorem sz7 : (7 ≤ sizeLine) = True := eq_true (by decide)
theorem sz8 : (8 ≤ sizeLine) = True := eq_true (by decide)
theorem sz9 : (9 ≤ sizeLine) = True := eq_true (by decide)
theorem sz10 : (10 ≤ sizeLine) = True := eq_true (by decide)
theorem sz11 : (11 ≤ sizeLine) = True := eq_true (by decide)
theorem sz12 : (12 ≤ sizeLine) = True := eq_true (by decide)
theorem sz13 : (13 ≤ sizeLine) = True := eq_true (by decide)
theorem sz14 : (14 ≤ sizeLine) = True := eq_true (by decide)
theorem sz15 : (15 ≤ sizeLine) = True := eq_true (by decide)
theorem sz16 : (16 ≤ sizeLine) = True := eq_true (by decide)
theorem sz17 : (17 ≤ sizeLine) = True := eq_true (by decide)
theorem sz18 : (18 ≤ sizeLine) = True := eq_true (by decide)
theorem sz19 : (19 ≤ sizeLine) = True := eq_true (by decide)
theorem sz20 : (20 ≤ sizeLine) = True := eq_true (by decide)
theorem at0 {α : Type} {x : α} {xs : List α} : L2.atI (x :: xs) 0 = some x := by simp [L2.atI, ixN]
theorem at1 {α : Type} {x y : α} {xs : List α} : L2.atI (x :: y :: xs) 1 = some y := by
  unfold L2.atI ixN
  rw [if_pos (by decide), if_pos (by simp only [List.length_cons]; omega)]
  rfl
theorem at2 {α : Type} {x y z : α} {xs : List α} : L2.atI (x :: y :: z :: xs) 2 = some z := by
  unfold L2.atI ixN
  rw [if_pos (by decide), if_pos (by simp only [List.length_cons]; omega)]
  rfl
theorem at3 {α : Type} {x y z w : α} {xs : List α} : L2.atI (x :: y :: z :: w :: xs) 3 = some w := by
  unfold L2.atI ixN
  rw [if_pos (by decide), if_pos (by simp only [List.length_cons]; omega)]
  rfl
theorem at4 {α : Type} {x y z w v : α} {xs : List α} : L2.atI (x :: y :: z :: w :: v :: xs) 4 = some v := by
  unfold L2.atI ixN
  rw [if_pos (by decide), if_pos (by simp only [List.length_cons]; omega)]
  rfl
theorem at_last {α : Type} {xs : List α} {x : α} (h : xs[xs.length - 1]? = some x) : L2.atI xs (-1) = some x := by
  have hl : xs.length - 1 < xs.length := (List.getElem?_eq_some_iff.mp h).1
  unfold L2.atI
  rw [ixN_last (by omega)]
  exact h
/-- a drawn one of a written list -/
theorem at_mem {α : Type} {xs : List α} {r : Int} (h0 : 0 ≤ r) (h1 : r < xs.length) : ∃ v, L2.atI xs r = some v ∧ v ∈ xs := by
  obtain ⟨j, rfl⟩ := Int.eq_ofNat_of_zero_le h0
  have hj : j < xs.length := by omega
  refine ⟨xs[j], ?_, List.getElem_mem hj⟩
  unfold L2.atI
  rw [ixN_nat hj]
  exact List.getElem?_eq_getElem hj
theorem rangeD_eq (lo : Int) (m : Nat) : rangeD lo m = (List.range m).map fun k : Nat => .int (lo + (k : Int)) := rfl
theorem range_at {m i x : Nat} (h : (List.range m)[i]? = some x) : x = i ∧ i < m := by
  have hi := (List.getElem?_eq_some_iff.mp h).1
  rw [List.length_range] at hi
  rw [List.getElem?_range hi] at h
  exact ⟨(Option.some.inj h).symm, hi⟩
theorem zipD_map {α β : Type} (xs : List α) (ys : List β) (e : α → PyData) (f : β → PyData) : zipD (xs.map e) (ys.map f) = (xs.zip ys).map fun z => .tuple [e z.1, f z.2] := by
  unfold zipD
  rw [List.zip_map, List.map_map]
  rfl
theorem cutD_tail {α : Type} (xs : List α) (e : α → PyData) : cutD (xs.map e) (some 1) none = xs.tail.map e := by
  unfold cutD
  have h : HT.sIx (xs.map e).length 0 (some 1) = min 1 (xs.map e).length := HT.sIx_nat _ _ 1
  rw [h, HT.sIx_none, List.length_map]
  cases xs with
  | nil => rfl
  | cons x r =>
    rw [List.length_cons, Nat.min_eq_left (by omega), List.map_cons, List.drop_succ_cons, List.drop_zero, List.take_of_length_le (by rw [List.length_map]; omega)]
    rfl
theorem cutD_take {α : Type} (xs : List α) (e : α → PyData) (k : Nat) : cutD (xs.map e) none (some (k : Int)) = (xs.take k).map e := by
  unfold cutD
  rw [HT.sIx_nat, HT.sIx_none, List.drop_zero, Nat.sub_zero, List.length_map]
  by_cases h : k ≤ xs.length
  · rw [Nat.min_eq_left h, List.map_take]
  · rw [Nat.min_eq_right (by omega), List.take_of_length_le (by rw [List.length_map]; omega), List.take_of_length_le (by omega)]
theorem cutD_drop {α : Type} (xs : List α) (e : α → PyData) (k : Nat) : cutD (xs.map e) (some (k : Int)) none = (xs.drop k).map e := by
  unfold cutD
  rw [HT.sIx_nat, HT.sIx_none, List.length_map]
  by_cases h : k ≤ xs.length
  · rw [Nat.min_eq_left h, List.take_of_length_le (by rw [List.length_drop, List.length_map]; omega), List.map_drop]
  · rw [Nat.min_eq_right (by omega), List.drop_of_length_le (by rw [List.length_map]; omega), List.take_nil, List.drop_of_length_le (by omega)]
    rfl
theorem atI_nat' {α : Type} {xs : List α} {k : Nat} {x : α} (h : xs[k]? = some x) : L2.atI xs (k : Int) = some x := by
  unfold L2.atI
  rw [ixN_nat (List.getElem?_eq_some_iff.mp h).1]
  exact h
theorem atI_map {α β : Type} (f : α → β) (xs : List α) (k : Int) : L2.atI (xs.map f) k = (L2.atI xs k).map f := by
  unfold L2.atI
  rw [List.length_map]
  cases ixN xs.length k with
  | none => rfl
  | some j => exact List.getElem?_map ..
end DL
/-! objects that stay, keywords, own lists in a parallel assignment, more of own lists -/
namespace DL
open PySem L2 Z PySem.Spec PyProof.Rows
section
variable {K : PySem.W.Frag} {n : Nat}
def objF (c : Str) (d : PyData) (k : List (PyData × PyData) → Prop) : Prop := match d with
  | .dict ((.str c', .none) :: fs) => c' = c ∧ k fs
  | _ => False
theorem objF_of {H : Hp} {c : Str} {C : Addr} {v : V} {d : PyData} {k : List (PyData × PyData) → Prop} (hc : PySem.W.nsIn K mainGlobals c = some (some (.ref C))) (q : Dq K H v d) (h : objF c d k) : ∃ a dx fv fs, v = .ref a ∧ H a = some (.ins C dx fv) ∧ DqFs K H fv fs ∧ k fs := by
  unfold objF at h
  split at h
  · obtain ⟨rfl, h⟩ := h
    cases q with
    | obj e1 e2 r =>
      rw [hc] at e1
      cases e1
      exact ⟨_, _, _, _, rfl, e2, r, h⟩
  · exact h.elim
/-- e.f -/
def fFld (c f : Str) (a : FE) : FE := fun ρ P => a ρ fun d ρ1 => objF c d fun fs => ∃ v, fldD f fs = some v ∧ P v ρ1
theorem re_fld {C : Addr} {c f : Str} {ta : TE} {a : FE} (hc : PySem.W.nsIn K mainGlobals c = some (some (.ref C))) (cl : Cls K C) (na : NoAttr K C f) (ha : RE K ta a) : RE K (tFld K ta f) (fFld c f a) := by
  intro O as σ H Q ρ P E q k
  refine ha O as σ H _ ρ _ E q fun d ρ1 v H1 q1 f1 E1 d1 => ?_
  obtain ⟨x, dx, fv, fs, rfl, e, r, u, hu, p⟩ := objF_of hc d1 q1
  obtain ⟨w, hw, dw⟩ := r.get hu
  exact ⟨x, C, dx, fv, w, rfl, (hp_some e).2, cl, na, hw, k _ _ _ _ p f1 E1 dw⟩
/-- how __init__ lays the fields -/
def RMk (K : PySem.W.Frag) (C : Addr) (sp : Sp) (G : List PyData → (List (PyData × PyData) → Prop) → Prop) : Prop := ∀ (A : Addr → Prop) (H : Hp) (x dx : Addr) (vs : List V) (ds : List PyData) (Q : VK) (E : XK) (P : List (PyData × PyData) → Prop),
  DqAll K (hp A H) vs ds → G ds P → H x = some (.ins C dx []) → (∀ fs fv H', P fs → (∀ a o, a ≠ x → H a = some o → H' a = some o) → H' x = some (.ins C dx fv) → DqFs K (hp A H') fv fs → Q .non H') → sp (.ref x :: vs) H Q E
theorem mk_core {O : Addr → Prop} {as : Nat → Option Addr} {H : Hp} {ρ : En} {σ : L2.St} {C x dx : Addr} {c : Str} {sp : Sp} {G : List PyData → (List (PyData × PyData) → Prop) → Prop} {vs : List V} {ds : List PyData} {Q : VK} {E0 : XK} {P : PyData → En → Prop}
    (hc : PySem.W.nsIn K mainGlobals c = some (some (.ref C))) (h : RMk K C sp G) (E : EnR K O as H ρ σ) (dv : DqAll K (hp (Hid O as) H) vs ds) (g : G ds fun fs => P (.dict ((.str c, .none) :: fs)) ρ) (hx : H x = none) (hd : H dx = none) (ne : dx ≠ x)
    (k : ∀ d ρ' v H', P d ρ' → FrA (Own as) H H' → EnR K O as H' ρ' σ → Dq K (hp (Hid O as) H') v d → Q v H') :
    sp (.ref x :: vs) (upd (upd H dx (.own x)) x (.ins C dx [])) (fun v H2 => v = .non ∧ Q (.ref x) H2) E0 := by
  have s1 : Same H (upd (upd H dx (.own x)) x (.ins C dx [])) := fun a o e => by
    rw [upd_ne (ne_of_none e hx), upd_ne (ne_of_none e hd)]
    exact e
  refine h (Hid O as) _ x dx vs ds _ _ _ (dv.mono (hp_grow s1)) g upd_same fun fs fv H' p fr e r => ⟨rfl, ?_⟩
  have s2 : Same H H' := fun a o e => fr a o (ne_of_none e hx) (s1 a o e)
  exact k _ _ _ _ p (FrA.of s2) (E.grow s2) (.obj hc (hp_mk (E.fresh hx) e) r)
def fMk (c : Str) (G : List PyData → (List (PyData × PyData) → Prop) → Prop) (dv : List PyData) (f : FA) : FE := fun ρ P => f ρ fun ds ρ1 => G (ds ++ dv) fun fs => P (.dict ((.str c, .none) :: fs)) ρ1
theorem re_mk {C : Addr} {c : Str} {sp : Sp} {G : List PyData → (List (PyData × PyData) → Prop) → Prop} {dvs : List V} {dv : List PyData} {E0 : XK} {t : TA} {f : FA} (hc : PySem.W.nsIn K mainGlobals c = some (some (.ref C))) (h : RMk K C sp G) (hd : ∀ H, DqAll K H dvs dv) (ha : RA K t f) : RE K (tMake C sp dvs E0 t) (fMk c G dv f) := by
  intro O as σ H Q ρ P E q k
  refine ha O as σ H _ ρ _ E q fun ds ρ1 vs H1 q1 f1 E1 d1 => ?_
  intro x dx hx hdx ne
  exact mk_core hc h E1 (d1.append (hd _)) q1 hx hdx ne fun d ρ' v H' p fr E' q' => k d ρ' v H' p (f1.trans fr) E' q'
def fMkN (c : Str) (G : List PyData → (List (PyData × PyData) → Prop) → Prop) (n m : Nat) (gD : List PyData → List PyData → List PyData) (f fk : FA) : FE := fun ρ P => f ρ fun ds ρ1 => fk ρ1 fun es ρ2 => ds.length = n ∧ es.length = m ∧ G (gD ds es) fun fs => P (.dict ((.str c, .none) :: fs)) ρ2
theorem re_mkN {C : Addr} {c : Str} {sp : Sp} {G : List PyData → (List (PyData × PyData) → Prop) → Prop} {n m : Nat} {gV : List V → List V → List V} {gD : List PyData → List PyData → List PyData} {E0 : XK} {t tk : TA} {f fk : FA} (hc : PySem.W.nsIn K mainGlobals c = some (some (.ref C))) (h : RMk K C sp G)
    (hg : ∀ (x : Addr) (vs zs : List V) (ds es : List PyData) (H : Hp), DqAll K H vs ds → DqAll K H zs es → ∃ ws, gV (.ref x :: vs) zs = .ref x :: ws ∧ DqAll K H ws (gD ds es)) (ha : RA K t f) (hk : RA K tk fk) : RE K (tMakeN C n m sp gV E0 t tk) (fMkN c G n m gD f fk) := by
  intro O as σ H Q ρ P E q k
  refine ha O as σ H _ ρ _ E q fun ds ρ1 vs H1 q1 f1 E1 d1 => ?_
  refine hk O as σ H1 _ ρ1 _ E1 q1 fun es ρ2 zs H2 q2 f2 E2 d2 => ?_
  obtain ⟨l1, l2, q2⟩ := q2
  refine ⟨by rw [d1.length]; exact l1, by rw [d2.length]; exact l2, fun x dx hx hdx ne => ?_⟩
  obtain ⟨ws, e, r⟩ := hg x vs zs ds es _ (d1.fr f2) d2
  rw [e]
  exact mk_core hc h E2 r q2 hx hdx ne fun d ρ' v H' p fr E' q' => k d ρ' v H' p ((f1.trans f2).trans fr) E' q'
/-- a call with keywords, data alone -/
def fCallN (F : FN) (n m : Nat) (gD : List PyData → List PyData → List PyData) (f fk : FA) : FE := fun ρ P => f ρ fun ds ρ1 => fk ρ1 fun es ρ2 => ds.length = n ∧ es.length = m ∧ F ((gD ds es).map .fz) fun d _ => P d ρ2
theorem ownIx_dat : ∀ ds : List PyData, ownIx (ds.map .dat) = []
  | [] => rfl
  | _ :: r => ownIx_dat r
theorem wb_dat (ρ : En) : ∀ (ds : List PyData) (r : List Sl), wb ρ (ds.map .dat) r = ρ
  | [], _ => rfl
  | _ :: ds, r => wb_dat ρ ds r.tail
theorem re_callN {l n m : Nat} {F : FN} {gV : List V → List V → List V} {gD : List PyData → List PyData → List PyData} {E0 : XK} {t tk : TA} {f fk : FA}
    (hl : ∀ ds es : List PyData, ds.length = n → es.length = m → (gD ds es).length = l)
    (hg : ∀ (vs zs : List V) (ds es : List PyData) (H : Hp), DqAll K H vs ds → DqAll K H zs es → DqAll K H (gV vs zs) (gD ds es)) (ha : RA K t f) (hk : RA K tk fk) : RE K (tCallN n m (spF K l F) gV E0 t tk) (fCallN F n m gD f fk) := by
  intro O as σ H Q ρ P E q k
  refine ha O as σ H _ ρ _ E q fun ds ρ1 vs H1 q1 f1 E1 d1 => ?_
  refine hk O as σ H1 _ ρ1 _ E1 q1 fun es ρ2 zs H2 q2 f2 E2 d2 => ?_
  obtain ⟨l1, l2, q2⟩ := q2
  refine ⟨by rw [d1.length]; exact l1, by rw [d2.length]; exact l2, ?_⟩
  refine call_core (xs := (gD ds es).map .dat) E2 (fits_dat _) (dat_ars (hg _ _ _ _ _ (d1.fr f2) d2)) (by rw [List.length_map]; exact hl _ _ l1 l2) (by rw [ownIx_dat]; exact .nil) ?_ fun d ρ' v H' p fr E' q' => k d ρ' v H' p ((f1.trans f2).trans fr) E' q'
  simp only [wb_dat]
  exact q2
/-! own lists in a parallel assignment -/
theorem EnR.ownNew {O : Addr → Prop} {as : Nat → Option Addr} {H : Hp} {ρ : En} {σ : L2.St} {p : Addr} {xs : List V} {ds : List PyData} {i : Nat} (E : EnR K (plus O p) as H ρ σ) (hi : i < ρ.length) (np : ¬ Hid O as p) (h : H p = some (.lst xs)) (d : DqAll K (hp (Hid (plus O p) as) H) xs ds) :
    EnR K O (upA as i (some p)) H (ρ.set i (.own ds)) (σ.set i (some (.ref p))) := by
  have hS : Same (hp (Hid (plus O p) as) H) (hp (fun a => Hid O as a ∨ a = p) H) := hp_less fun a q => by
    rcases q with (q | q) | q
    · exact .inl (.inl q)
    · exact .inr q
    · exact .inl (.inr q)
  exact E.lessO.setOwn hi np h (fun j sl o h1 h2 _ => (E.at_ j sl o h1 h2).mono hS fun b hb => rfl) (d.mono hS)
theorem same_plus {O : Addr → Prop} {as : Nat → Option Addr} {H H' : Hp} {p : Addr} (f : FrA (Own as) H H') (h : H p = none) : Same (hp (Hid O as) H) (hp (Hid (plus O p) as) H') := fun a o e => by
  obtain ⟨na, e⟩ := hp_some e
  refine hp_mk (fun z => ?_) (f a o (fun z => na (.inr z)) e)
  rcases z with (z | z) | z
  · exact na (.inl z)
  · rw [z, h] at e; cases e
  · exact na (.inr z)
theorem ext_own {as : Nat → Option Addr} {H H' : Hp} {p : Addr} {i : Nat} (f : FrA (Own as) H H') (hi : n ≤ i) (h : H p = none) : Ext n as (upA as i (some p)) H H' := by
  refine ⟨f, fun a q => ?_, fun j hj => upA_ne (by omega)⟩
  rcases q.up with q | q
  · rw [← Option.some.inj q]; exact .inr h
  · exact .inl q
/-- i, j = e, [..] -/
def fParO2 (i j : Nat) (a : FE) (b : FA) : FS := fun E ρ => a ρ fun d ρ1 => b ρ1 fun ds ρ2 => gN i d ρ2 fun ρ3 => j < ρ3.length ∧ E.nx (ρ3.set j (.own ds))
theorem none_back {as : Nat → Option Addr} {O : Addr → Prop} {H H1 : Hp} {ρ : En} {σ : L2.St} {p : Addr} (E1 : EnR K O as H1 ρ σ) (f : FrA (Own as) H H1) (h : H1 p = none) : H p = none := by
  cases e : H p with
  | none => rfl
  | some o =>
    by_cases w : Own as p
    · exact absurd (.inr w) (E1.fresh h)
    · rw [f _ _ w e] at h; cases h
theorem rs_parO2 {i j : Nat} {ta tn : TE} {a : FE} {b : FA} (hj : n ≤ j) (ha : RE K ta a) (hb : RN K tn b) : RS K n (tPar i j (tCons ta (tCons tn tNil))) (fParO2 i j a b) := by
  intro O as σ H D ρ E R f C
  refine ha O as σ H _ ρ _ R f fun d ρ1 v H1 q1 f1 E1 d1 => ?_
  refine hb O as σ H1 _ ρ1 _ E1 q1 fun ds ρ2 p xs H2 q2 f2 hp1 E2 hp2 d2 => ?_
  refine ⟨_, _, rfl, ?_⟩
  exact C.nx _ _ _ _ q2.2.2 (ext_own (f1.trans f2) hj (none_back E1 f1 hp1)) ((E2.setFz q2.1 (d1.mono (same_plus f2 hp1))).ownNew q2.2.1 (fun z => E1.fresh hp1 z) hp2 d2)
/-- i, j = [..], e -/
def fParO1 (i j : Nat) (b : FA) (a : FE) : FS := fun E ρ => b ρ fun ds ρ1 => a ρ1 fun d ρ2 => i < ρ2.length ∧ slotF (ρ2.set i (.own ds)) j = true ∧ E.nx ((ρ2.set i (.own ds)).set j (.fz d))
theorem rs_parO1 {i j : Nat} {ta tn : TE} {a : FE} {b : FA} (hi : n ≤ i) (hb : RN K tn b) (ha : RE K ta a) : RS K n (tPar i j (tCons tn (tCons ta tNil))) (fParO1 i j b a) := by
  intro O as σ H D ρ E R f C
  refine hb O as σ H _ ρ _ R f fun ds ρ1 p xs H1 q1 f1 hp1 E1 hp2 d1 => ?_
  refine ha (plus O p) as σ H1 _ ρ1 _ E1 q1 fun d ρ2 v H2 q2 f2 E2 d2 => ?_
  refine ⟨_, _, rfl, ?_⟩
  have np := R.fresh hp1
  have hp3 : H2 p = some (.lst xs) := f2 _ _ (fun z => np (.inr z)) hp2
  have E3 := E2.ownNew (i := i) q2.1 np hp3 (d1.fr f2)
  have E4 := E3.setFz (v := v) q2.2.1 (d2.mono (hp_less fun a z => by
    rcases z with z | z
    · exact .inl (.inl z)
    · rcases z.up with z | z
      · exact .inl (.inr (Option.some.inj z).symm)
      · exact .inr z))
  exact C.nx _ _ _ _ q2.2.2 (ext_own (f1.trans f2) hi hp1) E4
/-- i, j, l = e, e', [..] -/
def fPar3O3 (i j l : Nat) (a a' : FE) (b : FA) : FS := fun E ρ => a ρ fun d ρ1 => a' ρ1 fun d' ρ2 => b ρ2 fun ds ρ3 => gN i d ρ3 fun ρ4 => gN j d' ρ4 fun ρ5 => l < ρ5.length ∧ E.nx (ρ5.set l (.own ds))
theorem rs_par3O3 {i j l : Nat} {ta ta' tn : TE} {a a' : FE} {b : FA} (hl : n ≤ l) (ha : RE K ta a) (ha' : RE K ta' a') (hb : RN K tn b) : RS K n (tPar3 i j l (tCons ta (tCons ta' (tCons tn tNil)))) (fPar3O3 i j l a a' b) := by
  intro O as σ H D ρ E R f C
  refine ha O as σ H _ ρ _ R f fun d ρ1 v H1 q1 f1 E1 d1 => ?_
  refine ha' O as σ H1 _ ρ1 _ E1 q1 fun d' ρ2 v' H2 q2 f2 E2 d2 => ?_
  refine hb O as σ H2 _ ρ2 _ E2 q2 fun ds ρ3 p xs H3 q3 f3 hp1 E3 hp2 d3 => ?_
  refine ⟨_, _, _, rfl, ?_⟩
  exact C.nx _ _ _ _ q3.2.2.2 (ext_own ((f1.trans f2).trans f3) hl (none_back E1 f1 (none_back E2 f2 hp1))) (((E3.setFz q3.1 ((d1.fr f2).mono (same_plus f3 hp1))).setFz q3.2.1 (d2.mono (same_plus f3 hp1))).ownNew q3.2.2.1 (fun z => E2.fresh hp1 z) hp2 d3)
/-- own[k] += e -/
def fAugO (i : Nat) (b a : FE) (h : Int → Int → Int) : FS := fun E ρ => ownF ρ i fun _ => b ρ fun x ρ1 => intF x fun k => ownF ρ1 i fun ds => ∃ c, atI ds k = some (.int c) ∧ a ρ1 fun y ρ2 => intF y fun y => ownF ρ2 i fun es => ∃ j, ixN es.length k = some j ∧ E.nx (ρ2.set i (.own (es.set j (.int (h c y)))))
theorem rs_augO {i : Nat} {ti te : TE} {b a : FE} {h : Int → Int → Int} (hb : RE K ti b) (ha : RE K te a) : RS K n (tAugS (tVar i) ti te (rIxL K) (ipI h) rSetL) (fAugO i b a h) := by
  intro O as σ H D ρ E R f C
  obtain ⟨ds0, h0, f⟩ := ownF_of f
  obtain ⟨p, xs0, e1, e2, e3, _⟩ := R.own_at h0
  refine ⟨_, e1, ?_⟩
  refine hb O as σ H _ ρ _ R f fun x ρ1 v H1 q1 f1 E1 d1 => ?_
  unfold intF at q1
  split at q1
  · next z =>
    cases d1
    obtain ⟨ds, hds, c, hc, q1⟩ := ownF_of q1
    obtain ⟨p', xs, e1', e2', e3', e4'⟩ := E1.own_at hds
    rw [e2] at e2'
    cases e2'
    obtain ⟨u, hu, du⟩ := e4'.atI hc
    cases du
    refine ⟨p, xs, z, _, rfl, rfl, SqL.of e3', hu, ?_⟩
    refine ha O as σ H1 _ ρ1 _ E1 q1 fun y ρ2 w H2 q2 f2 E2 d2 => ?_
    unfold intF at q2
    split at q2
    · cases d2
      obtain ⟨es, hes, j, hj, q2⟩ := ownF_of q2
      obtain ⟨p'', ys, e1'', e2'', e3'', e4''⟩ := E2.own_at hes
      rw [e2] at e2''
      cases e2''
      refine ⟨_, _, rfl, rfl, p, ys, z, j, rfl, rfl, e3'', by rw [e4''.length]; exact hj, ?_⟩
      refine C.nx _ _ _ _ q2 (.of ((f1.trans f2).trans fun b o nb e => ?_)) (E2.put e2 (e4''.set (.int _) j))
      rw [upd_ne (fun z : b = p => nb (by rw [z]; exact ⟨i, e2⟩))]
      exact e
    · exact q2.elim
  · exact q1.elim
/-- i, j = e, [..] by way of the tuple -/
theorem rs_asgO2 {i j : Nat} {ta tn : TE} {a : FE} {b : FA} (hj : n ≤ j) (ha : RE K ta a) (hb : RN K tn b) : RS K n (tAsg (tTup (tCons ta (tCons tn tNil))) (gTup K 2 (gCons (gName i) (gCons (gName j) gNil)))) (fParO2 i j a b) := by
  intro O as σ H D ρ E R f C
  refine ha O as σ H _ ρ _ R f fun d ρ1 v H1 q1 f1 E1 d1 => ?_
  refine hb O as σ H1 _ ρ1 _ E1 q1 fun ds ρ2 p xs H2 q2 f2 hp1 E2 hp2 d2 => ?_
  refine ⟨by show 2 ≤ sizeLine; decide, fun T hT => ?_⟩
  have s3 := Same.new (o := .tup [v, .ref p]) hT
  refine ⟨T, _, rfl, SqT.of upd_same, rfl, _, _, rfl, _, _, rfl, rfl, ?_⟩
  have E3 := E2.grow s3
  exact C.nx _ _ _ _ q2.2.2 (ext_own ((f1.trans f2).trans (FrA.of s3)) hj (none_back E1 f1 hp1)) ((E3.setFz q2.1 ((d1.mono (same_plus f2 hp1)).mono (hp_grow s3))).ownNew q2.2.1 (fun z => E1.fresh hp1 z) (s3 _ _ hp2) (d2.mono (hp_grow s3)))
/-- own == e, own != e -/
def fEqO (h : Bool → Bool) (i : Nat) (b : FE) : FE := fun ρ P => ownF ρ i fun _ => b ρ fun y ρ1 => ownF ρ1 i fun ds => SeqAt.shaped (.list ds) = true ∧ SeqAt.shaped y = true ∧ P (.bool (h (PyData.eqv (.list ds) y))) ρ1
theorem own_dp {O : Addr → Prop} {as : Nat → Option Addr} {H : Hp} {ρ : En} {σ : L2.St} {i : Nat} {ds : List PyData} (E : EnR K O as H ρ σ) (h : ρ[i]? = some (.own ds)) (sh : SeqAt.shaped (.list ds) = true) : ∃ a, as i = some a ∧ σ[i]? = some (some (.ref a)) ∧ Dp K H (.ref a) (.list ds) := by
  obtain ⟨a, xs, e1, e2, e3, e4⟩ := E.own_at h
  exact ⟨a, e2, e1, .lst (SqL.of e3) (DpAll.mono hp_same (e4.dp (plain_of sh)))⟩
theorem re_eqO {i : Nat} {tb : TE} {b : FE} (hb : RE K tb b) : RE K (tOp (rEqD K) (tVar i) tb) (fEqO id i b) := by
  intro O as σ H Q ρ P E q k
  obtain ⟨ds0, h0, q⟩ := ownF_of q
  obtain ⟨a, xs0, e1, e2, _, _⟩ := E.own_at h0
  refine ⟨_, e1, ?_⟩
  refine hb O as σ H _ ρ _ E q fun x ρ1 v H1 q1 f1 E1 d1 => ?_
  obtain ⟨ds, hds, s1, s2, p⟩ := ownF_of q1
  obtain ⟨a', e2', _, dp⟩ := own_dp E1 hds s1
  rw [e2] at e2'
  cases e2'
  exact ⟨_, _, dp, Dp.mono hp_same (d1.dp (plain_of s2)), s1, s2, k _ _ _ _ p f1 E1 (.bl _)⟩
theorem re_neO {i : Nat} {tb : TE} {b : FE} (hb : RE K tb b) : RE K (tOp (rNeD K) (tVar i) tb) (fEqO not i b) := by
  intro O as σ H Q ρ P E q k
  obtain ⟨ds0, h0, q⟩ := ownF_of q
  obtain ⟨a, xs0, e1, e2, _, _⟩ := E.own_at h0
  refine ⟨_, e1, ?_⟩
  refine hb O as σ H _ ρ _ E q fun x ρ1 v H1 q1 f1 E1 d1 => ?_
  obtain ⟨ds, hds, s1, s2, p⟩ := ownF_of q1
  obtain ⟨a', e2', _, dp⟩ := own_dp E1 hds s1
  rw [e2] at e2'
  cases e2'
  exact ⟨_, _, dp, Dp.mono hp_same (d1.dp (plain_of s2)), s1, s2, k _ _ _ _ p f1 E1 (.bl _)⟩
end
end DL
/-! how long data's text may be -/
namespace Z
open PySem L2 TL
mutual
def szD : PyData → Nat
  | .none => 4
  | .bool _ => 5
  | .int i => (Str.ofString (toString i)).length
  | .str x => 10 * x.length + 2
  | .list xs => szAll xs + 2
  | .tuple xs => szAll xs + 3
  | .dict _ => 0
def szAll : List PyData → Nat
  | [] => 0
  | x :: r => szD x + 2 + szAll r
end
theorem slen_append (x y : Str) : (x ++ y).length = x.length + y.length := by rw [len_tl, len_tl x, len_tl y, tl_append, List.length_append]
theorem textFrom_le : ∀ (ts : List Str) (k : Nat) (acc : Str), (textFrom k acc ts).length ≤ acc.length + piled ts
  | [], _, acc => Nat.le_add_right _ _
  | t :: ts, k, acc => by
    have ih := textFrom_le ts (k + 1) (acc ++ Str.ofString (if k > 0 then ", " else "" : String) ++ t)
    rw [slen_append, slen_append] at ih
    have e : (Str.ofString (if k > 0 then ", " else "" : String)).length ≤ 2 := by
      split
      · exact (by decide +kernel : (Str.ofString ", ").length ≤ 2)
      · exact (by decide +kernel : (Str.ofString "").length ≤ 2)
    have p : piled (t :: ts) = t.length + 2 + piled ts := by simp [piled]
    show (textFrom (k + 1) (acc ++ Str.ofString (if k > 0 then ", " else "" : String) ++ t) ts).length ≤ _
    rw [p]
    omega
theorem listText_le (ts : List Str) : (listText ts).length ≤ piled ts + 2 := by
  have h := textFrom_le ts 0 (Str.ofString "[")
  have e1 : (Str.ofString "[").length = 1 := by decide +kernel
  have e2 : (Str.ofString "]").length = 1 := by decide +kernel
  show (textFrom 0 (Str.ofString "[") ts ++ Str.ofString "]").length ≤ _
  rw [slen_append]
  omega
theorem join_le : ∀ ts : List Str, (Str.join (Str.ofString ", ") ts).length ≤ piled ts
  | [] => Nat.zero_le _
  | t :: ts => by
    have h := join_length_add (t :: ts) (by simp)
    have h' : (Str.join (Str.ofString ", ") (t :: ts)).length + 2 = piled (t :: ts) := h
    omega
theorem tupleText_le (ts : List Str) : (tupleText ts).length ≤ piled ts + 3 := by
  have h := join_le ts
  have e1 : (Str.ofString "(").length = 1 := by decide +kernel
  have e2 : (Str.ofString (if (ts.length == 1) = true then ",)" else ")" : String)).length ≤ 2 := by
    split
    · exact (by decide +kernel : (Str.ofString ",)").length ≤ 2)
    · exact (by decide +kernel : (Str.ofString ")").length ≤ 2)
  show (Str.ofString "(" ++ Str.join (Str.ofString ", ") ts ++ Str.ofString (if (ts.length == 1) = true then ",)" else ")" : String)).length ≤ _
  rw [slen_append, slen_append]
  omega
mutual
theorem shown_le : ∀ d : PyData, d.canLay0 = true → d.shown.length ≤ szD d
  | .none, _ => (by decide +kernel : (Str.ofString "None").length ≤ 4)
  | .bool true, _ => (by decide +kernel : (Str.ofString "True").length ≤ 5)
  | .bool false, _ => (by decide +kernel : (Str.ofString "False").length ≤ 5)
  | .int i, _ => Nat.le_refl _
  | .str x, h => by
    refine StrLaws.reprText_len x fun c hc => ?_
    have h' : (x.cps.all (· < 0x110000)) = true := h
    have := (Array.all_eq_true_iff_forall_mem.mp h') c (Array.mem_toList_iff.mp hc)
    have := of_decide_eq_true this
    omega
  | .list xs, h => by
    have ih := shownAll_le xs h
    have := listText_le (PyData.shownAll xs)
    show (listText (PyData.shownAll xs)).length ≤ szAll xs + 2
    omega
  | .tuple xs, h => by
    have ih := shownAll_le xs h
    have := tupleText_le (PyData.shownAll xs)
    show (tupleText (PyData.shownAll xs)).length ≤ szAll xs + 3
    omega
  | .dict _, h => by cases h
theorem shownAll_le : ∀ ds : List PyData, PyData.canLayAll0 ds = true → piled (PyData.shownAll ds) ≤ szAll ds
  | [], _ => Nat.zero_le _
  | x :: r, h => by
    have h' : (x.canLay0 && PyData.canLayAll0 r) = true := h
    rw [Bool.and_eq_true] at h'
    have h1 := shown_le x h'.1
    have h2 := shownAll_le r h'.2
    have e : piled (PyData.shownAll (x :: r)) = x.shown.length + 2 + piled (PyData.shownAll r) := by
      show piled (x.shown :: PyData.shownAll r) = _
      simp [piled]
    rw [e]
    show _ ≤ szD x + 2 + szAll r
    omega
end
theorem szInt {i : Int} (h0 : 0 ≤ i) (h : i < 10 ^ 10) : szD (.int i) ≤ 10 := PyProof.Rows.toString_length_le h0 (by decide) h
end Z
/-! rules: plain -/
namespace Z
open PySem L2
def ruleD (r : List (Int × Int)) : PyData := .tuple (r.map fun p => .tuple [.int p.1, .int p.2])
def partAt (r : List (Int × Int)) (age : Int) : Int := r.foldl (fun f p => if p.1 ≤ age then p.2 else f) 100
def priceBy (r : List (Int × Int)) (p age : Int) : Int := if p * partAt r age / 100 > 1 then p * partAt r age / 100 else 1
theorem ruleD_get {K : PySem.W.Frag} {H : Hp} {xs : List V} {r : List (Int × Int)} {i : Nat} {x : V} (h : DpAll K H xs (r.map fun p => .tuple [.int p.1, .int p.2])) (hx : xs[i]? = some x) :
    ∃ p : Int × Int, r[i]? = some p ∧ ∃ t : Addr, SqT K H t [.int p.1, .int p.2] ∧ x = .ref t := by
  obtain ⟨d, hd, dx⟩ := DpAll.get h hx
  rw [List.getElem?_map] at hd
  cases e : r[i]? with
  | none => rw [e] at hd; cases hd
  | some p =>
    rw [e] at hd
    have hd := Option.some.inj hd
    subst hd
    obtain ⟨t, ys, rfl, sq, dy⟩ := Dp.tuple_of dx
    refine ⟨p, rfl, t, ?_, rfl⟩
    cases dy with
    | cons a b =>
      cases a
      cases b with
      | cons a b =>
        cases a
        cases b
        exact sq
theorem partAt_take {r : List (Int × Int)} {i : Nat} {age : Int} {p : Int × Int} (h : r[i]? = some p) : partAt (r.take (i + 1)) age = if p.1 ≤ age then p.2 else partAt (r.take i) age := by
  unfold partAt
  rw [List.take_add_one, h, List.foldl_append]
  rfl
end Z
/-! tags: plain -/
namespace Z
open PySem L2 TL
/-- a text of one to eight small letters -/
structure NameS (s : Str) : Prop where
  least : 1 ≤ (tl s).length
  most : (tl s).length ≤ 8
  small : ∀ c ∈ tl s, 97 ≤ c ∧ c ≤ 122
def smalls (z : List Nat) : Bool := z.all fun c => decide (97 ≤ c ∧ c ≤ 122)
def isNameD : PyData → Bool
  | .str s => decide (1 ≤ (tl s).length ∧ (tl s).length ≤ 8) && smalls (tl s)
  | _ => false
def isWholeD (lo hi : Int) : PyData → Bool
  | .int i => decide (lo ≤ i ∧ i ≤ hi)
  | _ => false
theorem NameS.is {s : Str} (h : NameS s) : isNameD (.str s) = true := by
  show (decide (1 ≤ (tl s).length ∧ (tl s).length ≤ 8) && smalls (tl s)) = true
  rw [decide_eq_true ⟨h.least, h.most⟩, Bool.true_and]
  exact List.all_eq_true.mpr fun c hc => decide_eq_true (h.small c hc)
theorem abc : tl (Str.ofString "abcdefghijklmnopqrstuvwxyz") = List.range' 97 26 := by decide +kernel
theorem small_mem (c : Nat) : decide (c ∈ tl (Str.ofString "abcdefghijklmnopqrstuvwxyz")) = decide (97 ≤ c ∧ c ≤ 122) := by
  rw [abc]
  apply decide_eq_decide.mpr
  rw [List.mem_range'_1]
  omega
theorem abc_at {d : Nat} (h : d < 26) : atI (Str.ofString "abcdefghijklmnopqrstuvwxyz").cps.toList (d : Int) = some (97 + d) := by
  have e : (Str.ofString "abcdefghijklmnopqrstuvwxyz").cps.toList = List.range' 97 26 := abc
  rw [e]
  refine atI_nat ?_
  rw [List.getElem?_range' (by omega)]
  simp
/-- what a tag has -/
structure Five where
  owner : Str
  number : Int
  price : Int
  least : Int
  day : Int
structure Five.Ok (f : Five) : Prop where
  owner : NameS f.owner
  n1 : 1 ≤ f.number
  n2 : f.number ≤ 9999
  p1 : 1 ≤ f.price
  p2 : f.price ≤ 99999
  l1 : 0 ≤ f.least
  l2 : f.least ≤ f.price
  d1 : 0 ≤ f.day
  d2 : f.day ≤ 999
def fiveD (f : Five) : PyData := .tuple [.str f.owner, .int f.number, .int f.price, .int f.least, .int f.day]
def tagF (f : Five) : List (Str × V) := putF "day" (.int f.day) (putF "least" (.int f.least) (putF "price" (.int f.price) (putF "number" (.int f.number) (putF "owner" (.str f.owner) []))))
theorem tagF_eq (f : Five) : tagF f = ([(Str.ofString "owner", V.str f.owner), (Str.ofString "number", V.int f.number), (Str.ofString "price", V.int f.price), (Str.ofString "least", V.int f.least), (Str.ofString "day", V.int f.day)] : List (Str × V)) := by
  have h1 : ¬ (Str.ofString "owner" = Str.ofString "number") := by decide +kernel
  have h2 : ¬ (Str.ofString "owner" = Str.ofString "price") := by decide +kernel
  have h3 : ¬ (Str.ofString "number" = Str.ofString "price") := by decide +kernel
  have h4 : ¬ (Str.ofString "owner" = Str.ofString "least") := by decide +kernel
  have h5 : ¬ (Str.ofString "number" = Str.ofString "least") := by decide +kernel
  have h6 : ¬ (Str.ofString "price" = Str.ofString "least") := by decide +kernel
  have h7 : ¬ (Str.ofString "owner" = Str.ofString "day") := by decide +kernel
  have h8 : ¬ (Str.ofString "number" = Str.ofString "day") := by decide +kernel
  have h9 : ¬ (Str.ofString "price" = Str.ofString "day") := by decide +kernel
  have h0 : ¬ (Str.ofString "least" = Str.ofString "day") := by decide +kernel
  simp [tagF, putF, h1, h2, h3, h4, h5, h6, h7, h8, h9, h0]
theorem tagF_owner (f : Five) : (tagF f).lookup ("owner" : Str) = some (.str f.owner) := by
  unfold tagF
  rw [lookup_putF, if_neg (by decide +kernel), lookup_putF, if_neg (by decide +kernel), lookup_putF, if_neg (by decide +kernel), lookup_putF, if_neg (by decide +kernel), lookup_putF, if_pos rfl]
theorem tagF_number (f : Five) : (tagF f).lookup ("number" : Str) = some (.int f.number) := by
  unfold tagF
  rw [lookup_putF, if_neg (by decide +kernel), lookup_putF, if_neg (by decide +kernel), lookup_putF, if_neg (by decide +kernel), lookup_putF, if_pos rfl]
theorem tagF_price (f : Five) : (tagF f).lookup ("price" : Str) = some (.int f.price) := by
  unfold tagF
  rw [lookup_putF, if_neg (by decide +kernel), lookup_putF, if_neg (by decide +kernel), lookup_putF, if_pos rfl]
theorem tagF_least (f : Five) : (tagF f).lookup ("least" : Str) = some (.int f.least) := by
  unfold tagF
  rw [lookup_putF, if_neg (by decide +kernel), lookup_putF, if_pos rfl]
theorem tagF_day (f : Five) : (tagF f).lookup ("day" : Str) = some (.int f.day) := by
  unfold tagF
  rw [lookup_putF, if_pos rfl]
/-- at t a tag -/
def TagAt (C : Addr) (H : Hp) (t : Addr) (f : Five) : Prop := ∃ dx, H t = some (.ins C dx (tagF f))
theorem TagAt.keep {C : Addr} {H H' : Hp} {t : Addr} {f : Five} (h : TagAt C H t f) (k : KeepT H H') : TagAt C H' t f := by
  obtain ⟨dx, e⟩ := h
  exact ⟨dx, k _ _ trivial e⟩
end Z
namespace K
open PySem L2 Z TL DL
local macro_rules | `(tactic| walk_at "z1") => `(tactic| first | with_reducible refine iteT ?_ | with_reducible refine iteF ?_ | with_reducible refine iteDS rfl ?_ | with_reducible refine iteNS rfl ?_ | ((with_reducible refine iteDN ?hN ?_); (case hN => (intro h; cases h; done))) | ((with_reducible refine iteNDN ?hN ?_); (case hN => (intro h; cases h; done))) | ((fail_if_success (with_reducible refine iteD (fun _ => ?_) (fun _ => ?_))); (fail_if_success (with_reducible refine iteND (fun _ => ?_) (fun _ => ?_))); first
  | refine ⟨_, rfl, ?_⟩
  | refine ⟨_, _, rfl, rfl, ?_⟩
  | refine ⟨rfl, ?_⟩
  | refine ⟨(by show (0 : Int) < _; first | decide | omega), ?_⟩
  | refine ⟨⟨by decide, by decide⟩, ?_⟩
  | refine ⟨⟨(by show (0 : Int) < _; omega), (by show _ < (1073741824 : Int); omega)⟩, ?_⟩
  | refine ⟨⟨by decide, by decide, by decide⟩, ?_⟩
  | refine ⟨.inl ⟨by omega, by omega⟩, ?_⟩
  | refine ⟨.inr ⟨by omega, by omega⟩, ?_⟩
  | refine .inl ⟨_, rfl, ?_⟩
  | refine .inr ⟨_, rfl, ?_⟩
  | refine ⟨_, _, _, _, rfl, rfl, SqL.of (by assumption), rfl, ?_⟩
  | refine ⟨_, _, _, _, rfl, rfl, SqL.of upd_same, rfl, ?_⟩
  | refine ⟨_, _, _, _, rfl, rfl, (by assumption), rfl, ?_⟩
  | refine ⟨_, _, _, _, rfl, rfl, upd_same, rfl, ?_⟩
  | refine ⟨_, _, rfl, SqT.of upd_same, rfl, ?_⟩
  | refine ⟨_, _, rfl, ?_⟩
  | refine ⟨Nat.le_of_ble_eq_true rfl, ?_⟩
  | refine ⟨_, _, _, _, true, rfl, .ty _, .base (.str _), kit_ty (by decide +kernel), ?_⟩
  | refine ⟨_, _, _, _, false, rfl, .ty _, .base (.str _), kit_ty (by decide +kernel), ?_⟩
  | refine ⟨_, _, _, _, true, rfl, .ty _, .base (.int _), kit_ty (by decide +kernel), ?_⟩
  | refine ⟨_, _, _, _, false, rfl, .ty _, .base (.int _), kit_ty (by decide +kernel), ?_⟩))
local macro_rules | `(tactic| walk_at "z") => `(tactic| repeat walk_at "z1")
/-! ### prices of days -/
def priceOn (r : List (Int × Int)) (f : Five) (day : Int) (leave : Bool) : Int :=
  if leave = true then priceBy r f.price (day - f.day) else (if f.least > priceBy r f.price (day - f.day) then f.least else priceBy r f.price (day - f.day))
def pairD (p : Int × Int) : PyData := .tuple [.int p.1, .int p.2]
/-- pairs whose ages rise and parts fall, within bounds -/
structure RuleW (r : List (Int × Int)) : Prop where
  few : r.length ≤ 6
  age : ∀ p ∈ r, 1 ≤ p.1 ∧ p.1 ≤ 999
  part : ∀ p ∈ r, 1 ≤ p.2 ∧ p.2 ≤ 99
  fall : r.Pairwise fun p q => q.2 < p.2
  rise : r.Pairwise fun p q => p.1 < q.1
structure RuleG (r : List (Int × Int)) (n : Nat) (age part : Int) : Prop where
  few : r.length = n
  age0 : 0 ≤ age
  age1 : age ≤ 160 * n
  part1 : part ≤ 100
  bnd : ∀ p ∈ r, 1 ≤ p.1 ∧ p.1 ≤ age ∧ part ≤ p.2 ∧ p.2 ≤ 99
  fall : r.Pairwise fun p q => q.2 < p.2 ∧ p.1 < q.1 ∧ p.1 ≤ 800
theorem noL_pairs (r : List (Int × Int)) : noLists (r.map pairD) = true := by
  induction r with
  | nil => rfl
  | cons p r ih => exact ih
theorem lay_pairs (r : List (Int × Int)) : PyData.canLayAll0 (r.map pairD) = true ∧ PyData.depthAll (r.map pairD) ≤ 1 ∧ nodesAll (r.map pairD) = 3 * r.length := by
  induction r with
  | nil => exact ⟨rfl, Nat.zero_le _, rfl⟩
  | cons p r ih =>
    refine ⟨ih.1, ?_, ?_⟩
    · show max 1 (PyData.depthAll (r.map pairD)) ≤ 1
      have := ih.2.1
      omega
    · show 3 + nodesAll (r.map pairD) = 3 * (r.length + 1)
      rw [ih.2.2]
      omega
theorem shaped_pairs (r : List (Int × Int)) : SeqAt.shaped (.list (r.map pairD)) = true ∧ SeqAt.shaped (ruleD r) = true := by
  obtain ⟨h1, h2, _⟩ := lay_pairs r
  have h3 : decide (PyData.depthAll (r.map pairD) + 1 ≤ 64) = true := decide_eq_true (by omega)
  constructor
  · show (PyData.canLayAll0 (r.map pairD) && decide (PyData.depthAll (r.map pairD) + 1 ≤ 64)) = true
    rw [h1, h3]
    rfl
  · show (PyData.canLayAll0 (r.map pairD) && decide (PyData.depthAll (r.map pairD) + 1 ≤ 64)) = true
    rw [h1, h3]
    rfl
theorem noL_rule (r : List (Int × Int)) : noList (ruleD r) = true := noL_pairs r
theorem RuleG.next {r : List (Int × Int)} {n : Nat} {age part a b : Int} (g : RuleG r n age part) (ha : 0 ≤ a) (ha2 : a < 160) (hn : n ≤ 5) (hb : 0 ≤ b) : RuleG (r ++ [(age + 1 + a, part - 1 - b)]) (n + 1) (age + 1 + a) (part - 1 - b) := by
  have h1 := g.age0
  have h2 := g.part1
  have h3 := g.age1
  refine ⟨by rw [List.length_append, g.few]; rfl, by omega, by omega, by omega, fun p hp => ?_, ?_⟩
  · rcases List.mem_append.mp hp with hp | hp
    · have := g.bnd p hp
      omega
    · rw [List.mem_singleton.mp hp]
      dsimp only
      omega
  · refine List.pairwise_append.mpr ⟨g.fall, List.pairwise_singleton _ _, fun p hp q hq => ?_⟩
    rw [List.mem_singleton.mp hq]
    have := g.bnd p hp
    dsimp only
    omega
def keepP (p : Int × Int) : Bool := decide (p.1 < 1000) && decide (0 < p.2)
/-- and all but the last one at most 800 old -/
structure RuleV (r : List (Int × Int)) : Prop extends RuleW r where
  early : r.Pairwise fun p _ => p.1 ≤ 800
theorem RuleG.cut {r : List (Int × Int)} {n : Nat} {age part : Int} (g : RuleG r n age part) (hn : n ≤ 6) : RuleV (r.filter keepP) := by
  refine ⟨⟨Nat.le_trans (List.length_filter_le _ _) (by rw [g.few]; exact hn), fun p hp => ?_, fun p hp => ?_, (g.fall.filter _).imp fun h => h.1, (g.fall.filter _).imp fun h => h.2.1⟩, (g.fall.filter _).imp fun h => h.2.2⟩
  · obtain ⟨h1, h2⟩ := List.mem_filter.mp hp
    have := g.bnd p h1
    simp [keepP] at h2
    omega
  · obtain ⟨h1, h2⟩ := List.mem_filter.mp hp
    have := g.bnd p h1
    simp [keepP] at h2
    omega
theorem set_last {α : Type} {r : List α} {p q : α} (h : r[r.length - 1]? = some p) : ∃ s, r = s ++ [p] ∧ r.set (r.length - 1) q = s ++ [q] := by
  have hl : r.length - 1 < r.length := (List.getElem?_eq_some_iff.mp h).1
  have hr : r ≠ [] := fun e => by rw [e] at hl; simp at hl
  refine ⟨r.dropLast, ?_, ?_⟩
  · have := List.dropLast_concat_getLast hr
    rw [List.getLast_eq_getElem] at this
    rw [← (List.getElem?_eq_some_iff.mp h).2]
    exact this.symm
  · have e : r = r.dropLast ++ [r.getLast hr] := (List.dropLast_concat_getLast hr).symm
    have el : r.length - 1 = r.dropLast.length := by rw [List.length_dropLast]
    rw [el]
    conv => lhs; rw [e]
    rw [List.length_dropLast]
    have el2 : (r.dropLast ++ [r.getLast hr]).length - 1 = r.dropLast.length := by simp
    rw [List.set_append_right _ _ (by simp)]
    simp
theorem RuleV.last {r : List (Int × Int)} {a : Int} {p : Int × Int} (g : RuleV r) (hp : r[r.length - 1]? = some p) (h1 : 801 ≤ a) (h2 : a ≤ 999) : RuleW (r.set (r.length - 1) (a, p.2)) := by
  obtain ⟨s, e1, e2⟩ := set_last (q := (a, p.2)) hp
  rw [e2]
  have few := g.few
  have age := g.age
  have part := g.part
  have fall := g.fall
  have rise := g.rise
  have early := g.early
  rw [e1] at few age part fall rise early
  rw [List.pairwise_append] at fall rise early
  refine ⟨by simpa using few, fun q hq => ?_, fun q hq => ?_, ?_, ?_⟩
  · rcases List.mem_append.mp hq with h | h
    · exact age q (List.mem_append_left _ h)
    · rw [List.mem_singleton.mp h]
      dsimp only
      omega
  · rcases List.mem_append.mp hq with h | h
    · exact part q (List.mem_append_left _ h)
    · rw [List.mem_singleton.mp h]
      exact part p (List.mem_append_right _ (List.mem_singleton.mpr rfl))
  · refine List.pairwise_append.mpr ⟨fall.1, List.pairwise_singleton _ _, fun x hx y hy => ?_⟩
    rw [List.mem_singleton.mp hy]
    exact fall.2.2 x hx p (List.mem_singleton.mpr rfl)
  · refine List.pairwise_append.mpr ⟨rise.1, List.pairwise_singleton _ _, fun x hx y hy => ?_⟩
    rw [List.mem_singleton.mp hy]
    have := early.2.2 x hx p (List.mem_singleton.mpr rfl)
    dsimp only
    omega
theorem pairD_eq (p : Int × Int) : pairD p = .tuple [.int p.1, .int p.2] := rfl
theorem partAt_last (r : List (Int × Int)) (age : Int) : partAt r age = (((r.filter fun p => decide (p.1 ≤ age)).map Prod.snd).getLast?).getD 100 := by
  have key : ∀ (r : List (Int × Int)) (f : Int), r.foldl (fun f p => if p.1 ≤ age then p.2 else f) f = (((r.filter fun p => decide (p.1 ≤ age)).map Prod.snd).getLast?).getD f := by
    intro r
    induction r with
    | nil => intro f; rfl
    | cons p r ih =>
      intro f
      rw [List.foldl_cons, ih, List.filter_cons]
      by_cases h : p.1 ≤ age
      · rw [if_pos h, if_pos (decide_eq_true h), List.map_cons, List.getLast?_cons]
        rfl
      · rw [if_neg h, if_neg (by simpa using h)]
  exact key r 100
theorem partAt_bnd {r : List (Int × Int)} (g : RuleW r) (age : Int) : 1 ≤ partAt r age ∧ partAt r age ≤ 100 := by
  rw [partAt_last]
  cases e : ((r.filter fun p => decide (p.1 ≤ age)).map Prod.snd).getLast? with
  | none => exact ⟨by decide, by decide⟩
  | some x =>
    obtain ⟨p, hp, rfl⟩ := List.mem_map.mp (List.mem_of_getLast? e)
    have := g.part p (List.mem_filter.mp hp).1
    exact ⟨this.1, by show p.2 ≤ 100; omega⟩
theorem partAt_mono {r : List (Int × Int)} (g : RuleW r) {a b : Int} (h : a ≤ b) : partAt r b ≤ partAt r a := by
  have key : ∀ (r : List (Int × Int)) (f f' : Int), r.Pairwise (fun p q => q.2 < p.2) → (∀ p ∈ r, p.2 ≤ f) → (∀ p ∈ r, p.2 ≤ f') → f' ≤ f →
      r.foldl (fun f p => if p.1 ≤ b then p.2 else f) f' ≤ r.foldl (fun f p => if p.1 ≤ a then p.2 else f) f := by
    intro r
    induction r with
    | nil => intro f f' _ _ _ h; exact h
    | cons p r ih =>
      intro f f' hw h1 h2 hf
      rw [List.foldl_cons, List.foldl_cons]
      have hw' := List.pairwise_cons.mp hw
      have hp1 := h1 p (List.mem_cons_self ..)
      have hp2 := h2 p (List.mem_cons_self ..)
      have hr : ∀ q ∈ r, q.2 ≤ p.2 := fun q hq => Int.le_of_lt (hw'.1 q hq)
      by_cases ha : p.1 ≤ a
      · rw [if_pos ha, if_pos (by omega)]
        exact ih _ _ hw'.2 hr hr (Int.le_refl _)
      · rw [if_neg ha]
        by_cases hb : p.1 ≤ b
        · rw [if_pos hb]
          exact ih _ _ hw'.2 (fun q hq => h1 q (List.mem_cons_of_mem _ hq)) hr hp1
        · rw [if_neg hb]
          exact ih _ _ hw'.2 (fun q hq => h1 q (List.mem_cons_of_mem _ hq)) (fun q hq => h2 q (List.mem_cons_of_mem _ hq)) hf
  refine key r 100 100 g.fall (fun p hp => ?_) (fun p hp => ?_) (Int.le_refl _)
  · have := g.part p hp; omega
  · have := g.part p hp; omega
theorem priceBy_mono {r : List (Int × Int)} (g : RuleW r) {p a b : Int} (hp : 0 ≤ p) (h : a ≤ b) : priceBy r p b ≤ priceBy r p a := by
  have h1 := partAt_mono g h
  have h2 : p * partAt r b ≤ p * partAt r a := Int.mul_le_mul_of_nonneg_left h1 hp
  unfold priceBy
  generalize p * partAt r b = x at h2
  generalize p * partAt r a = y at h2
  split <;> split <;> omega
theorem priceBy_bnd {r : List (Int × Int)} (g : RuleW r) {p : Int} (a : Int) (h1 : 1 ≤ p) (h2 : p ≤ 99999) : 1 ≤ priceBy r p a ∧ priceBy r p a ≤ 99999 ∧ 0 ≤ p * partAt r a ∧ p * partAt r a ≤ 9999900 := by
  obtain ⟨b1, b2⟩ := partAt_bnd g a
  have h3 : p * partAt r a ≤ p * 100 := Int.mul_le_mul_of_nonneg_left b2 (by omega)
  have h4 : 0 ≤ p * partAt r a := Int.mul_nonneg (by omega) (by omega)
  unfold priceBy
  generalize p * partAt r a = x at h3 h4
  refine ⟨?_, ?_, h4, by omega⟩ <;> split <;> omega
theorem szRule {r : List (Int × Int)} (g : RuleW r) : (ruleD r).shown.length ≤ sizeLine ∧ (ruleD r).showable = true := by
  have h1 : szAll (r.map pairD) ≤ 50 * r.length ∧ PyData.showableAll (r.map pairD) = true := by
    have ha := g.age
    have hp := g.part
    clear g
    induction r with
    | nil => exact ⟨Nat.zero_le _, rfl⟩
    | cons p r ih =>
      obtain ⟨i1, i2⟩ := ih (fun q hq => ha q (List.mem_cons_of_mem _ hq)) (fun q hq => hp q (List.mem_cons_of_mem _ hq))
      have a1 := ha p (List.mem_cons_self ..)
      have p1 := hp p (List.mem_cons_self ..)
      constructor
      · have s1 := szInt (i := p.1) (by omega) (by omega)
        have s2 := szInt (i := p.2) (by omega) (by omega)
        show (szD (.int p.1) + 2 + (szD (.int p.2) + 2 + 0)) + 3 + 2 + szAll (r.map pairD) ≤ 50 * (r.length + 1)
        omega
      · show ((decide (p.1.natAbs.log2 < 1920) && (decide (p.2.natAbs.log2 < 1920) && true)) && PyData.showableAll (r.map pairD)) = true
        rw [i2, decide_eq_true (log2_ok18 (by omega)), decide_eq_true (log2_ok18 (by omega))]
        rfl
  have h2 := shown_le (ruleD r) (lay_pairs r).1
  have h3 := g.few
  refine ⟨?_, h1.2⟩
  have e : szD (ruleD r) = szAll (r.map pairD) + 3 := rfl
  have l4 : sizeLine = 16777216 := by decide +kernel
  omega
theorem depRule (r : List (Int × Int)) : (ruleD r).depth ≤ 2 := by
  have := (lay_pairs r).2.1
  show PyData.depthAll (r.map pairD) + 1 ≤ 2
  omega
/-! ### drawn names -/
theorem nameS_of {s : Str} (h1 : 1 ≤ (tl s).length) (h2 : (tl s).length ≤ 8) (h3 : smalls (tl s) = true) : NameS s := ⟨h1, h2, fun c hc => of_decide_eq_true (List.all_eq_true.mp h3 c hc)⟩
def drawnWords : List Str := [Str.ofString "give", Str.ofString "sell", Str.ofString "heap", Str.ofString "owner", Str.ofString "has", Str.ofString "not", Str.ofString "above", Str.ofString "number", Str.ofString "and", Str.ofString "price", Str.ofString "fetch", Str.ofString "words"]
theorem drawnWords_ok : ∀ s ∈ drawnWords, NameS s := by
  have h : ∀ s ∈ drawnWords, (decide (1 ≤ (tl s).length ∧ (tl s).length ≤ 8) && smalls (tl s)) = true := by decide +kernel
  intro s hs
  have := h s hs
  rw [Bool.and_eq_true, decide_eq_true_eq] at this
  exact nameS_of this.1.1 this.1.2 this.2
theorem name_two {a b : Nat} {s : Str} (ha : 97 ≤ a ∧ a ≤ 122) (hb : 97 ≤ b ∧ b ≤ 122) (hl : (tl s).length ≤ 6) (hs : ∀ c ∈ tl s, 97 ≤ c ∧ c ≤ 122) : NameS (((⟨#[a]⟩ : Str) ++ (⟨#[b]⟩ : Str)) ++ s) := by
  have e : tl (((⟨#[a]⟩ : Str) ++ (⟨#[b]⟩ : Str)) ++ s) = a :: b :: tl s := by rw [tl_append, tl_append]; rfl
  refine ⟨by rw [e]; simp, by rw [e]; simp; omega, fun c hc => ?_⟩
  rw [e] at hc
  rcases List.mem_cons.mp hc with rfl | hc
  · exact ha
  · rcases List.mem_cons.mp hc with rfl | hc
    · exact hb
    · exact hs c hc
theorem joinL_nil : ∀ ls : List (List Nat), joinL [] ls = ls.flatten
  | [] => rfl
  | [x] => by simp [joinL]
  | x :: y :: r => by
    show x ++ ([] ++ joinL [] (y :: r)) = _
    rw [joinL_nil (y :: r), List.nil_append]
    rfl
theorem tl_joinC (cs : List Nat) : tl (Str.join (Str.ofString "") (cs.map fun c => (⟨#[c]⟩ : Str))) = cs := by
  rw [tl_join]
  have e : tl (Str.ofString "") = [] := by decide +kernel
  rw [e, joinL_nil, List.map_map]
  induction cs with
  | nil => rfl
  | cons c r ih =>
    rw [List.map_cons, List.flatten_cons, ih]
    rfl
/-! ### falls -/
def fallStep (r : List (Int × Int)) (f : Five) (leave : Bool) (s : List (Int × Int) × Int) (p : Int × Int) : List (Int × Int) × Int :=
  if priceOn r f (f.day + p.1) leave < s.2 then (s.1 ++ [(f.day + p.1, priceOn r f (f.day + p.1) leave)], priceOn r f (f.day + p.1) leave) else s
def fallsA (r : List (Int × Int)) (f : Five) (leave : Bool) (i : Nat) : List (Int × Int) × Int := (r.take i).foldl (fallStep r f leave) ([(f.day, priceOn r f f.day leave)], priceOn r f f.day leave)
def fallsL (r : List (Int × Int)) (f : Five) (leave : Bool) : List (Int × Int) := (fallsA r f leave r.length).1
theorem fallsA_succ {r : List (Int × Int)} {f : Five} {leave : Bool} {i : Nat} {p : Int × Int} (h : r[i]? = some p) : fallsA r f leave (i + 1) = fallStep r f leave (fallsA r f leave i) p := by
  unfold fallsA
  rw [List.take_add_one, h, List.foldl_append]
  rfl
theorem fallsA_last (r : List (Int × Int)) (f : Five) (leave : Bool) : ∀ i, i ≤ r.length → ∃ d, (fallsA r f leave i).1[(fallsA r f leave i).1.length - 1]? = some (d, (fallsA r f leave i).2) ∧ (fallsA r f leave i).1.length ≤ i + 1 := by
  intro i
  induction i with
  | zero => intro _; exact ⟨f.day, rfl, Nat.le_refl _⟩
  | succ i ih =>
    intro hi
    obtain ⟨d, e, l⟩ := ih (by omega)
    have hp : r[i]? = some r[i] := List.getElem?_eq_getElem (by omega)
    rw [fallsA_succ hp]
    unfold fallStep
    split
    · refine ⟨f.day + (r[i]).1, ?_, ?_⟩
      · simp
      · rw [List.length_append]
        simp
        omega
    · exact ⟨d, e, by omega⟩
/-! ### day by day -/
def dueA (r : List (Int × Int)) (f : Five) (leave : Bool) : Nat → List (Int × Int) × Int
  | 0 => ([(f.day, priceOn r f f.day leave)], priceOn r f f.day leave)
  | i + 1 => (if priceOn r f (f.day + 1 + (i : Int)) leave < (dueA r f leave i).2 then (dueA r f leave i).1 ++ [(f.day + 1 + (i : Int), priceOn r f (f.day + 1 + (i : Int)) leave)] else (dueA r f leave i).1, priceOn r f (f.day + 1 + (i : Int)) leave)
theorem dueA_two (r : List (Int × Int)) (f : Five) (leave : Bool) (i : Nat) : (dueA r f leave i).2 = priceOn r f (f.day + (i : Int)) leave := by
  cases i with
  | zero => show priceOn r f f.day leave = _; congr 1; omega
  | succ i => show priceOn r f (f.day + 1 + (i : Int)) leave = _; congr 1; omega
theorem dueA_len (r : List (Int × Int)) (f : Five) (leave : Bool) (i : Nat) : (dueA r f leave i).1.length ≤ i + 1 := by
  induction i with
  | zero => exact Nat.le_refl _
  | succ i ih =>
    show (if _ then _ else _ : List (Int × Int)).length ≤ _
    split
    · rw [List.length_append]; simp; omega
    · omega
/-- the price by the age -/
def prAge (r : List (Int × Int)) (f : Five) (leave : Bool) (k : Int) : Int := priceOn r f (f.day + k) leave
def fallsAt (r : List (Int × Int)) (f : Five) (leave : Bool) (k : Nat) : Bool := decide (prAge r f leave (k : Int) < prAge r f leave ((k : Int) - 1))
theorem dueA_filter (r : List (Int × Int)) (f : Five) (leave : Bool) (i : Nat) :
    (dueA r f leave i).1 = (f.day, priceOn r f f.day leave) :: ((List.range' 1 i).filter (fallsAt r f leave)).map (fun k : Nat => (f.day + (k : Int), prAge r f leave (k : Int))) := by
  induction i with
  | zero => rfl
  | succ i ih =>
    rw [List.range'_concat, Nat.one_mul, List.filter_append, List.map_append]
    have e1 : priceOn r f (f.day + 1 + (i : Int)) leave = prAge r f leave ((1 + i : Nat) : Int) := by unfold prAge; congr 1; omega
    have e2 : (dueA r f leave i).2 = prAge r f leave (((1 + i : Nat) : Int) - 1) := by rw [dueA_two]; unfold prAge; congr 1; omega
    have e3 : f.day + 1 + (i : Int) = f.day + ((1 + i : Nat) : Int) := by omega
    show (if priceOn r f (f.day + 1 + (i : Int)) leave < (dueA r f leave i).2 then _ else _) = _
    rw [ih, e1, e2, e3]
    by_cases h : prAge r f leave ((1 + i : Nat) : Int) < prAge r f leave (((1 + i : Nat) : Int) - 1)
    · rw [if_pos h]
      have : fallsAt r f leave (1 + i) = true := decide_eq_true h
      simp [List.filter_cons, this]
    · rw [if_neg h]
      have : fallsAt r f leave (1 + i) = false := decide_eq_false h
      simp [List.filter_cons, this]
theorem partAt_between {r : List (Int × Int)} {a b : Int} (h : ∀ p ∈ r, p.1 ≤ a ↔ p.1 ≤ b) : partAt r a = partAt r b := by
  unfold partAt
  have key : ∀ (r : List (Int × Int)) (x : Int), (∀ p ∈ r, p.1 ≤ a ↔ p.1 ≤ b) → r.foldl (fun f p => if p.1 ≤ a then p.2 else f) x = r.foldl (fun f p => if p.1 ≤ b then p.2 else f) x := by
    intro r
    induction r with
    | nil => intro x _; rfl
    | cons p r ih =>
      intro x h
      rw [List.foldl_cons, List.foldl_cons]
      have := h p (List.mem_cons_self ..)
      have e : (if p.1 ≤ a then p.2 else x) = (if p.1 ≤ b then p.2 else x) := by
        by_cases h1 : p.1 ≤ a
        · rw [if_pos h1, if_pos (this.mp h1)]
        · rw [if_neg h1, if_neg fun h2 => h1 (this.mpr h2)]
      rw [e]
      exact ih _ fun q hq => h q (List.mem_cons_of_mem _ hq)
  exact key r 100 h
theorem prAge_between {r : List (Int × Int)} {f : Five} {leave : Bool} {a b : Int} (h : ∀ p ∈ r, p.1 ≤ a ↔ p.1 ≤ b) : prAge r f leave a = prAge r f leave b := by
  have e : partAt r a = partAt r b := partAt_between h
  unfold prAge priceOn priceBy
  rw [show f.day + a - f.day = a by omega, show f.day + b - f.day = b by omega, e]
/-- the rising members of a stretch -/
theorem filter_range : ∀ (n a : Nat) (l : List Nat), l.Pairwise (· < ·) → (∀ x ∈ l, a ≤ x ∧ x < a + n) → (List.range' a n).filter (fun k => decide (k ∈ l)) = l := by
  intro n
  induction n with
  | zero =>
    intro a l _ h
    cases l with
    | nil => rfl
    | cons x t => have := h x (List.mem_cons_self ..); omega
  | succ n ih =>
    intro a l hw h
    rw [List.range'_succ, List.filter_cons]
    cases l with
    | nil =>
      rw [if_neg (by simp)]
      exact ih (a + 1) [] hw (by simp)
    | cons x t =>
      have hw' := List.pairwise_cons.mp hw
      by_cases hx : a = x
      · subst hx
        rw [if_pos (decide_eq_true (List.mem_cons_self ..))]
        congr 1
        have ih' := ih (a + 1) t hw'.2 fun y hy => by
          have h1 := hw'.1 y hy
          have h2 := h y (List.mem_cons_of_mem _ hy)
          omega
        rw [← ih']
        refine List.filter_congr fun y hy => ?_
        have := (List.mem_range'_1.mp hy).1
        rw [ih']
        apply decide_eq_decide.mpr
        rw [List.mem_cons]
        constructor
        · rintro (h | h)
          · omega
          · exact h
        · exact .inr
      · rw [if_neg]
        · refine ih (a + 1) (x :: t) hw fun y hy => ?_
          have h2 := h y hy
          have h3 := h x (List.mem_cons_self ..)
          rcases List.mem_cons.mp hy with rfl | hy'
          · omega
          · have := hw'.1 y hy'
            omega
        · rw [decide_eq_true_eq]
          intro hm
          have h3 := h x (List.mem_cons_self ..)
          rcases List.mem_cons.mp hm with e | e
          · exact hx e
          · have := hw'.1 a e
            omega
theorem prAge_mono {r : List (Int × Int)} (g : RuleW r) {f : Five} (ok : f.Ok) {leave : Bool} {a b : Int} (h : a ≤ b) : prAge r f leave b ≤ prAge r f leave a := by
  have p1 := ok.p1
  have m := priceBy_mono g (p := f.price) (by omega) (show f.day + a - f.day ≤ f.day + b - f.day by omega)
  unfold prAge priceOn
  split
  · exact m
  · split <;> split <;> omega
/-- the age of the pair ahead of the i-th, nought ahead of all -/
def ageAt (r : List (Int × Int)) : Nat → Int
  | 0 => 0
  | i + 1 => (r[i]?.map Prod.fst).getD 0
theorem fallsA_filter {r : List (Int × Int)} (g : RuleW r) {f : Five} (ok : f.Ok) (leave : Bool) : ∀ i, i ≤ r.length → (fallsA r f leave i).2 = prAge r f leave (ageAt r i) ∧
    (fallsA r f leave i).1 = (f.day, priceOn r f f.day leave) :: (((r.take i).map fun p => p.1.toNat).filter (fallsAt r f leave)).map (fun k : Nat => (f.day + (k : Int), prAge r f leave (k : Int))) := by
  intro i
  induction i with
  | zero =>
    intro _
    refine ⟨?_, rfl⟩
    show priceOn r f f.day leave = priceOn r f (f.day + 0) leave
    rw [Int.add_zero]
  | succ i ih =>
    intro hi
    obtain ⟨i1, i2⟩ := ih (by omega)
    have hp : r[i]? = some r[i] := List.getElem?_eq_getElem (by omega)
    have hage := g.age _ (List.mem_of_getElem? hp)
    have ea : ageAt r (i + 1) = (r[i]).1 := by show (r[i]?.map Prod.fst).getD 0 = _; rw [hp]; rfl
    have prev : ageAt r i < (r[i]).1 := by
      cases i with
      | zero => show (0 : Int) < _; omega
      | succ j =>
        show (r[j]?.map Prod.fst).getD 0 < _
        rw [List.getElem?_eq_getElem (by omega)]
        exact List.pairwise_iff_getElem.mp g.rise j (j + 1) (by omega) (by omega) (by omega)
    have hb : prAge r f leave (ageAt r i) = prAge r f leave ((r[i]).1 - 1) := by
      refine prAge_between fun p hm => ?_
      obtain ⟨j, hj, ej⟩ := List.getElem_of_mem hm
      constructor
      · intro h
        omega
      · intro h
        by_cases hji : j < i
        · cases i with
          | zero => omega
          | succ i' =>
            show _ ≤ (r[i']?.map Prod.fst).getD 0
            rw [List.getElem?_eq_getElem (by omega), ← ej]
            show (r[j]).1 ≤ (r[i']).1
            by_cases hjj : j = i'
            · subst hjj
              exact Int.le_refl _
            · exact Int.le_of_lt (List.pairwise_iff_getElem.mp g.rise j i' (by omega) (by omega) (by omega))
        · exfalso
          rw [← ej] at h
          by_cases hjj : j = i
          · subst hjj
            omega
          · have := List.pairwise_iff_getElem.mp g.rise i j (by omega) hj (by omega)
            omega
    have hk : (((r[i]).1.toNat : Nat) : Int) = (r[i]).1 := by omega
    have hm := prAge_mono g ok (leave := leave) (a := ageAt r i) (b := (r[i]).1) (by omega)
    rw [fallsA_succ hp, ea, List.take_add_one, hp, List.map_append, List.filter_append, List.map_append]
    unfold fallStep
    have ep : priceOn r f (f.day + (r[i]).1) leave = prAge r f leave (r[i]).1 := rfl
    rw [i1, ep]
    by_cases h : prAge r f leave (r[i]).1 < prAge r f leave (ageAt r i)
    · rw [if_pos h]
      have hf : fallsAt r f leave (r[i]).1.toNat = true := by
        unfold fallsAt
        rw [hk, ← hb]
        exact decide_eq_true h
      refine ⟨rfl, ?_⟩
      rw [i2]
      simp [List.filter_cons, hf, hk]
    · rw [if_neg h]
      have hf : fallsAt r f leave (r[i]).1.toNat = false := by
        unfold fallsAt
        rw [hk, ← hb]
        exact decide_eq_false h
      refine ⟨by rw [i1]; omega, ?_⟩
      rw [i2]
      simp [List.filter_cons, hf]
theorem due_is_falls {r : List (Int × Int)} (g : RuleW r) {f : Five} (ok : f.Ok) (leave : Bool) : (dueA r f leave 1000).1 = fallsL r f leave := by
  unfold fallsL
  rw [dueA_filter, (fallsA_filter g ok leave r.length (Nat.le_refl _)).2, List.take_length]
  congr 2
  have hr : ((r.map fun p => p.1.toNat)).Pairwise (· < ·) := by
    refine List.pairwise_map.mpr ?_
    refine List.Pairwise.imp_of_mem (fun {p q} hp hq h => ?_) g.rise
    have h1 := g.age p hp
    have h2 := g.age q hq
    omega
  have hin : ∀ x ∈ r.map fun p => p.1.toNat, 1 ≤ x ∧ x < 1 + 1000 := fun x hx => by
    obtain ⟨p, hp, rfl⟩ := List.mem_map.mp hx
    have := g.age p hp
    omega
  have e := filter_range 1000 1 _ hr hin
  conv => rhs; rw [← e]
  rw [List.filter_filter]
  refine List.filter_congr fun k hk => ?_
  cases hf : fallsAt r f leave k with
  | false => simp
  | true =>
    simp only [Bool.true_and]
    refine (decide_eq_true ?_).symm
    refine Decidable.byContradiction fun hn => ?_
    have : prAge r f leave (k : Int) = prAge r f leave ((k : Int) - 1) := by
      refine prAge_between fun p hp => ?_
      have hne : p.1 ≠ (k : Int) := fun e => hn (List.mem_map.mpr ⟨p, hp, by rw [e]; omega⟩)
      omega
    have hf' : prAge r f leave (k : Int) < prAge r f leave ((k : Int) - 1) := of_decide_eq_true hf
    omega
/-- the first pair whose price is not above the amount -/
def firstV (l : List (Int × Int)) (m : Int) : V := match l.find? (fun p => decide (p.2 ≤ m)) with
  | some p => .int p.1
  | none => .non
theorem find_range {pr : Nat → Int} {m : Int} : ∀ (n a : Nat), 1 ≤ a → m < pr (a - 1) → (List.range' a n).find? (fun k => decide (pr k ≤ m)) = ((List.range' a n).filter (fun k => decide (pr k < pr (k - 1)))).find? (fun k => decide (pr k ≤ m)) := by
  intro n
  induction n with
  | zero => intro a _ _; rfl
  | succ n ih =>
    intro a ha h
    rw [List.range'_succ, List.find?_cons, List.filter_cons]
    by_cases h1 : pr a ≤ m
    · have h2 : pr a < pr (a - 1) := by omega
      simp [h1, h2]
    · have := ih (a + 1) (by omega) (by rw [Nat.add_sub_cancel]; omega)
      by_cases h2 : pr a < pr (a - 1)
      · simp [h1, h2, this]
      · simp [h1, h2, this]
theorem firstV_at {l : List (Int × Int)} {m : Int} {i : Nat} {p : Int × Int} (h : l[i]? = some p) (hp : p.2 ≤ m) (ha : ∀ q ∈ l.take i, m < q.2) : firstV l m = .int p.1 := by
  have hi : i < l.length := (List.getElem?_eq_some_iff.mp h).1
  have e : l = l.take i ++ p :: l.drop (i + 1) := by
    have := (List.getElem?_eq_some_iff.mp h).2
    rw [← this, List.getElem_cons_drop, List.take_append_drop]
  have n : (l.take i).find? (fun q => decide (q.2 ≤ m)) = none := List.find?_eq_none.mpr fun q hq => by
    have := ha q hq
    simp only [decide_eq_true_eq]
    omega
  unfold firstV
  rw [e, List.find?_append, n, Option.none_or, List.find?_cons, decide_eq_true hp]
theorem firstV_none {l : List (Int × Int)} {m : Int} (ha : ∀ q ∈ l, m < q.2) : firstV l m = .non := by
  have n : l.find? (fun q => decide (q.2 ≤ m)) = none := List.find?_eq_none.mpr fun q hq => by
    have := ha q hq
    simp only [decide_eq_true_eq]
    omega
  unfold firstV
  rw [n]
/-! ### shorter and lower rules; falls by place: plain -/
def okP (p : Int × Int) : Bool := isWholeD 1 999 (.int p.1) && isWholeD 1 99 (.int p.2)
def stepP (z : (Int × Int) × (Int × Int)) : Bool := decide (z.1.1 < z.2.1) && decide (z.1.2 > z.2.2)
def isRuleP (r : List (Int × Int)) : Bool := decide (r.length ≤ 6) && (r.all okP && (r.zip r.tail).all stepP)
theorem zip_tail_all {α : Type} {R : α → α → Bool} : ∀ l : List α, l.Pairwise (fun a b => R a b = true) → (l.zip l.tail).all (fun z => R z.1 z.2) = true
  | [], _ => rfl
  | [_], _ => rfl
  | a :: b :: l, h => by
    have h' := List.pairwise_cons.mp h
    have ih := zip_tail_all (b :: l) h'.2
    show (R a b && _) = true
    rw [h'.1 b (List.mem_cons_self ..), Bool.true_and]
    exact ih
theorem isRuleP_of {r : List (Int × Int)} (g : RuleW r) : isRuleP r = true := by
  unfold isRuleP
  rw [decide_eq_true g.few, Bool.true_and, Bool.and_eq_true]
  refine ⟨List.all_eq_true.mpr fun p hp => ?_, ?_⟩
  · have h1 := g.age p hp
    have h2 := g.part p hp
    unfold okP
    rw [Bool.and_eq_true]
    exact ⟨decide_eq_true h1, decide_eq_true h2⟩
  · refine zip_tail_all (R := fun a b => decide (a.1 < b.1) && decide (a.2 > b.2)) r ?_
    refine (g.fall.and g.rise).imp fun {a b} h => ?_
    rw [decide_eq_true h.2, decide_eq_true (show a.2 > b.2 from h.1)]
    rfl
theorem RuleW.take {r : List (Int × Int)} (g : RuleW r) (n : Nat) : RuleW (r.take n) :=
  ⟨by have := g.few; rw [List.length_take]; omega, fun p h => g.age p (List.mem_of_mem_take h), fun p h => g.part p (List.mem_of_mem_take h), g.fall.sublist (List.take_sublist _ _), g.rise.sublist (List.take_sublist _ _)⟩
theorem RuleW.nil : RuleW [] := ⟨by decide, by simp, by simp, .nil, .nil⟩
def lowerR (r : List (Int × Int)) : List (Int × Int) := r.map fun p => (p.1, p.2 - 1)
theorem RuleW.lower {r : List (Int × Int)} (g : RuleW r) (h : ∀ p, r[r.length - 1]? = some p → 1 < p.2) : RuleW (lowerR r) := by
  have all2 : ∀ p ∈ r, 2 ≤ p.2 := by
    intro p hp
    obtain ⟨i, hi, rfl⟩ := List.getElem_of_mem hp
    have hl := h _ (List.getElem?_eq_getElem (show r.length - 1 < r.length by omega))
    by_cases e : i = r.length - 1
    · subst e; omega
    · have := List.pairwise_iff_getElem.mp g.fall i (r.length - 1) hi (by omega) (by omega)
      omega
  refine ⟨by unfold lowerR; rw [List.length_map]; exact g.few, fun p hp => ?_, fun p hp => ?_, ?_, ?_⟩
  · obtain ⟨q, hq, rfl⟩ := List.mem_map.mp hp
    exact g.age q hq
  · obtain ⟨q, hq, rfl⟩ := List.mem_map.mp hp
    have := g.part q hq
    have := all2 q hq
    exact ⟨by show 1 ≤ q.2 - 1; omega, by show q.2 - 1 ≤ 99; omega⟩
  · exact List.pairwise_map.mpr (g.fall.imp fun {a b} h => by show b.2 - 1 < a.2 - 1; omega)
  · exact List.pairwise_map.mpr (g.rise.imp fun {a b} h => h)
theorem partAt_lower (r : List (Int × Int)) (a : Int) : partAt (lowerR r) a ≤ partAt r a := by
  have key : ∀ (r : List (Int × Int)) (x y : Int), x ≤ y → (lowerR r).foldl (fun f p => if p.1 ≤ a then p.2 else f) x ≤ r.foldl (fun f p => if p.1 ≤ a then p.2 else f) y := by
    intro r
    induction r with
    | nil => exact fun x y h => h
    | cons p r ih =>
      intro x y h
      refine ih _ _ ?_
      dsimp only
      split <;> omega
  exact key r 100 100 (Int.le_refl _)
theorem priceBy_part {r s : List (Int × Int)} {p a : Int} (hp : 0 ≤ p) (h : partAt r a ≤ partAt s a) : priceBy r p a ≤ priceBy s p a := by
  have h2 := Int.ediv_le_ediv (c := 100) (by decide) (Int.mul_le_mul_of_nonneg_left h hp)
  unfold priceBy
  split <;> split <;> omega
theorem priceOn_part {r s : List (Int × Int)} {f : Five} (ok : f.Ok) {d : Int} {leave : Bool} (h : partAt r (d - f.day) ≤ partAt s (d - f.day)) : priceOn r f d leave ≤ priceOn s f d leave := by
  have p1 := ok.p1
  have := priceBy_part (p := f.price) (by omega) h
  unfold priceOn
  split
  · exact this
  · split <;> split <;> omega
theorem partAt_in (r : List (Int × Int)) (a x : Int) : (r.foldl (fun f p => if p.1 ≤ a then p.2 else f) x = x) ∨ ∃ p ∈ r, r.foldl (fun f p => if p.1 ≤ a then p.2 else f) x = p.2 := by
  induction r generalizing x with
  | nil => exact .inl rfl
  | cons p r ih =>
    rw [List.foldl_cons]
    rcases ih (if p.1 ≤ a then p.2 else x) with h | ⟨q, hq, h⟩
    · rw [h]
      split
      · exact .inr ⟨p, List.mem_cons_self .., rfl⟩
      · exact .inl rfl
    · exact .inr ⟨q, List.mem_cons_of_mem _ hq, h⟩
theorem partAt_shorter {r : List (Int × Int)} (g : RuleW r) (n : Nat) (a : Int) : partAt r a ≤ partAt (r.take n) a := by
  have e : partAt r a = (r.drop n).foldl (fun f p => if p.1 ≤ a then p.2 else f) (partAt (r.take n) a) := by
    unfold partAt
    rw [← List.foldl_append, List.take_append_drop]
  rw [e]
  rcases partAt_in (r.drop n) a (partAt (r.take n) a) with h | ⟨q, hq, h⟩
  · rw [h]; exact Int.le_refl _
  · rw [h]
    have hq2 := g.part q (List.mem_of_mem_drop hq)
    rcases partAt_in (r.take n) a 100 with k | ⟨p, hp, k⟩
    · have k' : partAt (r.take n) a = 100 := k
      omega
    · have k' : partAt (r.take n) a = p.2 := k
      have : q.2 < p.2 := by
        have hf := g.fall
        rw [← List.take_append_drop n r] at hf
        exact (List.pairwise_append.mp hf).2.2 p hp q hq
      omega
theorem partAt_till {r : List (Int × Int)} (g : RuleW r) (n : Nat) {a : Int} (h : ∀ p, r[n]? = some p → a < p.1) : partAt (r.take n) a = partAt r a := by
  have e : partAt r a = (r.drop n).foldl (fun f p => if p.1 ≤ a then p.2 else f) (partAt (r.take n) a) := by
    unfold partAt
    rw [← List.foldl_append, List.take_append_drop]
  rw [e]
  have key : ∀ (l : List (Int × Int)) (x : Int), (∀ q ∈ l, a < q.1) → l.foldl (fun f p => if p.1 ≤ a then p.2 else f) x = x := by
    intro l
    induction l with
    | nil => exact fun _ _ => rfl
    | cons p l ih =>
      intro x hl
      rw [List.foldl_cons, if_neg (by have := hl p (List.mem_cons_self ..); omega)]
      exact ih x fun q hq => hl q (List.mem_cons_of_mem _ hq)
  refine (key _ _ fun q hq => ?_).symm
  obtain ⟨i, hi, rfl⟩ := List.getElem_of_mem hq
  rw [List.length_drop] at hi
  rw [List.getElem_drop]
  have h0 := h _ (List.getElem?_eq_getElem (show n < r.length by omega))
  by_cases e : i = 0
  · subst e; exact h0
  · have := List.pairwise_iff_getElem.mp g.rise n (n + i) (by omega) (by omega) (by omega)
    omega
def bareF (f : Five) : Five := { f with least := 0 }
theorem bareF_ok {f : Five} (ok : f.Ok) : (bareF f).Ok := ⟨ok.owner, ok.n1, ok.n2, ok.p1, ok.p2, Int.le_refl _, by have := ok.p1; show (0 : Int) ≤ f.price; omega, ok.d1, ok.d2⟩
theorem priceBy_pos (r : List (Int × Int)) (p a : Int) : 1 ≤ priceBy r p a := by unfold priceBy; split <;> omega
theorem priceOn_bare (r : List (Int × Int)) (f : Five) (d : Int) : priceOn r (bareF f) d false = priceOn r f d true := by
  have h := priceBy_pos r f.price (d - f.day)
  show (if (0 : Int) > priceBy r f.price (d - f.day) then (0 : Int) else priceBy r f.price (d - f.day)) = priceBy r f.price (d - f.day)
  rw [if_neg (by omega)]
theorem priceOn_free (r : List (Int × Int)) (f : Five) (d : Int) : priceOn r f d true ≤ priceOn r f d false ∧ f.least ≤ priceOn r f d false := by
  show priceBy r f.price (d - f.day) ≤ (if f.least > priceBy r f.price (d - f.day) then f.least else priceBy r f.price (d - f.day)) ∧ f.least ≤ (if f.least > priceBy r f.price (d - f.day) then f.least else priceBy r f.price (d - f.day))
  split <;> omega
theorem priceOn_eqp {r s : List (Int × Int)} {f : Five} {d : Int} {leave : Bool} (h : partAt r (d - f.day) = partAt s (d - f.day)) : priceOn r f d leave = priceOn s f d leave := by
  unfold priceOn priceBy
  rw [h]
theorem fallsL_eq {r : List (Int × Int)} (g : RuleW r) {f : Five} (ok : f.Ok) (leave : Bool) :
    fallsL r f leave = (f.day, priceOn r f f.day leave) :: ((r.map fun p => p.1.toNat).filter (fallsAt r f leave)).map (fun k : Nat => (f.day + (k : Int), prAge r f leave (k : Int))) := by
  have h := (fallsA_filter g ok leave r.length (Nat.le_refl _)).2
  rw [List.take_length] at h
  exact h
theorem fallsL_mem {r : List (Int × Int)} (g : RuleW r) {f : Five} (ok : f.Ok) {leave : Bool} {p : Int × Int} (h : p ∈ fallsL r f leave) :
    p.2 = priceOn r f p.1 leave ∧ f.day ≤ p.1 ∧ p.1 ≤ f.day + 999 ∧ (p.1 - f.day = 0 ∨ p.1 - f.day ∈ r.map Prod.fst) := by
  rw [fallsL_eq g ok] at h
  rcases List.mem_cons.mp h with rfl | h
  · exact ⟨rfl, Int.le_refl _, by show f.day ≤ f.day + 999; omega, .inl (by show f.day - f.day = 0; omega)⟩
  · obtain ⟨k, hk, rfl⟩ := List.mem_map.mp h
    obtain ⟨q, hq, rfl⟩ := List.mem_map.mp (List.mem_filter.mp hk).1
    have := g.age q hq
    refine ⟨rfl, by show f.day ≤ f.day + _; omega, by show f.day + _ ≤ f.day + 999; omega, .inr ?_⟩
    refine List.mem_map.mpr ⟨q, hq, ?_⟩
    show q.1 = f.day + ((q.1.toNat : Nat) : Int) - f.day
    omega
theorem fallsL_strict {r : List (Int × Int)} (g : RuleW r) {f : Five} (ok : f.Ok) (leave : Bool) : (fallsL r f leave).Pairwise fun p q => q.2 < p.2 := by
  rw [fallsL_eq g ok]
  have low : ∀ {a b : Nat}, a < b → fallsAt r f leave b = true → prAge r f leave (b : Int) < prAge r f leave (a : Int) := by
    intro a b h hb
    have h1 : prAge r f leave (b : Int) < prAge r f leave ((b : Int) - 1) := of_decide_eq_true hb
    have h2 := prAge_mono g ok (leave := leave) (a := (a : Int)) (b := (b : Int) - 1) (by omega)
    omega
  refine List.pairwise_cons.mpr ⟨fun q hq => ?_, ?_⟩
  · obtain ⟨k, hk, rfl⟩ := List.mem_map.mp hq
    obtain ⟨p, hp, rfl⟩ := List.mem_map.mp (List.mem_filter.mp hk).1
    have := g.age p hp
    have h := low (a := 0) (b := p.1.toNat) (by omega) (List.mem_filter.mp hk).2
    have e : prAge r f leave ((0 : Nat) : Int) = priceOn r f f.day leave := by unfold prAge; congr 1; show f.day + 0 = f.day; omega
    rw [e] at h
    exact h
  · refine List.pairwise_map.mpr ?_
    refine List.Pairwise.imp_of_mem (R := fun a b => a < b) (fun {a b} ha hb h => low h (List.mem_filter.mp hb).2) ?_
    refine List.Pairwise.sublist List.filter_sublist (List.pairwise_map.mpr ?_)
    refine List.Pairwise.imp_of_mem (fun {p q} hp hq h => ?_) g.rise
    have h1 := g.age p hp
    have h2 := g.age q hq
    omega
theorem first_of_fall {r : List (Int × Int)} (g : RuleW r) {f : Five} (ok : f.Ok) {leave : Bool} {i : Nat} {p : Int × Int} (h : (fallsL r f leave)[i]? = some p) : firstV (fallsL r f leave) p.2 = .int p.1 := by
  refine firstV_at h (Int.le_refl _) fun q hq => ?_
  obtain ⟨j, hj, rfl⟩ := List.getElem_of_mem hq
  rw [List.length_take] at hj
  have hi := (List.getElem?_eq_some_iff.mp h)
  obtain ⟨hi, e⟩ := hi
  rw [List.getElem_take, ← e]
  exact List.pairwise_iff_getElem.mp (fallsL_strict g ok leave) j i (by omega) hi (by omega)
theorem first_below {r : List (Int × Int)} (g : RuleW r) {f : Five} (ok : f.Ok) {leave : Bool} {p : Int × Int} (h : p ∈ fallsL r f leave) : firstV (fallsL r f leave) (p.2 - 1) ≠ .int p.1 := by
  unfold firstV
  cases e : (fallsL r f leave).find? (fun q => decide (q.2 ≤ p.2 - 1)) with
  | none => intro h; cases h
  | some q =>
    intro hq
    have hq' : q.1 = p.1 := V.int.inj hq
    have h1 : q.2 ≤ p.2 - 1 := by simpa using List.find?_some e
    have h2 := (fallsL_mem g ok (List.mem_of_find?_eq_some e)).1
    have h3 := (fallsL_mem g ok h).1
    rw [hq', ← h3] at h2
    omega
theorem firstV_int {r : List (Int × Int)} {f : Five} {leave : Bool} {m : Int} : (∃ d, firstV (fallsL r f leave) m = .int d) ∨ firstV (fallsL r f leave) m = .non := by
  unfold firstV
  split
  · exact .inl ⟨_, rfl⟩
  · exact .inr rfl
/-! ### tags as data -/
def tagFs (f : Five) : List (PyData × PyData) := [(.str (Str.ofString "owner"), .str f.owner), (.str (Str.ofString "number"), .int f.number), (.str (Str.ofString "price"), .int f.price), (.str (Str.ofString "least"), .int f.least), (.str (Str.ofString "day"), .int f.day)]
def tagD (f : Five) : PyData := .dict ((.str (Str.ofString "Tag"), .none) :: tagFs f)
def G_Tag : List PyData → (List (PyData × PyData) → Prop) → Prop := fun ds P => ∃ f : Five, f.Ok ∧ ds = [.str f.owner, .int f.number, .int f.price, .int f.least, .int f.day] ∧ P (tagFs f)
theorem fld_owner (f : Five) : fldD (Str.ofString "owner") (tagFs f) = some (.str f.owner) := by
  unfold tagFs fldD
  rw [if_pos rfl]
theorem fld_number (f : Five) : fldD (Str.ofString "number") (tagFs f) = some (.int f.number) := by
  unfold tagFs
  rw [fldD, if_neg (by decide +kernel), fldD, if_pos rfl]
theorem fld_price (f : Five) : fldD (Str.ofString "price") (tagFs f) = some (.int f.price) := by
  unfold tagFs
  rw [fldD, if_neg (by decide +kernel), fldD, if_neg (by decide +kernel), fldD, if_pos rfl]
theorem fld_least (f : Five) : fldD (Str.ofString "least") (tagFs f) = some (.int f.least) := by
  unfold tagFs
  rw [fldD, if_neg (by decide +kernel), fldD, if_neg (by decide +kernel), fldD, if_neg (by decide +kernel), fldD, if_pos rfl]
theorem fld_day (f : Five) : fldD (Str.ofString "day") (tagFs f) = some (.int f.day) := by
  unfold tagFs
  rw [fldD, if_neg (by decide +kernel), fldD, if_neg (by decide +kernel), fldD, if_neg (by decide +kernel), fldD, if_neg (by decide +kernel), fldD, if_pos rfl]
theorem obj_tag {f : Five} {k : List (PyData × PyData) → Prop} : objF (Str.ofString "Tag") (tagD f) k = k (tagFs f) := by
  unfold objF tagD
  exact propext ⟨fun h => h.2, fun h => ⟨rfl, h⟩⟩
/-! functions over data -/
def F__law_names_1 : FS := (fFreeze 3 (fRet (fV 3)))
def F__law_names_2 : FS := (fAppend 3 (fV 11))
def F__law_names_3 : FS := (fSeq (fIfS (fB (fInO false 3 (fV 11))) (fAsg (fOp oAddS (fOp oAddS (fOp oIxS (fV 2) (fOp oDiv (fV 8) (fC (.int 26)))) (fOp oIxS (fV 2) (fOp oMod (fV 8) (fC (.int 26))))) (fC (.str (Str.ofString "qxz")))) (gN 11)) fNext)
    F__law_names_2)
def F__law_names_4 : FE := (fOp oIxS (fV 2) (fCall 2 F__law_take [] (cOwn 0 (cDat (fC (.int 26)) cNil))))
def F__law_names_5 : FS := (fSeq (fAsg (fOp oMod (fOp oAdd (fV 4) (fOp oMul (fV 5) (fV 7))) (fC (.int 676))) (gN 8))
    (fSeq (fAsg (fBM mJoin (fC (.str (Str.ofString ""))) (fCons (fNew (fLc (iR1 (fCons (fOp oAdd (fC (.int 1)) (fCall 2 F__law_take [] (cOwn 0 (cDat (fC (.int 6)) cNil)))) fNil)) (gN 10) fYes F__law_names_4 [10])) fNil)) (gN 9))
    (fSeq (fAsg (fOp oAddS (fOp oAddS (fOp oIxS (fV 2) (fOp oDiv (fV 8) (fC (.int 26)))) (fOp oIxS (fV 2) (fOp oMod (fV 8) (fC (.int 26))))) (fV 9)) (gN 11))
    (fSeq (fIfS (fAnd (fB (fOp oLt (fV 1) (fC (.int 13)))) (fB (fOp oEq (fCall 2 F__law_take [] (cOwn 0 (cDat (fC (.int 4)) cNil))) (fC (.int 0))))) (fAsg (fOp oIxL (fV 6) (fV 7)) (gN 11)) fNext)
    F__law_names_3))))
def F__law_names : FN := fnF 2 12 (fSeq (fParO2 2 3 (fC (.str (Str.ofString "abcdefghijklmnopqrstuvwxyz"))) (fLst fNil))
    (fSeq (fPar 4 5 (fCons (fCall 2 F__law_take [] (cOwn 0 (cDat (fC (.int 676)) cNil))) (fCons (fOp oIxL (fNew (fLst (fCons (fC (.int 1)) (fCons (fC (.int 3)) (fCons (fC (.int 5)) (fCons (fC (.int 7)) (fCons (fC (.int 27)) (fCons (fC (.int 101)) fNil)))))))) (fCall 2 F__law_take [] (cOwn 0 (cDat (fC (.int 6)) cNil)))) fNil)))
    (fSeq (fAsg (fNew (fLst (fCons (fC (.str (Str.ofString "give"))) (fCons (fC (.str (Str.ofString "sell"))) (fCons (fC (.str (Str.ofString "heap"))) (fCons (fC (.str (Str.ofString "owner"))) (fCons (fC (.str (Str.ofString "has"))) (fCons (fC (.str (Str.ofString "not"))) (fCons (fC (.str (Str.ofString "above"))) (fCons (fC (.str (Str.ofString "number"))) (fCons (fC (.str (Str.ofString "and"))) (fCons (fC (.str (Str.ofString "price"))) (fCons (fC (.str (Str.ofString "fetch"))) (fCons (fC (.str (Str.ofString "words"))) fNil)))))))))))))) (gN 6))
    (fSeq (fFor [7, 8, 9, 10, 11] (iR1 (fCons (fV 1) fNil)) (gN 7) F__law_names_5)
    F__law_names_1))))
def F__law_rule_1 : FS := (fFreeze 3 (fRet (fCB bTuple (fCons (fV 3) fNil))))
def F__law_rule_2 : FT := (fAnd (fB (fOp oLt (fOp oIxT (fV 5) (fC (.int 0))) (fC (.int 1000)))) (fB (fOp oGt (fOp oIxT (fV 5) (fC (.int 1))) (fC (.int 0)))))
def F__law_rule_3 : FS := (fSeq (fFreeze 3 (fOwn 3 (fLc (iL (fV 3)) (gN 5) F__law_rule_2 (fV 5) [5])))
    (fSeq (fIfS (fAnd (fB (fEqO not 3 (fNew (fLst fNil)))) (fB (fOp oEq (fCall 2 F__law_take [] (cOwn 0 (cDat (fC (.int 6)) cNil))) (fC (.int 0))))) (fAsg (fTup (fCons (fOp oSub (fC (.int 999)) (fOp oIxL (fNew (fLst (fCons (fC (.int 0)) (fCons (fC (.int 0)) (fCons (fCall 2 F__law_take [] (cOwn 0 (cDat (fC (.int 39)) cNil))) fNil))))) (fCall 2 F__law_take [] (cOwn 0 (cDat (fC (.int 3)) cNil))))) (fCons (fOp oIxT (fIxO 3 (fUn uNeg (fC (.int 1)))) (fC (.int 1))) fNil))) (gSubO 3 (fUn uNeg (fC (.int 1))))) fNext)
    F__law_rule_1))
def F__law_rule_4 : FS := (fSeq (fPar 1 2 (fCons (fOp oAdd (fOp oAdd (fV 1) (fC (.int 1))) (fCall 2 F__law_take [] (cOwn 0 (cDat (fOp oIxL (fNew (fLst (fCons (fC (.int 3)) (fCons (fC (.int 30)) (fCons (fC (.int 160)) fNil))))) (fCall 2 F__law_take [] (cOwn 0 (cDat (fC (.int 3)) cNil)))) cNil)))) (fCons (fOp oSub (fOp oSub (fV 2) (fC (.int 1))) (fCall 2 F__law_take [] (cOwn 0 (cDat (fC (.int 14)) cNil)))) fNil)))
    (fAppend 3 (fTup (fCons (fV 1) (fCons (fV 2) fNil)))))
def F__law_rule : FN := fnF 1 6 (fSeq (fPar3O3 1 2 3 (fC (.int 0)) (fC (.int 100)) (fLst fNil))
    (fSeq (fFor [4] (iR1 (fCons (fCall 2 F__law_take [] (cOwn 0 (cDat (fC (.int 7)) cNil))) fNil)) (gN 4) F__law_rule_4)
    F__law_rule_3))
def F__law_price : FN := fnF 1 1 (fRet (fOp oIxL (fNew (fLst (fCons (fOp oAdd (fC (.int 1)) (fCall 2 F__law_take [] (cOwn 0 (cDat (fC (.int 9)) cNil)))) (fCons (fOp oAdd (fC (.int 1)) (fCall 2 F__law_take [] (cOwn 0 (cDat (fC (.int 400)) cNil)))) (fCons (fOp oMul (fC (.int 100)) (fOp oAdd (fC (.int 1)) (fCall 2 F__law_take [] (cOwn 0 (cDat (fC (.int 40)) cNil))))) (fCons (fOp oAdd (fC (.int 1)) (fCall 2 F__law_take [] (cOwn 0 (cDat (fC (.int 99999)) cNil)))) fNil)))))) (fCall 2 F__law_take [] (cOwn 0 (cDat (fC (.int 4)) cNil)))))
def F__law_five : FN := fnF 2 6 (fSeq (fAsg (fOp oIxL (fNew (fLst (fCons (fOp oAdd (fC (.int 1)) (fCall 2 F__law_take [] (cOwn 0 (cDat (fC (.int 40)) cNil)))) (fCons (fOp oAdd (fC (.int 1)) (fCall 2 F__law_take [] (cOwn 0 (cDat (fC (.int 9999)) cNil)))) (fCons (fC (.int 9999)) fNil))))) (fCall 2 F__law_take [] (cOwn 0 (cDat (fC (.int 3)) cNil)))) (gN 2))
    (fSeq (fAsg (fCall 1 F__law_price [] (cOwn 0 cNil)) (gN 3))
    (fSeq (fAsg (fOp oIxL (fNew (fLst (fCons (fC (.int 0)) (fCons (fV 3) (fCons (fCall 2 F__law_take [] (cOwn 0 (cDat (fOp oAdd (fV 3) (fC (.int 1))) cNil))) (fCons (fOp oDiv (fV 3) (fC (.int 2))) fNil)))))) (fCall 2 F__law_take [] (cOwn 0 (cDat (fC (.int 4)) cNil)))) (gN 4))
    (fSeq (fAsg (fOp oIxL (fNew (fLst (fCons (fCall 2 F__law_take [] (cOwn 0 (cDat (fC (.int 12)) cNil))) (fCons (fCall 2 F__law_take [] (cOwn 0 (cDat (fC (.int 1000)) cNil))) (fCons (fC (.int 999)) fNil))))) (fCall 2 F__law_take [] (cOwn 0 (cDat (fC (.int 3)) cNil)))) (gN 5))
    (fRet (fTup (fCons (fOp oIxL (fV 1) (fCall 2 F__law_take [] (cOwn 0 (cDat (fCB bLen (fCons (fV 1) fNil)) cNil)))) (fCons (fV 2) (fCons (fV 3) (fCons (fV 4) (fCons (fV 5) fNil)))))))))))
def F_is_whole : FN := fnF 3 3 (fRet (fAndV (fIsi "int" (fV 0)) (fAndV (fNotV (fIsi "bool" (fV 0))) (fChain oLe oLe (fV 1) (fV 0) (fV 2)))))
def F__law_made_1 : FS := (fRet (fMk "Tag" G_Tag [] (fCons (fV 2) (fCons (fV 3) (fCons (fV 4) (fCons (fV 5) (fCons (fV 6) fNil)))))))
def F__law_made_2 : FS := (fSeq (fIfS (fB (fOp oEq (fV 7) (fC (.int 3)))) (fRet (fMkN "Tag" G_Tag 3 2 (fun ds es => ds ++ (es.drop 1).take 1 ++ (es.drop 0).take 1) (fCons (fV 2) (fCons (fV 3) (fCons (fV 4) fNil))) (fCons (fV 6) (fCons (fV 5) fNil)))) fNext)
    F__law_made_1)
def F__law_made_3 : FS := (fSeq (fIfS (fAnd (fB (fOp oEq (fV 7) (fC (.int 2)))) (fB (fOp oEq (fV 6) (fC (.int 0))))) (fRet (fMk "Tag" G_Tag [(.int 0)] (fCons (fV 2) (fCons (fV 3) (fCons (fV 4) (fCons (fV 5) fNil)))))) fNext)
    F__law_made_2)
def F__law_made_4 : FS := (fSeq (fIfS (fAnd (fB (fOp oEq (fV 7) (fC (.int 1)))) (fB (fOp oEq (fV 5) (fC (.int 0))))) (fRet (fMkN "Tag" G_Tag 3 1 (fun ds es => ds ++ (([(.int 0), (.int 0)] : List PyData).drop 0).take 1 ++ (es.drop 0).take 1) (fCons (fV 2) (fCons (fV 3) (fCons (fV 4) fNil))) (fCons (fV 6) fNil))) fNext)
    F__law_made_3)
def F__law_made : FN := fnF 2 8 (fSeq (fAsg (fV 1) (gT 5 (gsCons (gN 2) (gsCons (gN 3) (gsCons (gN 4) (gsCons (gN 5) (gsCons (gN 6) gsNil)))))))
    (fSeq (fAsg (fCall 2 F__law_take [] (cOwn 0 (cDat (fC (.int 4)) cNil))) (gN 7))
    (fSeq (fIfS (fAnd (fB (fOp oEq (fV 7) (fC (.int 0)))) (fB (fOp oEqD (fTup (fCons (fV 5) (fCons (fV 6) fNil))) (fTup (fCons (fC (.int 0)) (fCons (fC (.int 0)) fNil)))))) (fRet (fMk "Tag" G_Tag [(.int 0), (.int 0)] (fCons (fV 2) (fCons (fV 3) (fCons (fV 4) fNil))))) fNext)
    F__law_made_4)))
def F_part_at_1 : FS := (fRet (fV 2))
def F_part_at_2 : FS := (fIfS (fB (fOp oLe (fV 3) (fV 1))) (fAsg (fV 4) (gN 2)) fNext)
def F_part_at : FN := fnF 2 5 (fSeq (fAsg (fC (.int 100)) (gN 2))
    (fSeq (fFor [3, 4] (iT (fV 0)) (gT 2 (gsCons (gN 3) (gsCons (gN 4) gsNil))) F_part_at_2)
    F_part_at_1))
def F_price_by : FN := fnF 3 3 (fRet (fCB bMax (fCons (fC (.int 1)) (fCons (fOp oDiv (fOp oMul (fV 1) (fCall 2 F_part_at [] (cDat (fV 0) (cDat (fV 2) cNil)))) (fC (.int 100))) fNil))))
def F_price_on_1 : FS := (fSeq (fAsg (fCall 3 F_price_by [] (cDat (fV 0) (cDat (fFld "Tag" "price" (fV 1)) (cDat (fOp oSub (fV 2) (fFld "Tag" "day" (fV 1))) cNil)))) (gN 4))
    (fRet (fIf (fB (fV 3)) (fV 4) (fCB bMax (fCons (fV 4) (fCons (fFld "Tag" "least" (fV 1)) fNil))))))
def F_price_on : FN := fnF 4 5 (fSeq (fIfS (fB (fOp oLt (fV 2) (fFld "Tag" "day" (fV 1)))) fNever fNext)
    F_price_on_1)
def F_falls_1 : FS := (fFreeze 3 (fRet (fV 3)))
def F_falls_2 : FS := (fSeq (fAsg (fCallN F_price_on 3 1 (fun ds es => ds ++ (es.drop 0).take 1) (fCons (fV 0) (fCons (fV 1) (fCons (fOp oAdd (fFld "Tag" "day" (fV 1)) (fV 4)) fNil))) (fCons (fV 2) fNil)) (gN 6))
    (fIfS (fB (fOp oLt (fV 6) (fOp oIxT (fIxO 3 (fUn uNeg (fC (.int 1)))) (fC (.int 1))))) (fAppend 3 (fTup (fCons (fOp oAdd (fFld "Tag" "day" (fV 1)) (fV 4)) (fCons (fV 6) fNil)))) fNext))
def F_falls : FN := fnF 3 7 (fSeq (fOwn 3 (fLst (fCons (fTup (fCons (fFld "Tag" "day" (fV 1)) (fCons (fCallN F_price_on 3 1 (fun ds es => ds ++ (es.drop 0).take 1) (fCons (fV 0) (fCons (fV 1) (fCons (fFld "Tag" "day" (fV 1)) fNil))) (fCons (fV 2) fNil)) fNil))) fNil)))
    (fSeq (fFor [4, 5, 6] (iT (fV 0)) (gT 2 (gsCons (gN 4) (gsCons (gN 5) gsNil))) F_falls_2)
    F_falls_1))
def F_first_day_1 : FS := (fRet (fC .none))
def F_first_day_2 : FS := (fIfS (fB (fOp oLe (fV 5) (fV 2))) (fRet (fV 4)) fNext)
def F_first_day : FN := fnF 4 6 (fSeq (fFor [4, 5] (iL (fCallN F_falls 2 1 (fun ds es => ds ++ (es.drop 0).take 1) (fCons (fV 0) (fCons (fV 1) fNil)) (fCons (fV 3) fNil))) (gT 2 (gsCons (gN 4) (gsCons (gN 5) gsNil))) F_first_day_2)
    F_first_day_1)
def F__law_by_turns_right_1 : FS := (fRet (fC (.bool true)))
def F__law_by_turns_right_2 : FE := (fCall 4 F_price_on [(.bool false)] (cDat (fV 3) (cDat (fV 1) (cDat (fOp oIxT (fV 10) (fC (.int 0))) cNil))))
def F__law_by_turns_right_3 : FE := (fOp oIxT (fV 10) (fC (.int 1)))
def F__law_by_turns_right_4 : FS := (fIfS (fB (fOp oNeD (fNew (fLc (iL (fV 5)) (gN 10) fYes F__law_by_turns_right_2 [10])) (fNew (fLc (iL (fV 5)) (gN 10) fYes F__law_by_turns_right_3 [10])))) (fRet (fC (.bool false))) fNext)
def F__law_by_turns_right_5 : FE := (fCall 4 F_first_day [(.bool false)] (cDat (fV 3) (cDat (fV 1) (cDat (fOp oIxT (fV 10) (fC (.int 1))) cNil))))
def F__law_by_turns_right_6 : FS := (fSeq (fIfS (fB (fOp oNeD (fNew (fLc (iL (fV 5)) (gN 10) fYes F__law_by_turns_right_5 [10])) (fV 7))) (fRet (fC (.bool false))) fNext)
    F__law_by_turns_right_4)
def F__law_by_turns_right_7 : FE := (fOp (oIn false) (fOp oSub (fV 11) (fFld "Tag" "day" (fV 1))) (fV 6))
def F__law_by_turns_right_8 : FE := (fOp oIxT (fV 10) (fC (.int 0)))
def F__law_by_turns_right_9 : FS := (fSeq (fAsg (fTup (fCons (fOp oCatL (fNew (fLst (fCons (fC (.int 0)) fNil))) (fNew (fLc (iT (fV 3)) (gT 2 (gsCons (gN 8) (gsCons (gN 9) gsNil))) fYes (fV 8) [8, 9]))) (fCons (fNew (fLc (iL (fV 5)) (gN 10) fYes F__law_by_turns_right_8 [10])) fNil))) (gT 2 (gsCons (gN 6) (gsCons (gN 7) gsNil))))
    (fSeq (fIfS (fOr (fB (fOp oNeD (fCall 3 F_falls [(.bool false)] (cDat (fV 3) (cDat (fV 1) cNil))) (fV 5))) (fNot (fB (fCB bAll (fCons (fNew (fLc (iL (fV 7)) (gN 11) fYes F__law_by_turns_right_7 [11])) fNil))))) (fRet (fC (.bool false))) fNext)
    F__law_by_turns_right_6))
def F__law_by_turns_right_10 : FS := (fFor [3, 5, 6, 7, 8, 9, 10, 11] (iZ (fCons (fV 0) (fCons (fV 2) fNil))) (gT 2 (gsCons (gN 3) (gsCons (gN 5) gsNil))) F__law_by_turns_right_9)
def F__law_by_turns_right_11 : FE := (fCall 3 F_falls [(.bool false)] (cDat (fV 3) (cDat (fV 1) cNil)))
def F__law_by_turns_right : FN := fnF 2 12 (fSeq (fAsg (fNew (fLc (iL (fV 0)) (gN 3) fYes F__law_by_turns_right_11 [3])) (gN 2))
    (fSeq (fFor [3, 4, 5, 6, 7, 8, 9, 10, 11] (iR1 (fCons (fC (.int 2)) fNil)) (gN 4) F__law_by_turns_right_10)
    F__law_by_turns_right_1))
def F_parted : FN := fnF 2 3 (fSeq (fAsg (fOp oDiv (fOp oMul (fV 0) (fV 1)) (fC (.int 100))) (gN 2))
    (fRet (fTup (fCons (fOp oSub (fV 0) (fV 2)) (fCons (fV 2) fNil)))))
def F__law_is_number : FN := fnF 1 1 (fRet (fAndV (fIsi "int" (fV 0)) (fNotV (fIsi "bool" (fV 0)))))
def F__law_parted_right_1 : FS := (fRet (fC (.bool true)))
def F__law_parted_right_2 : FS := (fIfS (fAnd (fB (fOp oLt (fV 3) (fC (.int 100)))) (fB (fOp oGt (fOp oIxT (fCall 2 F_parted [] (cDat (fV 2) (cDat (fOp oAdd (fV 3) (fC (.int 1))) cNil))) (fC (.int 0))) (fV 6)))) (fRet (fC (.bool false))) fNext)
def F__law_parted_right_3 : FS := (fSeq (fAsg (fV 4) (gT 2 (gsCons (gN 6) (gsCons (gN 7) gsNil))))
    (fSeq (fIfS (fOr (fB (fOp oNe (fOp oAdd (fV 6) (fV 7)) (fV 2))) (fNot (fB (fChain oLe oLt (fOp oMul (fV 7) (fC (.int 100))) (fOp oMul (fV 2) (fV 3)) (fOp oAdd (fOp oMul (fV 7) (fC (.int 100))) (fC (.int 100))))))) (fRet (fC (.bool false))) fNext)
    F__law_parted_right_2))
def F__law_parted_right_4 : FE := (fCall 1 F__law_is_number [] (cDat (fV 5) cNil))
def F__law_parted_right_5 : FS := (fSeq (fAsg (fOp oIxL (fNew (fLst (fCons (fCall 2 F__law_take [] (cOwn 0 (cDat (fC (.int 300)) cNil))) (fCons (fCall 2 F__law_take [] (cOwn 0 (cDat (fOp oAdd (fC (.int 9999999)) (fC (.int 1))) cNil))) (fCons (fC (.int 9999999)) (fCons (fC (.int 0)) fNil)))))) (fCall 2 F__law_take [] (cOwn 0 (cDat (fC (.int 4)) cNil)))) (gN 2))
    (fSeq (fAsg (fOp oIxL (fNew (fLst (fCons (fC (.int 0)) (fCons (fC (.int 100)) (fCons (fCall 2 F__law_take [] (cOwn 0 (cDat (fC (.int 101)) cNil))) (fCons (fC (.int 1)) fNil)))))) (fCall 2 F__law_take [] (cOwn 0 (cDat (fC (.int 4)) cNil)))) (gN 3))
    (fSeq (fAsg (fCall 2 F_parted [] (cDat (fV 2) (cDat (fV 3) cNil))) (gN 4))
    (fSeq (fIfS (fOr (fNot (fB (fIsi "tuple" (fV 4)))) (fOr (fB (fOp oNe (fCB bLen (fCons (fV 4) fNil)) (fC (.int 2)))) (fNot (fB (fCB bAll (fCons (fNew (fLc (iT (fV 4)) (gN 5) fYes F__law_parted_right_4 [5])) fNil)))))) (fRet (fC (.bool false))) fNext)
    F__law_parted_right_3))))
def F__law_parted_right : FN := fnF 1 8 (fSeq (fFor [1, 2, 3, 4, 5, 6, 7] (iR1 (fCons (fC (.int 8)) fNil)) (gN 1) F__law_parted_right_5)
    F__law_parted_right_1)
def F_is_rule_pair_1 : FS := (fRet (fAndV (fCall 3 F_is_whole [] (cDat (fOp oIxT (fV 0) (fC (.int 0))) (cDat (fC (.int 1)) (cDat (fC (.int 999)) cNil)))) (fCall 3 F_is_whole [] (cDat (fOp oIxT (fV 0) (fC (.int 1))) (cDat (fC (.int 1)) (cDat (fC (.int 99)) cNil))))))
def F_is_rule_pair : FN := fnF 1 1 (fSeq (fIfS (fOr (fNot (fB (fIsi "tuple" (fV 0)))) (fB (fOp oNe (fCB bLen (fCons (fV 0) fNil)) (fC (.int 2))))) (fRet (fC (.bool false))) fNext)
    F_is_rule_pair_1)
def F_is_rule_1 : FE := (fAndV (fOp oLt (fOp oIxT (fV 2) (fC (.int 0))) (fOp oIxT (fV 3) (fC (.int 0)))) (fOp oGt (fOp oIxT (fV 2) (fC (.int 1))) (fOp oIxT (fV 3) (fC (.int 1)))))
def F_is_rule_2 : FS := (fRet (fCB bAll (fCons (fNew (fLc (iZ (fCons (fV 0) (fCons (fSl sT (fV 0) (pSo (fC (.int 1))) pNo) fNil))) (gT 2 (gsCons (gN 2) (gsCons (gN 3) gsNil))) fYes F_is_rule_1 [2, 3])) fNil)))
def F_is_rule_3 : FE := (fCall 1 F_is_rule_pair [] (cDat (fV 1) cNil))
def F_is_rule : FN := fnF 1 4 (fSeq (fIfS (fOr (fNot (fB (fIsi "tuple" (fV 0)))) (fOr (fB (fOp oGt (fCB bLen (fCons (fV 0) fNil)) (fC (.int 6)))) (fNot (fB (fCB bAll (fCons (fNew (fLc (iT (fV 0)) (gN 1) fYes F_is_rule_3 [1])) fNil)))))) (fRet (fC (.bool false))) fNext)
    F_is_rule_2)
def F__law_right_1 : FS := (fRet (fAndV (fCall 2 F__law_by_turns_right [] (cDat (fNew (fLst (fCons (fV 2) (fCons (fV 7) (fCons (fTup fNil) (fCons (fV 2) fNil)))))) (cDat (fV 5) cNil))) (fCall 1 F__law_parted_right [] (cOwn 0 cNil))))
def F__law_right_2 : FS := (fIfS (fAnd (fB (fOp oGt (fV 15) (fC (.int 1)))) (fB (fOp oEqD (fCall 4 F_first_day [] (cDat (fV 2) (cDat (fV 5) (cDat (fOp oSub (fV 15) (fC (.int 1))) (cDat (fV 17) cNil))))) (fV 13)))) (fRet (fC (.bool false))) fNext)
def F__law_right_3 : FS := (fSeq (fIfS (fOr (fB (fOp oNeD (fCall 4 F_first_day [] (cDat (fV 2) (cDat (fV 5) (cDat (fV 15) (cDat (fV 17) cNil))))) (fV 13))) (fB (fOp oNe (fCall 4 F_price_on [] (cDat (fV 2) (cDat (fV 5) (cDat (fV 13) (cDat (fV 17) cNil))))) (fV 15)))) (fRet (fC (.bool false))) fNext)
    F__law_right_2)
def F__law_right_4 : FS := (fFor [] (iL (fCall 3 F_falls [] (cDat (fV 2) (cDat (fV 5) (cDat (fV 17) cNil))))) (gT 2 (gsCons (gN 13) (gsCons (gN 15) gsNil))) F__law_right_3)
def F__law_right_5 : FS := (fSeq (fFor [17] (iT (fTup (fCons (fC (.bool false)) (fCons (fC (.bool true)) fNil)))) (gN 17) F__law_right_4)
    F__law_right_1)
def F__law_right_6 : FE := (fOp oAdd (fOp oIxT (fV 4) (fC (.int 4))) (fCall 2 F__law_take [] (cOwn 0 (cDat (fC (.int 1000)) cNil))))
def F__law_right_7 : FS := (fIfS (fOr (fAnd (fB (fCall 1 F_is_rule [] (cDat (fV 9) cNil))) (fB (fOp oGt (fCall 4 F_price_on [(.bool false)] (cDat (fV 9) (cDat (fV 5) (cDat (fV 13) cNil)))) (fV 15)))) (fB (fOp oLt (fV 15) (fOp oIxT (fV 4) (fC (.int 3)))))) (fRet (fC (.bool false))) fNext)
def F__law_right_8 : FS := (fSeq (fAsg (fCall 4 F_price_on [(.bool false)] (cDat (fV 2) (cDat (fV 5) (cDat (fV 13) cNil)))) (gN 15))
    (fSeq (fAsg (fNew (fLst (fCons (fCall 4 F_price_on [(.bool false)] (cDat (fV 7) (cDat (fV 5) (cDat (fV 13) cNil)))) (fCons (fCallN F_price_on 3 1 (fun ds es => ds ++ (es.drop 0).take 1) (fCons (fV 2) (fCons (fV 5) (fCons (fV 13) fNil))) (fCons (fC (.bool true)) fNil)) (fCons (fCall 4 F_price_on [(.bool false)] (cDat (fV 2) (cDat (fV 6) (cDat (fV 13) cNil)))) fNil))))) (gN 16))
    (fSeq (fIfS (fOr (fB (fOp oLt (fOp oIxL (fV 16) (fC (.int 0))) (fV 15))) (fOr (fAnd (fB (fOp oLt (fV 13) (fV 8))) (fB (fOp oNe (fOp oIxL (fV 16) (fC (.int 0))) (fV 15)))) (fOr (fB (fOp oGt (fOp oIxL (fV 16) (fC (.int 1))) (fV 15))) (fB (fOp oNe (fOp oIxL (fV 16) (fC (.int 1))) (fOp oIxL (fV 16) (fC (.int 2)))))))) (fRet (fC (.bool false))) fNext)
    F__law_right_7)))
def F__law_right_9 : FS := (fSeq (fAsg (fNew (fLst (fCons (fOp oIxT (fV 4) (fC (.int 4))) (fCons (fCB bMin (fCons (fC (.int 1998)) (fCons (fOp oAdd (fOp oIxT (fV 4) (fC (.int 4))) (fC (.int 999))) fNil))) (fCons (fOp oSub (fV 8) (fC (.int 1))) (fCons (fCB bMin (fCons (fV 8) (fCons (fC (.int 1998)) fNil))) fNil)))))) (gN 12))
    (fSeq (fFor [16] (iL (fOp oCatL (fNew (fLc (iR1 (fCons (fC (.int 8)) fNil)) (gN 14) fYes F__law_right_6 [14])) (fV 12))) (gN 13) F__law_right_8)
    F__law_right_5))
def F__law_right_10 : FE := (fTup (fCons (fV 10) (fCons (fOp oSub (fV 11) (fC (.int 1))) fNil)))
def F__law_right_11 : FS := (fSeq (fAsg (fCB bTuple (fCons (fNew (fLc (iT (fV 2)) (gT 2 (gsCons (gN 10) (gsCons (gN 11) gsNil))) fYes F__law_right_10 [10, 11])) fNil)) (gN 9))
    (fSeq (fIfS (fOr (fNot (fB (fCall 1 F_is_rule [] (cDat (fV 7) cNil)))) (fAnd (fB (fOp oNeD (fV 2) (fTup fNil))) (fAnd (fB (fOp oGt (fOp oIxT (fOp oIxT (fV 2) (fUn uNeg (fC (.int 1)))) (fC (.int 1))) (fC (.int 1)))) (fNot (fB (fCall 1 F_is_rule [] (cDat (fV 9) cNil))))))) (fRet (fC (.bool false))) fNext)
    F__law_right_9))
def F__law_right : FN := fnF 1 18 (fSeq (fPar 1 2 (fCons (fCall 2 F__law_names [] (cOwn 0 (cDat (fC (.int 3)) cNil))) (fCons (fCall 1 F__law_rule [] (cOwn 0 cNil)) fNil)))
    (fSeq (fAsg (fTup (fCons (fCall 2 F__law_take [] (cOwn 0 (cDat (fOp oAdd (fCB bLen (fCons (fV 2) fNil)) (fC (.int 1))) cNil))) (fCons (fCall 2 F__law_five [] (cOwn 0 (cDat (fV 1) cNil))) fNil))) (gT 2 (gsCons (gN 3) (gsCons (gN 4) gsNil))))
    (fSeq (fPar 5 6 (fCons (fCall 2 F__law_made [] (cOwn 0 (cDat (fV 4) cNil))) (fCons (fMkN "Tag" G_Tag 3 1 (fun ds es => ds ++ (([(.int 0), (.int 0)] : List PyData).drop 0).take 1 ++ (es.drop 0).take 1) (fCons (fOp oIxT (fV 4) (fC (.int 0))) (fCons (fOp oIxT (fV 4) (fC (.int 1))) (fCons (fOp oIxT (fV 4) (fC (.int 2))) fNil))) (fCons (fOp oIxT (fV 4) (fC (.int 4))) fNil)) fNil)))
    (fSeq (fPar 7 8 (fCons (fSl sT (fV 2) pNo (pSo (fV 3))) (fCons (fOp oAdd (fOp oIxT (fV 4) (fC (.int 4))) (fIf (fB (fOp oLt (fV 3) (fCB bLen (fCons (fV 2) fNil)))) (fOp oIxT (fOp oIxT (fV 2) (fV 3)) (fC (.int 0))) (fC (.int 1000)))) fNil)))
    F__law_right_11))))
local macro_rules | `(tactic| walk_at "f") => `(tactic| simp only [fnF, fSeq, fNext, fRet, fRetN, fAsg, fDrop, fIfS, fAnd, fOr, fNot, fAndV, fOrV, fNotV, fB, fTru, truF, boolF, fOp, fUn, fV, fC, fCons, fNil, fCB, fBM, fCall, cNil, cDat, cOwn, argF, wb, ownIx, fTup, fNew, fLst, fIf, fChain, o2, o2c, oStr, oEqB, oEqD, oNeD, oIsB, isNone, oInSB, oIn, seqF, oIxL, oIxT, oIxS, oIx, fSl, pNo, pSo, sL, sT, sS, listF, tupleF, strF, intF, ownF, fIxO, fLenO, fInO, fAppend, gSubO, gN, gT, gsCons, gsNil, fPar, fPar3, fAug, fFreeze, fOwn, slotF, sz0, sz1, sz2, sz3, sz4, sz5, sz6, sz7, sz8, sz9, sz10, sz11, sz12, sz13, sz14, sz15, sz16, sz17, sz18, sz19, sz20, Nat.reduceLT, Nat.reduceLeDiff, isObjD, fParO1, fParO2, fPar3O3, fAugO, fEqO, fFld, fMk, fMkN, fCallN, List.drop_zero, List.drop_succ_cons, Int.reduceToNat, Int.reducePow, Int.reduceNeg, Int.reduceLE, Int.reduceLT, Int.cast_ofNat_Int, F__law_take, fgt, List.tail_cons, List.headD_cons, at0, at1, at2, at3, at4, Int.zero_add, Int.not_lt, Int.not_le, Nat.not_lt, Nat.not_le, ite_not, fYes, fIsi, oCatL, oCatT, oRep, uNeg, bLenS, bLen, bAbs, bMin, bMax, bDivmod, bAll, bAny, bSum, bInt, bBool, bList, bTuple, one, two, iL, iT, iS, iR1, iR2, iR3, iE, iZ, fBreak, fCont, fNever,
  List.getElem?_cons_zero, List.getElem?_cons_succ, List.getElem?_nil, List.cons_append, List.nil_append, List.append_nil, List.set_cons_zero, List.set_cons_succ, List.map_cons, List.map_nil, List.length_cons, List.length_nil, List.nodup_nil, List.nodup_cons, List.not_mem_nil, not_false_eq_true, and_self, and_true, true_and, List.replicate_succ, List.replicate_zero, List.take_succ_cons, List.take_zero, Nat.reduceSub, Nat.reduceAdd, Nat.zero_add, decide_eq_true_eq, Bool.not_eq_true', decide_eq_false_iff_not, if_true, if_false, Bool.not_true, Bool.not_false, Bool.false_eq_true, reduceIte, id, not_true_eq_false, reduceCtorEq, fFor, fLc, fWhile, wipeF, kit_none_int, kit_none_bool, kit_none_str, kit_none_list, kit_none_tuple, kit_bool_int, kit_bool_bool, kit_bool_str, kit_bool_list, kit_bool_tuple, kit_int_int, kit_int_bool, kit_int_str, kit_int_list, kit_int_tuple, kit_str_int, kit_str_bool, kit_str_str, kit_str_list, kit_str_tuple, kit_list_int, kit_list_bool, kit_list_str, kit_list_list, kit_list_tuple, kit_tuple_int, kit_tuple_bool, kit_tuple_str, kit_tuple_list, kit_tuple_tuple, Option.some.injEq, exists_eq_left', exists_eq_left, List.all_cons, List.all_nil, Bool.and_true, Bool.and_self, List.cons.injEq, Nat.reduceMul , fiveD, pairD_eq, obj_tag, fld_owner, fld_number, fld_price, fld_least, fld_day])
/-! ### rules and tags over data -/
abbrev rD (r : List (Int × Int)) : PyData := .tuple (r.map pairD)
theorem f_part_at {r : List (Int × Int)} {age : Int} {P : PyData → List Sl → Prop} (h : ∀ sl, P (.int (partAt r age)) sl) : F_part_at [.fz (rD r), .fz (.int age)] P := by
  unfold F_part_at
  walk_at "f"
  refine for_map r pairD (fun i ρ => ρ = [.fz (rD r), .fz (.int age), .fz (.int (partAt (r.take i) age)), .no, .no]) rfl rfl ?_ ?_
  · rintro i p ρ hp hi rfl
    unfold F_part_at_2
    walk_at "f"
    rw [partAt_take hp]
    by_cases hc : p.1 ≤ age
    · rw [if_pos hc, if_pos hc]
    · rw [if_neg hc, if_neg hc]
  · rintro ρ rfl
    unfold F_part_at_1
    walk_at "f"
    rw [List.take_length]
    exact h _
theorem f_price_by {r : List (Int × Int)} {p age : Int} (h1 : 0 ≤ p) (h2 : p ≤ 100000) {P : PyData → List Sl → Prop} (h : ∀ sl, P (.int (priceBy r p age)) sl) : F_price_by [.fz (rD r), .fz (.int p), .fz (.int age)] P := by
  unfold F_price_by
  walk_at "f"
  refine f_part_at fun _ => ?_
  walk_at "f"
  exact ⟨.inl ⟨by omega, by omega⟩, ⟨by decide, by decide⟩, h _⟩
theorem f_price_on {r : List (Int × Int)} {f : Five} {day : Int} {leave : Bool} (ok : f.Ok) (hd : f.day ≤ day) {P : PyData → List Sl → Prop} (h : ∀ sl, P (.int (priceOn r f day leave)) sl) : F_price_on [.fz (rD r), .fz (tagD f), .fz (.int day), .fz (.bool leave)] P := by
  have p1 := ok.p1
  have p2 := ok.p2
  unfold F_price_on
  walk_at "f"
  rw [if_neg (by omega)]
  unfold F_price_on_1
  walk_at "f"
  refine f_price_by (by omega) (by omega) fun _ => ?_
  cases leave
  · exact h _
  · exact h _
theorem fallsA_get {r : List (Int × Int)} {f : Five} {leave : Bool} {i : Nat} (hi : i ≤ r.length) : ∃ d, atI ((fallsA r f leave i).1.map pairD) (-1) = some (pairD (d, (fallsA r f leave i).2)) := by
  obtain ⟨d, e, _⟩ := fallsA_last r f leave i hi
  refine ⟨d, ?_⟩
  rw [atI_map]
  unfold atI
  have hl : (fallsA r f leave i).1.length - 1 < (fallsA r f leave i).1.length := (List.getElem?_eq_some_iff.mp e).1
  rw [ixN_last (by omega)]
  show ((fallsA r f leave i).1[(fallsA r f leave i).1.length - 1]?).map pairD = _
  rw [e]
  rfl
theorem f_falls {r : List (Int × Int)} {f : Five} {leave : Bool} (ok : f.Ok) (g : RuleW r) {P : PyData → List Sl → Prop} (h : ∀ sl, P (.list ((fallsL r f leave).map pairD)) sl) : F_falls [.fz (rD r), .fz (tagD f), .fz (.bool leave)] P := by
  have lin : sizeLine = 16777216 := by decide +kernel
  unfold F_falls
  walk_at "f"
  refine f_price_on ok (Int.le_refl _) fun _ => ?_
  refine for_map r pairD (fun i ρ => ρ = [.fz (rD r), .fz (tagD f), .fz (.bool leave), .own ((fallsA r f leave i).1.map pairD), .no, .no, .no]) rfl rfl ?_ ?_
  · rintro i p ρ hp hi rfl
    have hage := g.age p (List.mem_of_getElem? hp)
    unfold F_falls_2
    walk_at "f"
    refine f_price_on ok (by omega) fun _ => ?_
    obtain ⟨d, e⟩ := fallsA_get (r := r) (f := f) (leave := leave) (i := i) (by omega)
    obtain ⟨_, _, len⟩ := fallsA_last r f leave i (by omega)
    have few := g.few
    refine ⟨_, e, ?_⟩
    walk_at "f"
    rw [fallsA_succ hp]
    unfold fallStep
    by_cases hc : priceOn r f (f.day + p.1) leave < (fallsA r f leave i).2
    · rw [if_pos hc, if_pos hc]
      refine ⟨by rw [List.length_map]; omega, ?_⟩
      rw [List.map_append]
      rfl
    · rw [if_neg hc, if_neg hc]
  · rintro ρ rfl
    unfold F_falls_1
    walk_at "f"
    exact h _
def firstD (l : List (Int × Int)) (m : Int) : PyData := match l.find? (fun p => decide (p.2 ≤ m)) with
  | some p => .int p.1
  | none => .none
theorem firstD_of {l : List (Int × Int)} {m d : Int} (h : firstV l m = .int d) : firstD l m = .int d := by
  revert h
  unfold firstV firstD
  cases l.find? (fun p => decide (p.2 ≤ m)) with
  | none => intro h; cases h
  | some p => intro h; cases h; rfl
theorem firstD_non {l : List (Int × Int)} {m : Int} (h : firstV l m = .non) : firstD l m = .none := by
  revert h
  unfold firstV firstD
  cases l.find? (fun p => decide (p.2 ≤ m)) with
  | none => intro _; rfl
  | some p => intro h; cases h
theorem f_first_day {r : List (Int × Int)} {f : Five} {m : Int} {leave : Bool} (ok : f.Ok) (g : RuleW r) {P : PyData → List Sl → Prop} (h : ∀ sl, P (firstD (fallsL r f leave) m) sl) : F_first_day [.fz (rD r), .fz (tagD f), .fz (.int m), .fz (.bool leave)] P := by
  unfold F_first_day
  walk_at "f"
  refine f_falls ok g fun _ => ?_
  walk_at "f"
  refine for_map (fallsL r f leave) pairD (fun i ρ => ρ = [.fz (rD r), .fz (tagD f), .fz (.int m), .fz (.bool leave), .no, .no] ∧ ∀ q ∈ (fallsL r f leave).take i, m < q.2) rfl ⟨rfl, by simp⟩ ?_ ?_
  · rintro i p ρ hp hi ⟨rfl, ha⟩
    unfold F_first_day_2
    walk_at "f"
    by_cases hc : p.2 ≤ m
    · rw [if_pos hc]
      have e := firstD_of (firstV_at hp hc ha)
      rw [← e]
      exact h _
    · rw [if_neg hc]
      refine fun y hy => ?_
      rw [List.take_add_one, hp] at hy
      rcases List.mem_append.mp hy with hy | hy
      · exact ha y hy
      · rw [List.mem_singleton.mp hy]
        exact Int.not_le.mp hc
  · rintro ρ ⟨rfl, ha⟩
    unfold F_first_day_1
    walk_at "f"
    rw [List.take_length] at ha
    have e := firstD_non (firstV_none ha)
    rw [← e]
    exact h _
/-! ### what is drawn, over data -/
theorem f_price {ds : List PyData} {n : Nat} (hb : BoxD ds n) (hn : n < 100000000) {P : PyData → List Sl → Prop} (h : ∀ r ds', 1 ≤ r → r ≤ 99999 → BoxD ds' (n + 5) → P (.int r) [.own ds']) : F__law_price [.own ds] P := by
  unfold F__law_price
  walk_at "f"
  refine take_step hb (by decide) (by decide) (by omega) fun r1 d1 _ _ b1 => ?_
  refine take_step b1 (by decide) (by decide) (by omega) fun r2 d2 _ _ b2 => ?_
  refine take_step b2 (by decide) (by decide) (by omega) fun r3 d3 _ _ b3 => ⟨.inl ⟨by decide, by decide⟩, ?_⟩
  refine take_step b3 (by decide) (by decide) (by omega) fun r4 d4 _ _ b4 => ?_
  refine take_step b4 (by decide) (by decide) (by omega) fun r5 d5 a5 c5 b5 => ?_
  obtain ⟨v, e, m⟩ := at_mem (xs := [PyData.int (1 + r1), PyData.int (1 + r2), PyData.int (100 * (1 + r3)), PyData.int (1 + r4)]) a5 c5
  obtain ⟨a, rfl, a0, a1⟩ : ∃ a, v = .int a ∧ 1 ≤ a ∧ a ≤ 99999 := by
    simp only [List.mem_cons, List.not_mem_nil, or_false] at m
    rcases m with rfl | rfl | rfl | rfl <;> exact ⟨_, rfl, by omega, by omega⟩
  exact ⟨_, e, h a d5 a0 a1 b5⟩
theorem f_five {ds : List PyData} {n : Nat} {ss : List Str} (hb : BoxD ds n) (hn : n < 10000000) (l0 : 0 < ss.length) (l1 : ss.length ≤ 1000) (hs : ∀ s ∈ ss, NameS s) {P : PyData → List Sl → Prop} (h : ∀ f ds' sl, f.Ok → BoxD ds' (n + 20) → P (fiveD f) (.own ds' :: sl)) : F__law_five [.own ds, .fz (.list (ss.map .str))] P := by
  unfold F__law_five
  walk_at "f"
  refine take_step hb (by decide) (by decide) (by omega) fun r1 d1 _ _ b1 => ?_
  refine take_step b1 (by decide) (by decide) (by omega) fun r2 d2 _ _ b2 => ?_
  refine take_step b2 (by decide) (by decide) (by omega) fun r3 d3 a3 c3 b3 => ?_
  obtain ⟨v, e, m⟩ := at_mem (xs := [PyData.int (1 + r1), PyData.int (1 + r2), PyData.int 9999]) a3 c3
  obtain ⟨num, rfl, num0, num1⟩ : ∃ a, v = .int a ∧ 1 ≤ a ∧ a ≤ 9999 := by
    simp only [List.mem_cons, List.not_mem_nil, or_false] at m
    rcases m with rfl | rfl | rfl <;> exact ⟨_, rfl, by omega, by omega⟩
  refine ⟨_, e, ?_⟩
  refine f_price b3 (by omega) fun pr d4 pr0 pr1 b4 => ?_
  walk_at "f"
  refine take_step b4 (by omega) (by omega) (by omega) fun r5 d5 _ _ b5 => ⟨⟨by decide, by decide⟩, ?_⟩
  refine take_step b5 (by decide) (by decide) (by omega) fun r6 d6 a6 c6 b6 => ?_
  obtain ⟨v, e, m⟩ := at_mem (xs := [PyData.int 0, PyData.int pr, PyData.int r5, PyData.int (pr / 2)]) a6 c6
  obtain ⟨low, rfl, low0, low1⟩ : ∃ a, v = .int a ∧ 0 ≤ a ∧ a ≤ pr := by
    simp only [List.mem_cons, List.not_mem_nil, or_false] at m
    rcases m with rfl | rfl | rfl | rfl <;> exact ⟨_, rfl, by omega, by omega⟩
  refine ⟨_, e, ?_⟩
  refine take_step b6 (by decide) (by decide) (by omega) fun r7 d7 _ _ b7 => ?_
  refine take_step b7 (by decide) (by decide) (by omega) fun r8 d8 _ _ b8 => ?_
  refine take_step b8 (by decide) (by decide) (by omega) fun r9 d9 a9 c9 b9 => ?_
  obtain ⟨v, e, m⟩ := at_mem (xs := [PyData.int r7, PyData.int r8, PyData.int 999]) a9 c9
  obtain ⟨day, rfl, day0, day1⟩ : ∃ a, v = .int a ∧ 0 ≤ a ∧ a ≤ 999 := by
    simp only [List.mem_cons, List.not_mem_nil, or_false] at m
    rcases m with rfl | rfl | rfl <;> exact ⟨_, rfl, by omega, by omega⟩
  refine ⟨_, e, ?_⟩
  refine take_step b9 (by rw [List.length_map]; omega) (by rw [List.length_map]; omega) (by omega) fun r10 d10 a10 c10 b10 => ?_
  rw [List.length_map] at c10
  obtain ⟨s, es, ms⟩ := at_mem (xs := ss) a10 c10
  refine ⟨.str s, by rw [atI_map, es]; rfl, ?_⟩
  exact h ⟨s, num, pr, low, day⟩ d10 _ ⟨hs s ms, num0, num1, pr0, pr1, low0, low1, day0, day1⟩ (b10.mono (by omega))
theorem mk_tag {f : Five} (ok : f.Ok) {P : List (PyData × PyData) → Prop} (h : P (tagFs f)) : G_Tag [.str f.owner, .int f.number, .int f.price, .int f.least, .int f.day] P := ⟨f, ok, rfl, h⟩
theorem mk_tagE {f : Five} {l d : Int} (ok : f.Ok) (e1 : f.least = l) (e2 : f.day = d) {P : List (PyData × PyData) → Prop} (h : P (tagFs f)) : G_Tag [.str f.owner, .int f.number, .int f.price, .int l, .int d] P := by
  subst e1
  subst e2
  exact ⟨f, ok, rfl, h⟩
theorem f_made {ds : List PyData} {n : Nat} {f : Five} (hb : BoxD ds n) (hn : n < 100000000) (ok : f.Ok) {P : PyData → List Sl → Prop} (h : ∀ ds' sl, BoxD ds' (n + 1) → P (tagD f) (.own ds' :: sl)) : F__law_made [.own ds, .fz (fiveD f)] P := by
  unfold F__law_made fiveD
  walk_at "f"
  refine take_step hb (by decide) (by decide) (by omega) fun r1 d1 _ _ b1 => ?_
  have rest : ∀ r1 : Int, F__law_made_4 { nx := fun ρ' => P .none (ρ'.take 2), rt := fun d ρ' => P d (ρ'.take 2) } [.own d1, .fz (fiveD f), .fz (.str f.owner), .fz (.int f.number), .fz (.int f.price), .fz (.int f.least), .fz (.int f.day), .fz (.int r1)] := by
    intro r1
    unfold F__law_made_4
    walk_at "f"
    have rest : F__law_made_3 { nx := fun ρ' => P .none (ρ'.take 2), rt := fun d ρ' => P d (ρ'.take 2) } [.own d1, .fz (fiveD f), .fz (.str f.owner), .fz (.int f.number), .fz (.int f.price), .fz (.int f.least), .fz (.int f.day), .fz (.int r1)] := by
      unfold F__law_made_3
      walk_at "f"
      have rest : F__law_made_2 { nx := fun ρ' => P .none (ρ'.take 2), rt := fun d ρ' => P d (ρ'.take 2) } [.own d1, .fz (fiveD f), .fz (.str f.owner), .fz (.int f.number), .fz (.int f.price), .fz (.int f.least), .fz (.int f.day), .fz (.int r1)] := by
        unfold F__law_made_2
        walk_at "f"
        have rest : F__law_made_1 { nx := fun ρ' => P .none (ρ'.take 2), rt := fun d ρ' => P d (ρ'.take 2) } [.own d1, .fz (fiveD f), .fz (.str f.owner), .fz (.int f.number), .fz (.int f.price), .fz (.int f.least), .fz (.int f.day), .fz (.int r1)] := by
          unfold F__law_made_1
          walk_at "f"
          exact mk_tag ok (h _ _ b1)
        by_cases h3 : r1 = 3
        · rw [if_pos h3]
          exact mk_tag ok (h _ _ b1)
        · rw [if_neg h3]
          exact rest
      by_cases h2 : r1 = 2
      · rw [if_pos h2]
        by_cases hd : f.day = 0
        · rw [if_pos hd]
          exact mk_tagE ok rfl hd (h _ _ b1)
        · rw [if_neg hd]
          exact rest
      · rw [if_neg h2]
        exact rest
    by_cases h2 : r1 = 1
    · rw [if_pos h2]
      by_cases hd : f.least = 0
      · rw [if_pos hd]
        exact mk_tagE ok hd rfl (h _ _ b1)
      · rw [if_neg hd]
        exact rest
    · rw [if_neg h2]
      exact rest
  by_cases h0 : r1 = 0
  · rw [if_pos h0]
    refine ⟨rfl, rfl, ?_⟩
    have e : PyData.eqv (.tuple [.int f.least, .int f.day]) (.tuple [.int 0, .int 0]) = (decide (f.least = 0) && decide (f.day = 0)) := by
      show ((f.least == 0) && ((f.day == 0) && true)) = _
      rw [Bool.and_true]
      rfl
    rw [e]
    by_cases h1 : f.least = 0
    · by_cases h2 : f.day = 0
      · rw [decide_eq_true h1, decide_eq_true h2, if_pos (by rfl)]
        exact mk_tagE ok h1 h2 (h _ _ b1)
      · rw [decide_eq_false h2, Bool.and_false, if_neg (by decide)]
        exact rest _
    · rw [decide_eq_false h1, Bool.false_and, if_neg (by decide)]
      exact rest _
  · rw [if_neg h0]
    exact rest _
theorem eqv_nil (ds : List PyData) : PyData.eqv (.list ds) (.list []) = ds.isEmpty := by cases ds <;> rfl
theorem f_rule {ds : List PyData} {n : Nat} (hb : BoxD ds n) (hn : n < 100000000) {P : PyData → List Sl → Prop} (h : ∀ r ds', RuleW r → BoxD ds' (n + 30) → P (rD r) [.own ds']) : F__law_rule [.own ds] P := by
  have lin : sizeLine = 16777216 := by decide +kernel
  unfold F__law_rule
  walk_at "f"
  refine take_step hb (by decide) (by decide) (by omega) fun r1 d1 a1 c1 b1 => ⟨by omega, by omega, ?_⟩
  refine for_range (fun i ρ => ∃ r age part ds', RuleG r i age part ∧ BoxD ds' (n + 1 + 3 * i) ∧ ρ = [.own ds', .fz (.int age), .fz (.int part), .own (r.map pairD), .no, .no]) ?_ ?_ ?_
  · exact ⟨[], 0, 100, d1, ⟨rfl, by decide, by decide, by decide, by simp, .nil⟩, b1, rfl⟩
  · rintro i ρ hi ⟨r, age, part, d2, g, b2, rfl⟩
    have few := g.few
    unfold F__law_rule_4
    walk_at "f"
    refine take_step b2 (by decide) (by decide) (by omega) fun r2 d3 a2 c2 b3 => ?_
    obtain ⟨v, e, m⟩ := at_mem (xs := [PyData.int 3, PyData.int 30, PyData.int 160]) a2 c2
    obtain ⟨s, rfl, s0, s1⟩ : ∃ a, v = .int a ∧ 1 ≤ a ∧ a ≤ 160 := by
      simp only [List.mem_cons, List.not_mem_nil, or_false] at m
      rcases m with rfl | rfl | rfl <;> exact ⟨_, rfl, by omega, by omega⟩
    refine ⟨_, e, ?_⟩
    walk_at "f"
    refine take_step b3 (by omega) (by omega) (by omega) fun r3 d4 a3 c3 b4 => ?_
    refine take_step b4 (by decide) (by decide) (by omega) fun r4 d5 a4 c4 b5 => ⟨by rw [List.length_map]; omega, ?_⟩
    exact ⟨r ++ [(age + 1 + r3, part - 1 - r4)], _, _, d5, g.next a3 (by omega) (by omega) a4, b5.mono (by omega), rfl, rfl, rfl, by rw [List.map_append]; rfl⟩
  · rintro ρ ⟨r, age, part, d2, g, b2, rfl⟩
    have few := g.few
    unfold F__law_rule_3
    walk_at "f"
    refine lc_map r pairD (fun p => if keepP p = true then some (pairD p) else none) rfl rfl (by omega) (fun p R acc _ hacc hR => ?_) ?_
    · unfold F__law_rule_2
      walk_at "f"
      have hR' : R (acc ++ (if keepP p = true then some (pairD p) else none).toList) [.own d2, .fz (.int age), .fz (.int part), .fz (.list (r.map pairD)), .no, .no] := hR
      unfold keepP at hR'
      by_cases h1 : p.1 < 1000
      · rw [if_pos h1]
        rw [decide_eq_true h1, Bool.true_and] at hR'
        by_cases h2 : 0 < p.2
        · rw [if_pos h2]
          rw [decide_eq_true h2, if_pos rfl] at hR'
          exact ⟨hacc, hR'⟩
        · rw [if_neg h2]
          rw [decide_eq_false h2, if_neg (by decide)] at hR'
          simpa using hR'
      · rw [if_neg h1]
        rw [decide_eq_false h1, Bool.false_and, if_neg (by decide)] at hR'
        simpa using hR'
    · rw [filterMap_if]
      have gv := g.cut (by omega)
      generalize r.filter keepP = q at gv
      have q6 := gv.few
      walk_at "f"
      refine ⟨(shaped_pairs q).1, rfl, ?_⟩
      rw [eqv_nil]
      have last : ∀ (q : List (Int × Int)) (ds' : List PyData), RuleW q → BoxD ds' (n + 30) → F__law_rule_1 { nx := fun ρ' => P .none (ρ'.take 1), rt := fun d ρ' => P d (ρ'.take 1) } [.own ds', .fz (.int age), .fz (.int part), .own (q.map pairD), .no, .no] := by
        intro q ds' gq bq
        unfold F__law_rule_1
        walk_at "f"
        exact h q ds' gq bq
      by_cases hq : q = []
      · subst hq
        exact last [] _ gv.toRuleW (b2.mono (by omega))
      · have hql : 0 < q.length := List.length_pos_iff.mpr hq
        have hlast : q[q.length - 1]? = some q[q.length - 1] := List.getElem?_eq_getElem (by omega)
        rw [if_pos (by cases q with | nil => exact absurd rfl hq | cons _ _ => rfl)]
        refine take_step b2 (by decide) (by decide) (by omega) fun r5 d5 a5 c5 b5 => ?_
        by_cases hz : r5 = 0
        · rw [if_pos hz]
          refine take_step b5 (by decide) (by decide) (by omega) fun r6 d6 a6 c6 b6 => ?_
          refine take_step b6 (by decide) (by decide) (by omega) fun r7 d7 a7 c7 b7 => ?_
          obtain ⟨v, e, m⟩ := at_mem (xs := [PyData.int 0, PyData.int 0, PyData.int r6]) a7 c7
          obtain ⟨s, rfl, s0, s1⟩ : ∃ a, v = .int a ∧ 0 ≤ a ∧ a ≤ 38 := by
            simp only [List.mem_cons, List.not_mem_nil, or_false] at m
            rcases m with rfl | rfl | rfl <;> exact ⟨_, rfl, by omega, by omega⟩
          refine ⟨_, e, ?_⟩
          walk_at "f"
          have el : (q.map pairD)[(q.map pairD).length - 1]? = some (pairD q[q.length - 1]) := by rw [List.length_map, List.getElem?_map, hlast]; rfl
          refine ⟨_, at_last el, ?_⟩
          walk_at "f"
          refine ⟨q.length - 1, by rw [List.length_map]; exact ixN_last hql, ?_⟩
          have := last (q.set (q.length - 1) (999 - s, (q[q.length - 1]).2)) d7 (gv.last hlast (by omega) (by omega)) (b7.mono (by omega))
          rw [List.map_set] at this
          exact this
        · rw [if_neg hz]
          exact last _ _ gv.toRuleW (b5.mono (by omega))
theorem abc_sign {d : Int} (h0 : 0 ≤ d) (h1 : d < 26) : ∃ c, atI (Str.ofString "abcdefghijklmnopqrstuvwxyz").cps.toList d = some c ∧ 97 ≤ c ∧ c ≤ 122 := by
  obtain ⟨k, rfl⟩ := Int.eq_ofNat_of_zero_le h0
  exact ⟨97 + k, abc_at (by omega), by omega, by omega⟩
theorem tl_sign (c : Nat) : tl (⟨#[c]⟩ : Str) = [c] := rfl
theorem f_names_3 {E : FEnds} {d6 : List PyData} {ss : List Str} {nm : Str} {a1 a4 a5 a6 a7 a9 a10 : Sl} {own : Int} (own0 : 0 ≤ own) (own1 : own < 676) (ls : ss.length ≤ 1000) (hnm : NameS nm)
    (h : ∀ s, NameS s → E.nx [.own d6, a1, .fz (.str (Str.ofString "abcdefghijklmnopqrstuvwxyz")), .own ((ss ++ [s]).map .str), a4, a5, a6, a7, .fz (.int own), a9, a10, .fz (.str s)]) :
    F__law_names_3 E [.own d6, a1, .fz (.str (Str.ofString "abcdefghijklmnopqrstuvwxyz")), .own (ss.map .str), a4, a5, a6, a7, .fz (.int own), a9, a10, .fz (.str nm)] := by
  have lin : sizeLine = 16777216 := by decide +kernel
  have la : (Str.ofString "abcdefghijklmnopqrstuvwxyz").length ≤ sizeLine := by decide +kernel
  obtain ⟨x, ex, x97, x122⟩ := abc_sign (d := own / 26) (by omega) (by omega)
  obtain ⟨y, ey, y97, y122⟩ := abc_sign (d := own % 26) (by omega) (by omega)
  unfold F__law_names_3
  walk_at "f"
  refine ⟨rfl, by rw [List.all_map]; exact List.all_eq_true.mpr fun _ _ => rfl, ?_⟩
  have fin : ∀ s, NameS s → F__law_names_2 E [.own d6, a1, .fz (.str (Str.ofString "abcdefghijklmnopqrstuvwxyz")), .own (ss.map .str), a4, a5, a6, a7, .fz (.int own), a9, a10, .fz (.str s)] := by
    intro s hs
    unfold F__law_names_2
    walk_at "f"
    refine ⟨by rw [List.length_map]; omega, ?_⟩
    have := h s hs
    rw [List.map_append] at this
    exact this
  cases inD (.str nm) (ss.map .str) with
  | false => exact fin nm hnm
  | true =>
    rw [if_pos (by rfl)]
    refine ⟨⟨by decide, by decide⟩, la, x, ex, la, y, ey, by show 1 + 1 ≤ sizeLine; decide, by show 2 + 3 ≤ sizeLine; decide, ?_⟩
    exact fin _ (name_two ⟨x97, x122⟩ ⟨y97, y122⟩ (by decide +kernel) (by decide +kernel))
theorem f_names {ds : List PyData} {n m : Nat} (hb : BoxD ds n) (hn : n < 10000000) (hm : m ≤ 200) {P : PyData → List Sl → Prop} (h : ∀ (ss : List Str) ds' sl, ss.length = m → (∀ s ∈ ss, NameS s) → BoxD ds' (n + 2000) → P (.list (ss.map .str)) (.own ds' :: sl)) : F__law_names [.own ds, .fz (.int (m : Int))] P := by
  have lin : sizeLine = 16777216 := by decide +kernel
  have la : (Str.ofString "abcdefghijklmnopqrstuvwxyz").length ≤ sizeLine := by decide +kernel
  unfold F__law_names
  walk_at "f"
  refine take_step hb (by decide) (by decide) (by omega) fun r1 d1 a1 c1 b1 => ?_
  refine take_step b1 (by decide) (by decide) (by omega) fun r2 d2 a2 c2 b2 => ?_
  obtain ⟨v, e, mm⟩ := at_mem (xs := [PyData.int 1, PyData.int 3, PyData.int 5, PyData.int 7, PyData.int 27, PyData.int 101]) a2 c2
  obtain ⟨s, rfl, s0, s1⟩ : ∃ a, v = .int a ∧ 1 ≤ a ∧ a ≤ 101 := by
    simp only [List.mem_cons, List.not_mem_nil, or_false] at mm
    rcases mm with rfl | rfl | rfl | rfl | rfl | rfl <;> exact ⟨_, rfl, by omega, by omega⟩
  refine ⟨_, e, by omega, by omega, ?_⟩
  rw [Int.toNat_natCast]
  refine for_range (fun i ρ => ∃ (ss : List Str) (ds' : List PyData), ss.length = i ∧ (∀ s ∈ ss, NameS s) ∧ BoxD ds' (n + 2 + 8 * i) ∧ ρ = [.own ds', .fz (.int m), .fz (.str (Str.ofString "abcdefghijklmnopqrstuvwxyz")), .own (ss.map .str), .fz (.int r1), .fz (.int s), .fz (.list (drawnWords.map .str)), .no, .no, .no, .no, .no]) ?_ ?_ ?_
  · exact ⟨[], d2, rfl, by simp, b2, rfl⟩
  · rintro i ρ hi ⟨ss, d3, ls, hss, b3, rfl⟩
    unfold F__law_names_5
    walk_at "f"
    refine ⟨.inl ⟨by omega, by omega⟩, ?_⟩
    refine take_step b3 (by decide) (by decide) (by omega) fun r4 d4 a4 c4 b4 => ⟨by omega, by omega, ?_⟩
    have own0 : 0 ≤ (r1 + s * (i : Int)) % 676 := Int.emod_nonneg _ (by decide)
    have own1 : (r1 + s * (i : Int)) % 676 < 676 := Int.emod_lt_of_pos _ (by decide)
    generalize (r1 + s * (i : Int)) % 676 = own at own0 own1
    refine lc_inv (List.range (1 + r4).toNat) (fun k : Nat => .int (0 + (k : Int))) (fun j acc ρ => ∃ (cs : List Nat) (d5 : List PyData), cs.length = j ∧ (∀ c ∈ cs, 97 ≤ c ∧ c ≤ 122) ∧ BoxD d5 (n + 2 + 8 * i + 1 + j) ∧ acc = cs.map (fun c => PyData.str ⟨#[c]⟩) ∧
      ρ = [.own d5, .fz (.int m), .fz (.str (Str.ofString "abcdefghijklmnopqrstuvwxyz")), .own (ss.map .str), .fz (.int r1), .fz (.int s), .fz (.list (drawnWords.map .str)), .fz (.int i), .fz (.int own), .no, .no, .no]) rfl rfl ?_ ?_ ?_
    · exact ⟨[], d4, rfl, by simp, b4, rfl, rfl⟩
    · rintro j x acc ρ hx hj ⟨cs, d5, lc, hcs, b5, rfl, rfl⟩
      rw [List.length_range] at hj
      unfold F__law_names_4
      walk_at "f"
      refine take_step b5 (by decide) (by decide) (by omega) fun r6 d6 a6 c6 b6 => ⟨la, ?_⟩
      obtain ⟨c, ec, c97, c122⟩ := abc_sign a6 c6
      refine ⟨c, ec, by rw [List.length_map]; omega, cs ++ [c], d6, by rw [List.length_append, lc]; rfl, fun x hx => ?_, b6.mono (by omega), by rw [List.map_append]; rfl, rfl⟩
      rcases List.mem_append.mp hx with h | h
      · exact hcs x h
      · rw [List.mem_singleton.mp h]; exact ⟨c97, c122⟩
    · rintro acc ρ ⟨cs, d5, lc, hcs, b5, rfl, eρ⟩
      rw [List.length_range] at lc b5
      rw [eρ]
      have jc := tl_joinC cs
      have jl : (tl (Str.join (Str.ofString "") (cs.map fun c => (⟨#[c]⟩ : Str)))).length ≤ 6 := by rw [jc, lc]; omega
      have js : ∀ c ∈ tl (Str.join (Str.ofString "") (cs.map fun c => (⟨#[c]⟩ : Str))), 97 ≤ c ∧ c ≤ 122 := by rw [jc]; exact hcs
      have e1 : ((cs.map fun c => (⟨#[c]⟩ : Str)).map (·.length)).sum = cs.length := by
        rw [List.map_map]
        clear jc jl js hcs lc
        induction cs with
        | nil => rfl
        | cons c r ih =>
          rw [List.map_cons, List.sum_cons, ih]
          show 1 + r.length = r.length + 1
          omega
      have e2 : (Str.ofString "").length = 0 := by decide +kernel
      unfold mJoin
      walk_at "f"
      refine strsF_f ⟨?_, ?_⟩
      · rw [e1, e2]
        omega
      rw [show Txt.join (Str.ofString "") (cs.map fun c => (⟨#[c]⟩ : Str)) = Str.join (Str.ofString "") (cs.map fun c => (⟨#[c]⟩ : Str)) from join_eq _ _]
      generalize Str.join (Str.ofString "") (cs.map fun c => (⟨#[c]⟩ : Str)) = tail at jl js
      obtain ⟨x, ex, x97, x122⟩ := abc_sign (d := own / 26) (by omega) (by omega)
      obtain ⟨y, ey, y97, y122⟩ := abc_sign (d := own % 26) (by omega) (by omega)
      have n0 : NameS (((⟨#[x]⟩ : Str) ++ (⟨#[y]⟩ : Str)) ++ tail) := name_two ⟨x97, x122⟩ ⟨y97, y122⟩ jl js
      have add : ∀ s', NameS s' → ∀ s'' ∈ ss ++ [s'], NameS s'' := fun s' hs' y hy => by
        rcases List.mem_append.mp hy with h | h
        · exact hss y h
        · rw [List.mem_singleton.mp h]; exact hs'
      refine ⟨⟨by decide, by decide⟩, la, x, ex, la, y, ey, by show 1 + 1 ≤ sizeLine; decide, by rw [len_tl tail, lin]; show 2 + _ ≤ _; omega, ?_⟩
      by_cases h13 : (m : Int) < 13
      · rw [if_pos h13]
        refine take_step b5 (by decide) (by decide) (by omega) fun r6 d6 a6 c6 b6 => ?_
        by_cases h6 : r6 = 0
        · rw [if_pos h6]
          have hi13 : i < drawnWords.length := by show i < 12; omega
          have wok := drawnWords_ok _ (List.getElem_mem hi13)
          refine ⟨.str drawnWords[i], by rw [atI_map]; unfold atI; rw [ixN_nat hi13]; show (drawnWords[i]?).map _ = _; rw [List.getElem?_eq_getElem hi13]; rfl, ?_⟩
          exact f_names_3 own0 own1 (by omega) wok fun s' hs' => ⟨ss ++ [s'], d6, by rw [List.length_append, ls]; rfl, add s' hs', b6.mono (by omega), rfl⟩
        · rw [if_neg h6]
          exact f_names_3 own0 own1 (by omega) n0 fun s' hs' => ⟨ss ++ [s'], d6, by rw [List.length_append, ls]; rfl, add s' hs', b6.mono (by omega), rfl⟩
      · rw [if_neg h13]
        exact f_names_3 own0 own1 (by omega) n0 fun s' hs' => ⟨ss ++ [s'], d5, by rw [List.length_append, ls]; rfl, add s' hs', b5.mono (by omega), rfl⟩
  · rintro ρ ⟨ss, d3, ls, hss, b3, rfl⟩
    unfold F__law_names_1
    walk_at "f"
    exact h ss d3 _ ls hss (b3.mono (by omega))
theorem f_is_whole {i lo hi : Int} {P : PyData → List Sl → Prop} (h : ∀ sl, P (.bool (isWholeD lo hi (.int i))) sl) : F_is_whole [.fz (.int i), .fz (.int lo), .fz (.int hi)] P := by
  have e : isWholeD lo hi (.int i) = (decide (lo ≤ i) && decide (i ≤ hi)) := by
    show decide (lo ≤ i ∧ i ≤ hi) = _
    exact Bool.decide_and _ _
  rw [e] at h
  unfold F_is_whole
  walk_at "f"
  by_cases h1 : lo ≤ i
  · rw [if_pos h1]; rw [decide_eq_true h1] at h; exact h _
  · rw [if_neg h1]; rw [decide_eq_false h1] at h; exact h _
theorem f_parted {a s : Int} {P : PyData → List Sl → Prop} (h1 : 0 ≤ s) (h2 : s ≤ 101) (h : ∀ sl, P (.tuple [.int (a - a * s / 100), .int (a * s / 100)]) sl) : F_parted [.fz (.int a), .fz (.int s)] P := by
  unfold F_parted
  walk_at "f"
  exact ⟨.inr ⟨by omega, by omega⟩, ⟨by decide, by decide⟩, h _⟩
theorem f_is_rule_pair {p : Int × Int} {P : PyData → List Sl → Prop} (h : ∀ sl, P (.bool (okP p)) sl) : F_is_rule_pair [.fz (pairD p)] P := by
  unfold F_is_rule_pair pairD
  walk_at "f"
  unfold F_is_rule_pair_1
  walk_at "f"
  refine f_is_whole fun _ => ?_
  unfold okP at h
  cases e : isWholeD 1 999 (.int p.1)
  · rw [e] at h
    exact h _
  · rw [e] at h
    exact f_is_whole fun _ => h _
theorem f_is_rule {r : List (Int × Int)} {P : PyData → List Sl → Prop} (h : ∀ sl, P (.bool (isRuleP r)) sl) : F_is_rule [.fz (.tuple (r.map pairD))] P := by
  unfold F_is_rule
  walk_at "f"
  rw [List.length_map]
  by_cases hl : r.length ≤ 6
  · rw [if_neg (by omega)]
    have big : r.length ≤ sizeLine := Nat.le_trans hl (by decide)
    refine lc_map r pairD (fun p => some (.bool (okP p))) rfl rfl big (fun p R acc _ hacc hR => ?_) ?_
    · unfold F_is_rule_3
      walk_at "f"
      exact f_is_rule_pair fun _ => ⟨hacc, hR⟩
    · rw [filterMap_some]
      refine boolsF_f ?_
      unfold isRuleP at h
      rw [decide_eq_true hl, Bool.true_and] at h
      have e : (r.map okP).all id = r.all okP := by rw [List.all_map]; rfl
      rw [e]
      cases e2 : r.all okP
      · rw [e2] at h
        walk_at "f"
        exact h _
      · rw [e2, Bool.true_and] at h
        unfold F_is_rule_2
        walk_at "f"
        rw [cutD_tail, zipD_map]
        refine lc_map (r.zip r.tail) (fun z => .tuple [pairD z.1, pairD z.2]) (fun z => some (.bool (stepP z))) rfl rfl ?_ (fun z R acc _ hacc hR => ?_) ?_
        · rw [List.length_zip]; omega
        · unfold F_is_rule_1 pairD
          walk_at "f"
          have hR' : R (acc ++ [.bool (stepP z)]) (wipeF [.fz (.tuple (r.map pairD)), .no, .no, .no] [2, 3]) := hR
          unfold stepP at hR'
          by_cases h1 : z.1.1 < z.2.1
          · rw [if_pos h1]
            rw [decide_eq_true h1, Bool.true_and] at hR'
            exact ⟨hacc, hR'⟩
          · rw [if_neg h1]
            rw [decide_eq_false h1, Bool.false_and] at hR'
            exact ⟨hacc, hR'⟩
        · rw [filterMap_some]
          refine boolsF_f ?_
          have e3 : ((r.zip r.tail).map stepP).all id = (r.zip r.tail).all stepP := by rw [List.all_map]; rfl
          rw [e3]
          exact h _
  · rw [if_pos (by omega)]
    have e : isRuleP r = false := by unfold isRuleP; rw [decide_eq_false hl, Bool.false_and]
    rw [e] at h
    exact h _
theorem f_number {i : Int} {P : PyData → List Sl → Prop} (h : ∀ sl, P (.bool true) sl) : F__law_is_number [.fz (.int i)] P := by
  unfold F__law_is_number
  walk_at "f"
  exact h _
theorem f_parted_right {ds : List PyData} {n : Nat} (hb : BoxD ds n) (hn : n < 100000000) {P : PyData → List Sl → Prop} (h : ∀ ds', BoxD ds' (n + 40) → P (.bool true) [.own ds']) : F__law_parted_right [.own ds] P := by
  unfold F__law_parted_right
  walk_at "f"
  refine for_range (fun i ρ => ∃ ds', ρ = [.own ds', .no, .no, .no, .no, .no, .no, .no] ∧ BoxD ds' (n + 5 * i)) ?_ ?_ ?_
  · exact ⟨ds, rfl, hb⟩
  · rintro i ρ hi ⟨ds1, rfl, hb1⟩
    unfold F__law_parted_right_5
    walk_at "f"
    refine take_step hb1 (by decide) (by decide) (by omega) fun r1 d1 _ _ hb2 => ?_
    refine take_step hb2 (by decide) (by decide) (by omega) fun r2 d2 _ _ hb3 => ?_
    refine take_step hb3 (by decide) (by decide) (by omega) fun r3 d3 a3 b3 hb4 => ?_
    obtain ⟨v, e, m⟩ := at_mem (xs := [PyData.int r1, PyData.int r2, PyData.int 9999999, PyData.int 0]) a3 b3
    obtain ⟨a, rfl, a0, a1⟩ : ∃ a, v = .int a ∧ 0 ≤ a ∧ a ≤ 9999999 := by
      simp only [List.mem_cons, List.not_mem_nil, or_false] at m
      rcases m with rfl | rfl | rfl | rfl <;> exact ⟨_, rfl, by omega, by omega⟩
    refine ⟨_, e, ?_⟩
    refine take_step hb4 (by decide) (by decide) (by omega) fun r4 d4 _ _ hb5 => ?_
    refine take_step hb5 (by decide) (by decide) (by omega) fun r5 d5 a5 b5 hb6 => ?_
    obtain ⟨v, e, m⟩ := at_mem (xs := [PyData.int 0, PyData.int 100, PyData.int r4, PyData.int 1]) a5 b5
    obtain ⟨s, rfl, s0, s1⟩ : ∃ s, v = .int s ∧ 0 ≤ s ∧ s ≤ 100 := by
      simp only [List.mem_cons, List.not_mem_nil, or_false] at m
      rcases m with rfl | rfl | rfl | rfl <;> exact ⟨_, rfl, by omega, by omega⟩
    refine ⟨_, e, f_parted s0 (by omega) fun _ => ?_⟩
    walk_at "f"
    refine lc_map [a - a * s / 100, a * s / 100] PyData.int (fun _ => some (.bool true)) rfl rfl (by show 2 ≤ sizeLine; decide) (fun x R acc _ hacc hR => ?_) ?_
    · unfold F__law_parted_right_4
      walk_at "f"
      exact f_number fun _ => ⟨hacc, hR⟩
    · refine boolsF_map (bs := [true, true]) ?_
      have hmul : 0 ≤ a * s := Int.mul_nonneg a0 s0
      unfold F__law_parted_right_3
      walk_at "f"
      have hq : a * s / 100 ≤ a := by
        have : a * s ≤ a * 100 := Int.mul_le_mul_of_nonneg_left s1 a0
        omega
      rw [if_pos (by omega)]
      refine ⟨.inr ⟨by decide, by decide⟩, .inr ⟨by omega, by omega⟩, ?_⟩
      rw [if_pos (by omega)]
      refine ⟨.inr ⟨by decide, by decide⟩, ?_⟩
      rw [if_neg (by omega)]
      unfold F__law_parted_right_2
      walk_at "f"
      by_cases hs : s < 100
      · rw [if_pos hs]
        refine f_parted (by omega) (by omega) fun _ => ?_
        walk_at "f"
        have hm : a * (s + 1) = a * s + a := by rw [Int.mul_add, Int.mul_one]
        rw [if_neg (by omega)]
        exact ⟨d5, rfl, hb6.mono (by omega)⟩
      · rw [if_neg hs]
        exact ⟨d5, rfl, hb6.mono (by omega)⟩
  · rintro ρ ⟨ds1, rfl, hb1⟩
    unfold F__law_parted_right_1
    walk_at "f"
    exact h _ hb1
theorem shaped_list {xs : List PyData} (h1 : PyData.canLayAll0 xs = true) (h2 : PyData.depthAll xs ≤ 8) : SeqAt.shaped (.list xs) = true := by
  show (PyData.canLayAll0 xs && decide (PyData.depthAll xs + 1 ≤ 64)) = true
  rw [h1, decide_eq_true (by omega)]
  rfl
theorem eqv_refl' {d : PyData} (h : SeqAt.shaped d = true) : PyData.eqv d d = true := SeqAt.eqv_refl _ (SeqAt.canLay_of_shaped h)
theorem inD_int (a : Int) (xs : List Int) : inD (.int a) (xs.map .int) = decide (a ∈ xs) := by
  unfold inD
  rw [List.any_map]
  induction xs with
  | nil => rfl
  | cons x r ih =>
    rw [List.any_cons, ih]
    show ((x == a) || decide (a ∈ r)) = decide (a ∈ x :: r)
    by_cases h : x = a
    · subst h; simp
    · have h1 : (x == a) = false := by simpa using h
      have h2 : ¬ a = x := fun z => h z.symm
      rw [h1, Bool.false_or]
      apply decide_eq_decide.mpr
      simp [h2]
theorem shaped_firsts (l : List (Int × Int)) : SeqAt.shaped (.list (l.map fun p => .int p.1)) = true := by
  have := shaped_ints (l.map Prod.fst)
  rw [List.map_map] at this
  exact this
theorem shaped_seconds (l : List (Int × Int)) : SeqAt.shaped (.list (l.map fun p => .int p.2)) = true := by
  have := shaped_ints (l.map Prod.snd)
  rw [List.map_map] at this
  exact this
theorem fallsL_len {r : List (Int × Int)} (g : RuleW r) (f : Five) (leave : Bool) : (fallsL r f leave).length ≤ 7 := by
  obtain ⟨_, _, l⟩ := fallsA_last r f leave r.length (Nat.le_refl _)
  have l' : (fallsL r f leave).length ≤ r.length + 1 := l
  have := g.few
  omega
theorem f_turn {E : FEnds} {r : List (Int × Int)} {f : Five} (ok : f.Ok) (g : RuleW r) {a0 a2 a4 : Sl}
    (h : ∀ a6 a7, E.nx [a0, .fz (tagD f), a2, .fz (rD r), a4, .fz (.list ((fallsL r f false).map pairD)), .fz a6, .fz a7, .no, .no, .no, .no]) :
    F__law_by_turns_right_9 E [a0, .fz (tagD f), a2, .fz (rD r), a4, .fz (.list ((fallsL r f false).map pairD)), .no, .no, .no, .no, .no, .no] := by
  have lin : sizeLine = 16777216 := by decide +kernel
  have few := g.few
  have l7 := fallsL_len g f false
  unfold F__law_by_turns_right_9
  walk_at "f"
  refine lc_map r pairD (fun p => some (.int p.1)) rfl rfl (by omega) (fun p R acc _ hacc hR => ?_) ?_
  · walk_at "f"
    exact ⟨hacc, hR⟩
  rw [filterMap_some]
  walk_at "f"
  refine ⟨by rw [List.length_map]; omega, ?_⟩
  refine lc_map (fallsL r f false) pairD (fun p => some (.int p.1)) rfl rfl (by omega) (fun p R acc _ hacc hR => ?_) ?_
  · unfold F__law_by_turns_right_8
    walk_at "f"
    exact ⟨hacc, hR⟩
  rw [filterMap_some]
  walk_at "f"
  refine f_falls ok g fun _ => ⟨(shaped_pairs _).1, (shaped_pairs _).1, ?_⟩
  rw [eqv_refl' (shaped_pairs _).1]
  walk_at "f"
  refine lc_map (fallsL r f false) (fun p => .int p.1) (fun _ => some (.bool true)) rfl rfl (by omega) (fun p R acc hm hacc hR => ?_) ?_
  · unfold F__law_by_turns_right_7
    walk_at "f"
    have e : (PyData.int 0 :: r.map fun p => PyData.int p.1) = ((0 : Int) :: r.map Prod.fst).map PyData.int := by rw [List.map_cons, List.map_map]; rfl
    have hin : p.1 - f.day ∈ (0 : Int) :: r.map Prod.fst := by
      rcases (fallsL_mem g ok hm).2.2.2 with z | z
      · rw [z]; exact List.mem_cons_self ..
      · exact List.mem_cons_of_mem _ z
    have hin2 : inD (.int (p.1 - f.day)) (PyData.int 0 :: r.map fun p => PyData.int p.1) = true := by rw [e, inD_int]; exact decide_eq_true hin
    rw [hin2]
    refine ⟨rfl, by rw [Bool.and_eq_true]; exact ⟨rfl, by rw [List.all_map]; exact List.all_eq_true.mpr fun _ _ => rfl⟩, hacc, hR⟩
  rw [filterMap_some]
  refine boolsF_f ?_
  have all1 : ((fallsL r f false).map fun _ => true).all id = true := by rw [List.all_map]; exact List.all_eq_true.mpr fun _ _ => rfl
  rw [all1]
  walk_at "f"
  unfold F__law_by_turns_right_6
  walk_at "f"
  refine lc_map (fallsL r f false) pairD (fun p => some (.int p.1)) rfl rfl (by omega) (fun p R acc hm hacc hR => ?_) ?_
  · unfold F__law_by_turns_right_5
    walk_at "f"
    obtain ⟨i, hi, ei⟩ := List.getElem_of_mem hm
    have e := firstD_of (first_of_fall g ok (i := i) (p := p) (by rw [List.getElem?_eq_getElem hi, ei]))
    refine f_first_day ok g fun _ => ?_
    rw [e]
    exact ⟨hacc, hR⟩
  rw [filterMap_some]
  walk_at "f"
  refine ⟨shaped_firsts _, shaped_firsts _, ?_⟩
  rw [eqv_refl' (shaped_firsts _)]
  walk_at "f"
  unfold F__law_by_turns_right_4
  walk_at "f"
  refine lc_map (fallsL r f false) pairD (fun p => some (.int p.2)) rfl rfl (by omega) (fun p R acc hm hacc hR => ?_) ?_
  · unfold F__law_by_turns_right_2
    walk_at "f"
    have hp := fallsL_mem g ok hm
    refine f_price_on ok hp.2.1 fun _ => ?_
    rw [← hp.1]
    exact ⟨hacc, hR⟩
  rw [filterMap_some]
  walk_at "f"
  refine lc_map (fallsL r f false) pairD (fun p => some (.int p.2)) rfl rfl (by omega) (fun p R acc hm hacc hR => ?_) ?_
  · unfold F__law_by_turns_right_3
    walk_at "f"
    exact ⟨hacc, hR⟩
  rw [filterMap_some]
  walk_at "f"
  refine ⟨shaped_seconds _, shaped_seconds _, ?_⟩
  rw [eqv_refl' (shaped_seconds _)]
  walk_at "f"
  exact h _ _
theorem zip_self_at {α : Type} {xs : List α} {i : Nat} {z : α × α} (h : (xs.zip xs)[i]? = some z) : z.1 = z.2 ∧ z.1 ∈ xs := by
  obtain ⟨h1, h2⟩ := List.getElem?_zip_eq_some.mp h
  rw [h1] at h2
  exact ⟨Option.some.inj h2, List.mem_of_getElem? h1⟩
theorem f_by_turns {rs : List (List (Int × Int))} {f : Five} (ok : f.Ok) (hr : ∀ r ∈ rs, RuleW r) (hl : rs.length ≤ 100) {P : PyData → List Sl → Prop} (h : ∀ sl, P (.bool true) sl) : F__law_by_turns_right [.fz (.list (rs.map rD)), .fz (tagD f)] P := by
  have lin : sizeLine = 16777216 := by decide +kernel
  unfold F__law_by_turns_right
  walk_at "f"
  refine lc_map rs rD (fun r => some (.list ((fallsL r f false).map pairD))) rfl rfl (by omega) (fun r R acc hm hacc hR => ?_) ?_
  · unfold F__law_by_turns_right_11
    walk_at "f"
    exact f_falls ok (hr r hm) fun _ => ⟨hacc, hR⟩
  · rw [filterMap_some]
    walk_at "f"
    refine for_range (fun i ρ => ρ = [.fz (.list (rs.map rD)), .fz (tagD f), .fz (.list (rs.map fun r => .list ((fallsL r f false).map pairD))), .no, .no, .no, .no, .no, .no, .no, .no, .no]) rfl ?_ ?_
    · rintro i ρ hi rfl
      unfold F__law_by_turns_right_10
      walk_at "f"
      rw [zipD_map]
      refine for_map (rs.zip rs) _ (fun _ ρ => ρ = [.fz (.list (rs.map rD)), .fz (tagD f), .fz (.list (rs.map fun r => .list ((fallsL r f false).map pairD))), .no, .fz (.int (i : Int)), .no, .no, .no, .no, .no, .no, .no]) rfl rfl ?_ ?_
      · rintro j z ρ hz hj rfl
        obtain ⟨e, hm⟩ := zip_self_at hz
        rw [← e]
        walk_at "f"
        exact f_turn ok (hr _ hm) fun _ _ => rfl
      · rintro ρ rfl
        rfl
    · rintro ρ rfl
      unfold F__law_by_turns_right_1
      walk_at "f"
      exact h _
def Fz (s : Sl) : Prop := s = .no ∨ ∃ d, s = .fz d
theorem r7 {E : FEnds} {r : List (Int × Int)} {f : Five} {w : Int} {a0 a1 a2 a3 a6 a7 a8 a10 a11 a12 a14 a16 a17 : Sl} (ok : f.Ok) (hw : f.day ≤ w)
    (h : E.nx [a0, a1, a2, a3, .fz (fiveD f), .fz (tagD f), a6, a7, a8, .fz (rD (lowerR r)), a10, a11, a12, .fz (.int w), a14, .fz (.int (priceOn r f w false)), a16, a17]) :
    F__law_right_7 E [a0, a1, a2, a3, .fz (fiveD f), .fz (tagD f), a6, a7, a8, .fz (rD (lowerR r)), a10, a11, a12, .fz (.int w), a14, .fz (.int (priceOn r f w false)), a16, a17] := by
  unfold F__law_right_7
  walk_at "f"
  refine f_is_rule fun _ => ?_
  walk_at "f"
  have hl := (priceOn_free r f w).2
  have fin : if priceOn r f w false < f.least then E.rt (.bool false) [a0, a1, a2, a3, .fz (fiveD f), .fz (tagD f), a6, a7, a8, .fz (rD (lowerR r)), a10, a11, a12, .fz (.int w), a14, .fz (.int (priceOn r f w false)), a16, a17] else E.nx [a0, a1, a2, a3, .fz (fiveD f), .fz (tagD f), a6, a7, a8, .fz (rD (lowerR r)), a10, a11, a12, .fz (.int w), a14, .fz (.int (priceOn r f w false)), a16, a17] := by
    rw [if_neg (by omega)]
    exact h
  cases isRuleP (lowerR r) with
  | false =>
    rw [if_neg (by decide)]
    exact fin
  | true =>
    rw [if_pos rfl]
    refine f_price_on ok hw fun _ => ?_
    have := priceOn_part (r := lowerR r) (s := r) ok (d := w) (leave := false) (partAt_lower r _)
    walk_at "f"
    rw [if_neg (by omega)]
    exact fin
theorem r8 {E : FEnds} {r : List (Int × Int)} {f : Five} {w t : Int} {c : Nat} {a0 a1 a3 a10 a11 a12 a14 a15 a17 : Sl} (ok : f.Ok) (g : RuleW r) (hw : f.day ≤ w) (ht : ∀ p, r[c]? = some p → t = f.day + p.1) (h15 : Fz a15)
    (h : ∀ a16, E.nx [a0, a1, .fz (rD r), a3, .fz (fiveD f), .fz (tagD f), .fz (tagD (bareF f)), .fz (rD (r.take c)), .fz (.int t), .fz (rD (lowerR r)), a10, a11, a12, .fz (.int w), a14, .fz (.int (priceOn r f w false)), a16, a17]) :
    F__law_right_8 E [a0, a1, .fz (rD r), a3, .fz (fiveD f), .fz (tagD f), .fz (tagD (bareF f)), .fz (rD (r.take c)), .fz (.int t), .fz (rD (lowerR r)), a10, a11, a12, .fz (.int w), a14, a15, .no, a17] := by
  have h1 := priceOn_part (r := r) (s := r.take c) ok (d := w) (leave := false) (partAt_shorter g c _)
  have h2 := (priceOn_free r f w).1
  have h3 := priceOn_bare r f w
  have h4 : w < t → priceOn (r.take c) f w false = priceOn r f w false := fun hlt => priceOn_eqp (partAt_till g c fun p hp => by rw [ht p hp] at hlt; omega)
  unfold F__law_right_8
  rcases h15 with rfl | ⟨d15, rfl⟩
  all_goals
    try walk_at "f"
    refine f_price_on ok hw fun _ => ?_
    try walk_at "f"
    refine f_price_on ok hw fun _ => ?_
    try walk_at "f"
    refine f_price_on ok hw fun _ => ?_
    try walk_at "f"
    refine f_price_on (f := bareF f) (bareF_ok ok) hw fun _ => ?_
    try walk_at "f"
    rw [if_neg (by omega), h3]
    have fin := r7 (E := E) (r := r) (w := w) (a0 := a0) (a1 := a1) (a2 := .fz (rD r)) (a3 := a3) (a6 := .fz (tagD (bareF f))) (a7 := .fz (rD (r.take c))) (a8 := .fz (.int t)) (a10 := a10) (a11 := a11) (a12 := a12) (a14 := a14) (a16 := .fz (.list [.int (priceOn (r.take c) f w false), .int (priceOn r f w true), .int (priceOn r f w true)])) (a17 := a17) ok hw (h _)
    by_cases hlt : w < t
    · rw [if_pos hlt, if_pos (h4 hlt), if_neg (by omega), if_pos rfl]
      exact fin
    · rw [if_neg hlt, if_neg (by omega), if_pos rfl]
      exact fin
theorem r3 {E : FEnds} {r : List (Int × Int)} {f : Five} {leave : Bool} {p : Int × Int} {a0 a1 a3 a4 a6 a7 a8 a9 a10 a11 a12 a14 a16 : Sl} (ok : f.Ok) (g : RuleW r) (hp : p ∈ fallsL r f leave)
    (h : E.nx [a0, a1, .fz (rD r), a3, a4, .fz (tagD f), a6, a7, a8, a9, a10, a11, a12, .fz (.int p.1), a14, .fz (.int p.2), a16, .fz (.bool leave)]) :
    F__law_right_3 E [a0, a1, .fz (rD r), a3, a4, .fz (tagD f), a6, a7, a8, a9, a10, a11, a12, .fz (.int p.1), a14, .fz (.int p.2), a16, .fz (.bool leave)] := by
  have hm := fallsL_mem g ok hp
  obtain ⟨i, hi, ei⟩ := List.getElem_of_mem hp
  have e := firstD_of (first_of_fall g ok (i := i) (p := p) (by rw [List.getElem?_eq_getElem hi, ei]))
  unfold F__law_right_3
  try walk_at "f"
  refine f_first_day ok g fun _ => ?_
  rw [e]
  refine ⟨rfl, rfl, ?_⟩
  rw [show PyData.eqv (.int p.1) (.int p.1) = true from eqv_refl' rfl]
  try walk_at "f"
  refine f_price_on ok hm.2.1 fun _ => ?_
  rw [← hm.1]
  try walk_at "f"
  unfold F__law_right_2
  try walk_at "f"
  by_cases h1 : 1 < p.2
  · rw [if_pos h1]
    refine f_first_day ok g fun _ => ?_
    have hb := first_below g ok hp
    rcases firstV_int (r := r) (f := f) (leave := leave) (m := p.2 - 1) with ⟨d, hd⟩ | hd
    · rw [firstD_of hd]
      rw [hd] at hb
      have ne : ¬ d = p.1 := fun z => hb (by rw [z])
      refine ⟨rfl, rfl, ?_⟩
      rw [show PyData.eqv (.int d) (.int p.1) = false from by show (d == p.1) = false; simpa using ne]
      try walk_at "f"
      exact h
    · rw [firstD_non hd]
      refine ⟨rfl, rfl, ?_⟩
      rw [show PyData.eqv .none (.int p.1) = false from rfl]
      try walk_at "f"
      exact h
  · rw [if_neg h1]
    exact h
theorem r1 {N : En → Prop} {r : List (Int × Int)} {f : Five} {c n : Nat} {ds : List PyData} {a1 a3 a4 a6 a8 a9 a10 a11 a12 a13 a14 a15 a16 a17 : Sl} (ok : f.Ok) (g : RuleW r) (hb : BoxD ds n) (hn : n < 10000000) :
    F__law_right_1 { nx := N, rt := fun d _ => d = .bool true } [.own ds, a1, .fz (rD r), a3, a4, .fz (tagD f), a6, .fz (rD (r.take c)), a8, a9, a10, a11, a12, a13, a14, a15, a16, a17] := by
  unfold F__law_right_1
  try walk_at "f"
  refine f_by_turns (rs := [r, r.take c, [], r]) ok ?_ (by show 4 ≤ 100; decide) fun _ => ?_
  · intro q hq
    simp only [List.mem_cons, List.not_mem_nil, or_false] at hq
    rcases hq with rfl | rfl | rfl | rfl
    · exact g
    · exact g.take c
    · exact RuleW.nil
    · exact g
  try walk_at "f"
  exact f_parted_right hb (by omega) fun _ _ => rfl
theorem r5 {N : En → Prop} {r : List (Int × Int)} {f : Five} {c n : Nat} {ds : List PyData} {a1 a3 a4 a6 a8 a9 a10 a11 a12 a13 a14 a15 a16 : Sl} (ok : f.Ok) (g : RuleW r) (hb : BoxD ds n) (hn : n < 10000000) (h13 : Fz a13) (h15 : Fz a15) :
    F__law_right_5 { nx := N, rt := fun d _ => d = .bool true } [.own ds, a1, .fz (rD r), a3, a4, .fz (tagD f), a6, .fz (rD (r.take c)), a8, a9, a10, a11, a12, a13, a14, a15, a16, .no] := by
  unfold F__law_right_5
  try walk_at "f"
  refine for_map [false, true] PyData.bool (fun _ ρ => ∃ a13 a15, Fz a13 ∧ Fz a15 ∧ ρ = [.own ds, a1, .fz (rD r), a3, a4, .fz (tagD f), a6, .fz (rD (r.take c)), a8, a9, a10, a11, a12, a13, a14, a15, a16, .no]) rfl ⟨a13, a15, h13, h15, rfl⟩ ?_ ?_
  · rintro i b ρ hb' hi ⟨a13, a15, h13, h15, rfl⟩
    unfold F__law_right_4
    try walk_at "f"
    refine f_falls ok g fun _ => ?_
    try walk_at "f"
    refine for_map (fallsL r f b) pairD (fun _ ρ => ∃ a13 a15, Fz a13 ∧ Fz a15 ∧ ρ = [.own ds, a1, .fz (rD r), a3, a4, .fz (tagD f), a6, .fz (rD (r.take c)), a8, a9, a10, a11, a12, a13, a14, a15, a16, .fz (.bool b)]) rfl ⟨a13, a15, h13, h15, rfl⟩ ?_ ?_
    · rintro j p ρ hp hj ⟨a13, a15, h13, h15, rfl⟩
      rcases h13 with rfl | ⟨d13, rfl⟩ <;> rcases h15 with rfl | ⟨d15, rfl⟩
      all_goals
        try walk_at "f"
        exact r3 ok g (List.mem_of_getElem? hp) ⟨_, _, .inr ⟨_, rfl⟩, .inr ⟨_, rfl⟩, rfl⟩
    · rintro ρ ⟨a13, a15, h13, h15, rfl⟩
      exact ⟨a13, a15, h13, h15, rfl⟩
  · rintro ρ ⟨a13, a15, h13, h15, rfl⟩
    exact r1 ok g hb hn
theorem r9 {N : En → Prop} {r : List (Int × Int)} {f : Five} {c n : Nat} {t : Int} {ds : List PyData} {a1 a3 : Sl} (ok : f.Ok) (g : RuleW r) (hb : BoxD ds n) (hn : n < 1000000) (ht : ∀ p, r[c]? = some p → t = f.day + p.1) (htd : f.day ≤ t - 1) :
    F__law_right_9 { nx := N, rt := fun d _ => d = .bool true } [.own ds, a1, .fz (rD r), a3, .fz (fiveD f), .fz (tagD f), .fz (tagD (bareF f)), .fz (rD (r.take c)), .fz (.int t), .fz (rD (lowerR r)), .no, .no, .no, .no, .no, .no, .no, .no] := by
  have lin : sizeLine = 16777216 := by decide +kernel
  have d0 := ok.d1
  have d9 := ok.d2
  unfold F__law_right_9
  try walk_at "f"
  refine lc_inv (List.range 8) (fun k : Nat => .int (0 + (k : Int))) (fun j acc ρ => ∃ (ws : List Int) (d5 : List PyData), ws.length = j ∧ (∀ w ∈ ws, f.day ≤ w) ∧ BoxD d5 (n + j) ∧ acc = ws.map PyData.int ∧
    ρ = [.own d5, a1, .fz (rD r), a3, .fz (fiveD f), .fz (tagD f), .fz (tagD (bareF f)), .fz (rD (r.take c)), .fz (.int t), .fz (rD (lowerR r)), .no, .no, .fz (.list [.int f.day, .int (if f.day + 999 < 1998 then f.day + 999 else 1998), .int (t - 1), .int (if 1998 < t then 1998 else t)]), .no, .no, .no, .no, .no]) rfl rfl ?_ ?_ ?_
  · exact ⟨[], ds, rfl, by simp, hb, rfl, rfl⟩
  · rintro j x acc ρ hx hj ⟨ws, d5, lw, hw, b5, rfl, rfl⟩
    rw [List.length_range] at hj
    unfold F__law_right_6
    try walk_at "f"
    refine take_step b5 (by decide) (by decide) (by omega) fun r6 d6 a6 c6 b6 => ?_
    refine ⟨by rw [List.length_map]; omega, ws ++ [f.day + r6], d6, by rw [List.length_append, lw]; rfl, fun y hy => ?_, b6.mono (by omega), by rw [List.map_append]; rfl, rfl⟩
    rcases List.mem_append.mp hy with h | h
    · exact hw y h
    · rw [List.mem_singleton.mp h]; omega
  · rintro acc ρ ⟨ws, d5, lw, hw, b5, rfl, eρ⟩
    rw [List.length_range] at lw b5
    rw [eρ]
    try walk_at "f"
    refine ⟨by rw [List.length_map]; omega, ?_⟩
    refine for_map (ws ++ [f.day, if f.day + 999 < 1998 then f.day + 999 else 1998, t - 1, if 1998 < t then 1998 else t]) PyData.int (fun _ ρ => ∃ a13 a15, Fz a13 ∧ Fz a15 ∧ ρ = [.own d5, a1, .fz (rD r), a3, .fz (fiveD f), .fz (tagD f), .fz (tagD (bareF f)), .fz (rD (r.take c)), .fz (.int t), .fz (rD (lowerR r)), .no, .no, .fz (.list [.int f.day, .int (if f.day + 999 < 1998 then f.day + 999 else 1998), .int (t - 1), .int (if 1998 < t then 1998 else t)]), a13, .no, a15, .no, .no]) (by rw [List.map_append]; rfl) ⟨.no, .no, .inl rfl, .inl rfl, rfl⟩ ?_ ?_
    · rintro j w ρ hw' hj ⟨a13, a15, h13, h15, rfl⟩
      have hwd : f.day ≤ w := by
        rcases List.mem_append.mp (List.mem_of_getElem? hw') with h | h
        · exact hw w h
        · simp only [List.mem_cons, List.not_mem_nil, or_false] at h
          rcases h with rfl | rfl | rfl | rfl
          · omega
          · split <;> omega
          · omega
          · split <;> omega
      rcases h13 with rfl | ⟨d13, rfl⟩
      all_goals
        try walk_at "f"
        exact r8 ok g hwd ht h15 fun a16 => ⟨_, _, .inr ⟨_, rfl⟩, .inr ⟨_, rfl⟩, rfl⟩
    · rintro ρ ⟨a13, a15, h13, h15, rfl⟩
      exact r5 ok g b5 (by omega) h13 h15
theorem f_law_right {ds : List PyData} (hb : BoxD ds 0) : F__law_right [.own ds] fun d _ => d = .bool true := by
  have lin : sizeLine = 16777216 := by decide +kernel
  unfold F__law_right
  try walk_at "f"
  refine f_names (m := 3) hb (by decide) (by decide) fun ss d1 sl ls hss b1 => ?_
  try walk_at "f"
  refine f_rule b1 (by decide) fun r d2 g b2 => ?_
  have few := g.few
  try walk_at "f"
  refine take_step b2 (by rw [List.length_map]; omega) (by rw [List.length_map]; omega) (by omega) fun rc d3 c0 c1 b3 => ?_
  rw [List.length_map] at c1
  obtain ⟨c, rfl⟩ := Int.eq_ofNat_of_zero_le c0
  refine f_five b3 (by omega) (by omega) (by omega) hss fun f d4 sl4 ok b4 => ?_
  try walk_at "f"
  refine f_made b4 (by omega) ok fun d5 sl5 b5 => ?_
  have d0 := ok.d1
  have d9 := ok.d2
  try walk_at "f"
  refine mk_tagE (f := bareF f) (bareF_ok ok) rfl rfl ?_
  have fin : ∀ t, (∀ p, r[c]? = some p → t = f.day + p.1) → f.day ≤ t - 1 → F__law_right_11 { nx := fun ρ' => PyData.none = .bool true, rt := fun d ρ' => d = .bool true } [.own d5, .fz (.list (ss.map .str)), .fz (rD r), .fz (.int c), .fz (fiveD f), .fz (tagD f), .fz (tagD (bareF f)), .fz (rD (r.take c)), .fz (.int t), .no, .no, .no, .no, .no, .no, .no, .no, .no] := by
    intro t ht htd
    unfold F__law_right_11
    try walk_at "f"
    refine lc_map r pairD (fun p => some (pairD (p.1, p.2 - 1))) rfl rfl (by omega) (fun p R acc hm hacc hR => ?_) ?_
    · unfold F__law_right_10
      try walk_at "f"
      exact ⟨hacc, hR⟩
    rw [filterMap_some, show (r.map fun p => pairD (p.1, p.2 - 1)) = (lowerR r).map pairD from by unfold lowerR; rw [List.map_map]; rfl]
    try walk_at "f"
    have last := r9 (N := fun _ => False) (a1 := .fz (.list (ss.map .str))) (a3 := .fz (.int c)) ok g b5 (by omega) ht htd
    refine f_is_rule (r := r.take c) fun _ => ?_
    rw [isRuleP_of (g.take c)]
    try walk_at "f"
    refine ⟨(shaped_pairs r).2, rfl, ?_⟩
    by_cases hr : r = []
    · subst hr
      exact last
    · have hpos : 0 < r.length := List.length_pos_iff.mpr hr
      have hlast : r[r.length - 1]? = some r[r.length - 1] := List.getElem?_eq_getElem (by omega)
      have el : (r.map pairD)[(r.map pairD).length - 1]? = some (pairD r[r.length - 1]) := by rw [List.length_map, List.getElem?_map, hlast]; rfl
      rw [if_pos (by cases r with | nil => exact absurd rfl hr | cons _ _ => rfl)]
      refine ⟨_, at_last el, ?_⟩
      try walk_at "f"
      by_cases h1 : 1 < (r[r.length - 1]).2
      · rw [if_pos h1]
        refine f_is_rule (r := lowerR r) fun _ => ?_
        rw [isRuleP_of (g.lower fun p hp => by rw [hlast] at hp; cases hp; exact h1)]
        try walk_at "f"
        exact last
      · rw [if_neg h1]
        exact last
  rw [List.length_map, cutD_take]
  by_cases hc : (c : Int) < r.length
  · rw [if_pos hc]
    have hrc : r[c]? = some r[c] := List.getElem?_eq_getElem (by omega)
    have hage := g.age _ (List.mem_of_getElem? hrc)
    refine ⟨_, by rw [atI_map, atI_nat' hrc]; rfl, ?_⟩
    try walk_at "f"
    exact fin _ (fun p hp => by rw [hrc] at hp; cases hp; rfl) (by omega)
  · rw [if_neg hc]
    exact fin _ (fun p hp => by rw [List.getElem?_eq_none (by omega)] at hp; cases hp) (by omega)
def top (i : Nat) : Stmt := PySem.Challenge.pw_stallshares_k20_whole_parted_and_prices.main.body.getD i (.Pass ⟨0, 0, 0, 0⟩)
abbrev s__law_folded : Stmt := top 32
abbrev N__law_folded : List Str := ["_law_script", "_law_size", "_law_cells", "_law_k", "_law_cell"]
theorem sc__law_folded : FnScope N__law_folded ["_law_script", "_law_size"] (defScope s__law_folded) := ⟨rfl, rfl, rfl, by decide +kernel, rfl, by decide +kernel, by decide +kernel⟩
abbrev s__law_take : Stmt := top 31
abbrev N__law_take : List Str := ["_law_box_here", "_law_size", "_law_found", "_law_step", "_law_once", "_law_twice"]
theorem sc__law_take : FnScope N__law_take ["_law_box_here", "_law_size"] (defScope s__law_take) := ⟨rfl, rfl, rfl, by decide +kernel, rfl, by decide +kernel, by decide +kernel⟩
abbrev s__law_names : Stmt := top 33
abbrev N__law_names : List Str := ["_law_box_here", "_law_many", "_law_letters", "_law_found", "_law_first", "_law_step", "_law_words", "_law_k", "_law_own", "_law_tail", "_law_turn", "_law_name"]
theorem sc__law_names : FnScope N__law_names ["_law_box_here", "_law_many"] (defScope s__law_names) := ⟨rfl, rfl, rfl, by decide +kernel, rfl, by decide +kernel, by decide +kernel⟩
abbrev s__law_rule : Stmt := top 36
abbrev N__law_rule : List Str := ["_law_box_here", "_law_age", "_law_part", "_law_found", "_law_turn", "_law_pair"]
theorem sc__law_rule : FnScope N__law_rule ["_law_box_here"] (defScope s__law_rule) := ⟨rfl, rfl, rfl, by decide +kernel, rfl, by decide +kernel, by decide +kernel⟩
abbrev s__law_price : Stmt := top 34
abbrev N__law_price : List Str := ["_law_box_here"]
theorem sc__law_price : FnScope N__law_price ["_law_box_here"] (defScope s__law_price) := ⟨rfl, rfl, rfl, by decide +kernel, rfl, by decide +kernel, by decide +kernel⟩
abbrev s__law_five : Stmt := top 35
abbrev N__law_five : List Str := ["_law_box_here", "_law_people", "_law_number", "_law_price_here", "_law_lowest", "_law_when"]
theorem sc__law_five : FnScope N__law_five ["_law_box_here", "_law_people"] (defScope s__law_five) := ⟨rfl, rfl, rfl, by decide +kernel, rfl, by decide +kernel, by decide +kernel⟩
abbrev s_is_name : Stmt := top 11
abbrev N_is_name : List Str := ["thing", "sign"]
theorem sc_is_name : FnScope N_is_name ["thing"] (defScope s_is_name) := ⟨rfl, rfl, rfl, by decide +kernel, rfl, by decide +kernel, by decide +kernel⟩
abbrev s_is_whole : Stmt := top 12
abbrev N_is_whole : List Str := ["thing", "least", "most"]
theorem sc_is_whole : FnScope N_is_whole ["thing", "least", "most"] (defScope s_is_whole) := ⟨rfl, rfl, rfl, by decide +kernel, rfl, by decide +kernel, by decide +kernel⟩
abbrev s_Tag_init : Stmt := inClass (top 15) 0
abbrev N_Tag_init : List Str := ["self", "owner", "number", "price", "least", "day"]
theorem sc_Tag_init : FnScope N_Tag_init ["self", "owner", "number", "price", "least", "day"] (defScope s_Tag_init) := ⟨rfl, rfl, rfl, by decide +kernel, rfl, by decide +kernel, by decide +kernel⟩
abbrev s__law_made : Stmt := top 37
abbrev N__law_made : List Str := ["_law_box_here", "_law_five_here", "_law_owner", "_law_number", "_law_price_here", "_law_lowest", "_law_when", "_law_way"]
theorem sc__law_made : FnScope N__law_made ["_law_box_here", "_law_five_here"] (defScope s__law_made) := ⟨rfl, rfl, rfl, by decide +kernel, rfl, by decide +kernel, by decide +kernel⟩
abbrev s_part_at : Stmt := top 23
abbrev N_part_at : List Str := ["rule", "age", "found", "least", "part"]
theorem sc_part_at : FnScope N_part_at ["rule", "age"] (defScope s_part_at) := ⟨rfl, rfl, rfl, by decide +kernel, rfl, by decide +kernel, by decide +kernel⟩
abbrev s_price_by : Stmt := top 24
abbrev N_price_by : List Str := ["rule", "price", "age"]
theorem sc_price_by : FnScope N_price_by ["rule", "price", "age"] (defScope s_price_by) := ⟨rfl, rfl, rfl, by decide +kernel, rfl, by decide +kernel, by decide +kernel⟩
abbrev s_price_on : Stmt := top 25
abbrev N_price_on : List Str := ["rule", "tag", "day", "leave", "found"]
theorem sc_price_on : FnScope N_price_on ["rule", "tag", "day", "leave"] (defScope s_price_on) := ⟨rfl, rfl, rfl, by decide +kernel, rfl, by decide +kernel, by decide +kernel⟩
abbrev s_falls : Stmt := top 26
abbrev N_falls : List Str := ["rule", "tag", "leave", "found", "age", "part", "price"]
theorem sc_falls : FnScope N_falls ["rule", "tag", "leave"] (defScope s_falls) := ⟨rfl, rfl, rfl, by decide +kernel, rfl, by decide +kernel, by decide +kernel⟩
abbrev s_first_day : Stmt := top 27
abbrev N_first_day : List Str := ["rule", "tag", "amount", "leave", "day", "price"]
theorem sc_first_day : FnScope N_first_day ["rule", "tag", "amount", "leave"] (defScope s_first_day) := ⟨rfl, rfl, rfl, by decide +kernel, rfl, by decide +kernel, by decide +kernel⟩
abbrev s__law_by_turns_right : Stmt := top 40
abbrev N__law_by_turns_right : List Str := ["_law_rules", "_law_tag", "_law_dues", "_law_rule_here", "_law_turn", "_law_due", "_law_ages", "_law_whens", "_law_age", "_law_part", "_law_pair", "_law_when"]
theorem sc__law_by_turns_right : FnScope N__law_by_turns_right ["_law_rules", "_law_tag"] (defScope s__law_by_turns_right) := ⟨rfl, rfl, rfl, by decide +kernel, rfl, by decide +kernel, by decide +kernel⟩
abbrev s_parted : Stmt := top 28
abbrev N_parted : List Str := ["amount", "share", "stalls"]
theorem sc_parted : FnScope N_parted ["amount", "share"] (defScope s_parted) := ⟨rfl, rfl, rfl, by decide +kernel, rfl, by decide +kernel, by decide +kernel⟩
abbrev s__law_is_number : Stmt := top 39
abbrev N__law_is_number : List Str := ["_law_thing"]
theorem sc__law_is_number : FnScope N__law_is_number ["_law_thing"] (defScope s__law_is_number) := ⟨rfl, rfl, rfl, by decide +kernel, rfl, by decide +kernel, by decide +kernel⟩
abbrev s__law_parted_right : Stmt := top 38
abbrev N__law_parted_right : List Str := ["_law_box_here", "_law_turn", "_law_amount", "_law_share", "_law_found", "_law_one", "_law_people", "_law_stalls"]
theorem sc__law_parted_right : FnScope N__law_parted_right ["_law_box_here"] (defScope s__law_parted_right) := ⟨rfl, rfl, rfl, by decide +kernel, rfl, by decide +kernel, by decide +kernel⟩
abbrev s_is_rule_pair : Stmt := top 21
abbrev N_is_rule_pair : List Str := ["thing"]
theorem sc_is_rule_pair : FnScope N_is_rule_pair ["thing"] (defScope s_is_rule_pair) := ⟨rfl, rfl, rfl, by decide +kernel, rfl, by decide +kernel, by decide +kernel⟩
abbrev s_is_rule : Stmt := top 22
abbrev N_is_rule : List Str := ["thing", "pair", "one", "other"]
theorem sc_is_rule : FnScope N_is_rule ["thing"] (defScope s_is_rule) := ⟨rfl, rfl, rfl, by decide +kernel, rfl, by decide +kernel, by decide +kernel⟩
abbrev s__law_right : Stmt := top 41
abbrev N__law_right : List Str := ["_law_box_here", "_law_people", "_law_rule_here", "_law_cut", "_law_five_here", "_law_tag", "_law_bare", "_law_shorter", "_law_till", "_law_lower", "_law_age", "_law_part", "_law_days", "_law_when", "_law_turn", "_law_price_here", "_law_some", "_law_freely"]
theorem sc__law_right : FnScope N__law_right ["_law_box_here"] (defScope s__law_right) := ⟨rfl, rfl, rfl, by decide +kernel, rfl, by decide +kernel, by decide +kernel⟩
abbrev s__law_box : Stmt := top 30
abbrev N__law_box : List Str := ["_law_script", "_law_k", "_law_cell"]
theorem sc__law_box : FnScope N__law_box ["_law_script", "_law_k"] (defScope s__law_box) := ⟨rfl, rfl, rfl, by decide +kernel, rfl, by decide +kernel, by decide +kernel⟩
abbrev s_law : Stmt := top 42
abbrev N_law : List Str := ["_law_script", "_law_cells", "_law_k"]
theorem sc_law : FnScope N_law ["_law_script"] (defScope s_law) := ⟨rfl, rfl, rfl, by decide +kernel, rfl, by decide +kernel, by decide +kernel⟩
structure Ad where
  C_Tag : Addr
  f__law_folded : Addr
  d__law_folded : FuncData
  f__law_take : Addr
  d__law_take : FuncData
  f__law_names : Addr
  d__law_names : FuncData
  f__law_rule : Addr
  d__law_rule : FuncData
  f__law_price : Addr
  d__law_price : FuncData
  f__law_five : Addr
  d__law_five : FuncData
  f_is_name : Addr
  d_is_name : FuncData
  f_is_whole : Addr
  d_is_whole : FuncData
  f_Tag_init : Addr
  d_Tag_init : FuncData
  f__law_made : Addr
  d__law_made : FuncData
  f_part_at : Addr
  d_part_at : FuncData
  f_price_by : Addr
  d_price_by : FuncData
  f_price_on : Addr
  d_price_on : FuncData
  f_falls : Addr
  d_falls : FuncData
  f_first_day : Addr
  d_first_day : FuncData
  f__law_by_turns_right : Addr
  d__law_by_turns_right : FuncData
  f_parted : Addr
  d_parted : FuncData
  f__law_is_number : Addr
  d__law_is_number : FuncData
  f__law_parted_right : Addr
  d__law_parted_right : FuncData
  f_is_rule_pair : Addr
  d_is_rule_pair : FuncData
  f_is_rule : Addr
  d_is_rule : FuncData
  f__law_right : Addr
  d__law_right : FuncData
  f__law_box : Addr
  d__law_box : FuncData
  f_law : Addr
  d_law : FuncData
structure Txt (K : PySem.W.Frag) (mg : Str → Option Value) (a : Ad) : Prop where
  n_list : mg "list" = none
  n_enumerate : mg "enumerate" = none
  n_divmod : mg "divmod" = none
  n_range : mg "range" = none
  n_tuple : mg "tuple" = none
  n_len : mg "len" = none
  n_all : mg "all" = none
  n_isinstance : mg "isinstance" = none
  n_str : mg "str" = none
  n_int : mg "int" = none
  n_bool : mg "bool" = none
  n_max : mg "max" = none
  n_zip : mg "zip" = none
  n_min : mg "min" = none
  n_abs : mg "abs" = none
  c_SMALL_SIGNS : ∃ u, mg "SMALL_SIGNS" = some u ∧ RelV (.str "abcdefghijklmnopqrstuvwxyz") u
  c_MOST_SIGNS : ∃ u, mg "MOST_SIGNS" = some u ∧ RelV (.int 8) u
  c_MOST_NUMBER : ∃ u, mg "MOST_NUMBER" = some u ∧ RelV (.int 9999) u
  c_MOST_PRICE : ∃ u, mg "MOST_PRICE" = some u ∧ RelV (.int 99999) u
  c_MOST_DAY : ∃ u, mg "MOST_DAY" = some u ∧ RelV (.int 999) u
  c_MOST_PAIRS : ∃ u, mg "MOST_PAIRS" = some u ∧ RelV (.int 6) u
  c_MOST_AGE : ∃ u, mg "MOST_AGE" = some u ∧ RelV (.int 999) u
  c_MOST_PART : ∃ u, mg "MOST_PART" = some u ∧ RelV (.int 99) u
  c_WHOLE_PART : ∃ u, mg "WHOLE_PART" = some u ∧ RelV (.int 100) u
  cl_Tag : Cls K a.C_Tag
  g_Tag : mg "Tag" = some (.ref a.C_Tag)
  q_Tag : PySem.W.nsIn K mainGlobals "Tag" = some (some (.ref a.C_Tag))
  mk_Tag : Mk K a.C_Tag a.f_Tag_init
  na_Tag_owner : NoAttr K a.C_Tag "owner"
  na_Tag_number : NoAttr K a.C_Tag "number"
  na_Tag_price : NoAttr K a.C_Tag "price"
  na_Tag_least : NoAttr K a.C_Tag "least"
  na_Tag_day : NoAttr K a.C_Tag "day"
  F__law_folded : Fun K "_law_folded" "_law_folded" s__law_folded a.f__law_folded a.d__law_folded
  g__law_folded : mg "_law_folded" = some (.ref a.f__law_folded)
  b__law_folded : Binds K a.d__law_folded ["_law_script", "_law_size"] []
  F__law_take : Fun K "_law_take" "_law_take" s__law_take a.f__law_take a.d__law_take
  g__law_take : mg "_law_take" = some (.ref a.f__law_take)
  b__law_take : Binds K a.d__law_take ["_law_box_here", "_law_size"] []
  F__law_names : Fun K "_law_names" "_law_names" s__law_names a.f__law_names a.d__law_names
  g__law_names : mg "_law_names" = some (.ref a.f__law_names)
  b__law_names : Binds K a.d__law_names ["_law_box_here", "_law_many"] []
  F__law_rule : Fun K "_law_rule" "_law_rule" s__law_rule a.f__law_rule a.d__law_rule
  g__law_rule : mg "_law_rule" = some (.ref a.f__law_rule)
  b__law_rule : Binds K a.d__law_rule ["_law_box_here"] []
  F__law_price : Fun K "_law_price" "_law_price" s__law_price a.f__law_price a.d__law_price
  g__law_price : mg "_law_price" = some (.ref a.f__law_price)
  b__law_price : Binds K a.d__law_price ["_law_box_here"] []
  F__law_five : Fun K "_law_five" "_law_five" s__law_five a.f__law_five a.d__law_five
  g__law_five : mg "_law_five" = some (.ref a.f__law_five)
  b__law_five : Binds K a.d__law_five ["_law_box_here", "_law_people"] []
  F_is_name : Fun K "is_name" "is_name" s_is_name a.f_is_name a.d_is_name
  g_is_name : mg "is_name" = some (.ref a.f_is_name)
  b_is_name : Binds K a.d_is_name ["thing"] []
  F_is_whole : Fun K "is_whole" "is_whole" s_is_whole a.f_is_whole a.d_is_whole
  g_is_whole : mg "is_whole" = some (.ref a.f_is_whole)
  b_is_whole : Binds K a.d_is_whole ["thing", "least", "most"] []
  F_Tag_init : FunD K "__init__" "Tag.__init__" (defArgs s_Tag_init) (defBody s_Tag_init) (defScope s_Tag_init) [.int 0, .int 0] [] a.f_Tag_init a.d_Tag_init
  b_Tag_init_6 : ∃ ds, Vals [] ds ∧ Binds K a.d_Tag_init ["self", "owner", "number", "price", "least", "day"] ds
  b_Tag_init_4 : ∃ ds, Vals [.int 0, .int 0] ds ∧ Binds K a.d_Tag_init ["self", "owner", "number", "price", "least", "day"] ds
  kb_Tag_init_4_day : ∃ its : List Value, KBn K a.d_Tag_init ["self", "owner", "number", "price", "least", "day"] 4 ["day"] (fun us ws => us ++ (its.drop 0).take 1 ++ (ws.drop 0).take 1) (fun vs zs => vs ++ (([.int 0, .int 0] : List V).drop 0).take 1 ++ (zs.drop 0).take 1)
  b_Tag_init_5 : ∃ ds, Vals [.int 0] ds ∧ Binds K a.d_Tag_init ["self", "owner", "number", "price", "least", "day"] ds
  kb_Tag_init_4_day_least : ∃ its : List Value, KBn K a.d_Tag_init ["self", "owner", "number", "price", "least", "day"] 4 ["day", "least"] (fun us ws => us ++ (ws.drop 1).take 1 ++ (ws.drop 0).take 1) (fun vs zs => vs ++ (zs.drop 1).take 1 ++ (zs.drop 0).take 1)
  F__law_made : Fun K "_law_made" "_law_made" s__law_made a.f__law_made a.d__law_made
  g__law_made : mg "_law_made" = some (.ref a.f__law_made)
  b__law_made : Binds K a.d__law_made ["_law_box_here", "_law_five_here"] []
  F_part_at : Fun K "part_at" "part_at" s_part_at a.f_part_at a.d_part_at
  g_part_at : mg "part_at" = some (.ref a.f_part_at)
  b_part_at : Binds K a.d_part_at ["rule", "age"] []
  F_price_by : Fun K "price_by" "price_by" s_price_by a.f_price_by a.d_price_by
  g_price_by : mg "price_by" = some (.ref a.f_price_by)
  b_price_by : Binds K a.d_price_by ["rule", "price", "age"] []
  F_price_on : FunD K "price_on" "price_on" (defArgs s_price_on) (defBody s_price_on) (defScope s_price_on) [.bl false] [] a.f_price_on a.d_price_on
  g_price_on : mg "price_on" = some (.ref a.f_price_on)
  kb_price_on_3_leave : ∃ its : List Value, KBn K a.d_price_on ["rule", "tag", "day", "leave"] 3 ["leave"] (fun us ws => us ++ (ws.drop 0).take 1) (fun vs zs => vs ++ (zs.drop 0).take 1)
  b_price_on_3 : ∃ ds, Vals [.bl false] ds ∧ Binds K a.d_price_on ["rule", "tag", "day", "leave"] ds
  b_price_on_4 : ∃ ds, Vals [] ds ∧ Binds K a.d_price_on ["rule", "tag", "day", "leave"] ds
  F_falls : FunD K "falls" "falls" (defArgs s_falls) (defBody s_falls) (defScope s_falls) [.bl false] [] a.f_falls a.d_falls
  g_falls : mg "falls" = some (.ref a.f_falls)
  kb_falls_2_leave : ∃ its : List Value, KBn K a.d_falls ["rule", "tag", "leave"] 2 ["leave"] (fun us ws => us ++ (ws.drop 0).take 1) (fun vs zs => vs ++ (zs.drop 0).take 1)
  b_falls_2 : ∃ ds, Vals [.bl false] ds ∧ Binds K a.d_falls ["rule", "tag", "leave"] ds
  b_falls_3 : ∃ ds, Vals [] ds ∧ Binds K a.d_falls ["rule", "tag", "leave"] ds
  F_first_day : FunD K "first_day" "first_day" (defArgs s_first_day) (defBody s_first_day) (defScope s_first_day) [.bl false] [] a.f_first_day a.d_first_day
  g_first_day : mg "first_day" = some (.ref a.f_first_day)
  b_first_day_3 : ∃ ds, Vals [.bl false] ds ∧ Binds K a.d_first_day ["rule", "tag", "amount", "leave"] ds
  b_first_day_4 : ∃ ds, Vals [] ds ∧ Binds K a.d_first_day ["rule", "tag", "amount", "leave"] ds
  F__law_by_turns_right : Fun K "_law_by_turns_right" "_law_by_turns_right" s__law_by_turns_right a.f__law_by_turns_right a.d__law_by_turns_right
  g__law_by_turns_right : mg "_law_by_turns_right" = some (.ref a.f__law_by_turns_right)
  b__law_by_turns_right : Binds K a.d__law_by_turns_right ["_law_rules", "_law_tag"] []
  F_parted : Fun K "parted" "parted" s_parted a.f_parted a.d_parted
  g_parted : mg "parted" = some (.ref a.f_parted)
  b_parted : Binds K a.d_parted ["amount", "share"] []
  F__law_is_number : Fun K "_law_is_number" "_law_is_number" s__law_is_number a.f__law_is_number a.d__law_is_number
  g__law_is_number : mg "_law_is_number" = some (.ref a.f__law_is_number)
  b__law_is_number : Binds K a.d__law_is_number ["_law_thing"] []
  F__law_parted_right : Fun K "_law_parted_right" "_law_parted_right" s__law_parted_right a.f__law_parted_right a.d__law_parted_right
  g__law_parted_right : mg "_law_parted_right" = some (.ref a.f__law_parted_right)
  b__law_parted_right : Binds K a.d__law_parted_right ["_law_box_here"] []
  F_is_rule_pair : Fun K "is_rule_pair" "is_rule_pair" s_is_rule_pair a.f_is_rule_pair a.d_is_rule_pair
  g_is_rule_pair : mg "is_rule_pair" = some (.ref a.f_is_rule_pair)
  b_is_rule_pair : Binds K a.d_is_rule_pair ["thing"] []
  F_is_rule : Fun K "is_rule" "is_rule" s_is_rule a.f_is_rule a.d_is_rule
  g_is_rule : mg "is_rule" = some (.ref a.f_is_rule)
  b_is_rule : Binds K a.d_is_rule ["thing"] []
  F__law_right : Fun K "_law_right" "_law_right" s__law_right a.f__law_right a.d__law_right
  g__law_right : mg "_law_right" = some (.ref a.f__law_right)
  b__law_right : Binds K a.d__law_right ["_law_box_here"] []
  F__law_box : Fun K "_law_box" "_law_box" s__law_box a.f__law_box a.d__law_box
  g__law_box : mg "_law_box" = some (.ref a.f__law_box)
  b__law_box : Binds K a.d__law_box ["_law_script", "_law_k"] []
  F_law : Fun K "law" "law" s_law a.f_law a.d_law
/-! ### the box and its draws -/
def sp__law_box (K : PySem.W.Frag) : Sp := fun vs H Q _ => ∃ (a : Addr) (ns : List Int) (k : Nat), vs = [.ref a, .int k] ∧ SqL K H a (ns.map V.int) ∧ k < 1000 ∧
  ∀ p H', H p = none → Same H H' → Box H' p 0 → Q (.ref p) H'
def sp__law_take : Sp := fun vs H Q _ => ∃ (B : Addr) (m : Int) (n : Nat), vs = [.ref B, .int m] ∧ Box H B n ∧ 0 < m ∧ m < 1073741824 ∧ n < 1000000000 ∧
  ∀ r H', 0 ≤ r → r < m → Fr [B] H H' → Box H' B (n + 1) → Q (.int r) H'
theorem ok__law_box {P : Program} {w : World} {K : PySem.W.Frag} {mg : Str → Option Value} {base : Heap} {ad : Ad} (T : Txt K mg ad) : FnOk P w K mg base CX0 1 ad.f__law_box ad.d__law_box ["_law_script", "_law_k"] (sp__law_box K) := by
  refine T.F__law_box.ok sc__law_box (fun vs H Q E h => ?_) (fun cdv A outer s H vs Q E hr h => ?_)
  · obtain ⟨a, ns, k, rfl, _⟩ := h
    rfl
  · obtain ⟨a, ns, k, rfl, hS, hk, q⟩ := h
    refine ⟨_, (pss_cons (ps_set (i := 2) sc__law_box.nd rfl (Or.inl rfl) (pe_ifExp (pt_cmpR op_lt (pv 1) (pe_callB call_len_seq (by rfl) T.n_len PySem.boot_len (pa_cons (pv 0) pa_nil)) (nomark _)) (pe_ix ix_list (pv 0) (pv 1) (fun _ _ => rfl)) pe_int))
    (pss_one (ps_ret (pe_lst (pa_cons (pe_op op_mul (pe_callB call_abs (by rfl) T.n_abs (by decide +kernel) (pa_cons (pv 2) pa_nil)) (pe_callTy call_int1 (by rfl) T.n_int (by decide +kernel) (pa_cons (pe_cmpR op_ge (pe_callB call_abs (by rfl) T.n_abs (by decide +kernel) (pa_cons (pv 2) pa_nil)) (pe_op op_pow pe_int pe_int) (nomark _)) pa_nil))) (pa_cons (pe_op op_mod (pe_op op_mul (pe_op op_add (pe_op op_add (pe_op op_mod (pv 2) pe_int) (pe_op op_mul pe_int (pv 1))) pe_int) pe_int) pe_int) (pa_cons pe_int pa_nil))))))), ?_⟩
    refine ⟨_, rfl, _, rfl, a, _, rfl, .inl hS, _, _, rfl, rfl, _, rfl, ?_⟩
    refine ite2 (fun h => ?_) (fun h => ?_)
    · have hkl : k < ns.length := by simpa using h
      have e : (ns.map V.int)[k]? = some (V.int ns[k]) := by rw [List.getElem?_map, List.getElem?_eq_getElem hkl]; rfl
      refine ⟨_, rfl, _, rfl, a, _, _, _, rfl, rfl, hS, atI_nat e, ?_⟩
      generalize ns[k] = c
      walk_at "z"
      refine fun p hp => ?_
      refine q p _ hp (Same.new hp) ⟨_, _, _, upd_same, ?_, Int.emod_nonneg _ (by decide), Int.emod_lt_of_pos _ (by decide), by decide, by decide⟩
      refine Int.mul_nonneg (by split <;> omega) (ite01 _)
    · walk_at "z"
      refine fun p hp => ?_
      refine q p _ hp (Same.new hp) ⟨_, _, _, upd_same, by decide, Int.emod_nonneg _ (by decide), Int.emod_lt_of_pos _ (by decide), by decide, by decide⟩
theorem ok__law_take {P : Program} {w : World} {K : PySem.W.Frag} {mg : Str → Option Value} {base : Heap} {ad : Ad} (T : Txt K mg ad) : FnOk P w K mg base CX0 1 ad.f__law_take ad.d__law_take ["_law_box_here", "_law_size"] sp__law_take := by
  refine T.F__law_take.ok sc__law_take (fun vs H Q E h => ?_) (fun cdv A outer s H vs Q E hr h => ?_)
  · obtain ⟨a, ns, k, rfl, _⟩ := h
    rfl
  · obtain ⟨B, m, n, rfl, ⟨b0, b1, b2, hB, h0, h1, h2, h3, h4⟩, m0, m1, hn, q⟩ := h
    refine ⟨_, (pss_cons (ps_if (pt_cmpR op_gt (pe_ix ix_list (pv 0) pe_int (fun _ _ => rfl)) pe_int (nomark _)) (pss_cons (ps_asg (pe_callB call_divmod (by rfl) T.n_divmod (by decide +kernel) (pa_cons (pe_ix ix_list (pv 0) pe_int (fun _ _ => rfl)) (pa_cons (pv 1) pa_nil))) (pg_tup (by rfl) (pgs_cons (pg_sub (pv 0) pe_int set_list) (pgs_cons (pg_name (i := 2) sc__law_take.nd rfl (Or.inl rfl)) pgs_nil))))
    (pss_one (ps_ret (pv 2)))) pss_nil)
    (pss_cons (ps_asg (pe_op op_add (pe_ix ix_list (pv 0) pe_int (fun _ _ => rfl)) pe_int) (pg_sub (pv 0) pe_int set_list))
    (pss_cons (ps_set (i := 3) sc__law_take.nd rfl (Or.inl rfl) (pe_op op_add pe_int (pe_op op_mul (pe_ix ix_list (pv 0) pe_int (fun _ _ => rfl)) (pe_ix ix_list (pv 0) pe_int (fun _ _ => rfl)))))
    (pss_cons (ps_set (i := 4) sc__law_take.nd rfl (Or.inl rfl) (pe_op op_mod (pe_op op_mul (pe_op op_add (pe_ix ix_list (pv 0) pe_int (fun _ _ => rfl)) (pe_op op_mul pe_int (pe_ix ix_list (pv 0) pe_int (fun _ _ => rfl)))) (pv 3)) pe_int))
    (pss_cons (ps_set (i := 5) sc__law_take.nd rfl (Or.inl rfl) (pe_op op_mod (pe_op op_add (pe_op op_mul (pv 4) (pe_op op_add (pe_op op_mod (pv 4) pe_int) pe_int)) (pe_ix ix_list (pv 0) pe_int (fun _ _ => rfl))) pe_int))
    (pss_one (ps_ret (pe_op op_mod (pe_op op_fdiv (pe_op op_mod (pe_op op_mul (pv 5) (pe_op op_add (pe_op op_mod (pv 5) pe_int) pe_int)) pe_int) pe_int) (pv 1))))))))), ?_⟩
    walk_at "z"
    refine ite2 (fun h => ?_) (fun h => ?_)
    · walk_at "z"
      refine fun p hp => ?_
      have hBp : B ≠ p := ne_of_none hB hp
      have hB' : upd H p (.tup [.int (b0 / m), .int (b0 % m)]) B = some (.lst [.int b0, .int b1, .int b2]) := by rw [upd_ne hBp]; exact hB
      walk_at "z"
      refine q _ _ (Int.emod_nonneg _ (by omega)) (Int.emod_lt_of_pos _ m0) ?_ ?_
      · exact (Fr.new hp).put (by simp)
      · exact ⟨_, _, _, upd_same, Int.ediv_nonneg h0 (by omega), h1, h2, h3, by omega⟩
    · walk_at "z"
      refine q _ _ (Int.emod_nonneg _ (by omega)) (Int.emod_lt_of_pos _ m0) ((Fr.refl _ _).put (by simp)) ⟨_, _, _, upd_same, h0, h1, h2, by omega, by omega⟩

theorem okD__law_take {P : Program} {w : World} {K : PySem.W.Frag} {mg : Str → Option Value} {base : Heap} {ad : Ad} (T : Txt K mg ad) : FnOk P w K mg base CX0 1 ad.f__law_take ad.d__law_take ["_law_box_here", "_law_size"] (spF K 2 F__law_take) :=
  (ok__law_take T).imp fun _ _ _ _ h => take_of h

/-! ### the script's numbers, those behind added on -/
def sp__law_folded (K : PySem.W.Frag) : Sp := fun vs H Q _ => ∃ (a : Addr) (ns : List Int) (m : Nat), vs = [.ref a, .int (m : Int)] ∧ SqL K H a (ns.map V.int) ∧ ns.length ≤ 63 ∧ 0 < m ∧ m ≤ 63 ∧
  ∀ (p : Addr) (ms : List Int) (H' : Hp), H p = none → Same H H' → H' p = some (.lst (ms.map V.int)) → ms.length ≤ m → Q (.ref p) H'
theorem ok__law_folded {P : Program} {w : World} {K : PySem.W.Frag} {mg : Str → Option Value} {base : Heap} {ad : Ad} (T : Txt K mg ad) : FnOk P w K mg base CX0 1 ad.f__law_folded ad.d__law_folded ["_law_script", "_law_size"] (sp__law_folded K) := by
  refine T.F__law_folded.ok sc__law_folded (fun vs H Q E h => ?_) (fun cdv A outer s H vs Q E hr h => ?_)
  · obtain ⟨a, ns, m, rfl, _⟩ := h
    rfl
  · obtain ⟨a, ns, m, rfl, hS, hl, m0, m1, q⟩ := h
    refine ⟨_, (pss_cons (ps_set (i := 2) sc__law_folded.nd rfl (Or.inl rfl) (pe_callTy call_list_of (by rfl) T.n_list (by decide +kernel) (pa_cons (pe_slice sl_list (pv 0) po_none (po_some (pv 1))) pa_nil)))
    (pss_cons (ps_for PassesOwn.never rfl (pi_enum (by rfl) T.n_enumerate (pa_cons (pe_slice sl_list (pv 0) (po_some (pv 1)) (po_some pe_int)) pa_nil)) (pg_tup (by rfl) (pgs_cons (pg_name (i := 3) sc__law_folded.nd rfl (Or.inl rfl)) (pgs_cons (pg_name (i := 4) sc__law_folded.nd rfl (Or.inl rfl)) pgs_nil)))
    (pss_one (ps_asg (pe_op op_add (pe_ix ix_list (pv 2) (pe_op op_mod (pv 3) (pv 1)) (fun _ _ => rfl)) (pe_op op_mul (pv 4) (pe_op op_add (pv 3) pe_int))) (pg_sub (pv 2) (pe_op op_mod (pv 3) (pv 1)) set_list))))
    (pss_one (ps_ret (pv 2))))), ?_⟩
    refine ⟨_, rfl, _, rfl, _, rfl, a, _, rfl, hS, fun p hp => ?_⟩
    refine ⟨p, _, rfl, .inl (SqL.of upd_same), fun c hc => ?_⟩
    have e1 : cutV (ns.map V.int) none (some (m : Int)) = (ns.take m).map V.int := by
      unfold cutV
      rw [HT.sIx_none, HT.sIx_nat, List.length_map]
      simp
    have hcp : c ≠ p := (ne_of_none upd_same hc).symm
    have s1 : Same H (upd (upd H p (.lst (cutV (ns.map V.int) none (some (m : Int))))) c (.lst (cutV (ns.map V.int) none (some (m : Int))))) := (Same.new hp).trans (Same.new hc)
    refine ⟨_, rfl, _, rfl, _, rfl, _, rfl, a, _, rfl, s1.seq hS, fun p2 hp2 => ?_⟩
    have e2 : cutV (ns.map V.int) (some (m : Int)) (some 63) = (ns.drop m).map V.int := by
      unfold cutV
      have e63 : (63 : Int) = ((63 : Nat) : Int) := rfl
      rw [e63, HT.sIx_nat, HT.sIx_nat, List.length_map, ← List.map_drop, ← List.map_take]
      congr 1
      rw [List.take_of_length_le (by rw [List.length_drop]; omega)]
      by_cases h : m ≤ ns.length
      · rw [Nat.min_eq_left h]
      · rw [Nat.min_eq_right (by omega), List.drop_length, List.drop_eq_nil_of_le (by omega)]
    rw [e1] at s1 hp2 ⊢
    rw [e2]
    have hcp2 : c ≠ p2 := ne_of_none upd_same hp2
    refine ⟨p2, _, rfl, SqL.of upd_same, ?_⟩
    have c0 : H c = none := by rw [upd_ne hcp] at hc; exact hc
    refine for_it (walk_enum (xs := (ns.drop m).map V.int)) (fun i σ H' => Same H H' ∧ H' p2 = some (.lst ((ns.drop m).map V.int)) ∧ (∃ ms : List Int, H' c = some (.lst (ms.map V.int)) ∧ ms.length = min m ns.length) ∧ ∃ v3 v4, σ = [some (.ref a), some (.int (m : Int)), some (.ref c), v3, v4])
      ⟨s1.trans (Same.new hp2), upd_same, ⟨ns.take m, by rw [upd_ne hcp2, upd_same], by rw [List.length_take]⟩, none, none, rfl⟩ (fun i σ H' _ h => SqL.of h.2.1) ?_ ?_
    · rintro i x σ H' _ hi ⟨sm, hp2', ⟨ms, hms, lms⟩, v3, v4, rfl⟩ ⟨t, x, y, rfl, ht, rfl, hx, hy⟩
      have hx' : x = V.int (i : Int) := (Option.some.inj hx).symm
      subst hx'
      obtain ⟨u, rfl⟩ : ∃ u : Int, y = V.int u := by
        dsimp only at hy
        rw [List.getElem?_map] at hy
        cases e : (ns.drop m)[i]? with
        | none => rw [e] at hy; cases hy
        | some u => rw [e] at hy; exact ⟨u, (Option.some.inj hy).symm⟩
      have hi' : i < ns.length - m := by simpa using hi
      have ct : c ≠ t := ne_of_none hms ht
      have p2t : p2 ≠ t := ne_of_none hp2' ht
      have pc : p2 ≠ c := hcp2.symm
      have hms' : upd H' t (.tup [.int (i : Int), .int u]) c = some (.lst (ms.map V.int)) := by rw [upd_ne ct]; exact hms
      have em : ((i : Int) % (m : Int)) = ((i % m : Nat) : Int) := by omega
      have hmod : i % m < m := Nat.mod_lt _ m0
      have him : i % m < ms.length := by omega
      have at1 : atI (ms.map V.int) ((i : Int) % (m : Int)) = some (V.int ms[i % m]) := by
        rw [em]
        exact atI_nat (by rw [List.getElem?_map, List.getElem?_eq_getElem him]; rfl)
      walk_at "z"
      refine ⟨c, _, _, _, rfl, rfl, SqL.of hms', at1, ?_⟩
      walk_at "z"
      refine ⟨c, _, _, i % m, rfl, rfl, hms', ?_, ?_⟩
      · rw [em]
        exact ixN_nat (by rw [List.length_map]; exact him)
      refine ⟨?_, ?_, ⟨ms.set (i % m) (ms[i % m] + u * ((i : Int) + 2)), ?_, ?_⟩, _, _, rfl⟩
      · intro b o e
        rw [upd_ne (ne_of_none e c0), upd_ne (ne_of_none (sm _ _ e) ht)]
        exact sm _ _ e
      · rw [upd_ne pc, upd_ne p2t]
        exact hp2'
      · rw [upd_same, List.map_set]
      · rw [List.length_set]
        exact lms
    · rintro σ H' ⟨sm, hp2', ⟨ms, hms, lms⟩, v3, v4, rfl⟩
      refine ⟨_, rfl, ?_⟩
      exact q c ms H' c0 sm hms (by omega)

/-! ### tags -/
def sp_is_name (K : PySem.W.Frag) : Sp := fun vs H Q _ => ∃ s : Str, vs = [.str s] ∧ s.length ≤ sizeLine ∧ ∀ H', Same H H' → Q (.bl (isNameD (.str s))) H'
def sp_is_whole (K : PySem.W.Frag) : Sp := fun vs H Q _ => ∃ i lo hi : Int, vs = [.int i, .int lo, .int hi] ∧ Q (.bl (isWholeD lo hi (.int i))) H
theorem ok_is_name {P : Program} {w : World} {K : PySem.W.Frag} {mg : Str → Option Value} {base : Heap} {ad : Ad} (T : Txt K mg ad) : FnOk P w K mg base CX0 1 ad.f_is_name ad.d_is_name ["thing"] (sp_is_name K) := by
  refine T.F_is_name.ok sc_is_name (fun vs H Q E h => ?_) (fun cdv A outer s H vs Q E hr h => ?_)
  · obtain ⟨z, rfl, _⟩ := h
    rfl
  · obtain ⟨z, rfl, hz, q⟩ := h
    refine ⟨_, (pss_cons (ps_if (PW.pt (pw_or (pt_not (pt_val (pe_callB call_isi (by rfl) T.n_isinstance (by decide +kernel) (pa_cons (pv 0) (pa_cons (pe_bltn (v := .ty "str") (by rfl) T.n_str (by decide +kernel) rfl) pa_nil))))) (pw_or1 (pt_not (pt_chain op_le op_le pe_int (pe_callB call_len_str (by rfl) T.n_len PySem.boot_len (pa_cons (pv 0) pa_nil)) (pe_globE rfl T.c_MOST_SIGNS)))))) (pss_one (ps_ret pe_bl)) pss_nil)
    (pss_one (ps_ret (pe_callB (cr_all rfl) (by rfl) T.n_all (by decide +kernel) (pa_cons (pe_lc (own := [("sign", 1)]) (g := gName 1) (by rfl) sc_is_name.nd (pi_str (pv 0)) (blkOk_by (own := [("sign", 1)]) (N := N_is_name) (sc := defScope s_is_name) (by decide +kernel)) (fun _ _ _ _ _ => (pg_name (i := 1) sc_is_name.nd rfl (Or.inl rfl))) (fun _ _ _ _ _ => pts_nil) (fun _ _ _ _ _ => (pe_cmpR op_in_sign (pv 1) (pe_globE rfl T.c_SMALL_SIGNS) rfl))) pa_nil))))), ?_⟩
    have hn : z.cps.size = (tl z).length := len_tl z
    walk_at "z"
    refine ⟨hz, ?_⟩
    walk_at "z"
    with_reducible refine iteD (fun h1 => ?_) (fun h1 => ?_)
    · walk_at "z"
      with_reducible refine iteND (fun h2 => ?_) (fun h2 => ?_)
      · walk_at "z"
        have e : (false : Bool) = isNameD (.str z) := by
          show false = (decide (1 ≤ (tl z).length ∧ (tl z).length ≤ 8) && smalls (tl z))
          rw [decide_eq_false, Bool.false_and]
          rintro ⟨a, b⟩
          rw [len_tl] at h2
          omega
        show Q (V.bl false) H
        rw [e]
        exact q _ (Same.refl _)
      · refine ⟨_, rfl, z, rfl, fun D hD => ?_⟩
        refine lc_it (walk_str (z := z)) (fun i H' => LcP H D (tl z) (fun c => V.bl (decide (97 ≤ c ∧ c ≤ 122))) i H') (LcP.start hD) (fun _ _ _ _ => trivial) ?_ ?_
        · rintro i x _ H' hi p ⟨rfl, c, hc, rfl⟩
          refine ⟨rfl, ?_⟩
          walk_at "z"
          have hc' : (tl z)[i]? = some c := by rw [← hc]; simp
          refine p.step (Same.refl _) hc' ?_ (hn ▸ hz)
          show V.bl _ = V.bl _
          rw [← small_mem]
        · intro H' p
          rw [hn] at p
          refine ⟨D, (tl z).map fun c => decide (97 ≤ c ∧ c ≤ 122), rfl, SqL.of (by rw [p.done, List.map_map]; rfl), ?_⟩
          have e : (((tl z).map fun c => decide (97 ≤ c ∧ c ≤ 122)).all id) = isNameD (.str z) := by
            show _ = (decide (1 ≤ (tl z).length ∧ (tl z).length ≤ 8) && smalls (tl z))
            rw [len_tl] at h1 h2
            rw [decide_eq_true ⟨by omega, by omega⟩, Bool.true_and, List.all_map]
            rfl
          rw [e]
          exact q _ p.same
    · walk_at "z"
      have e : (false : Bool) = isNameD (.str z) := by
        show false = (decide (1 ≤ (tl z).length ∧ (tl z).length ≤ 8) && smalls (tl z))
        rw [decide_eq_false, Bool.false_and]
        rintro ⟨a, b⟩
        rw [len_tl] at h1
        omega
      show Q (V.bl false) H
      rw [e]
      exact q _ (Same.refl _)
theorem ok_is_whole {P : Program} {w : World} {K : PySem.W.Frag} {mg : Str → Option Value} {base : Heap} {ad : Ad} (T : Txt K mg ad) : FnOk P w K mg base CX0 1 ad.f_is_whole ad.d_is_whole ["thing", "least", "most"] (sp_is_whole K) := by
  refine T.F_is_whole.ok sc_is_whole (fun vs H Q E h => ?_) (fun cdv A outer s H vs Q E hr h => ?_)
  · obtain ⟨i, lo, hi, rfl, _⟩ := h
    rfl
  · obtain ⟨i, lo, hi, rfl, q⟩ := h
    refine ⟨_, (pss_one (ps_ret (pe_and (pe_callB call_isi (by rfl) T.n_isinstance (by decide +kernel) (pa_cons (pv 0) (pa_cons (pe_bltn (v := .ty "int") (by rfl) T.n_int (by decide +kernel) rfl) pa_nil))) (pe_and (pe_not (pe_callB call_isi (by rfl) T.n_isinstance (by decide +kernel) (pa_cons (pv 0) (pa_cons (pe_bltn (v := .ty "bool") (by rfl) T.n_bool (by decide +kernel) rfl) pa_nil)))) (pe_one (pe_chain op_le op_le (pv 1) (pv 0) (pv 2))))))), ?_⟩
    walk_at "z"
    with_reducible refine iteD (fun h1 => ?_) (fun h1 => ?_)
    · walk_at "z"
      have e : decide (i ≤ hi) = isWholeD lo hi (.int i) := by
        show _ = decide (lo ≤ i ∧ i ≤ hi)
        apply decide_eq_decide.mpr
        omega
      show Q (V.bl (decide (i ≤ hi))) H
      rw [e]
      exact q
    · have e : (false : Bool) = isWholeD lo hi (.int i) := by
        show _ = decide (lo ≤ i ∧ i ≤ hi)
        rw [decide_eq_false (by omega)]
      show Q (V.bl false) H
      rw [e]
      exact q
theorem Five.whole {i lo hi : Int} (h1 : lo ≤ i) (h2 : i ≤ hi) : isWholeD lo hi (.int i) = true := decide_eq_true ⟨h1, h2⟩
def sp_Tag_init (C : Addr) : Sp := fun vs H Q _ => ∃ (x dx : Addr) (f : Five), vs = [.ref x, .str f.owner, .int f.number, .int f.price, .int f.least, .int f.day] ∧ H x = some (.ins C dx []) ∧ f.Ok ∧ ∀ H', Fr [x] H H' → H' x = some (.ins C dx (tagF f)) → Q .non H'
theorem ok_Tag_init {P : Program} {w : World} {K : PySem.W.Frag} {mg : Str → Option Value} {base : Heap} {ad : Ad} (T : Txt K mg ad) : FnOk P w K mg base CX0 2 ad.f_Tag_init ad.d_Tag_init ["self", "owner", "number", "price", "least", "day"] (sp_Tag_init ad.C_Tag) := by
  have G_is_name := ok_is_name (P := P) (w := w) (base := base) T
  have G_is_whole := ok_is_whole (P := P) (w := w) (base := base) T
  refine okD T.F_Tag_init sc_Tag_init (fun vs H Q E h => ?_) (fun cdv A outer s H vs Q E hr h => ?_)
  · obtain ⟨x, dx, f, rfl, _⟩ := h
    rfl
  · obtain ⟨x, dx, f, rfl, hx, ok, q⟩ := h
    refine ⟨_, (pss_cons (ps_if (pt_not (pt_val (pe_call G_is_name (hr.mono (by decide)) rfl T.g_is_name T.F_is_name.kp T.b_is_name .nil pass0 (pa_cons (pv 1) pa_nil)))) (pss_one ps_never) pss_nil)
    (pss_cons (ps_if (pt_not (pt_val (pe_call G_is_whole (hr.mono (by decide)) rfl T.g_is_whole T.F_is_whole.kp T.b_is_whole .nil pass0 (pa_cons (pv 2) (pa_cons pe_int (pa_cons (pe_globE rfl T.c_MOST_NUMBER) pa_nil)))))) (pss_one ps_never) pss_nil)
    (pss_cons (ps_if (pt_not (pt_val (pe_call G_is_whole (hr.mono (by decide)) rfl T.g_is_whole T.F_is_whole.kp T.b_is_whole .nil pass0 (pa_cons (pv 3) (pa_cons pe_int (pa_cons (pe_globE rfl T.c_MOST_PRICE) pa_nil)))))) (pss_one ps_never) pss_nil)
    (pss_cons (ps_if (pt_not (pt_val (pe_call G_is_whole (hr.mono (by decide)) rfl T.g_is_whole T.F_is_whole.kp T.b_is_whole .nil pass0 (pa_cons (pv 4) (pa_cons pe_int (pa_cons (pv 3) pa_nil)))))) (pss_one ps_never) pss_nil)
    (pss_cons (ps_if (pt_not (pt_val (pe_call G_is_whole (hr.mono (by decide)) rfl T.g_is_whole T.F_is_whole.kp T.b_is_whole .nil pass0 (pa_cons (pv 5) (pa_cons pe_int (pa_cons (pe_globE rfl T.c_MOST_DAY) pa_nil)))))) (pss_one ps_never) pss_nil)
    (pss_cons (ps_fld (pv 0) (pv 1) rfl)
    (pss_cons (ps_fld (pv 0) (pv 2) rfl)
    (pss_cons (ps_fld (pv 0) (pv 3) rfl)
    (pss_cons (ps_fld (pv 0) (pv 4) rfl)
    (pss_one (ps_fld (pv 0) (pv 5) rfl))))))))))), ?_⟩
    refine ⟨_, rfl, f.owner, rfl, by rw [len_tl]; exact Nat.le_trans ok.owner.most (by decide), fun H1 s1 => ?_⟩
    rw [ok.owner.is]
    walk_at "z"
    refine ⟨_, _, _, rfl, ?_⟩
    rw [Five.whole ok.n1 ok.n2]
    walk_at "z"
    refine ⟨_, _, _, rfl, ?_⟩
    rw [Five.whole ok.p1 ok.p2]
    walk_at "z"
    refine ⟨_, _, _, rfl, ?_⟩
    rw [Five.whole ok.l1 ok.l2]
    walk_at "z"
    refine ⟨_, _, _, rfl, ?_⟩
    rw [Five.whole ok.d1 ok.d2]
    walk_at "z"
    have hx1 := s1 _ _ hx
    refine ⟨x, _, dx, _, rfl, hx1, T.cl_Tag, T.na_Tag_owner, by decide, ?_⟩
    have l0 : ([] : List (Str × V)).length ≤ 0 := Nat.le_refl _
    refine ⟨_, rfl, _, rfl, x, _, dx, _, rfl, upd_same, T.cl_Tag, T.na_Tag_number, putF_ok (putF_few l0) (by decide), ?_⟩
    refine ⟨_, rfl, _, rfl, x, _, dx, _, rfl, upd_same, T.cl_Tag, T.na_Tag_price, putF_ok (putF_few (putF_few l0)) (by decide), ?_⟩
    refine ⟨_, rfl, _, rfl, x, _, dx, _, rfl, upd_same, T.cl_Tag, T.na_Tag_least, putF_ok (putF_few (putF_few (putF_few l0))) (by decide), ?_⟩
    refine ⟨_, rfl, _, rfl, x, _, dx, _, rfl, upd_same, T.cl_Tag, T.na_Tag_day, putF_ok (putF_few (putF_few (putF_few (putF_few l0)))) (by decide), ?_⟩
    exact q _ (((((Same.fr s1).put (by simp)).put (by simp)).put (by simp)).put (by simp) |>.put (by simp)) upd_same

theorem rmk_Tag {K : PySem.W.Frag} {C : Addr} : RMk K C (sp_Tag_init C) G_Tag := by
  intro A H x dx vs ds Q E P dv g hx k
  obtain ⟨f, ok, rfl, p⟩ := g
  have e : vs = [.str f.owner, .int f.number, .int f.price, .int f.least, .int f.day] := by
    cases dv with
    | cons a r => cases r with
      | cons b r => cases r with
        | cons c r => cases r with
          | cons d r => cases r with
            | cons e r => cases r; cases a; cases b; cases c; cases d; cases e; rfl
  subst e
  refine ⟨x, dx, f, rfl, hx, ok, fun H' fr e => ?_⟩
  refine k _ _ _ p (fun a o ne e => fr a o (by simpa using ne) e) e ?_
  rw [tagF_eq]
  exact .cons (.str _) (.cons (.int _) (.cons (.int _) (.cons (.int _) (.cons (.int _) .nil))))

theorem okD__law_names {P : Program} {w : World} {K : PySem.W.Frag} {mg : Str → Option Value} {base : Heap} {ad : Ad} (T : Txt K mg ad) : FnOk P w K mg base CX0 2 ad.f__law_names ad.d__law_names ["_law_box_here", "_law_many"] (spF K 2 F__law_names) := by
  have G__law_take := okD__law_take (P := P) (w := w) (base := base) T
  refine okF0 T.F__law_names sc__law_names fun cdv A outer s H E hr => ⟨_, (pss_cons (ps_asg (pe_tup (pa_cons pe_str (pa_cons (pe_lst pa_nil) pa_nil))) (pg_tup (by rfl) (pgs_cons (pg_name (i := 2) sc__law_names.nd rfl (Or.inr rfl)) (pgs_cons (pg_name (i := 3) sc__law_names.nd rfl (Or.inl rfl)) pgs_nil))))
    (pss_cons (ps_par (i := 4) (j := 5) (by rfl) sc__law_names.nd rfl rfl (by decide) rfl rfl (pa_cons (pe_call G__law_take (hr.mono (by decide)) rfl T.g__law_take T.F__law_take.kp T.b__law_take .nil pass0 (pa_cons (pv 0) (pa_cons pe_int pa_nil))) (pa_cons (pe_ix ix_list (pe_lst (pa_cons pe_int (pa_cons pe_int (pa_cons pe_int (pa_cons pe_int (pa_cons pe_int (pa_cons pe_int pa_nil))))))) (pe_call G__law_take (hr.mono (by decide)) rfl T.g__law_take T.F__law_take.kp T.b__law_take .nil pass0 (pa_cons (pv 0) (pa_cons pe_int pa_nil))) (fun _ _ => rfl)) pa_nil)) (by rfl))
    (pss_cons (ps_set (i := 6) sc__law_names.nd rfl (Or.inl rfl) (pe_lst (pa_cons pe_str (pa_cons pe_str (pa_cons pe_str (pa_cons pe_str (pa_cons pe_str (pa_cons pe_str (pa_cons pe_str (pa_cons pe_str (pa_cons pe_str (pa_cons pe_str (pa_cons pe_str (pa_cons pe_str pa_nil))))))))))))))
    (pss_cons (ps_for PassesOwn.never rfl (pi_range1 rfl T.n_range (pa_cons (pv 1) pa_nil)) (pg_name (i := 7) sc__law_names.nd rfl (Or.inl rfl)) (pss_cons (ps_set (i := 8) sc__law_names.nd rfl (Or.inl rfl) (pe_op op_mod (pe_op op_add (pv 4) (pe_op op_mul (pv 5) (pv 7))) pe_int))
    (pss_cons (ps_set (i := 9) sc__law_names.nd rfl (Or.inl rfl) (pe_bm PySem.F.plainAttrs_str PySem.F.slot_str_join PySem.F.type_str_join mt_join pe_str (pa_cons (pe_lc (own := [("_law_turn", 10)]) (g := gName 10) (by rfl) sc__law_names.nd (pi_range1 rfl T.n_range (pa_cons (pe_op op_add pe_int (pe_call G__law_take (hr.mono (by decide)) rfl T.g__law_take T.F__law_take.kp T.b__law_take .nil pass0 (pa_cons (pv 0) (pa_cons pe_int pa_nil)))) pa_nil)) (blkOk_by (own := [("_law_turn", 10)]) (N := N__law_names) (sc := defScope s__law_names) (by decide +kernel)) (fun _ _ _ _ _ => (pg_name (i := 10) sc__law_names.nd rfl (Or.inl rfl))) (fun _ _ _ _ _ => pts_nil) (fun _ _ _ _ _ => (pe_ix ix_str (pv 2) (pe_call G__law_take (hr.mono (by decide)) rfl T.g__law_take T.F__law_take.kp T.b__law_take .nil pass0 (pa_cons (pv 0) (pa_cons pe_int pa_nil))) (fun _ _ => rfl)))) pa_nil)))
    (pss_cons (ps_set (i := 11) sc__law_names.nd rfl (Or.inl rfl) (pe_op op_add_str (pe_op op_add_str (pe_ix ix_str (pv 2) (pe_op op_fdiv (pv 8) pe_int) (fun _ _ => rfl)) (pe_ix ix_str (pv 2) (pe_op op_mod (pv 8) pe_int) (fun _ _ => rfl))) (pv 9)))
    (pss_cons (ps_if (PW.pt (pw_and (pt_cmpR op_lt (pv 1) pe_int (nomark _)) (pw_and1 (pt_cmpR op_eq (pe_call G__law_take (hr.mono (by decide)) rfl T.g__law_take T.F__law_take.kp T.b__law_take .nil pass0 (pa_cons (pv 0) (pa_cons pe_int pa_nil))) pe_int (nomark _))))) (pss_one (ps_set (i := 11) sc__law_names.nd rfl (Or.inl rfl) (pe_ix ix_list (pv 6) (pv 7) (fun _ _ => rfl)))) pss_nil)
    (pss_cons (ps_if (pt_cmpR op_in_seq (pv 11) (pv 3) rfl) (pss_one (ps_set (i := 11) sc__law_names.nd rfl (Or.inl rfl) (pe_op op_add_str (pe_op op_add_str (pe_ix ix_str (pv 2) (pe_op op_fdiv (pv 8) pe_int) (fun _ _ => rfl)) (pe_ix ix_str (pv 2) (pe_op op_mod (pv 8) pe_int) (fun _ _ => rfl))) pe_str))) pss_nil)
    (pss_one (ps_expr (pe_bm PySem.F.plainAttrs_list PySem.F.slot_list_append PySem.F.type_list_append mt_append (pv 3) (pa_cons (pv 11) pa_nil))))))))))
    (pss_one (ps_ret (pv 3))))))), ?_⟩
  exact (rs_seq (rs_asgO2 (by decide) (re_c fun _ => .str _) (rn_lst ra_nil))
    (rs_seq (rs_par (ra_cons (re_call (fun _ => .nil) (rc_own (rc_dat (re_c fun _ => .int _) rc_nil))) (ra_cons (re_op rr_ixL (RN.re (rn_lst (ra_cons (re_c fun _ => .int _) (ra_cons (re_c fun _ => .int _) (ra_cons (re_c fun _ => .int _) (ra_cons (re_c fun _ => .int _) (ra_cons (re_c fun _ => .int _) (ra_cons (re_c fun _ => .int _) ra_nil)))))))) (re_call (fun _ => .nil) (rc_own (rc_dat (re_c fun _ => .int _) rc_nil)))) ra_nil)))
    (rs_seq (rs_asg (RN.re (rn_lst (ra_cons (re_c fun _ => .str _) (ra_cons (re_c fun _ => .str _) (ra_cons (re_c fun _ => .str _) (ra_cons (re_c fun _ => .str _) (ra_cons (re_c fun _ => .str _) (ra_cons (re_c fun _ => .str _) (ra_cons (re_c fun _ => .str _) (ra_cons (re_c fun _ => .str _) (ra_cons (re_c fun _ => .str _) (ra_cons (re_c fun _ => .str _) (ra_cons (re_c fun _ => .str _) (ra_cons (re_c fun _ => .str _) ra_nil)))))))))))))) rg_name)
    (rs_seq (rs_for (by decide) (ri_rng1 (ra_cons re_v ra_nil)) rg_name (rs_seq (rs_asg (re_op rr_mod (re_op rr_add re_v (re_op rr_mul re_v re_v)) (re_c fun _ => .int _)) rg_name)
    (rs_seq (rs_asg (re_bm rm_join (re_c fun _ => .str _) (ra_cons (RN.re (rn_lc (by decide) (ri_rng1 (ra_cons (re_op rr_add (re_c fun _ => .int _) (re_call (fun _ => .nil) (rc_own (rc_dat (re_c fun _ => .int _) rc_nil)))) ra_nil)) rg_name rt_yes (re_op rr_ixS re_v (re_call (fun _ => .nil) (rc_own (rc_dat (re_c fun _ => .int _) rc_nil)))))) ra_nil)) rg_name)
    (rs_seq (rs_asg (re_op rr_add_str (re_op rr_add_str (re_op rr_ixS re_v (re_op rr_fdiv re_v (re_c fun _ => .int _))) (re_op rr_ixS re_v (re_op rr_mod re_v (re_c fun _ => .int _)))) re_v) rg_name)
    (rs_seq (rs_if (rt_and (rt_test (re_op rr_lt re_v (re_c fun _ => .int _))) (rt_test (re_op rr_eq (re_call (fun _ => .nil) (rc_own (rc_dat (re_c fun _ => .int _) rc_nil))) (re_c fun _ => .int _)))) (rs_asg (re_op rr_ixL re_v re_v) rg_name) rs_next)
    (rs_seq (rs_if (rt_test (re_inO re_v)) (rs_asg (re_op rr_add_str (re_op rr_add_str (re_op rr_ixS re_v (re_op rr_fdiv re_v (re_c fun _ => .int _))) (re_op rr_ixS re_v (re_op rr_mod re_v (re_c fun _ => .int _)))) (re_c fun _ => .str _)) rg_name) rs_next)
    (rs_append re_v)))))))
    (rs_freeze (by decide) (rs_ret re_v))))))
theorem okD__law_rule {P : Program} {w : World} {K : PySem.W.Frag} {mg : Str → Option Value} {base : Heap} {ad : Ad} (T : Txt K mg ad) : FnOk P w K mg base CX0 2 ad.f__law_rule ad.d__law_rule ["_law_box_here"] (spF K 1 F__law_rule) := by
  have G__law_take := okD__law_take (P := P) (w := w) (base := base) T
  refine okF0 T.F__law_rule sc__law_rule fun cdv A outer s H E hr => ⟨_, (pss_cons (ps_par3 (i := 1) (j := 2) (l := 3) (by rfl) sc__law_rule.nd rfl rfl rfl (by decide) (by decide) (by decide) rfl rfl rfl (pa_cons pe_int (pa_cons pe_int (pa_cons (pe_lst pa_nil) pa_nil))) (by rfl))
    (pss_cons (ps_for PassesOwn.never rfl (pi_range1 rfl T.n_range (pa_cons (pe_call G__law_take (hr.mono (by decide)) rfl T.g__law_take T.F__law_take.kp T.b__law_take .nil pass0 (pa_cons (pv 0) (pa_cons pe_int pa_nil))) pa_nil)) (pg_name (i := 4) sc__law_rule.nd rfl (Or.inl rfl)) (pss_cons (ps_par (i := 1) (j := 2) (by rfl) sc__law_rule.nd rfl rfl (by decide) rfl rfl (pa_cons (pe_op op_add (pe_op op_add (pv 1) pe_int) (pe_call G__law_take (hr.mono (by decide)) rfl T.g__law_take T.F__law_take.kp T.b__law_take .nil pass0 (pa_cons (pv 0) (pa_cons (pe_ix ix_list (pe_lst (pa_cons pe_int (pa_cons pe_int (pa_cons pe_int pa_nil)))) (pe_call G__law_take (hr.mono (by decide)) rfl T.g__law_take T.F__law_take.kp T.b__law_take .nil pass0 (pa_cons (pv 0) (pa_cons pe_int pa_nil))) (fun _ _ => rfl)) pa_nil)))) (pa_cons (pe_op op_sub (pe_op op_sub (pv 2) pe_int) (pe_call G__law_take (hr.mono (by decide)) rfl T.g__law_take T.F__law_take.kp T.b__law_take .nil pass0 (pa_cons (pv 0) (pa_cons pe_int pa_nil)))) pa_nil)) (by rfl))
    (pss_one (ps_expr (pe_bm PySem.F.plainAttrs_list PySem.F.slot_list_append PySem.F.type_list_append mt_append (pv 3) (pa_cons (pe_tup (pa_cons (pv 1) (pa_cons (pv 2) pa_nil))) pa_nil))))))
    (pss_cons (ps_setLc (i := 3) (own := [("_law_pair", 5)]) (g := gName 5) (by rfl) sc__law_rule.nd rfl rfl (sw_true rfl rfl rfl (by decide +kernel)) (pi_list (pv 3)) (blkOk_by (own := [("_law_pair", 5)]) (N := N__law_rule) (sc := defScope s__law_rule) (by decide +kernel)) (fun _ _ _ _ _ => (pg_name (i := 5) sc__law_rule.nd rfl (Or.inl rfl))) (fun _ _ _ _ _ => (pts_one (PW.pt (pw_and (pt_cmpR op_lt (pe_ix (r := rIxT K) ix_tup (pv 5) pe_int (fun _ _ => rfl)) pe_int (nomark _)) (pw_and1 (pt_cmpR op_gt (pe_ix (r := rIxT K) ix_tup (pv 5) pe_int (fun _ _ => rfl)) pe_int (nomark _))))))) (fun _ _ _ _ _ => (pv 5)))
    (pss_cons (ps_if (PW.pt (pw_and (pt_cmpR (op_neD hr.units) (pv 3) (pe_lst pa_nil) (nomark _)) (pw_and1 (pt_cmpR op_eq (pe_call G__law_take (hr.mono (by decide)) rfl T.g__law_take T.F__law_take.kp T.b__law_take .nil pass0 (pa_cons (pv 0) (pa_cons pe_int pa_nil))) pe_int (nomark _))))) (pss_one (ps_asg (pe_tup (pa_cons (pe_op op_sub pe_int (pe_ix ix_list (pe_lst (pa_cons pe_int (pa_cons pe_int (pa_cons (pe_call G__law_take (hr.mono (by decide)) rfl T.g__law_take T.F__law_take.kp T.b__law_take .nil pass0 (pa_cons (pv 0) (pa_cons pe_int pa_nil))) pa_nil)))) (pe_call G__law_take (hr.mono (by decide)) rfl T.g__law_take T.F__law_take.kp T.b__law_take .nil pass0 (pa_cons (pv 0) (pa_cons pe_int pa_nil))) (fun _ _ => rfl))) (pa_cons (pe_ix ix_tup (pe_ix ix_list (pv 3) (pe_un un_neg pe_int) (fun _ _ => rfl)) pe_int (fun _ _ => rfl)) pa_nil))) (pg_sub (pv 3) (pe_un un_neg pe_int) set_list))) pss_nil)
    (pss_one (ps_ret (pe_callTy call_tuple_of (by rfl) T.n_tuple (by decide +kernel) (pa_cons (pv 3) pa_nil)))))))), ?_⟩
  exact (rs_seq (rs_par3O3 (by decide) (re_c fun _ => .int _) (re_c fun _ => .int _) (rn_lst ra_nil))
    (rs_seq (rs_for (by decide) (ri_rng1 (ra_cons (re_call (fun _ => .nil) (rc_own (rc_dat (re_c fun _ => .int _) rc_nil))) ra_nil)) rg_name (rs_seq (rs_par (ra_cons (re_op rr_add (re_op rr_add re_v (re_c fun _ => .int _)) (re_call (fun _ => .nil) (rc_own (rc_dat (re_op rr_ixL (RN.re (rn_lst (ra_cons (re_c fun _ => .int _) (ra_cons (re_c fun _ => .int _) (ra_cons (re_c fun _ => .int _) ra_nil))))) (re_call (fun _ => .nil) (rc_own (rc_dat (re_c fun _ => .int _) rc_nil)))) rc_nil)))) (ra_cons (re_op rr_sub (re_op rr_sub re_v (re_c fun _ => .int _)) (re_call (fun _ => .nil) (rc_own (rc_dat (re_c fun _ => .int _) rc_nil)))) ra_nil)))
    (rs_append (re_tup (ra_cons re_v (ra_cons re_v ra_nil))))))
    (rs_seq (rs_freeze (by decide) (rs_own (by decide) (rn_lc (by decide) (ri_list re_v) rg_name (rt_and (rt_test (re_op rr_lt (re_op rr_ixT re_v (re_c fun _ => .int _)) (re_c fun _ => .int _))) (rt_test (re_op rr_gt (re_op rr_ixT re_v (re_c fun _ => .int _)) (re_c fun _ => .int _)))) re_v)))
    (rs_seq (rs_if (rt_and (rt_test (re_neO (RN.re (rn_lst ra_nil)))) (rt_test (re_op rr_eq (re_call (fun _ => .nil) (rc_own (rc_dat (re_c fun _ => .int _) rc_nil))) (re_c fun _ => .int _)))) (rs_asg (re_tup (ra_cons (re_op rr_sub (re_c fun _ => .int _) (re_op rr_ixL (RN.re (rn_lst (ra_cons (re_c fun _ => .int _) (ra_cons (re_c fun _ => .int _) (ra_cons (re_call (fun _ => .nil) (rc_own (rc_dat (re_c fun _ => .int _) rc_nil))) ra_nil))))) (re_call (fun _ => .nil) (rc_own (rc_dat (re_c fun _ => .int _) rc_nil))))) (ra_cons (re_op rr_ixT (re_ixO (re_un ru_neg (re_c fun _ => .int _))) (re_c fun _ => .int _)) ra_nil))) (rg_subO (re_un ru_neg (re_c fun _ => .int _)))) rs_next)
    (rs_freeze (by decide) (rs_ret (re_cb rb_tuple (ra_cons re_v ra_nil))))))))
theorem okD__law_price {P : Program} {w : World} {K : PySem.W.Frag} {mg : Str → Option Value} {base : Heap} {ad : Ad} (T : Txt K mg ad) : FnOk P w K mg base CX0 2 ad.f__law_price ad.d__law_price ["_law_box_here"] (spF K 1 F__law_price) := by
  have G__law_take := okD__law_take (P := P) (w := w) (base := base) T
  refine okF0 T.F__law_price sc__law_price fun cdv A outer s H E hr => ⟨_, (pss_one (ps_ret (pe_ix ix_list (pe_lst (pa_cons (pe_op op_add pe_int (pe_call G__law_take (hr.mono (by decide)) rfl T.g__law_take T.F__law_take.kp T.b__law_take .nil pass0 (pa_cons (pv 0) (pa_cons pe_int pa_nil)))) (pa_cons (pe_op op_add pe_int (pe_call G__law_take (hr.mono (by decide)) rfl T.g__law_take T.F__law_take.kp T.b__law_take .nil pass0 (pa_cons (pv 0) (pa_cons pe_int pa_nil)))) (pa_cons (pe_op op_mul pe_int (pe_op op_add pe_int (pe_call G__law_take (hr.mono (by decide)) rfl T.g__law_take T.F__law_take.kp T.b__law_take .nil pass0 (pa_cons (pv 0) (pa_cons pe_int pa_nil))))) (pa_cons (pe_op op_add pe_int (pe_call G__law_take (hr.mono (by decide)) rfl T.g__law_take T.F__law_take.kp T.b__law_take .nil pass0 (pa_cons (pv 0) (pa_cons pe_int pa_nil)))) pa_nil))))) (pe_call G__law_take (hr.mono (by decide)) rfl T.g__law_take T.F__law_take.kp T.b__law_take .nil pass0 (pa_cons (pv 0) (pa_cons pe_int pa_nil))) (fun _ _ => rfl)))), ?_⟩
  exact (rs_ret (re_op rr_ixL (RN.re (rn_lst (ra_cons (re_op rr_add (re_c fun _ => .int _) (re_call (fun _ => .nil) (rc_own (rc_dat (re_c fun _ => .int _) rc_nil)))) (ra_cons (re_op rr_add (re_c fun _ => .int _) (re_call (fun _ => .nil) (rc_own (rc_dat (re_c fun _ => .int _) rc_nil)))) (ra_cons (re_op rr_mul (re_c fun _ => .int _) (re_op rr_add (re_c fun _ => .int _) (re_call (fun _ => .nil) (rc_own (rc_dat (re_c fun _ => .int _) rc_nil))))) (ra_cons (re_op rr_add (re_c fun _ => .int _) (re_call (fun _ => .nil) (rc_own (rc_dat (re_c fun _ => .int _) rc_nil)))) ra_nil)))))) (re_call (fun _ => .nil) (rc_own (rc_dat (re_c fun _ => .int _) rc_nil)))))
theorem okD__law_five {P : Program} {w : World} {K : PySem.W.Frag} {mg : Str → Option Value} {base : Heap} {ad : Ad} (T : Txt K mg ad) : FnOk P w K mg base CX0 3 ad.f__law_five ad.d__law_five ["_law_box_here", "_law_people"] (spF K 2 F__law_five) := by
  have G__law_price := okD__law_price (P := P) (w := w) (base := base) T
  have G__law_take := okD__law_take (P := P) (w := w) (base := base) T
  refine okF0 T.F__law_five sc__law_five fun cdv A outer s H E hr => ⟨_, (pss_cons (ps_set (i := 2) sc__law_five.nd rfl (Or.inl rfl) (pe_ix ix_list (pe_lst (pa_cons (pe_op op_add pe_int (pe_call G__law_take (hr.mono (by decide)) rfl T.g__law_take T.F__law_take.kp T.b__law_take .nil pass0 (pa_cons (pv 0) (pa_cons pe_int pa_nil)))) (pa_cons (pe_op op_add pe_int (pe_call G__law_take (hr.mono (by decide)) rfl T.g__law_take T.F__law_take.kp T.b__law_take .nil pass0 (pa_cons (pv 0) (pa_cons pe_int pa_nil)))) (pa_cons pe_int pa_nil)))) (pe_call G__law_take (hr.mono (by decide)) rfl T.g__law_take T.F__law_take.kp T.b__law_take .nil pass0 (pa_cons (pv 0) (pa_cons pe_int pa_nil))) (fun _ _ => rfl)))
    (pss_cons (ps_set (i := 3) sc__law_five.nd rfl (Or.inl rfl) (pe_call G__law_price (hr.mono (by decide)) rfl T.g__law_price T.F__law_price.kp T.b__law_price .nil pass0 (pa_cons (pv 0) pa_nil)))
    (pss_cons (ps_set (i := 4) sc__law_five.nd rfl (Or.inl rfl) (pe_ix ix_list (pe_lst (pa_cons pe_int (pa_cons (pv 3) (pa_cons (pe_call G__law_take (hr.mono (by decide)) rfl T.g__law_take T.F__law_take.kp T.b__law_take .nil pass0 (pa_cons (pv 0) (pa_cons (pe_op op_add (pv 3) pe_int) pa_nil))) (pa_cons (pe_op op_fdiv (pv 3) pe_int) pa_nil))))) (pe_call G__law_take (hr.mono (by decide)) rfl T.g__law_take T.F__law_take.kp T.b__law_take .nil pass0 (pa_cons (pv 0) (pa_cons pe_int pa_nil))) (fun _ _ => rfl)))
    (pss_cons (ps_set (i := 5) sc__law_five.nd rfl (Or.inl rfl) (pe_ix ix_list (pe_lst (pa_cons (pe_call G__law_take (hr.mono (by decide)) rfl T.g__law_take T.F__law_take.kp T.b__law_take .nil pass0 (pa_cons (pv 0) (pa_cons pe_int pa_nil))) (pa_cons (pe_call G__law_take (hr.mono (by decide)) rfl T.g__law_take T.F__law_take.kp T.b__law_take .nil pass0 (pa_cons (pv 0) (pa_cons pe_int pa_nil))) (pa_cons pe_int pa_nil)))) (pe_call G__law_take (hr.mono (by decide)) rfl T.g__law_take T.F__law_take.kp T.b__law_take .nil pass0 (pa_cons (pv 0) (pa_cons pe_int pa_nil))) (fun _ _ => rfl)))
    (pss_one (ps_ret (pe_tup (pa_cons (pe_ix ix_list (pv 1) (pe_call G__law_take (hr.mono (by decide)) rfl T.g__law_take T.F__law_take.kp T.b__law_take .nil pass0 (pa_cons (pv 0) (pa_cons (pe_callB call_len_seq (by rfl) T.n_len PySem.boot_len (pa_cons (pv 1) pa_nil)) pa_nil))) (fun _ _ => rfl)) (pa_cons (pv 2) (pa_cons (pv 3) (pa_cons (pv 4) (pa_cons (pv 5) pa_nil)))))))))))), ?_⟩
  exact (rs_seq (rs_asg (re_op rr_ixL (RN.re (rn_lst (ra_cons (re_op rr_add (re_c fun _ => .int _) (re_call (fun _ => .nil) (rc_own (rc_dat (re_c fun _ => .int _) rc_nil)))) (ra_cons (re_op rr_add (re_c fun _ => .int _) (re_call (fun _ => .nil) (rc_own (rc_dat (re_c fun _ => .int _) rc_nil)))) (ra_cons (re_c fun _ => .int _) ra_nil))))) (re_call (fun _ => .nil) (rc_own (rc_dat (re_c fun _ => .int _) rc_nil)))) rg_name)
    (rs_seq (rs_asg (re_call (fun _ => .nil) (rc_own rc_nil)) rg_name)
    (rs_seq (rs_asg (re_op rr_ixL (RN.re (rn_lst (ra_cons (re_c fun _ => .int _) (ra_cons re_v (ra_cons (re_call (fun _ => .nil) (rc_own (rc_dat (re_op rr_add re_v (re_c fun _ => .int _)) rc_nil))) (ra_cons (re_op rr_fdiv re_v (re_c fun _ => .int _)) ra_nil)))))) (re_call (fun _ => .nil) (rc_own (rc_dat (re_c fun _ => .int _) rc_nil)))) rg_name)
    (rs_seq (rs_asg (re_op rr_ixL (RN.re (rn_lst (ra_cons (re_call (fun _ => .nil) (rc_own (rc_dat (re_c fun _ => .int _) rc_nil))) (ra_cons (re_call (fun _ => .nil) (rc_own (rc_dat (re_c fun _ => .int _) rc_nil))) (ra_cons (re_c fun _ => .int _) ra_nil))))) (re_call (fun _ => .nil) (rc_own (rc_dat (re_c fun _ => .int _) rc_nil)))) rg_name)
    (rs_ret (re_tup (ra_cons (re_op rr_ixL re_v (re_call (fun _ => .nil) (rc_own (rc_dat (re_cb rb_len (ra_cons re_v ra_nil)) rc_nil)))) (ra_cons re_v (ra_cons re_v (ra_cons re_v (ra_cons re_v ra_nil)))))))))))
theorem okD_is_whole {P : Program} {w : World} {K : PySem.W.Frag} {mg : Str → Option Value} {base : Heap} {ad : Ad} (T : Txt K mg ad) : FnOk P w K mg base CX0 1 ad.f_is_whole ad.d_is_whole ["thing", "least", "most"] (spF K 3 F_is_whole) := by
  refine okF0 T.F_is_whole sc_is_whole fun cdv A outer s H E hr => ⟨_, (pss_one (ps_ret (pe_and (pe_callB call_isi (by rfl) T.n_isinstance (by decide +kernel) (pa_cons (pv 0) (pa_cons (pe_bltn (v := .ty "int") (by rfl) T.n_int (by decide +kernel) rfl) pa_nil))) (pe_and (pe_not (pe_callB call_isi (by rfl) T.n_isinstance (by decide +kernel) (pa_cons (pv 0) (pa_cons (pe_bltn (v := .ty "bool") (by rfl) T.n_bool (by decide +kernel) rfl) pa_nil)))) (pe_one (pe_chain op_le op_le (pv 1) (pv 0) (pv 2))))))), ?_⟩
  exact (rs_ret (re_and (re_isi re_v) (re_and (re_not (re_isi re_v)) (re_chain rr_le rr_le re_v re_v re_v))))
theorem okD__law_made {P : Program} {w : World} {K : PySem.W.Frag} {mg : Str → Option Value} {base : Heap} {ad : Ad} (T : Txt K mg ad) : FnOk P w K mg base CX0 4 ad.f__law_made ad.d__law_made ["_law_box_here", "_law_five_here"] (spF K 2 F__law_made) := by
  have G__law_take := okD__law_take (P := P) (w := w) (base := base) T
  have G_Tag_init := ok_Tag_init (P := P) (w := w) (base := base) T
  obtain ⟨db_Tag_init_6, vb_Tag_init_6, b_Tag_init_6⟩ := T.b_Tag_init_6
  obtain ⟨db_Tag_init_4, vb_Tag_init_4, b_Tag_init_4⟩ := T.b_Tag_init_4
  obtain ⟨ikb_Tag_init_4_day, kb_Tag_init_4_day⟩ := T.kb_Tag_init_4_day
  obtain ⟨db_Tag_init_5, vb_Tag_init_5, b_Tag_init_5⟩ := T.b_Tag_init_5
  obtain ⟨ikb_Tag_init_4_day_least, kb_Tag_init_4_day_least⟩ := T.kb_Tag_init_4_day_least
  refine okF0 T.F__law_made sc__law_made fun cdv A outer s H E hr => ⟨_, (pss_cons (ps_asg (pv 1) (pg_tup (by rfl) (pgs_cons (pg_name (i := 2) sc__law_made.nd rfl (Or.inl rfl)) (pgs_cons (pg_name (i := 3) sc__law_made.nd rfl (Or.inl rfl)) (pgs_cons (pg_name (i := 4) sc__law_made.nd rfl (Or.inl rfl)) (pgs_cons (pg_name (i := 5) sc__law_made.nd rfl (Or.inl rfl)) (pgs_cons (pg_name (i := 6) sc__law_made.nd rfl (Or.inl rfl)) pgs_nil)))))))
    (pss_cons (ps_set (i := 7) sc__law_made.nd rfl (Or.inl rfl) (pe_call G__law_take (hr.mono (by decide)) rfl T.g__law_take T.F__law_take.kp T.b__law_take .nil pass0 (pa_cons (pv 0) (pa_cons pe_int pa_nil))))
    (pss_cons (ps_if (PW.pt (pw_and (pt_cmpR op_eq (pv 7) pe_int (nomark _)) (pw_and1 (pt_cmpR (op_eqD hr.units) (pe_tup (pa_cons (pv 5) (pa_cons (pv 6) pa_nil))) (pe_tup (pa_cons pe_int (pa_cons pe_int pa_nil))) (nomark _))))) (pss_one (ps_ret (pe_make T.mk_Tag G_Tag_init (hr.mono (by decide)) rfl T.g_Tag b_Tag_init_4 vb_Tag_init_4 pass0 (pa_cons (pv 2) (pa_cons (pv 3) (pa_cons (pv 4) pa_nil)))))) pss_nil)
    (pss_cons (ps_if (PW.pt (pw_and (pt_cmpR op_eq (pv 7) pe_int (nomark _)) (pw_and1 (pt_cmpR op_eq (pv 5) pe_int (nomark _))))) (pss_one (ps_ret (pe_makeN T.mk_Tag G_Tag_init (hr.mono (by decide)) rfl T.g_Tag kb_Tag_init_4_day pass0 (pa_cons (pv 2) (pa_cons (pv 3) (pa_cons (pv 4) pa_nil))) (pk_cons (pv 6) pk_nil)))) pss_nil)
    (pss_cons (ps_if (PW.pt (pw_and (pt_cmpR op_eq (pv 7) pe_int (nomark _)) (pw_and1 (pt_cmpR op_eq (pv 6) pe_int (nomark _))))) (pss_one (ps_ret (pe_make T.mk_Tag G_Tag_init (hr.mono (by decide)) rfl T.g_Tag b_Tag_init_5 vb_Tag_init_5 pass0 (pa_cons (pv 2) (pa_cons (pv 3) (pa_cons (pv 4) (pa_cons (pv 5) pa_nil))))))) pss_nil)
    (pss_cons (ps_if (pt_cmpR op_eq (pv 7) pe_int (nomark _)) (pss_one (ps_ret (pe_makeN T.mk_Tag G_Tag_init (hr.mono (by decide)) rfl T.g_Tag kb_Tag_init_4_day_least pass0 (pa_cons (pv 2) (pa_cons (pv 3) (pa_cons (pv 4) pa_nil))) (pk_cons (pv 6) (pk_cons (pv 5) pk_nil))))) pss_nil)
    (pss_one (ps_ret (pe_make T.mk_Tag G_Tag_init (hr.mono (by decide)) rfl T.g_Tag b_Tag_init_6 vb_Tag_init_6 pass0 (pa_cons (pv 2) (pa_cons (pv 3) (pa_cons (pv 4) (pa_cons (pv 5) (pa_cons (pv 6) pa_nil)))))))))))))), ?_⟩
  exact (rs_seq (rs_asg re_v (rg_tup (rgs_cons rg_name (rgs_cons rg_name (rgs_cons rg_name (rgs_cons rg_name (rgs_cons rg_name rgs_nil)))))))
    (rs_seq (rs_asg (re_call (fun _ => .nil) (rc_own (rc_dat (re_c fun _ => .int _) rc_nil))) rg_name)
    (rs_seq (rs_if (rt_and (rt_test (re_op rr_eq re_v (re_c fun _ => .int _))) (rt_test (re_op rr_eqD (re_tup (ra_cons re_v (ra_cons re_v ra_nil))) (re_tup (ra_cons (re_c fun _ => .int _) (ra_cons (re_c fun _ => .int _) ra_nil)))))) (rs_ret (re_mk T.q_Tag rmk_Tag (fun _ => (.cons (.int _) (.cons (.int _) .nil))) (ra_cons re_v (ra_cons re_v (ra_cons re_v ra_nil))))) rs_next)
    (rs_seq (rs_if (rt_and (rt_test (re_op rr_eq re_v (re_c fun _ => .int _))) (rt_test (re_op rr_eq re_v (re_c fun _ => .int _)))) (rs_ret (re_mkN T.q_Tag rmk_Tag (fun x vs zs ds es H r1 r2 => ⟨_, rfl, ((r1.append ((((.cons (.int _) (.cons (.int _) .nil)) : DqAll K _ _ ([(.int 0), (.int 0)] : List PyData)).drop 0).take 1)).append ((r2.drop 0).take 1))⟩) (ra_cons re_v (ra_cons re_v (ra_cons re_v ra_nil))) (ra_cons re_v ra_nil))) rs_next)
    (rs_seq (rs_if (rt_and (rt_test (re_op rr_eq re_v (re_c fun _ => .int _))) (rt_test (re_op rr_eq re_v (re_c fun _ => .int _)))) (rs_ret (re_mk T.q_Tag rmk_Tag (fun _ => (.cons (.int _) .nil)) (ra_cons re_v (ra_cons re_v (ra_cons re_v (ra_cons re_v ra_nil)))))) rs_next)
    (rs_seq (rs_if (rt_test (re_op rr_eq re_v (re_c fun _ => .int _))) (rs_ret (re_mkN T.q_Tag rmk_Tag (fun x vs zs ds es H r1 r2 => ⟨_, rfl, ((r1.append ((r2.drop 1).take 1)).append ((r2.drop 0).take 1))⟩) (ra_cons re_v (ra_cons re_v (ra_cons re_v ra_nil))) (ra_cons re_v (ra_cons re_v ra_nil)))) rs_next)
    (rs_ret (re_mk T.q_Tag rmk_Tag (fun _ => .nil) (ra_cons re_v (ra_cons re_v (ra_cons re_v (ra_cons re_v (ra_cons re_v ra_nil)))))))))))))
theorem okD_part_at {P : Program} {w : World} {K : PySem.W.Frag} {mg : Str → Option Value} {base : Heap} {ad : Ad} (T : Txt K mg ad) : FnOk P w K mg base CX0 1 ad.f_part_at ad.d_part_at ["rule", "age"] (spF K 2 F_part_at) := by
  refine okF0 T.F_part_at sc_part_at fun cdv A outer s H E hr => ⟨_, (pss_cons (ps_set (i := 2) sc_part_at.nd rfl (Or.inl rfl) (pe_globE rfl T.c_WHOLE_PART))
    (pss_cons (ps_for PassesOwn.never rfl (pi_tup (pv 0)) (pg_tup (by rfl) (pgs_cons (pg_name (i := 3) sc_part_at.nd rfl (Or.inl rfl)) (pgs_cons (pg_name (i := 4) sc_part_at.nd rfl (Or.inl rfl)) pgs_nil))) (pss_one (ps_if (pt_cmpR op_le (pv 3) (pv 1) (nomark _)) (pss_one (ps_set (i := 2) sc_part_at.nd rfl (Or.inl rfl) (pv 4))) pss_nil)))
    (pss_one (ps_ret (pv 2))))), ?_⟩
  exact (rs_seq (rs_asg (re_c fun _ => .int _) rg_name)
    (rs_seq (rs_for (by decide) (ri_tup re_v) (rg_tup (rgs_cons rg_name (rgs_cons rg_name rgs_nil))) (rs_if (rt_test (re_op rr_le re_v re_v)) (rs_asg re_v rg_name) rs_next))
    (rs_ret re_v)))
theorem okD_price_by {P : Program} {w : World} {K : PySem.W.Frag} {mg : Str → Option Value} {base : Heap} {ad : Ad} (T : Txt K mg ad) : FnOk P w K mg base CX0 2 ad.f_price_by ad.d_price_by ["rule", "price", "age"] (spF K 3 F_price_by) := by
  have G_part_at := okD_part_at (P := P) (w := w) (base := base) T
  refine okF0 T.F_price_by sc_price_by fun cdv A outer s H E hr => ⟨_, (pss_one (ps_ret (pe_callB (call_max2 rfl) (by rfl) T.n_max (by decide +kernel) (pa_cons pe_int (pa_cons (pe_op op_fdiv (pe_op op_mul (pv 1) (pe_call G_part_at (hr.mono (by decide)) rfl T.g_part_at T.F_part_at.kp T.b_part_at .nil pass0 (pa_cons (pv 0) (pa_cons (pv 2) pa_nil)))) (pe_globE rfl T.c_WHOLE_PART)) pa_nil))))), ?_⟩
  exact (rs_ret (re_cb rb_max2 (ra_cons (re_c fun _ => .int _) (ra_cons (re_op rr_fdiv (re_op rr_mul re_v (re_call (fun _ => .nil) (rc_dat re_v (rc_dat re_v rc_nil)))) (re_c fun _ => .int _)) ra_nil))))
theorem okD_price_on {P : Program} {w : World} {K : PySem.W.Frag} {mg : Str → Option Value} {base : Heap} {ad : Ad} (T : Txt K mg ad) : FnOk P w K mg base CX0 3 ad.f_price_on ad.d_price_on ["rule", "tag", "day", "leave"] (spF K 4 F_price_on) := by
  have G_price_by := okD_price_by (P := P) (w := w) (base := base) T
  refine okFD T.F_price_on sc_price_on fun cdv A outer s H E hr => ⟨_, (pss_cons (ps_if (pt_cmpR op_lt (pv 2) (pe_fld (pv 1) rfl) (nomark _)) (pss_one ps_never) pss_nil)
    (pss_cons (ps_set (i := 4) sc_price_on.nd rfl (Or.inl rfl) (pe_call G_price_by (hr.mono (by decide)) rfl T.g_price_by T.F_price_by.kp T.b_price_by .nil pass0 (pa_cons (pv 0) (pa_cons (pe_fld (pv 1) rfl) (pa_cons (pe_op op_sub (pv 2) (pe_fld (pv 1) rfl)) pa_nil)))))
    (pss_one (ps_ret (pe_ifExp (pt_val (pv 3)) (pv 4) (pe_callB (call_max2 rfl) (by rfl) T.n_max (by decide +kernel) (pa_cons (pv 4) (pa_cons (pe_fld (pv 1) rfl) pa_nil)))))))), ?_⟩
  exact (rs_seq (rs_if (rt_test (re_op rr_lt re_v (re_fld T.q_Tag T.cl_Tag T.na_Tag_day re_v))) rs_never rs_next)
    (rs_seq (rs_asg (re_call (fun _ => .nil) (rc_dat re_v (rc_dat (re_fld T.q_Tag T.cl_Tag T.na_Tag_price re_v) (rc_dat (re_op rr_sub re_v (re_fld T.q_Tag T.cl_Tag T.na_Tag_day re_v)) rc_nil)))) rg_name)
    (rs_ret (re_if (rt_b re_v) re_v (re_cb rb_max2 (ra_cons re_v (ra_cons (re_fld T.q_Tag T.cl_Tag T.na_Tag_least re_v) ra_nil)))))))
theorem okD_falls {P : Program} {w : World} {K : PySem.W.Frag} {mg : Str → Option Value} {base : Heap} {ad : Ad} (T : Txt K mg ad) : FnOk P w K mg base CX0 4 ad.f_falls ad.d_falls ["rule", "tag", "leave"] (spF K 3 F_falls) := by
  have G_price_on := okD_price_on (P := P) (w := w) (base := base) T
  obtain ⟨ikb_price_on_3_leave, kb_price_on_3_leave⟩ := T.kb_price_on_3_leave
  refine okFD T.F_falls sc_falls fun cdv A outer s H E hr => ⟨_, (pss_cons (ps_set (i := 3) sc_falls.nd rfl (Or.inl rfl) (pe_lst (pa_cons (pe_tup (pa_cons (pe_fld (pv 1) rfl) (pa_cons (pe_callN G_price_on (hr.mono (by decide)) rfl T.g_price_on T.F_price_on.kp kb_price_on_3_leave pass0 (pa_cons (pv 0) (pa_cons (pv 1) (pa_cons (pe_fld (pv 1) rfl) pa_nil))) (pk_cons (pv 2) pk_nil)) pa_nil))) pa_nil)))
    (pss_cons (ps_for PassesOwn.never rfl (pi_tup (pv 0)) (pg_tup (by rfl) (pgs_cons (pg_name (i := 4) sc_falls.nd rfl (Or.inl rfl)) (pgs_cons (pg_name (i := 5) sc_falls.nd rfl (Or.inl rfl)) pgs_nil))) (pss_cons (ps_set (i := 6) sc_falls.nd rfl (Or.inl rfl) (pe_callN G_price_on (hr.mono (by decide)) rfl T.g_price_on T.F_price_on.kp kb_price_on_3_leave pass0 (pa_cons (pv 0) (pa_cons (pv 1) (pa_cons (pe_op op_add (pe_fld (pv 1) rfl) (pv 4)) pa_nil))) (pk_cons (pv 2) pk_nil)))
    (pss_one (ps_if (pt_cmpR op_lt (pv 6) (pe_ix ix_tup (pe_ix ix_list (pv 3) (pe_un un_neg pe_int) (fun _ _ => rfl)) pe_int (fun _ _ => rfl)) (nomark _)) (pss_one (ps_expr (pe_bm PySem.F.plainAttrs_list PySem.F.slot_list_append PySem.F.type_list_append mt_append (pv 3) (pa_cons (pe_tup (pa_cons (pe_op op_add (pe_fld (pv 1) rfl) (pv 4)) (pa_cons (pv 6) pa_nil))) pa_nil)))) pss_nil))))
    (pss_one (ps_ret (pv 3))))), ?_⟩
  exact (rs_seq (rs_own (by decide) (rn_lst (ra_cons (re_tup (ra_cons (re_fld T.q_Tag T.cl_Tag T.na_Tag_day re_v) (ra_cons (re_callN (by intro ds es h1 h2; simp [h1, h2]) (fun vs zs ds es H r1 r2 => (r1.append ((r2.drop 0).take 1))) (ra_cons re_v (ra_cons re_v (ra_cons (re_fld T.q_Tag T.cl_Tag T.na_Tag_day re_v) ra_nil))) (ra_cons re_v ra_nil)) ra_nil))) ra_nil)))
    (rs_seq (rs_for (by decide) (ri_tup re_v) (rg_tup (rgs_cons rg_name (rgs_cons rg_name rgs_nil))) (rs_seq (rs_asg (re_callN (by intro ds es h1 h2; simp [h1, h2]) (fun vs zs ds es H r1 r2 => (r1.append ((r2.drop 0).take 1))) (ra_cons re_v (ra_cons re_v (ra_cons (re_op rr_add (re_fld T.q_Tag T.cl_Tag T.na_Tag_day re_v) re_v) ra_nil))) (ra_cons re_v ra_nil)) rg_name)
    (rs_if (rt_test (re_op rr_lt re_v (re_op rr_ixT (re_ixO (re_un ru_neg (re_c fun _ => .int _))) (re_c fun _ => .int _)))) (rs_append (re_tup (ra_cons (re_op rr_add (re_fld T.q_Tag T.cl_Tag T.na_Tag_day re_v) re_v) (ra_cons re_v ra_nil)))) rs_next)))
    (rs_freeze (by decide) (rs_ret re_v))))
theorem okD_first_day {P : Program} {w : World} {K : PySem.W.Frag} {mg : Str → Option Value} {base : Heap} {ad : Ad} (T : Txt K mg ad) : FnOk P w K mg base CX0 5 ad.f_first_day ad.d_first_day ["rule", "tag", "amount", "leave"] (spF K 4 F_first_day) := by
  have G_falls := okD_falls (P := P) (w := w) (base := base) T
  obtain ⟨ikb_falls_2_leave, kb_falls_2_leave⟩ := T.kb_falls_2_leave
  refine okFD T.F_first_day sc_first_day fun cdv A outer s H E hr => ⟨_, (pss_cons (ps_for PassesOwn.never rfl (pi_list (pe_callN G_falls (hr.mono (by decide)) rfl T.g_falls T.F_falls.kp kb_falls_2_leave pass0 (pa_cons (pv 0) (pa_cons (pv 1) pa_nil)) (pk_cons (pv 3) pk_nil))) (pg_tup (by rfl) (pgs_cons (pg_name (i := 4) sc_first_day.nd rfl (Or.inl rfl)) (pgs_cons (pg_name (i := 5) sc_first_day.nd rfl (Or.inl rfl)) pgs_nil))) (pss_one (ps_if (pt_cmpR op_le (pv 5) (pv 2) (nomark _)) (pss_one (ps_ret (pv 4))) pss_nil)))
    (pss_one (ps_ret pe_non))), ?_⟩
  exact (rs_seq (rs_for (by decide) (ri_list (re_callN (by intro ds es h1 h2; simp [h1, h2]) (fun vs zs ds es H r1 r2 => (r1.append ((r2.drop 0).take 1))) (ra_cons re_v (ra_cons re_v ra_nil)) (ra_cons re_v ra_nil))) (rg_tup (rgs_cons rg_name (rgs_cons rg_name rgs_nil))) (rs_if (rt_test (re_op rr_le re_v re_v)) (rs_ret re_v) rs_next))
    (rs_ret (re_c fun _ => .non)))
theorem okD__law_by_turns_right {P : Program} {w : World} {K : PySem.W.Frag} {mg : Str → Option Value} {base : Heap} {ad : Ad} (T : Txt K mg ad) : FnOk P w K mg base CX0 6 ad.f__law_by_turns_right ad.d__law_by_turns_right ["_law_rules", "_law_tag"] (spF K 2 F__law_by_turns_right) := by
  have G_falls := okD_falls (P := P) (w := w) (base := base) T
  have G_first_day := okD_first_day (P := P) (w := w) (base := base) T
  have G_price_on := okD_price_on (P := P) (w := w) (base := base) T
  obtain ⟨db_falls_2, vb_falls_2, b_falls_2⟩ := T.b_falls_2
  obtain ⟨db_first_day_3, vb_first_day_3, b_first_day_3⟩ := T.b_first_day_3
  obtain ⟨db_price_on_3, vb_price_on_3, b_price_on_3⟩ := T.b_price_on_3
  refine okF0 T.F__law_by_turns_right sc__law_by_turns_right fun cdv A outer s H E hr => ⟨_, (pss_cons (ps_setLc (i := 2) (own := [("_law_rule_here", 3)]) (g := gName 3) (by rfl) sc__law_by_turns_right.nd rfl rfl (sw_true rfl rfl rfl (by decide +kernel)) (pi_list (pv 0)) (blkOk_by (own := [("_law_rule_here", 3)]) (N := N__law_by_turns_right) (sc := defScope s__law_by_turns_right) (by decide +kernel)) (fun _ _ _ _ _ => (pg_name (i := 3) sc__law_by_turns_right.nd rfl (Or.inl rfl))) (fun _ _ _ _ _ => pts_nil) (fun _ _ _ _ _ => (pe_call G_falls (hr.mono (by decide)) rfl T.g_falls T.F_falls.kp b_falls_2 vb_falls_2 pass0 (pa_cons (pv 3) (pa_cons (pv 1) pa_nil)))))
    (pss_cons (ps_for PassesOwn.never rfl (pi_range1 rfl T.n_range (pa_cons pe_int pa_nil)) (pg_name (i := 4) sc__law_by_turns_right.nd rfl (Or.inl rfl)) (pss_one (ps_for PassesOwn.never rfl (RZ.pi_zipA (by rfl) T.n_zip (pa_cons (pv 0) (pa_cons (pv 2) pa_nil))) (pg_tup (by rfl) (pgs_cons (pg_name (i := 3) sc__law_by_turns_right.nd rfl (Or.inr rfl)) (pgs_cons (pg_name (i := 5) sc__law_by_turns_right.nd rfl (Or.inl rfl)) pgs_nil))) (pss_cons (ps_asg (pe_tup (pa_cons (pe_op op_cat (pe_lst (pa_cons pe_int pa_nil)) (pe_lc (own := [("_law_age", 8), ("_law_part", 9)]) (g := gTup K 2 (gCons (gName 8) (gCons (gName 9) gNil))) (by rfl) sc__law_by_turns_right.nd (pi_tup (pv 3)) (blkOk_by (own := [("_law_age", 8), ("_law_part", 9)]) (N := N__law_by_turns_right) (sc := defScope s__law_by_turns_right) (by decide +kernel)) (fun _ _ _ _ _ => (pg_tup (by rfl) (pgs_cons (pg_name (i := 8) sc__law_by_turns_right.nd rfl (Or.inl rfl)) (pgs_cons (pg_name (i := 9) sc__law_by_turns_right.nd rfl (Or.inl rfl)) pgs_nil)))) (fun _ _ _ _ _ => pts_nil) (fun _ _ _ _ _ => (pv 8)))) (pa_cons (pe_lc (own := [("_law_pair", 10)]) (g := gName 10) (by rfl) sc__law_by_turns_right.nd (pi_list (pv 5)) (blkOk_by (own := [("_law_pair", 10)]) (N := N__law_by_turns_right) (sc := defScope s__law_by_turns_right) (by decide +kernel)) (fun _ _ _ _ _ => (pg_name (i := 10) sc__law_by_turns_right.nd rfl (Or.inl rfl))) (fun _ _ _ _ _ => pts_nil) (fun _ _ _ _ _ => (pe_ix (r := rIxT K) ix_tup (pv 10) pe_int (fun _ _ => rfl)))) pa_nil))) (pg_tup (by rfl) (pgs_cons (pg_name (i := 6) sc__law_by_turns_right.nd rfl (Or.inr rfl)) (pgs_cons (pg_name (i := 7) sc__law_by_turns_right.nd rfl (Or.inl rfl)) pgs_nil))))
    (pss_cons (ps_if (PW.pt (pw_or (pt_cmpR (op_neD hr.units) (pe_call G_falls (hr.mono (by decide)) rfl T.g_falls T.F_falls.kp b_falls_2 vb_falls_2 pass0 (pa_cons (pv 3) (pa_cons (pv 1) pa_nil))) (pv 5) (nomark _)) (pw_or1 (pt_not (pt_val (pe_callB (cr_all rfl) (by rfl) T.n_all (by decide +kernel) (pa_cons (pe_lc (own := [("_law_when", 11)]) (g := gName 11) (by rfl) sc__law_by_turns_right.nd (pi_list (pv 7)) (blkOk_by (own := [("_law_when", 11)]) (N := N__law_by_turns_right) (sc := defScope s__law_by_turns_right) (by decide +kernel)) (fun _ _ _ _ _ => (pg_name (i := 11) sc__law_by_turns_right.nd rfl (Or.inl rfl))) (fun _ _ _ _ _ => pts_nil) (fun _ _ _ _ _ => (pe_cmpR (r := rIn K false) op_in_seq (pe_op op_sub (pv 11) (show PE _ _ (tFld K _ _) from pe_fld (pv 1) rfl)) (pv 6) rfl))) pa_nil))))))) (pss_one (ps_ret pe_bl)) pss_nil)
    (pss_cons (ps_if (pt_cmpR (op_neD hr.units) (pe_lc (own := [("_law_pair", 10)]) (g := gName 10) (by rfl) sc__law_by_turns_right.nd (pi_list (pv 5)) (blkOk_by (own := [("_law_pair", 10)]) (N := N__law_by_turns_right) (sc := defScope s__law_by_turns_right) (by decide +kernel)) (fun _ _ _ _ _ => (pg_name (i := 10) sc__law_by_turns_right.nd rfl (Or.inl rfl))) (fun _ _ _ _ _ => pts_nil) (fun _ _ _ _ _ => (pe_call G_first_day (hr.mono (by decide)) rfl T.g_first_day T.F_first_day.kp b_first_day_3 vb_first_day_3 pass0 (pa_cons (pv 3) (pa_cons (pv 1) (pa_cons (pe_ix (r := rIxT K) ix_tup (pv 10) pe_int (fun _ _ => rfl)) pa_nil)))))) (pv 7) (nomark _)) (pss_one (ps_ret pe_bl)) pss_nil)
    (pss_one (ps_if (pt_cmpR (op_neD hr.units) (pe_lc (own := [("_law_pair", 10)]) (g := gName 10) (by rfl) sc__law_by_turns_right.nd (pi_list (pv 5)) (blkOk_by (own := [("_law_pair", 10)]) (N := N__law_by_turns_right) (sc := defScope s__law_by_turns_right) (by decide +kernel)) (fun _ _ _ _ _ => (pg_name (i := 10) sc__law_by_turns_right.nd rfl (Or.inl rfl))) (fun _ _ _ _ _ => pts_nil) (fun _ _ _ _ _ => (pe_call G_price_on (hr.mono (by decide)) rfl T.g_price_on T.F_price_on.kp b_price_on_3 vb_price_on_3 pass0 (pa_cons (pv 3) (pa_cons (pv 1) (pa_cons (pe_ix (r := rIxT K) ix_tup (pv 10) pe_int (fun _ _ => rfl)) pa_nil)))))) (pe_lc (own := [("_law_pair", 10)]) (g := gName 10) (by rfl) sc__law_by_turns_right.nd (pi_list (pv 5)) (blkOk_by (own := [("_law_pair", 10)]) (N := N__law_by_turns_right) (sc := defScope s__law_by_turns_right) (by decide +kernel)) (fun _ _ _ _ _ => (pg_name (i := 10) sc__law_by_turns_right.nd rfl (Or.inl rfl))) (fun _ _ _ _ _ => pts_nil) (fun _ _ _ _ _ => (pe_ix (r := rIxT K) ix_tup (pv 10) pe_int (fun _ _ => rfl)))) (nomark _)) (pss_one (ps_ret pe_bl)) pss_nil))))))))
    (pss_one (ps_ret pe_bl)))), ?_⟩
  exact (rs_seq (rs_asg (RN.re (rn_lc (by decide) (ri_list re_v) rg_name rt_yes (re_call (fun _ => (.cons (.bl _) .nil)) (rc_dat re_v (rc_dat re_v rc_nil))))) rg_name)
    (rs_seq (rs_for (by decide) (ri_rng1 (ra_cons (re_c fun _ => .int _) ra_nil)) rg_name (rs_for (by decide) (ri_zip (ra_cons re_v (ra_cons re_v ra_nil))) (rg_tup (rgs_cons rg_name (rgs_cons rg_name rgs_nil))) (rs_seq (rs_asg (re_tup (ra_cons (re_op rr_cat (RN.re (rn_lst (ra_cons (re_c fun _ => .int _) ra_nil))) (RN.re (rn_lc (by decide) (ri_tup re_v) (rg_tup (rgs_cons rg_name (rgs_cons rg_name rgs_nil))) rt_yes re_v))) (ra_cons (RN.re (rn_lc (by decide) (ri_list re_v) rg_name rt_yes (re_op rr_ixT re_v (re_c fun _ => .int _)))) ra_nil))) (rg_tup (rgs_cons rg_name (rgs_cons rg_name rgs_nil))))
    (rs_seq (rs_if (rt_or (rt_test (re_op rr_neD (re_call (fun _ => (.cons (.bl _) .nil)) (rc_dat re_v (rc_dat re_v rc_nil))) re_v)) (rt_not (rt_b (re_cb rb_all (ra_cons (RN.re (rn_lc (by decide) (ri_list re_v) rg_name rt_yes (re_op rr_in (re_op rr_sub re_v (re_fld T.q_Tag T.cl_Tag T.na_Tag_day re_v)) re_v))) ra_nil))))) (rs_ret (re_c fun _ => .bl _)) rs_next)
    (rs_seq (rs_if (rt_test (re_op rr_neD (RN.re (rn_lc (by decide) (ri_list re_v) rg_name rt_yes (re_call (fun _ => (.cons (.bl _) .nil)) (rc_dat re_v (rc_dat re_v (rc_dat (re_op rr_ixT re_v (re_c fun _ => .int _)) rc_nil)))))) re_v)) (rs_ret (re_c fun _ => .bl _)) rs_next)
    (rs_if (rt_test (re_op rr_neD (RN.re (rn_lc (by decide) (ri_list re_v) rg_name rt_yes (re_call (fun _ => (.cons (.bl _) .nil)) (rc_dat re_v (rc_dat re_v (rc_dat (re_op rr_ixT re_v (re_c fun _ => .int _)) rc_nil)))))) (RN.re (rn_lc (by decide) (ri_list re_v) rg_name rt_yes (re_op rr_ixT re_v (re_c fun _ => .int _)))))) (rs_ret (re_c fun _ => .bl _)) rs_next))))))
    (rs_ret (re_c fun _ => .bl _))))
theorem okD_parted {P : Program} {w : World} {K : PySem.W.Frag} {mg : Str → Option Value} {base : Heap} {ad : Ad} (T : Txt K mg ad) : FnOk P w K mg base CX0 1 ad.f_parted ad.d_parted ["amount", "share"] (spF K 2 F_parted) := by
  refine okF0 T.F_parted sc_parted fun cdv A outer s H E hr => ⟨_, (pss_cons (ps_set (i := 2) sc_parted.nd rfl (Or.inl rfl) (pe_op op_fdiv (pe_op op_mul (pv 0) (pv 1)) (pe_globE rfl T.c_WHOLE_PART)))
    (pss_one (ps_ret (pe_tup (pa_cons (pe_op op_sub (pv 0) (pv 2)) (pa_cons (pv 2) pa_nil)))))), ?_⟩
  exact (rs_seq (rs_asg (re_op rr_fdiv (re_op rr_mul re_v re_v) (re_c fun _ => .int _)) rg_name)
    (rs_ret (re_tup (ra_cons (re_op rr_sub re_v re_v) (ra_cons re_v ra_nil)))))
theorem okD__law_is_number {P : Program} {w : World} {K : PySem.W.Frag} {mg : Str → Option Value} {base : Heap} {ad : Ad} (T : Txt K mg ad) : FnOk P w K mg base CX0 1 ad.f__law_is_number ad.d__law_is_number ["_law_thing"] (spF K 1 F__law_is_number) := by
  refine okF0 T.F__law_is_number sc__law_is_number fun cdv A outer s H E hr => ⟨_, (pss_one (ps_ret (pe_and (pe_callB call_isi (by rfl) T.n_isinstance (by decide +kernel) (pa_cons (pv 0) (pa_cons (pe_bltn (v := .ty "int") (by rfl) T.n_int (by decide +kernel) rfl) pa_nil))) (pe_one (pe_not (pe_callB call_isi (by rfl) T.n_isinstance (by decide +kernel) (pa_cons (pv 0) (pa_cons (pe_bltn (v := .ty "bool") (by rfl) T.n_bool (by decide +kernel) rfl) pa_nil)))))))), ?_⟩
  exact (rs_ret (re_and (re_isi re_v) (re_not (re_isi re_v))))
theorem okD__law_parted_right {P : Program} {w : World} {K : PySem.W.Frag} {mg : Str → Option Value} {base : Heap} {ad : Ad} (T : Txt K mg ad) : FnOk P w K mg base CX0 2 ad.f__law_parted_right ad.d__law_parted_right ["_law_box_here"] (spF K 1 F__law_parted_right) := by
  have G_parted := okD_parted (P := P) (w := w) (base := base) T
  have G__law_take := okD__law_take (P := P) (w := w) (base := base) T
  have G__law_is_number := okD__law_is_number (P := P) (w := w) (base := base) T
  refine okF0 T.F__law_parted_right sc__law_parted_right fun cdv A outer s H E hr => ⟨_, (pss_cons (ps_for PassesOwn.never rfl (pi_range1 rfl T.n_range (pa_cons pe_int pa_nil)) (pg_name (i := 1) sc__law_parted_right.nd rfl (Or.inl rfl)) (pss_cons (ps_set (i := 2) sc__law_parted_right.nd rfl (Or.inl rfl) (pe_ix ix_list (pe_lst (pa_cons (pe_call G__law_take (hr.mono (by decide)) rfl T.g__law_take T.F__law_take.kp T.b__law_take .nil pass0 (pa_cons (pv 0) (pa_cons pe_int pa_nil))) (pa_cons (pe_call G__law_take (hr.mono (by decide)) rfl T.g__law_take T.F__law_take.kp T.b__law_take .nil pass0 (pa_cons (pv 0) (pa_cons (pe_op op_add pe_int pe_int) pa_nil))) (pa_cons pe_int (pa_cons pe_int pa_nil))))) (pe_call G__law_take (hr.mono (by decide)) rfl T.g__law_take T.F__law_take.kp T.b__law_take .nil pass0 (pa_cons (pv 0) (pa_cons pe_int pa_nil))) (fun _ _ => rfl)))
    (pss_cons (ps_set (i := 3) sc__law_parted_right.nd rfl (Or.inl rfl) (pe_ix ix_list (pe_lst (pa_cons pe_int (pa_cons pe_int (pa_cons (pe_call G__law_take (hr.mono (by decide)) rfl T.g__law_take T.F__law_take.kp T.b__law_take .nil pass0 (pa_cons (pv 0) (pa_cons pe_int pa_nil))) (pa_cons pe_int pa_nil))))) (pe_call G__law_take (hr.mono (by decide)) rfl T.g__law_take T.F__law_take.kp T.b__law_take .nil pass0 (pa_cons (pv 0) (pa_cons pe_int pa_nil))) (fun _ _ => rfl)))
    (pss_cons (ps_set (i := 4) sc__law_parted_right.nd rfl (Or.inl rfl) (pe_call G_parted (hr.mono (by decide)) rfl T.g_parted T.F_parted.kp T.b_parted .nil pass0 (pa_cons (pv 2) (pa_cons (pv 3) pa_nil))))
    (pss_cons (ps_if (PW.pt (pw_or (pt_not (pt_val (pe_callB call_isi (by rfl) T.n_isinstance (by decide +kernel) (pa_cons (pv 4) (pa_cons (pe_bltn (v := .ty "tuple") (by rfl) T.n_tuple (by decide +kernel) rfl) pa_nil))))) (pw_or (pt_cmpR op_ne (pe_callB call_len_seq (by rfl) T.n_len PySem.boot_len (pa_cons (pv 4) pa_nil)) pe_int (nomark _)) (pw_or1 (pt_not (pt_val (pe_callB (cr_all rfl) (by rfl) T.n_all (by decide +kernel) (pa_cons (pe_lc (own := [("_law_one", 5)]) (g := gName 5) (by rfl) sc__law_parted_right.nd (pi_tup (pv 4)) (blkOk_by (own := [("_law_one", 5)]) (N := N__law_parted_right) (sc := defScope s__law_parted_right) (by decide +kernel)) (fun _ _ _ _ _ => (pg_name (i := 5) sc__law_parted_right.nd rfl (Or.inl rfl))) (fun _ _ _ _ _ => pts_nil) (fun _ _ _ _ _ => (pe_call G__law_is_number (hr.mono (by decide)) rfl T.g__law_is_number T.F__law_is_number.kp T.b__law_is_number .nil pass0 (pa_cons (pv 5) pa_nil)))) pa_nil)))))))) (pss_one (ps_ret pe_bl)) pss_nil)
    (pss_cons (ps_asg (pv 4) (pg_tup (by rfl) (pgs_cons (pg_name (i := 6) sc__law_parted_right.nd rfl (Or.inl rfl)) (pgs_cons (pg_name (i := 7) sc__law_parted_right.nd rfl (Or.inl rfl)) pgs_nil))))
    (pss_cons (ps_if (PW.pt (pw_or (pt_cmpR op_ne (pe_op op_add (pv 6) (pv 7)) (pv 2) (nomark _)) (pw_or1 (pt_not (pt_chain op_le op_lt (pe_op op_mul (pv 7) pe_int) (pe_op op_mul (pv 2) (pv 3)) (pe_op op_add (pe_op op_mul (pv 7) pe_int) pe_int)))))) (pss_one (ps_ret pe_bl)) pss_nil)
    (pss_one (ps_if (PW.pt (pw_and (pt_cmpR op_lt (pv 3) pe_int (nomark _)) (pw_and1 (pt_cmpR op_gt (pe_ix ix_tup (pe_call G_parted (hr.mono (by decide)) rfl T.g_parted T.F_parted.kp T.b_parted .nil pass0 (pa_cons (pv 2) (pa_cons (pe_op op_add (pv 3) pe_int) pa_nil))) pe_int (fun _ _ => rfl)) (pv 6) (nomark _))))) (pss_one (ps_ret pe_bl)) pss_nil)))))))))
    (pss_one (ps_ret pe_bl))), ?_⟩
  exact (rs_seq (rs_for (by decide) (ri_rng1 (ra_cons (re_c fun _ => .int _) ra_nil)) rg_name (rs_seq (rs_asg (re_op rr_ixL (RN.re (rn_lst (ra_cons (re_call (fun _ => .nil) (rc_own (rc_dat (re_c fun _ => .int _) rc_nil))) (ra_cons (re_call (fun _ => .nil) (rc_own (rc_dat (re_op rr_add (re_c fun _ => .int _) (re_c fun _ => .int _)) rc_nil))) (ra_cons (re_c fun _ => .int _) (ra_cons (re_c fun _ => .int _) ra_nil)))))) (re_call (fun _ => .nil) (rc_own (rc_dat (re_c fun _ => .int _) rc_nil)))) rg_name)
    (rs_seq (rs_asg (re_op rr_ixL (RN.re (rn_lst (ra_cons (re_c fun _ => .int _) (ra_cons (re_c fun _ => .int _) (ra_cons (re_call (fun _ => .nil) (rc_own (rc_dat (re_c fun _ => .int _) rc_nil))) (ra_cons (re_c fun _ => .int _) ra_nil)))))) (re_call (fun _ => .nil) (rc_own (rc_dat (re_c fun _ => .int _) rc_nil)))) rg_name)
    (rs_seq (rs_asg (re_call (fun _ => .nil) (rc_dat re_v (rc_dat re_v rc_nil))) rg_name)
    (rs_seq (rs_if (rt_or (rt_not (rt_b (re_isi re_v))) (rt_or (rt_test (re_op rr_ne (re_cb rb_len (ra_cons re_v ra_nil)) (re_c fun _ => .int _))) (rt_not (rt_b (re_cb rb_all (ra_cons (RN.re (rn_lc (by decide) (ri_tup re_v) rg_name rt_yes (re_call (fun _ => .nil) (rc_dat re_v rc_nil)))) ra_nil)))))) (rs_ret (re_c fun _ => .bl _)) rs_next)
    (rs_seq (rs_asg re_v (rg_tup (rgs_cons rg_name (rgs_cons rg_name rgs_nil))))
    (rs_seq (rs_if (rt_or (rt_test (re_op rr_ne (re_op rr_add re_v re_v) re_v)) (rt_not (rt_test (re_chain rr_le rr_lt (re_op rr_mul re_v (re_c fun _ => .int _)) (re_op rr_mul re_v re_v) (re_op rr_add (re_op rr_mul re_v (re_c fun _ => .int _)) (re_c fun _ => .int _)))))) (rs_ret (re_c fun _ => .bl _)) rs_next)
    (rs_if (rt_and (rt_test (re_op rr_lt re_v (re_c fun _ => .int _))) (rt_test (re_op rr_gt (re_op rr_ixT (re_call (fun _ => .nil) (rc_dat re_v (rc_dat (re_op rr_add re_v (re_c fun _ => .int _)) rc_nil))) (re_c fun _ => .int _)) re_v))) (rs_ret (re_c fun _ => .bl _)) rs_next))))))))
    (rs_ret (re_c fun _ => .bl _)))
theorem okD_is_rule_pair {P : Program} {w : World} {K : PySem.W.Frag} {mg : Str → Option Value} {base : Heap} {ad : Ad} (T : Txt K mg ad) : FnOk P w K mg base CX0 2 ad.f_is_rule_pair ad.d_is_rule_pair ["thing"] (spF K 1 F_is_rule_pair) := by
  have G_is_whole := okD_is_whole (P := P) (w := w) (base := base) T
  refine okF0 T.F_is_rule_pair sc_is_rule_pair fun cdv A outer s H E hr => ⟨_, (pss_cons (ps_if (PW.pt (pw_or (pt_not (pt_val (pe_callB call_isi (by rfl) T.n_isinstance (by decide +kernel) (pa_cons (pv 0) (pa_cons (pe_bltn (v := .ty "tuple") (by rfl) T.n_tuple (by decide +kernel) rfl) pa_nil))))) (pw_or1 (pt_cmpR op_ne (pe_callB call_len_seq (by rfl) T.n_len PySem.boot_len (pa_cons (pv 0) pa_nil)) pe_int (nomark _))))) (pss_one (ps_ret pe_bl)) pss_nil)
    (pss_one (ps_ret (pe_and (pe_call G_is_whole (hr.mono (by decide)) rfl T.g_is_whole T.F_is_whole.kp T.b_is_whole .nil pass0 (pa_cons (pe_ix ix_tup (pv 0) pe_int (fun _ _ => rfl)) (pa_cons pe_int (pa_cons (pe_globE rfl T.c_MOST_AGE) pa_nil)))) (pe_one (pe_call G_is_whole (hr.mono (by decide)) rfl T.g_is_whole T.F_is_whole.kp T.b_is_whole .nil pass0 (pa_cons (pe_ix ix_tup (pv 0) pe_int (fun _ _ => rfl)) (pa_cons pe_int (pa_cons (pe_globE rfl T.c_MOST_PART) pa_nil))))))))), ?_⟩
  exact (rs_seq (rs_if (rt_or (rt_not (rt_b (re_isi re_v))) (rt_test (re_op rr_ne (re_cb rb_len (ra_cons re_v ra_nil)) (re_c fun _ => .int _)))) (rs_ret (re_c fun _ => .bl _)) rs_next)
    (rs_ret (re_and (re_call (fun _ => .nil) (rc_dat (re_op rr_ixT re_v (re_c fun _ => .int _)) (rc_dat (re_c fun _ => .int _) (rc_dat (re_c fun _ => .int _) rc_nil)))) (re_call (fun _ => .nil) (rc_dat (re_op rr_ixT re_v (re_c fun _ => .int _)) (rc_dat (re_c fun _ => .int _) (rc_dat (re_c fun _ => .int _) rc_nil)))))))
theorem okD_is_rule {P : Program} {w : World} {K : PySem.W.Frag} {mg : Str → Option Value} {base : Heap} {ad : Ad} (T : Txt K mg ad) : FnOk P w K mg base CX0 3 ad.f_is_rule ad.d_is_rule ["thing"] (spF K 1 F_is_rule) := by
  have G_is_rule_pair := okD_is_rule_pair (P := P) (w := w) (base := base) T
  refine okF0 T.F_is_rule sc_is_rule fun cdv A outer s H E hr => ⟨_, (pss_cons (ps_if (PW.pt (pw_or (pt_not (pt_val (pe_callB call_isi (by rfl) T.n_isinstance (by decide +kernel) (pa_cons (pv 0) (pa_cons (pe_bltn (v := .ty "tuple") (by rfl) T.n_tuple (by decide +kernel) rfl) pa_nil))))) (pw_or (pt_cmpR op_gt (pe_callB call_len_seq (by rfl) T.n_len PySem.boot_len (pa_cons (pv 0) pa_nil)) (pe_globE rfl T.c_MOST_PAIRS) (nomark _)) (pw_or1 (pt_not (pt_val (pe_callB (cr_all rfl) (by rfl) T.n_all (by decide +kernel) (pa_cons (pe_lc (own := [("pair", 1)]) (g := gName 1) (by rfl) sc_is_rule.nd (pi_tup (pv 0)) (blkOk_by (own := [("pair", 1)]) (N := N_is_rule) (sc := defScope s_is_rule) (by decide +kernel)) (fun _ _ _ _ _ => (pg_name (i := 1) sc_is_rule.nd rfl (Or.inl rfl))) (fun _ _ _ _ _ => pts_nil) (fun _ _ _ _ _ => (pe_call G_is_rule_pair (hr.mono (by decide)) rfl T.g_is_rule_pair T.F_is_rule_pair.kp T.b_is_rule_pair .nil pass0 (pa_cons (pv 1) pa_nil)))) pa_nil)))))))) (pss_one (ps_ret pe_bl)) pss_nil)
    (pss_one (ps_ret (pe_callB (cr_all rfl) (by rfl) T.n_all (by decide +kernel) (pa_cons (pe_lc (own := [("one", 2), ("other", 3)]) (g := gTup K 2 (gCons (gName 2) (gCons (gName 3) gNil))) (by rfl) sc_is_rule.nd (RZ.pi_zipA (by rfl) T.n_zip (pa_cons (pv 0) (pa_cons (pe_slice sl_tupA (pv 0) (po_some pe_int) po_none) pa_nil))) (blkOk_by (own := [("one", 2), ("other", 3)]) (N := N_is_rule) (sc := defScope s_is_rule) (by decide +kernel)) (fun _ _ _ _ _ => (pg_tup (by rfl) (pgs_cons (pg_name (i := 2) sc_is_rule.nd rfl (Or.inl rfl)) (pgs_cons (pg_name (i := 3) sc_is_rule.nd rfl (Or.inl rfl)) pgs_nil)))) (fun _ _ _ _ _ => pts_nil) (fun _ _ _ _ _ => (pe_and (pe_cmpR op_lt (pe_ix (r := rIxT K) ix_tup (pv 2) pe_int (fun _ _ => rfl)) (pe_ix (r := rIxT K) ix_tup (pv 3) pe_int (fun _ _ => rfl)) (nomark _)) (pe_one (pe_cmpR op_gt (pe_ix (r := rIxT K) ix_tup (pv 2) pe_int (fun _ _ => rfl)) (pe_ix (r := rIxT K) ix_tup (pv 3) pe_int (fun _ _ => rfl)) (nomark _)))))) pa_nil))))), ?_⟩
  exact (rs_seq (rs_if (rt_or (rt_not (rt_b (re_isi re_v))) (rt_or (rt_test (re_op rr_gt (re_cb rb_len (ra_cons re_v ra_nil)) (re_c fun _ => .int _))) (rt_not (rt_b (re_cb rb_all (ra_cons (RN.re (rn_lc (by decide) (ri_tup re_v) rg_name rt_yes (re_call (fun _ => .nil) (rc_dat re_v rc_nil)))) ra_nil)))))) (rs_ret (re_c fun _ => .bl _)) rs_next)
    (rs_ret (re_cb rb_all (ra_cons (RN.re (rn_lc (by decide) (ri_zip (ra_cons re_v (ra_cons (re_sl rl_tupA re_v (ro_so (re_c fun _ => .int _)) ro_no) ra_nil))) (rg_tup (rgs_cons rg_name (rgs_cons rg_name rgs_nil))) rt_yes (re_and (re_op rr_lt (re_op rr_ixT re_v (re_c fun _ => .int _)) (re_op rr_ixT re_v (re_c fun _ => .int _))) (re_op rr_gt (re_op rr_ixT re_v (re_c fun _ => .int _)) (re_op rr_ixT re_v (re_c fun _ => .int _)))))) ra_nil))))
theorem okD__law_right {P : Program} {w : World} {K : PySem.W.Frag} {mg : Str → Option Value} {base : Heap} {ad : Ad} (T : Txt K mg ad) : FnOk P w K mg base CX0 7 ad.f__law_right ad.d__law_right ["_law_box_here"] (spF K 1 F__law_right) := by
  have G__law_names := okD__law_names (P := P) (w := w) (base := base) T
  have G__law_rule := okD__law_rule (P := P) (w := w) (base := base) T
  have G__law_take := okD__law_take (P := P) (w := w) (base := base) T
  have G__law_five := okD__law_five (P := P) (w := w) (base := base) T
  have G__law_made := okD__law_made (P := P) (w := w) (base := base) T
  have G_Tag_init := ok_Tag_init (P := P) (w := w) (base := base) T
  have G_price_on := okD_price_on (P := P) (w := w) (base := base) T
  have G_falls := okD_falls (P := P) (w := w) (base := base) T
  have G__law_by_turns_right := okD__law_by_turns_right (P := P) (w := w) (base := base) T
  have G__law_parted_right := okD__law_parted_right (P := P) (w := w) (base := base) T
  have G_is_rule := okD_is_rule (P := P) (w := w) (base := base) T
  have G_first_day := okD_first_day (P := P) (w := w) (base := base) T
  obtain ⟨ikb_Tag_init_4_day, kb_Tag_init_4_day⟩ := T.kb_Tag_init_4_day
  obtain ⟨db_price_on_3, vb_price_on_3, b_price_on_3⟩ := T.b_price_on_3
  obtain ⟨db_falls_3, vb_falls_3, b_falls_3⟩ := T.b_falls_3
  obtain ⟨ikb_price_on_3_leave, kb_price_on_3_leave⟩ := T.kb_price_on_3_leave
  obtain ⟨db_first_day_4, vb_first_day_4, b_first_day_4⟩ := T.b_first_day_4
  obtain ⟨db_price_on_4, vb_price_on_4, b_price_on_4⟩ := T.b_price_on_4
  refine okF0 T.F__law_right sc__law_right fun cdv A outer s H E hr => ⟨_, (pss_cons (ps_par (i := 1) (j := 2) (by rfl) sc__law_right.nd rfl rfl (by decide) rfl rfl (pa_cons (pe_call G__law_names (hr.mono (by decide)) rfl T.g__law_names T.F__law_names.kp T.b__law_names .nil pass0 (pa_cons (pv 0) (pa_cons pe_int pa_nil))) (pa_cons (pe_call G__law_rule (hr.mono (by decide)) rfl T.g__law_rule T.F__law_rule.kp T.b__law_rule .nil pass0 (pa_cons (pv 0) pa_nil)) pa_nil)) (by rfl))
    (pss_cons (ps_asg (pe_tup (pa_cons (pe_call G__law_take (hr.mono (by decide)) rfl T.g__law_take T.F__law_take.kp T.b__law_take .nil pass0 (pa_cons (pv 0) (pa_cons (pe_op op_add (pe_callB call_len_seq (by rfl) T.n_len PySem.boot_len (pa_cons (pv 2) pa_nil)) pe_int) pa_nil))) (pa_cons (pe_call G__law_five (hr.mono (by decide)) rfl T.g__law_five T.F__law_five.kp T.b__law_five .nil pass0 (pa_cons (pv 0) (pa_cons (pv 1) pa_nil))) pa_nil))) (pg_tup (by rfl) (pgs_cons (pg_name (i := 3) sc__law_right.nd rfl (Or.inl rfl)) (pgs_cons (pg_name (i := 4) sc__law_right.nd rfl (Or.inr rfl)) pgs_nil))))
    (pss_cons (ps_par (i := 5) (j := 6) (by rfl) sc__law_right.nd rfl rfl (by decide) rfl rfl (pa_cons (pe_call G__law_made (hr.mono (by decide)) rfl T.g__law_made T.F__law_made.kp T.b__law_made .nil pass0 (pa_cons (pv 0) (pa_cons (pv 4) pa_nil))) (pa_cons (pe_makeN T.mk_Tag G_Tag_init (hr.mono (by decide)) rfl T.g_Tag kb_Tag_init_4_day pass0 (pa_cons (pe_ix ix_tup (pv 4) pe_int (fun _ _ => rfl)) (pa_cons (pe_ix ix_tup (pv 4) pe_int (fun _ _ => rfl)) (pa_cons (pe_ix ix_tup (pv 4) pe_int (fun _ _ => rfl)) pa_nil))) (pk_cons (pe_ix ix_tup (pv 4) pe_int (fun _ _ => rfl)) pk_nil)) pa_nil)) (by rfl))
    (pss_cons (ps_par (i := 7) (j := 8) (by rfl) sc__law_right.nd rfl rfl (by decide) rfl rfl (pa_cons (pe_slice sl_tupA (pv 2) po_none (po_some (pv 3))) (pa_cons (pe_op op_add (pe_ix ix_tup (pv 4) pe_int (fun _ _ => rfl)) (pe_ifExp (pt_cmpR op_lt (pv 3) (pe_callB call_len_seq (by rfl) T.n_len PySem.boot_len (pa_cons (pv 2) pa_nil)) (nomark _)) (pe_ix ix_tup (pe_ix ix_tup (pv 2) (pv 3) (fun _ _ => rfl)) pe_int (fun _ _ => rfl)) pe_int)) pa_nil)) (by rfl))
    (pss_cons (ps_set (i := 9) sc__law_right.nd rfl (Or.inl rfl) (pe_callTy call_tuple_of (by rfl) T.n_tuple (by decide +kernel) (pa_cons (pe_lc (own := [("_law_age", 10), ("_law_part", 11)]) (g := gTup K 2 (gCons (gName 10) (gCons (gName 11) gNil))) (by rfl) sc__law_right.nd (pi_tup (pv 2)) (blkOk_by (own := [("_law_age", 10), ("_law_part", 11)]) (N := N__law_right) (sc := defScope s__law_right) (by decide +kernel)) (fun _ _ _ _ _ => (pg_tup (by rfl) (pgs_cons (pg_name (i := 10) sc__law_right.nd rfl (Or.inl rfl)) (pgs_cons (pg_name (i := 11) sc__law_right.nd rfl (Or.inl rfl)) pgs_nil)))) (fun _ _ _ _ _ => pts_nil) (fun _ _ _ _ _ => (pe_tup (pa_cons (pv 10) (pa_cons (pe_op op_sub (pv 11) pe_int) pa_nil))))) pa_nil)))
    (pss_cons (ps_if (PW.pt (pw_or (pt_not (pt_val (pe_call G_is_rule (hr.mono (by decide)) rfl T.g_is_rule T.F_is_rule.kp T.b_is_rule .nil pass0 (pa_cons (pv 7) pa_nil)))) (pw_or1 (PW.pt (pw_and (pt_cmpR (op_neD hr.units) (pv 2) (pe_tup pa_nil) (nomark _)) (pw_and (pt_cmpR op_gt (pe_ix ix_tup (pe_ix ix_tup (pv 2) (pe_un un_neg pe_int) (fun _ _ => rfl)) pe_int (fun _ _ => rfl)) pe_int (nomark _)) (pw_and1 (pt_not (pt_val (pe_call G_is_rule (hr.mono (by decide)) rfl T.g_is_rule T.F_is_rule.kp T.b_is_rule .nil pass0 (pa_cons (pv 9) pa_nil))))))))))) (pss_one (ps_ret pe_bl)) pss_nil)
    (pss_cons (ps_set (i := 12) sc__law_right.nd rfl (Or.inl rfl) (pe_lst (pa_cons (pe_ix ix_tup (pv 4) pe_int (fun _ _ => rfl)) (pa_cons (pe_callB (call_min2 rfl) (by rfl) T.n_min (by decide +kernel) (pa_cons pe_int (pa_cons (pe_op op_add (pe_ix ix_tup (pv 4) pe_int (fun _ _ => rfl)) pe_int) pa_nil))) (pa_cons (pe_op op_sub (pv 8) pe_int) (pa_cons (pe_callB (call_min2 rfl) (by rfl) T.n_min (by decide +kernel) (pa_cons (pv 8) (pa_cons pe_int pa_nil))) pa_nil))))))
    (pss_cons (ps_for PassesOwn.never rfl (pi_list (pe_op op_cat (pe_lc (own := [("_law_turn", 14)]) (g := gName 14) (by rfl) sc__law_right.nd (pi_range1 rfl T.n_range (pa_cons pe_int pa_nil)) (blkOk_by (own := [("_law_turn", 14)]) (N := N__law_right) (sc := defScope s__law_right) (by decide +kernel)) (fun _ _ _ _ _ => (pg_name (i := 14) sc__law_right.nd rfl (Or.inl rfl))) (fun _ _ _ _ _ => pts_nil) (fun _ _ _ _ _ => (pe_op op_add (pe_ix (r := rIxT K) ix_tup (pv 4) pe_int (fun _ _ => rfl)) (pe_call G__law_take (hr.mono (by decide)) rfl T.g__law_take T.F__law_take.kp T.b__law_take .nil pass0 (pa_cons (pv 0) (pa_cons pe_int pa_nil)))))) (pv 12))) (pg_name (i := 13) sc__law_right.nd rfl (Or.inl rfl)) (pss_cons (ps_set (i := 15) sc__law_right.nd rfl (Or.inl rfl) (pe_call G_price_on (hr.mono (by decide)) rfl T.g_price_on T.F_price_on.kp b_price_on_3 vb_price_on_3 pass0 (pa_cons (pv 2) (pa_cons (pv 5) (pa_cons (pv 13) pa_nil)))))
    (pss_cons (ps_set (i := 16) sc__law_right.nd rfl (Or.inl rfl) (pe_lst (pa_cons (pe_call G_price_on (hr.mono (by decide)) rfl T.g_price_on T.F_price_on.kp b_price_on_3 vb_price_on_3 pass0 (pa_cons (pv 7) (pa_cons (pv 5) (pa_cons (pv 13) pa_nil)))) (pa_cons (pe_callN G_price_on (hr.mono (by decide)) rfl T.g_price_on T.F_price_on.kp kb_price_on_3_leave pass0 (pa_cons (pv 2) (pa_cons (pv 5) (pa_cons (pv 13) pa_nil))) (pk_cons pe_bl pk_nil)) (pa_cons (pe_call G_price_on (hr.mono (by decide)) rfl T.g_price_on T.F_price_on.kp b_price_on_3 vb_price_on_3 pass0 (pa_cons (pv 2) (pa_cons (pv 6) (pa_cons (pv 13) pa_nil)))) pa_nil)))))
    (pss_cons (ps_if (PW.pt (pw_or (pt_cmpR op_lt (pe_ix ix_list (pv 16) pe_int (fun _ _ => rfl)) (pv 15) (nomark _)) (pw_or (PW.pt (pw_and (pt_cmpR op_lt (pv 13) (pv 8) (nomark _)) (pw_and1 (pt_cmpR op_ne (pe_ix ix_list (pv 16) pe_int (fun _ _ => rfl)) (pv 15) (nomark _))))) (pw_or (pt_cmpR op_gt (pe_ix ix_list (pv 16) pe_int (fun _ _ => rfl)) (pv 15) (nomark _)) (pw_or1 (pt_cmpR op_ne (pe_ix ix_list (pv 16) pe_int (fun _ _ => rfl)) (pe_ix ix_list (pv 16) pe_int (fun _ _ => rfl)) (nomark _))))))) (pss_one (ps_ret pe_bl)) pss_nil)
    (pss_one (ps_if (PW.pt (pw_or (PW.pt (pw_and (pt_val (pe_call G_is_rule (hr.mono (by decide)) rfl T.g_is_rule T.F_is_rule.kp T.b_is_rule .nil pass0 (pa_cons (pv 9) pa_nil))) (pw_and1 (pt_cmpR op_gt (pe_call G_price_on (hr.mono (by decide)) rfl T.g_price_on T.F_price_on.kp b_price_on_3 vb_price_on_3 pass0 (pa_cons (pv 9) (pa_cons (pv 5) (pa_cons (pv 13) pa_nil)))) (pv 15) (nomark _))))) (pw_or1 (pt_cmpR op_lt (pv 15) (pe_ix ix_tup (pv 4) pe_int (fun _ _ => rfl)) (nomark _))))) (pss_one (ps_ret pe_bl)) pss_nil))))))
    (pss_cons (ps_for PassesOwn.never rfl (pi_tup (pe_tup (pa_cons pe_bl (pa_cons pe_bl pa_nil)))) (pg_name (i := 17) sc__law_right.nd rfl (Or.inl rfl)) (pss_one (ps_for PassesOwn.never rfl (pi_list (pe_call G_falls (hr.mono (by decide)) rfl T.g_falls T.F_falls.kp b_falls_3 vb_falls_3 pass0 (pa_cons (pv 2) (pa_cons (pv 5) (pa_cons (pv 17) pa_nil))))) (pg_tup (by rfl) (pgs_cons (pg_name (i := 13) sc__law_right.nd rfl (Or.inl rfl)) (pgs_cons (pg_name (i := 15) sc__law_right.nd rfl (Or.inl rfl)) pgs_nil))) (pss_cons (ps_if (PW.pt (pw_or (pt_cmpR (op_neD hr.units) (pe_call G_first_day (hr.mono (by decide)) rfl T.g_first_day T.F_first_day.kp b_first_day_4 vb_first_day_4 pass0 (pa_cons (pv 2) (pa_cons (pv 5) (pa_cons (pv 15) (pa_cons (pv 17) pa_nil))))) (pv 13) (nomark _)) (pw_or1 (pt_cmpR op_ne (pe_call G_price_on (hr.mono (by decide)) rfl T.g_price_on T.F_price_on.kp b_price_on_4 vb_price_on_4 pass0 (pa_cons (pv 2) (pa_cons (pv 5) (pa_cons (pv 13) (pa_cons (pv 17) pa_nil))))) (pv 15) (nomark _))))) (pss_one (ps_ret pe_bl)) pss_nil)
    (pss_one (ps_if (PW.pt (pw_and (pt_cmpR op_gt (pv 15) pe_int (nomark _)) (pw_and1 (pt_cmpR (op_eqD hr.units) (pe_call G_first_day (hr.mono (by decide)) rfl T.g_first_day T.F_first_day.kp b_first_day_4 vb_first_day_4 pass0 (pa_cons (pv 2) (pa_cons (pv 5) (pa_cons (pe_op op_sub (pv 15) pe_int) (pa_cons (pv 17) pa_nil))))) (pv 13) (nomark _))))) (pss_one (ps_ret pe_bl)) pss_nil))))))
    (pss_one (ps_ret (pe_and (pe_call G__law_by_turns_right (hr.mono (by decide)) rfl T.g__law_by_turns_right T.F__law_by_turns_right.kp T.b__law_by_turns_right .nil pass0 (pa_cons (pe_lst (pa_cons (pv 2) (pa_cons (pv 7) (pa_cons (pe_tup pa_nil) (pa_cons (pv 2) pa_nil))))) (pa_cons (pv 5) pa_nil))) (pe_one (pe_call G__law_parted_right (hr.mono (by decide)) rfl T.g__law_parted_right T.F__law_parted_right.kp T.b__law_parted_right .nil pass0 (pa_cons (pv 0) pa_nil))))))))))))))), ?_⟩
  exact (rs_seq (rs_par (ra_cons (re_call (fun _ => .nil) (rc_own (rc_dat (re_c fun _ => .int _) rc_nil))) (ra_cons (re_call (fun _ => .nil) (rc_own rc_nil)) ra_nil)))
    (rs_seq (rs_asg (re_tup (ra_cons (re_call (fun _ => .nil) (rc_own (rc_dat (re_op rr_add (re_cb rb_len (ra_cons re_v ra_nil)) (re_c fun _ => .int _)) rc_nil))) (ra_cons (re_call (fun _ => .nil) (rc_own (rc_dat re_v rc_nil))) ra_nil))) (rg_tup (rgs_cons rg_name (rgs_cons rg_name rgs_nil))))
    (rs_seq (rs_par (ra_cons (re_call (fun _ => .nil) (rc_own (rc_dat re_v rc_nil))) (ra_cons (re_mkN T.q_Tag rmk_Tag (fun x vs zs ds es H r1 r2 => ⟨_, rfl, ((r1.append ((((.cons (.int _) (.cons (.int _) .nil)) : DqAll K _ _ ([(.int 0), (.int 0)] : List PyData)).drop 0).take 1)).append ((r2.drop 0).take 1))⟩) (ra_cons (re_op rr_ixT re_v (re_c fun _ => .int _)) (ra_cons (re_op rr_ixT re_v (re_c fun _ => .int _)) (ra_cons (re_op rr_ixT re_v (re_c fun _ => .int _)) ra_nil))) (ra_cons (re_op rr_ixT re_v (re_c fun _ => .int _)) ra_nil)) ra_nil)))
    (rs_seq (rs_par (ra_cons (re_sl rl_tupA re_v ro_no (ro_so re_v)) (ra_cons (re_op rr_add (re_op rr_ixT re_v (re_c fun _ => .int _)) (re_if (rt_test (re_op rr_lt re_v (re_cb rb_len (ra_cons re_v ra_nil)))) (re_op rr_ixT (re_op rr_ixT re_v re_v) (re_c fun _ => .int _)) (re_c fun _ => .int _))) ra_nil)))
    (rs_seq (rs_asg (re_cb rb_tuple (ra_cons (RN.re (rn_lc (by decide) (ri_tup re_v) (rg_tup (rgs_cons rg_name (rgs_cons rg_name rgs_nil))) rt_yes (re_tup (ra_cons re_v (ra_cons (re_op rr_sub re_v (re_c fun _ => .int _)) ra_nil))))) ra_nil)) rg_name)
    (rs_seq (rs_if (rt_or (rt_not (rt_b (re_call (fun _ => .nil) (rc_dat re_v rc_nil)))) (rt_and (rt_test (re_op rr_neD re_v (re_tup ra_nil))) (rt_and (rt_test (re_op rr_gt (re_op rr_ixT (re_op rr_ixT re_v (re_un ru_neg (re_c fun _ => .int _))) (re_c fun _ => .int _)) (re_c fun _ => .int _))) (rt_not (rt_b (re_call (fun _ => .nil) (rc_dat re_v rc_nil))))))) (rs_ret (re_c fun _ => .bl _)) rs_next)
    (rs_seq (rs_asg (RN.re (rn_lst (ra_cons (re_op rr_ixT re_v (re_c fun _ => .int _)) (ra_cons (re_cb rb_min2 (ra_cons (re_c fun _ => .int _) (ra_cons (re_op rr_add (re_op rr_ixT re_v (re_c fun _ => .int _)) (re_c fun _ => .int _)) ra_nil))) (ra_cons (re_op rr_sub re_v (re_c fun _ => .int _)) (ra_cons (re_cb rb_min2 (ra_cons re_v (ra_cons (re_c fun _ => .int _) ra_nil))) ra_nil)))))) rg_name)
    (rs_seq (rs_for (by decide) (ri_list (re_op rr_cat (RN.re (rn_lc (by decide) (ri_rng1 (ra_cons (re_c fun _ => .int _) ra_nil)) rg_name rt_yes (re_op rr_add (re_op rr_ixT re_v (re_c fun _ => .int _)) (re_call (fun _ => .nil) (rc_own (rc_dat (re_c fun _ => .int _) rc_nil)))))) re_v)) rg_name (rs_seq (rs_asg (re_call (fun _ => (.cons (.bl _) .nil)) (rc_dat re_v (rc_dat re_v (rc_dat re_v rc_nil)))) rg_name)
    (rs_seq (rs_asg (RN.re (rn_lst (ra_cons (re_call (fun _ => (.cons (.bl _) .nil)) (rc_dat re_v (rc_dat re_v (rc_dat re_v rc_nil)))) (ra_cons (re_callN (by intro ds es h1 h2; simp [h1, h2]) (fun vs zs ds es H r1 r2 => (r1.append ((r2.drop 0).take 1))) (ra_cons re_v (ra_cons re_v (ra_cons re_v ra_nil))) (ra_cons (re_c fun _ => .bl _) ra_nil)) (ra_cons (re_call (fun _ => (.cons (.bl _) .nil)) (rc_dat re_v (rc_dat re_v (rc_dat re_v rc_nil)))) ra_nil))))) rg_name)
    (rs_seq (rs_if (rt_or (rt_test (re_op rr_lt (re_op rr_ixL re_v (re_c fun _ => .int _)) re_v)) (rt_or (rt_and (rt_test (re_op rr_lt re_v re_v)) (rt_test (re_op rr_ne (re_op rr_ixL re_v (re_c fun _ => .int _)) re_v))) (rt_or (rt_test (re_op rr_gt (re_op rr_ixL re_v (re_c fun _ => .int _)) re_v)) (rt_test (re_op rr_ne (re_op rr_ixL re_v (re_c fun _ => .int _)) (re_op rr_ixL re_v (re_c fun _ => .int _))))))) (rs_ret (re_c fun _ => .bl _)) rs_next)
    (rs_if (rt_or (rt_and (rt_b (re_call (fun _ => .nil) (rc_dat re_v rc_nil))) (rt_test (re_op rr_gt (re_call (fun _ => (.cons (.bl _) .nil)) (rc_dat re_v (rc_dat re_v (rc_dat re_v rc_nil)))) re_v))) (rt_test (re_op rr_lt re_v (re_op rr_ixT re_v (re_c fun _ => .int _))))) (rs_ret (re_c fun _ => .bl _)) rs_next)))))
    (rs_seq (rs_for (by decide) (ri_tup (re_tup (ra_cons (re_c fun _ => .bl _) (ra_cons (re_c fun _ => .bl _) ra_nil)))) rg_name (rs_for (by decide) (ri_list (re_call (fun _ => .nil) (rc_dat re_v (rc_dat re_v (rc_dat re_v rc_nil))))) (rg_tup (rgs_cons rg_name (rgs_cons rg_name rgs_nil))) (rs_seq (rs_if (rt_or (rt_test (re_op rr_neD (re_call (fun _ => .nil) (rc_dat re_v (rc_dat re_v (rc_dat re_v (rc_dat re_v rc_nil))))) re_v)) (rt_test (re_op rr_ne (re_call (fun _ => .nil) (rc_dat re_v (rc_dat re_v (rc_dat re_v (rc_dat re_v rc_nil))))) re_v))) (rs_ret (re_c fun _ => .bl _)) rs_next)
    (rs_if (rt_and (rt_test (re_op rr_gt re_v (re_c fun _ => .int _))) (rt_test (re_op rr_eqD (re_call (fun _ => .nil) (rc_dat re_v (rc_dat re_v (rc_dat (re_op rr_sub re_v (re_c fun _ => .int _)) (rc_dat re_v rc_nil))))) re_v))) (rs_ret (re_c fun _ => .bl _)) rs_next))))
    (rs_ret (re_and (re_call (fun _ => .nil) (rc_dat (RN.re (rn_lst (ra_cons re_v (ra_cons re_v (ra_cons (re_tup ra_nil) (ra_cons re_v ra_nil)))))) (rc_dat re_v rc_nil))) (re_call (fun _ => .nil) (rc_own rc_nil)))))))))))))
theorem ok__law_right {P : Program} {w : World} {K : PySem.W.Frag} {mg : Str → Option Value} {base : Heap} {ad : Ad} (T : Txt K mg ad) : FnOk P w K mg base CX0 7 ad.f__law_right ad.d__law_right ["_law_box_here"] spBox :=
  (okD__law_right T).imp fun _ _ _ _ h => box_of (fun _ hb => f_law_right hb) h
def sp_law (K : PySem.W.Frag) : Sp := fun vs H Q _ => ∃ (a : Addr) (ns : List Int), vs = [.ref a] ∧ SqL K H a (ns.map V.int) ∧ ns.length ≤ 63 ∧ ∀ H', Q (.bl true) H'
theorem ok_law {P : Program} {w : World} {K : PySem.W.Frag} {mg : Str → Option Value} {base : Heap} {ad : Ad} (T : Txt K mg ad) : FnOk P w K mg base CX0 8 ad.f_law ad.d_law ["_law_script"] (sp_law K) := by
  have G__law_folded := ok__law_folded (P := P) (w := w) (base := base) T
  have G__law_right := ok__law_right (P := P) (w := w) (base := base) T
  have G__law_box := ok__law_box (P := P) (w := w) (base := base) T
  refine T.F_law.ok sc_law (fun vs H Q E h => ?_) (fun cdv A outer s H vs Q E hr h => ?_)
  · obtain ⟨a, ns, rfl, _⟩ := h
    rfl
  · obtain ⟨a, ns, rfl, hS, hl, q⟩ := h
    refine ⟨_, (pss_cons (ps_set (i := 1) sc_law.nd rfl (Or.inr rfl) (pe_call G__law_folded (hr.mono (by decide)) rfl T.g__law_folded T.F__law_folded.kp T.b__law_folded .nil pass0 (pa_cons (pv 0) (pa_cons pe_int pa_nil))))
    (pss_one (ps_ret (pe_callB (cr_all rfl) (by rfl) T.n_all (by decide +kernel) (pa_cons (pe_lc (own := [("_law_k", 2)]) (g := gName 2) (by rfl) sc_law.nd (pi_range1 rfl T.n_range (pa_cons (pe_callB (call_max2 rfl) (by rfl) T.n_max (by decide +kernel) (pa_cons pe_int (pa_cons (pe_callB call_len_seq (by rfl) T.n_len PySem.boot_len (pa_cons (pv 1) pa_nil)) pa_nil))) pa_nil)) (blkOk_by (own := [("_law_k", 2)]) (N := N_law) (sc := defScope s_law) (by decide +kernel)) (fun _ _ _ _ _ => (pg_name (i := 2) sc_law.nd rfl (Or.inl rfl))) (fun _ _ _ _ _ => pts_nil) (fun _ _ _ _ _ => (pe_call G__law_right (hr.mono (by decide)) rfl T.g__law_right T.F__law_right.kp T.b__law_right .nil pass0 (pa_cons (pe_call G__law_box (hr.mono (by decide)) rfl T.g__law_box T.F__law_box.kp T.b__law_box .nil pass0 (pa_cons (pv 1) (pa_cons (pv 2) pa_nil))) pa_nil)))) pa_nil))))), ?_⟩
    refine ⟨_, rfl, a, ns, 4, rfl, hS, hl, by decide, by decide, fun c ms H1 hc s1 hc1 lm => ?_⟩
    refine ⟨_, rfl, c, _, rfl, .inl (SqL.of hc1), _, _, rfl, _, rfl, ?_, ?_, fun D hD => ?_⟩
    · split <;> simp <;> omega
    · split <;> simp <;> omega
    refine lc_it walk_range0 (fun i H' => Same H1 H' ∧ ∃ bs : List Bool, bs.length = i ∧ (∀ b ∈ bs, b = true) ∧ H' D = some (.lst (bs.map V.bl))) ⟨Same.new hD, [], rfl, (by simp), upd_same⟩ (fun _ _ _ _ => trivial) ?_ ?_
    · rintro i x _ H2 hi ⟨s2, bs, lb, hb, hD2⟩ ⟨rfl, rfl⟩
      have hi7 : i < 64 := by
        have : (if ((ms.map V.int).length : Int) > 1 then ((ms.map V.int).length : Int) else 1) ≤ 63 := by rw [List.length_map]; split <;> omega
        omega
      refine ⟨rfl, ?_⟩
      refine ⟨_, rfl, _, rfl, c, ms, i, rfl, SqL.of (s2 _ _ hc1), by omega, fun B H3 nB s3 bB => ?_⟩
      refine ⟨B, rfl, bB, fun H4 f4 => ?_⟩
      have s24 : Same H2 H4 := f4.out s3 (by simp [nB])
      have hD4 := s24 _ _ hD2
      refine ⟨_, hD4, by rw [List.length_map, lb]; exact Nat.lt_of_lt_of_le hi7 (by decide), ?_, bs ++ [true], by rw [List.length_append, lb]; rfl, ?_, by rw [upd_same, List.map_append]; rfl⟩
      · intro b o e
        rw [upd_ne (ne_of_none e hD)]
        exact s24 _ _ (s2 _ _ e)
      · intro b hb'
        rcases List.mem_append.mp hb' with h | h
        · exact hb b h
        · exact List.mem_singleton.mp h
    · rintro H2 ⟨s2, bs, lb, hb, hD2⟩
      refine ⟨D, bs, rfl, SqL.of hD2, ?_⟩
      have e : bs.all id = true := List.all_eq_true.mpr fun b h => hb b h
      rw [e]
      exact q _

theorem all_mk {l : PySem.W.OpenLaw} {w : World} {K : PySem.W.Frag} {h : Heap} {mg : Str → Option Value} {fa : Addr} (X : K.In h) (G : h.Ns mainGlobals mg) (hfa : mg "law" = some (.ref fa))
    {C_Tag : Addr}
    {f__law_folded : Addr} {od__law_folded an__law_folded : Option Addr} {sl__law_folded : Array (Option Value)} {oc__law_folded kV__law_folded dc__law_folded pm__law_folded cd__law_folded ct__law_folded : Value}
    {f__law_take : Addr} {od__law_take an__law_take : Option Addr} {sl__law_take : Array (Option Value)} {oc__law_take kV__law_take dc__law_take pm__law_take cd__law_take ct__law_take : Value}
    {f__law_names : Addr} {od__law_names an__law_names : Option Addr} {sl__law_names : Array (Option Value)} {oc__law_names kV__law_names dc__law_names pm__law_names cd__law_names ct__law_names : Value}
    {f__law_rule : Addr} {od__law_rule an__law_rule : Option Addr} {sl__law_rule : Array (Option Value)} {oc__law_rule kV__law_rule dc__law_rule pm__law_rule cd__law_rule ct__law_rule : Value}
    {f__law_price : Addr} {od__law_price an__law_price : Option Addr} {sl__law_price : Array (Option Value)} {oc__law_price kV__law_price dc__law_price pm__law_price cd__law_price ct__law_price : Value}
    {f__law_five : Addr} {od__law_five an__law_five : Option Addr} {sl__law_five : Array (Option Value)} {oc__law_five kV__law_five dc__law_five pm__law_five cd__law_five ct__law_five : Value}
    {f_is_name : Addr} {od_is_name an_is_name : Option Addr} {sl_is_name : Array (Option Value)} {oc_is_name kV_is_name dc_is_name pm_is_name cd_is_name ct_is_name : Value}
    {f_is_whole : Addr} {od_is_whole an_is_whole : Option Addr} {sl_is_whole : Array (Option Value)} {oc_is_whole kV_is_whole dc_is_whole pm_is_whole cd_is_whole ct_is_whole : Value}
    {f_Tag_init : Addr} {od_Tag_init an_Tag_init : Option Addr} {sl_Tag_init : Array (Option Value)} {oc_Tag_init kV_Tag_init dc_Tag_init pm_Tag_init cd_Tag_init ct_Tag_init : Value}
    {T_Tag_init : Addr} {oT_Tag_init : Value} {dT_Tag_init : Option Addr} {nT_Tag_init : Nat} {sT_Tag_init : Array (Option Value)} {tk_Tag_init_0 tk_Tag_init_1 : Tok}
    {f__law_made : Addr} {od__law_made an__law_made : Option Addr} {sl__law_made : Array (Option Value)} {oc__law_made kV__law_made dc__law_made pm__law_made cd__law_made ct__law_made : Value}
    {f_part_at : Addr} {od_part_at an_part_at : Option Addr} {sl_part_at : Array (Option Value)} {oc_part_at kV_part_at dc_part_at pm_part_at cd_part_at ct_part_at : Value}
    {f_price_by : Addr} {od_price_by an_price_by : Option Addr} {sl_price_by : Array (Option Value)} {oc_price_by kV_price_by dc_price_by pm_price_by cd_price_by ct_price_by : Value}
    {f_price_on : Addr} {od_price_on an_price_on : Option Addr} {sl_price_on : Array (Option Value)} {oc_price_on kV_price_on dc_price_on pm_price_on cd_price_on ct_price_on : Value}
    {T_price_on : Addr} {oT_price_on : Value} {dT_price_on : Option Addr} {nT_price_on : Nat} {sT_price_on : Array (Option Value)}
    {f_falls : Addr} {od_falls an_falls : Option Addr} {sl_falls : Array (Option Value)} {oc_falls kV_falls dc_falls pm_falls cd_falls ct_falls : Value}
    {T_falls : Addr} {oT_falls : Value} {dT_falls : Option Addr} {nT_falls : Nat} {sT_falls : Array (Option Value)}
    {f_first_day : Addr} {od_first_day an_first_day : Option Addr} {sl_first_day : Array (Option Value)} {oc_first_day kV_first_day dc_first_day pm_first_day cd_first_day ct_first_day : Value}
    {T_first_day : Addr} {oT_first_day : Value} {dT_first_day : Option Addr} {nT_first_day : Nat} {sT_first_day : Array (Option Value)}
    {f__law_by_turns_right : Addr} {od__law_by_turns_right an__law_by_turns_right : Option Addr} {sl__law_by_turns_right : Array (Option Value)} {oc__law_by_turns_right kV__law_by_turns_right dc__law_by_turns_right pm__law_by_turns_right cd__law_by_turns_right ct__law_by_turns_right : Value}
    {f_parted : Addr} {od_parted an_parted : Option Addr} {sl_parted : Array (Option Value)} {oc_parted kV_parted dc_parted pm_parted cd_parted ct_parted : Value}
    {f__law_is_number : Addr} {od__law_is_number an__law_is_number : Option Addr} {sl__law_is_number : Array (Option Value)} {oc__law_is_number kV__law_is_number dc__law_is_number pm__law_is_number cd__law_is_number ct__law_is_number : Value}
    {f__law_parted_right : Addr} {od__law_parted_right an__law_parted_right : Option Addr} {sl__law_parted_right : Array (Option Value)} {oc__law_parted_right kV__law_parted_right dc__law_parted_right pm__law_parted_right cd__law_parted_right ct__law_parted_right : Value}
    {f_is_rule_pair : Addr} {od_is_rule_pair an_is_rule_pair : Option Addr} {sl_is_rule_pair : Array (Option Value)} {oc_is_rule_pair kV_is_rule_pair dc_is_rule_pair pm_is_rule_pair cd_is_rule_pair ct_is_rule_pair : Value}
    {f_is_rule : Addr} {od_is_rule an_is_rule : Option Addr} {sl_is_rule : Array (Option Value)} {oc_is_rule kV_is_rule dc_is_rule pm_is_rule cd_is_rule ct_is_rule : Value}
    {f__law_right : Addr} {od__law_right an__law_right : Option Addr} {sl__law_right : Array (Option Value)} {oc__law_right kV__law_right dc__law_right pm__law_right cd__law_right ct__law_right : Value}
    {f__law_box : Addr} {od__law_box an__law_box : Option Addr} {sl__law_box : Array (Option Value)} {oc__law_box kV__law_box dc__law_box pm__law_box cd__law_box ct__law_box : Value}
    {f_law : Addr} {od_law an_law : Option Addr} {sl_law : Array (Option Value)} {oc_law kV_law dc_law pm_law cd_law ct_law : Value}
    {t_SMALL_SIGNS : Tok}
    {t_MOST_SIGNS : Tok}
    {t_MOST_NUMBER : Tok}
    {t_MOST_PRICE : Tok}
    {t_MOST_DAY : Tok}
    {t_MOST_PAIRS : Tok}
    {t_MOST_AGE : Tok}
    {t_MOST_PART : Tok}
    {t_WHOLE_PART : Tok}
    (a_Tag : PySem.W.nsIn K mainGlobals "Tag" = some (some (.ref C_Tag)))
    (pg_Tag : PySem.W.plainGet K C_Tag Str.empty = true)
    (hd_Tag : PySem.W.hasDictIn K C_Tag = true)
    (po_Tag : PySem.W.plainOver K C_Tag = true)
    (sa_Tag : PySem.W.findIn K (.ref C_Tag) "__setattr__" = some (some (.builtin "object.__setattr__")))
    (mk_Tag : PySem.W.makesIn K C_Tag = true)
    (kc_Tag : PySem.W.keepIn K (.ref C_Tag) = true)
    (na_Tag_owner : PySem.W.findIn K (.ref C_Tag) "owner" = some none)
    (na_Tag_number : PySem.W.findIn K (.ref C_Tag) "number" = some none)
    (na_Tag_price : PySem.W.findIn K (.ref C_Tag) "price" = some none)
    (na_Tag_least : PySem.W.findIn K (.ref C_Tag) "least" = some none)
    (na_Tag_day : PySem.W.findIn K (.ref C_Tag) "day" = some none)
    (a__law_folded : PySem.W.nsIn K mainGlobals "_law_folded" = some (some (.ref f__law_folded)))
    (l__law_folded : K.lookup f__law_folded = some ⟨oc__law_folded, od__law_folded, .func (PySem.W.fnOf "_law_folded" "_law_folded" (defArgs s__law_folded) (defBody s__law_folded) (defScope s__law_folded) .none kV__law_folded dc__law_folded pm__law_folded an__law_folded cd__law_folded ct__law_folded), sl__law_folded⟩)
    (e__law_folded : PySem.W.codeIn K cd__law_folded "_law_folded" = true)
    (k__law_folded : PySem.W.keepIn K (.ref f__law_folded) = true)
    (a__law_take : PySem.W.nsIn K mainGlobals "_law_take" = some (some (.ref f__law_take)))
    (l__law_take : K.lookup f__law_take = some ⟨oc__law_take, od__law_take, .func (PySem.W.fnOf "_law_take" "_law_take" (defArgs s__law_take) (defBody s__law_take) (defScope s__law_take) .none kV__law_take dc__law_take pm__law_take an__law_take cd__law_take ct__law_take), sl__law_take⟩)
    (e__law_take : PySem.W.codeIn K cd__law_take "_law_take" = true)
    (k__law_take : PySem.W.keepIn K (.ref f__law_take) = true)
    (a__law_names : PySem.W.nsIn K mainGlobals "_law_names" = some (some (.ref f__law_names)))
    (l__law_names : K.lookup f__law_names = some ⟨oc__law_names, od__law_names, .func (PySem.W.fnOf "_law_names" "_law_names" (defArgs s__law_names) (defBody s__law_names) (defScope s__law_names) .none kV__law_names dc__law_names pm__law_names an__law_names cd__law_names ct__law_names), sl__law_names⟩)
    (e__law_names : PySem.W.codeIn K cd__law_names "_law_names" = true)
    (k__law_names : PySem.W.keepIn K (.ref f__law_names) = true)
    (a__law_rule : PySem.W.nsIn K mainGlobals "_law_rule" = some (some (.ref f__law_rule)))
    (l__law_rule : K.lookup f__law_rule = some ⟨oc__law_rule, od__law_rule, .func (PySem.W.fnOf "_law_rule" "_law_rule" (defArgs s__law_rule) (defBody s__law_rule) (defScope s__law_rule) .none kV__law_rule dc__law_rule pm__law_rule an__law_rule cd__law_rule ct__law_rule), sl__law_rule⟩)
    (e__law_rule : PySem.W.codeIn K cd__law_rule "_law_rule" = true)
    (k__law_rule : PySem.W.keepIn K (.ref f__law_rule) = true)
    (a__law_price : PySem.W.nsIn K mainGlobals "_law_price" = some (some (.ref f__law_price)))
    (l__law_price : K.lookup f__law_price = some ⟨oc__law_price, od__law_price, .func (PySem.W.fnOf "_law_price" "_law_price" (defArgs s__law_price) (defBody s__law_price) (defScope s__law_price) .none kV__law_price dc__law_price pm__law_price an__law_price cd__law_price ct__law_price), sl__law_price⟩)
    (e__law_price : PySem.W.codeIn K cd__law_price "_law_price" = true)
    (k__law_price : PySem.W.keepIn K (.ref f__law_price) = true)
    (a__law_five : PySem.W.nsIn K mainGlobals "_law_five" = some (some (.ref f__law_five)))
    (l__law_five : K.lookup f__law_five = some ⟨oc__law_five, od__law_five, .func (PySem.W.fnOf "_law_five" "_law_five" (defArgs s__law_five) (defBody s__law_five) (defScope s__law_five) .none kV__law_five dc__law_five pm__law_five an__law_five cd__law_five ct__law_five), sl__law_five⟩)
    (e__law_five : PySem.W.codeIn K cd__law_five "_law_five" = true)
    (k__law_five : PySem.W.keepIn K (.ref f__law_five) = true)
    (a_is_name : PySem.W.nsIn K mainGlobals "is_name" = some (some (.ref f_is_name)))
    (l_is_name : K.lookup f_is_name = some ⟨oc_is_name, od_is_name, .func (PySem.W.fnOf "is_name" "is_name" (defArgs s_is_name) (defBody s_is_name) (defScope s_is_name) .none kV_is_name dc_is_name pm_is_name an_is_name cd_is_name ct_is_name), sl_is_name⟩)
    (e_is_name : PySem.W.codeIn K cd_is_name "is_name" = true)
    (k_is_name : PySem.W.keepIn K (.ref f_is_name) = true)
    (a_is_whole : PySem.W.nsIn K mainGlobals "is_whole" = some (some (.ref f_is_whole)))
    (l_is_whole : K.lookup f_is_whole = some ⟨oc_is_whole, od_is_whole, .func (PySem.W.fnOf "is_whole" "is_whole" (defArgs s_is_whole) (defBody s_is_whole) (defScope s_is_whole) .none kV_is_whole dc_is_whole pm_is_whole an_is_whole cd_is_whole ct_is_whole), sl_is_whole⟩)
    (e_is_whole : PySem.W.codeIn K cd_is_whole "is_whole" = true)
    (k_is_whole : PySem.W.keepIn K (.ref f_is_whole) = true)
    (a_Tag_init : PySem.W.findIn K (.ref C_Tag) "__init__" = some (some (.ref f_Tag_init)))
    (i_Tag_init : PySem.W.isFn K (.ref f_Tag_init) = true)
    (l_Tag_init : K.lookup f_Tag_init = some ⟨oc_Tag_init, od_Tag_init, .func (PySem.W.fnOf "__init__" "Tag.__init__" (defArgs s_Tag_init) (defBody s_Tag_init) (defScope s_Tag_init) (.ref T_Tag_init) kV_Tag_init dc_Tag_init pm_Tag_init an_Tag_init cd_Tag_init ct_Tag_init), sl_Tag_init⟩)
    (e_Tag_init : PySem.W.codeIn K cd_Tag_init "Tag.__init__" = true)
    (k_Tag_init : PySem.W.keepIn K (.ref f_Tag_init) = true)
    (t_Tag_init : K.lookup T_Tag_init = some ⟨oT_Tag_init, dT_Tag_init, .seq ([Value.int 0 tk_Tag_init_0, Value.int 0 tk_Tag_init_1] : List Value).toArray nT_Tag_init, sT_Tag_init⟩)
    (a__law_made : PySem.W.nsIn K mainGlobals "_law_made" = some (some (.ref f__law_made)))
    (l__law_made : K.lookup f__law_made = some ⟨oc__law_made, od__law_made, .func (PySem.W.fnOf "_law_made" "_law_made" (defArgs s__law_made) (defBody s__law_made) (defScope s__law_made) .none kV__law_made dc__law_made pm__law_made an__law_made cd__law_made ct__law_made), sl__law_made⟩)
    (e__law_made : PySem.W.codeIn K cd__law_made "_law_made" = true)
    (k__law_made : PySem.W.keepIn K (.ref f__law_made) = true)
    (a_part_at : PySem.W.nsIn K mainGlobals "part_at" = some (some (.ref f_part_at)))
    (l_part_at : K.lookup f_part_at = some ⟨oc_part_at, od_part_at, .func (PySem.W.fnOf "part_at" "part_at" (defArgs s_part_at) (defBody s_part_at) (defScope s_part_at) .none kV_part_at dc_part_at pm_part_at an_part_at cd_part_at ct_part_at), sl_part_at⟩)
    (e_part_at : PySem.W.codeIn K cd_part_at "part_at" = true)
    (k_part_at : PySem.W.keepIn K (.ref f_part_at) = true)
    (a_price_by : PySem.W.nsIn K mainGlobals "price_by" = some (some (.ref f_price_by)))
    (l_price_by : K.lookup f_price_by = some ⟨oc_price_by, od_price_by, .func (PySem.W.fnOf "price_by" "price_by" (defArgs s_price_by) (defBody s_price_by) (defScope s_price_by) .none kV_price_by dc_price_by pm_price_by an_price_by cd_price_by ct_price_by), sl_price_by⟩)
    (e_price_by : PySem.W.codeIn K cd_price_by "price_by" = true)
    (k_price_by : PySem.W.keepIn K (.ref f_price_by) = true)
    (a_price_on : PySem.W.nsIn K mainGlobals "price_on" = some (some (.ref f_price_on)))
    (l_price_on : K.lookup f_price_on = some ⟨oc_price_on, od_price_on, .func (PySem.W.fnOf "price_on" "price_on" (defArgs s_price_on) (defBody s_price_on) (defScope s_price_on) (.ref T_price_on) kV_price_on dc_price_on pm_price_on an_price_on cd_price_on ct_price_on), sl_price_on⟩)
    (e_price_on : PySem.W.codeIn K cd_price_on "price_on" = true)
    (k_price_on : PySem.W.keepIn K (.ref f_price_on) = true)
    (t_price_on : K.lookup T_price_on = some ⟨oT_price_on, dT_price_on, .seq ([Value.bool false] : List Value).toArray nT_price_on, sT_price_on⟩)
    (a_falls : PySem.W.nsIn K mainGlobals "falls" = some (some (.ref f_falls)))
    (l_falls : K.lookup f_falls = some ⟨oc_falls, od_falls, .func (PySem.W.fnOf "falls" "falls" (defArgs s_falls) (defBody s_falls) (defScope s_falls) (.ref T_falls) kV_falls dc_falls pm_falls an_falls cd_falls ct_falls), sl_falls⟩)
    (e_falls : PySem.W.codeIn K cd_falls "falls" = true)
    (k_falls : PySem.W.keepIn K (.ref f_falls) = true)
    (t_falls : K.lookup T_falls = some ⟨oT_falls, dT_falls, .seq ([Value.bool false] : List Value).toArray nT_falls, sT_falls⟩)
    (a_first_day : PySem.W.nsIn K mainGlobals "first_day" = some (some (.ref f_first_day)))
    (l_first_day : K.lookup f_first_day = some ⟨oc_first_day, od_first_day, .func (PySem.W.fnOf "first_day" "first_day" (defArgs s_first_day) (defBody s_first_day) (defScope s_first_day) (.ref T_first_day) kV_first_day dc_first_day pm_first_day an_first_day cd_first_day ct_first_day), sl_first_day⟩)
    (e_first_day : PySem.W.codeIn K cd_first_day "first_day" = true)
    (k_first_day : PySem.W.keepIn K (.ref f_first_day) = true)
    (t_first_day : K.lookup T_first_day = some ⟨oT_first_day, dT_first_day, .seq ([Value.bool false] : List Value).toArray nT_first_day, sT_first_day⟩)
    (a__law_by_turns_right : PySem.W.nsIn K mainGlobals "_law_by_turns_right" = some (some (.ref f__law_by_turns_right)))
    (l__law_by_turns_right : K.lookup f__law_by_turns_right = some ⟨oc__law_by_turns_right, od__law_by_turns_right, .func (PySem.W.fnOf "_law_by_turns_right" "_law_by_turns_right" (defArgs s__law_by_turns_right) (defBody s__law_by_turns_right) (defScope s__law_by_turns_right) .none kV__law_by_turns_right dc__law_by_turns_right pm__law_by_turns_right an__law_by_turns_right cd__law_by_turns_right ct__law_by_turns_right), sl__law_by_turns_right⟩)
    (e__law_by_turns_right : PySem.W.codeIn K cd__law_by_turns_right "_law_by_turns_right" = true)
    (k__law_by_turns_right : PySem.W.keepIn K (.ref f__law_by_turns_right) = true)
    (a_parted : PySem.W.nsIn K mainGlobals "parted" = some (some (.ref f_parted)))
    (l_parted : K.lookup f_parted = some ⟨oc_parted, od_parted, .func (PySem.W.fnOf "parted" "parted" (defArgs s_parted) (defBody s_parted) (defScope s_parted) .none kV_parted dc_parted pm_parted an_parted cd_parted ct_parted), sl_parted⟩)
    (e_parted : PySem.W.codeIn K cd_parted "parted" = true)
    (k_parted : PySem.W.keepIn K (.ref f_parted) = true)
    (a__law_is_number : PySem.W.nsIn K mainGlobals "_law_is_number" = some (some (.ref f__law_is_number)))
    (l__law_is_number : K.lookup f__law_is_number = some ⟨oc__law_is_number, od__law_is_number, .func (PySem.W.fnOf "_law_is_number" "_law_is_number" (defArgs s__law_is_number) (defBody s__law_is_number) (defScope s__law_is_number) .none kV__law_is_number dc__law_is_number pm__law_is_number an__law_is_number cd__law_is_number ct__law_is_number), sl__law_is_number⟩)
    (e__law_is_number : PySem.W.codeIn K cd__law_is_number "_law_is_number" = true)
    (k__law_is_number : PySem.W.keepIn K (.ref f__law_is_number) = true)
    (a__law_parted_right : PySem.W.nsIn K mainGlobals "_law_parted_right" = some (some (.ref f__law_parted_right)))
    (l__law_parted_right : K.lookup f__law_parted_right = some ⟨oc__law_parted_right, od__law_parted_right, .func (PySem.W.fnOf "_law_parted_right" "_law_parted_right" (defArgs s__law_parted_right) (defBody s__law_parted_right) (defScope s__law_parted_right) .none kV__law_parted_right dc__law_parted_right pm__law_parted_right an__law_parted_right cd__law_parted_right ct__law_parted_right), sl__law_parted_right⟩)
    (e__law_parted_right : PySem.W.codeIn K cd__law_parted_right "_law_parted_right" = true)
    (k__law_parted_right : PySem.W.keepIn K (.ref f__law_parted_right) = true)
    (a_is_rule_pair : PySem.W.nsIn K mainGlobals "is_rule_pair" = some (some (.ref f_is_rule_pair)))
    (l_is_rule_pair : K.lookup f_is_rule_pair = some ⟨oc_is_rule_pair, od_is_rule_pair, .func (PySem.W.fnOf "is_rule_pair" "is_rule_pair" (defArgs s_is_rule_pair) (defBody s_is_rule_pair) (defScope s_is_rule_pair) .none kV_is_rule_pair dc_is_rule_pair pm_is_rule_pair an_is_rule_pair cd_is_rule_pair ct_is_rule_pair), sl_is_rule_pair⟩)
    (e_is_rule_pair : PySem.W.codeIn K cd_is_rule_pair "is_rule_pair" = true)
    (k_is_rule_pair : PySem.W.keepIn K (.ref f_is_rule_pair) = true)
    (a_is_rule : PySem.W.nsIn K mainGlobals "is_rule" = some (some (.ref f_is_rule)))
    (l_is_rule : K.lookup f_is_rule = some ⟨oc_is_rule, od_is_rule, .func (PySem.W.fnOf "is_rule" "is_rule" (defArgs s_is_rule) (defBody s_is_rule) (defScope s_is_rule) .none kV_is_rule dc_is_rule pm_is_rule an_is_rule cd_is_rule ct_is_rule), sl_is_rule⟩)
    (e_is_rule : PySem.W.codeIn K cd_is_rule "is_rule" = true)
    (k_is_rule : PySem.W.keepIn K (.ref f_is_rule) = true)
    (a__law_right : PySem.W.nsIn K mainGlobals "_law_right" = some (some (.ref f__law_right)))
    (l__law_right : K.lookup f__law_right = some ⟨oc__law_right, od__law_right, .func (PySem.W.fnOf "_law_right" "_law_right" (defArgs s__law_right) (defBody s__law_right) (defScope s__law_right) .none kV__law_right dc__law_right pm__law_right an__law_right cd__law_right ct__law_right), sl__law_right⟩)
    (e__law_right : PySem.W.codeIn K cd__law_right "_law_right" = true)
    (k__law_right : PySem.W.keepIn K (.ref f__law_right) = true)
    (a__law_box : PySem.W.nsIn K mainGlobals "_law_box" = some (some (.ref f__law_box)))
    (l__law_box : K.lookup f__law_box = some ⟨oc__law_box, od__law_box, .func (PySem.W.fnOf "_law_box" "_law_box" (defArgs s__law_box) (defBody s__law_box) (defScope s__law_box) .none kV__law_box dc__law_box pm__law_box an__law_box cd__law_box ct__law_box), sl__law_box⟩)
    (e__law_box : PySem.W.codeIn K cd__law_box "_law_box" = true)
    (k__law_box : PySem.W.keepIn K (.ref f__law_box) = true)
    (a_law : PySem.W.nsIn K mainGlobals "law" = some (some (.ref f_law)))
    (l_law : K.lookup f_law = some ⟨oc_law, od_law, .func (PySem.W.fnOf "law" "law" (defArgs s_law) (defBody s_law) (defScope s_law) .none kV_law dc_law pm_law an_law cd_law ct_law), sl_law⟩)
    (e_law : PySem.W.codeIn K cd_law "law" = true)
    (k_law : PySem.W.keepIn K (.ref f_law) = true)
    (z_list : PySem.W.nsIn K mainGlobals "list" = some none)
    (z_enumerate : PySem.W.nsIn K mainGlobals "enumerate" = some none)
    (z_divmod : PySem.W.nsIn K mainGlobals "divmod" = some none)
    (z_range : PySem.W.nsIn K mainGlobals "range" = some none)
    (z_tuple : PySem.W.nsIn K mainGlobals "tuple" = some none)
    (z_len : PySem.W.nsIn K mainGlobals "len" = some none)
    (z_all : PySem.W.nsIn K mainGlobals "all" = some none)
    (z_isinstance : PySem.W.nsIn K mainGlobals "isinstance" = some none)
    (z_str : PySem.W.nsIn K mainGlobals "str" = some none)
    (z_int : PySem.W.nsIn K mainGlobals "int" = some none)
    (z_bool : PySem.W.nsIn K mainGlobals "bool" = some none)
    (z_max : PySem.W.nsIn K mainGlobals "max" = some none)
    (z_zip : PySem.W.nsIn K mainGlobals "zip" = some none)
    (z_min : PySem.W.nsIn K mainGlobals "min" = some none)
    (z_abs : PySem.W.nsIn K mainGlobals "abs" = some none)
    (y_SMALL_SIGNS : PySem.W.nsIn K mainGlobals "SMALL_SIGNS" = some (some (.str "abcdefghijklmnopqrstuvwxyz" t_SMALL_SIGNS)))
    (y_MOST_SIGNS : PySem.W.nsIn K mainGlobals "MOST_SIGNS" = some (some (.int 8 t_MOST_SIGNS)))
    (y_MOST_NUMBER : PySem.W.nsIn K mainGlobals "MOST_NUMBER" = some (some (.int 9999 t_MOST_NUMBER)))
    (y_MOST_PRICE : PySem.W.nsIn K mainGlobals "MOST_PRICE" = some (some (.int 99999 t_MOST_PRICE)))
    (y_MOST_DAY : PySem.W.nsIn K mainGlobals "MOST_DAY" = some (some (.int 999 t_MOST_DAY)))
    (y_MOST_PAIRS : PySem.W.nsIn K mainGlobals "MOST_PAIRS" = some (some (.int 6 t_MOST_PAIRS)))
    (y_MOST_AGE : PySem.W.nsIn K mainGlobals "MOST_AGE" = some (some (.int 999 t_MOST_AGE)))
    (y_MOST_PART : PySem.W.nsIn K mainGlobals "MOST_PART" = some (some (.int 99 t_MOST_PART)))
    (y_WHOLE_PART : PySem.W.nsIn K mainGlobals "WHOLE_PART" = some (some (.int 100 t_WHOLE_PART)))
    : ∃ fd : FuncData, (∀ (s : Shared) (v : Value), BindsTo s fd ⟨[v], []⟩ [("_law_script", v)]) ∧ ∀ base : Heap, K.In base → base.Ns mainGlobals mg → FnOk l.prog w K mg base CX0 8 fa fd ["_law_script"] (sp_law K) := by
  have e := hfa.symm.trans (PySem.W.mg_of X G a_law)
  cases e
  have F__law_folded := fun_mk (st := s__law_folded) l__law_folded e__law_folded k__law_folded
  have b__law_folded := F__law_folded.binds (ps := ["_law_script", "_law_size"]) fun _ _ _ _ _ _ us hl => match us, hl with | [_, _], _ => rfl
  have F__law_take := fun_mk (st := s__law_take) l__law_take e__law_take k__law_take
  have b__law_take := F__law_take.binds (ps := ["_law_box_here", "_law_size"]) fun _ _ _ _ _ _ us hl => match us, hl with | [_, _], _ => rfl
  have F__law_names := fun_mk (st := s__law_names) l__law_names e__law_names k__law_names
  have b__law_names := F__law_names.binds (ps := ["_law_box_here", "_law_many"]) fun _ _ _ _ _ _ us hl => match us, hl with | [_, _], _ => rfl
  have F__law_rule := fun_mk (st := s__law_rule) l__law_rule e__law_rule k__law_rule
  have b__law_rule := F__law_rule.binds (ps := ["_law_box_here"]) fun _ _ _ _ _ _ us hl => match us, hl with | [_], _ => rfl
  have F__law_price := fun_mk (st := s__law_price) l__law_price e__law_price k__law_price
  have b__law_price := F__law_price.binds (ps := ["_law_box_here"]) fun _ _ _ _ _ _ us hl => match us, hl with | [_], _ => rfl
  have F__law_five := fun_mk (st := s__law_five) l__law_five e__law_five k__law_five
  have b__law_five := F__law_five.binds (ps := ["_law_box_here", "_law_people"]) fun _ _ _ _ _ _ us hl => match us, hl with | [_, _], _ => rfl
  have F_is_name := fun_mk (st := s_is_name) l_is_name e_is_name k_is_name
  have b_is_name := F_is_name.binds (ps := ["thing"]) fun _ _ _ _ _ _ us hl => match us, hl with | [_], _ => rfl
  have F_is_whole := fun_mk (st := s_is_whole) l_is_whole e_is_whole k_is_whole
  have b_is_whole := F_is_whole.binds (ps := ["thing", "least", "most"]) fun _ _ _ _ _ _ us hl => match us, hl with | [_, _, _], _ => rfl
  have F_Tag_init : FunD K "__init__" "Tag.__init__" (defArgs s_Tag_init) (defBody s_Tag_init) (defScope s_Tag_init) [.int 0, .int 0] [] f_Tag_init _ := ⟨⟨_, _, _, _, _, _, _, _, _, _, rfl, l_Tag_init, e_Tag_init, .inr ⟨by simp, T_Tag_init, _, _, _, rfl, t_Tag_init, rfl, (.cons ⟨_, rfl⟩ (.cons ⟨_, rfl⟩ .nil))⟩, .inl rfl⟩, k_Tag_init⟩
  have b_Tag_init_6 := FunD.binds1 (ps := ["self", "owner", "number", "price", "least", "day"]) F_Tag_init 6 2 (by simp) rfl (fun _ _ _ _ _ _ _ us its h1 h2 => match us, its, h1, h2 with | [_, _, _, _, _, _], [_, _], _, _ => ⟨_, rfl, rfl⟩)
  have b_Tag_init_4 := FunD.binds1 (ps := ["self", "owner", "number", "price", "least", "day"]) F_Tag_init 4 0 (by simp) rfl (fun _ _ _ _ _ _ _ us its h1 h2 => match us, its, h1, h2 with | [_, _, _, _], [_, _], _, _ => ⟨_, rfl, rfl⟩)
  have kb_Tag_init_4_day := FunD.kbindsD (ps := ["self", "owner", "number", "price", "least", "day"]) F_Tag_init 4 ["day"] (fun a b c => a ++ (b.drop 0).take 1 ++ (c.drop 0).take 1) (by simp) (fun r1 r2 r3 => ((r1.append ((r2.drop 0).take 1)).append ((r3.drop 0).take 1))) (fun _ _ _ _ _ _ _ us its ws h1 h2 h3 => match us, its, ws, h1, h2, h3 with | [_, _, _, _], [_, _], [_], _, _, _ => ⟨_, rfl, rfl⟩)
  have b_Tag_init_5 := FunD.binds1 (ps := ["self", "owner", "number", "price", "least", "day"]) F_Tag_init 5 1 (by simp) rfl (fun _ _ _ _ _ _ _ us its h1 h2 => match us, its, h1, h2 with | [_, _, _, _, _], [_, _], _, _ => ⟨_, rfl, rfl⟩)
  have kb_Tag_init_4_day_least := FunD.kbindsD (ps := ["self", "owner", "number", "price", "least", "day"]) F_Tag_init 4 ["day", "least"] (fun a b c => a ++ (c.drop 1).take 1 ++ (c.drop 0).take 1) (by simp) (fun r1 r2 r3 => ((r1.append ((r3.drop 1).take 1)).append ((r3.drop 0).take 1))) (fun _ _ _ _ _ _ _ us its ws h1 h2 h3 => match us, its, ws, h1, h2, h3 with | [_, _, _, _], [_, _], [_, _], _, _, _ => ⟨_, rfl, rfl⟩)
  have F__law_made := fun_mk (st := s__law_made) l__law_made e__law_made k__law_made
  have b__law_made := F__law_made.binds (ps := ["_law_box_here", "_law_five_here"]) fun _ _ _ _ _ _ us hl => match us, hl with | [_, _], _ => rfl
  have F_part_at := fun_mk (st := s_part_at) l_part_at e_part_at k_part_at
  have b_part_at := F_part_at.binds (ps := ["rule", "age"]) fun _ _ _ _ _ _ us hl => match us, hl with | [_, _], _ => rfl
  have F_price_by := fun_mk (st := s_price_by) l_price_by e_price_by k_price_by
  have b_price_by := F_price_by.binds (ps := ["rule", "price", "age"]) fun _ _ _ _ _ _ us hl => match us, hl with | [_, _, _], _ => rfl
  have F_price_on : FunD K "price_on" "price_on" (defArgs s_price_on) (defBody s_price_on) (defScope s_price_on) [.bl false] [] f_price_on _ := ⟨⟨_, _, _, _, _, _, _, _, _, _, rfl, l_price_on, e_price_on, .inr ⟨by simp, T_price_on, _, _, _, rfl, t_price_on, rfl, (.cons rfl .nil)⟩, .inl rfl⟩, k_price_on⟩
  have kb_price_on_3_leave := FunD.kbindsD (ps := ["rule", "tag", "day", "leave"]) F_price_on 3 ["leave"] (fun a b c => a ++ (c.drop 0).take 1) (by simp) (fun r1 r2 r3 => (r1.append ((r3.drop 0).take 1))) (fun _ _ _ _ _ _ _ us its ws h1 h2 h3 => match us, its, ws, h1, h2, h3 with | [_, _, _], [_], [_], _, _, _ => ⟨_, rfl, rfl⟩)
  have b_price_on_3 := FunD.binds1 (ps := ["rule", "tag", "day", "leave"]) F_price_on 3 0 (by simp) rfl (fun _ _ _ _ _ _ _ us its h1 h2 => match us, its, h1, h2 with | [_, _, _], [_], _, _ => ⟨_, rfl, rfl⟩)
  have b_price_on_4 := FunD.binds1 (ps := ["rule", "tag", "day", "leave"]) F_price_on 4 1 (by simp) rfl (fun _ _ _ _ _ _ _ us its h1 h2 => match us, its, h1, h2 with | [_, _, _, _], [_], _, _ => ⟨_, rfl, rfl⟩)
  have F_falls : FunD K "falls" "falls" (defArgs s_falls) (defBody s_falls) (defScope s_falls) [.bl false] [] f_falls _ := ⟨⟨_, _, _, _, _, _, _, _, _, _, rfl, l_falls, e_falls, .inr ⟨by simp, T_falls, _, _, _, rfl, t_falls, rfl, (.cons rfl .nil)⟩, .inl rfl⟩, k_falls⟩
  have kb_falls_2_leave := FunD.kbindsD (ps := ["rule", "tag", "leave"]) F_falls 2 ["leave"] (fun a b c => a ++ (c.drop 0).take 1) (by simp) (fun r1 r2 r3 => (r1.append ((r3.drop 0).take 1))) (fun _ _ _ _ _ _ _ us its ws h1 h2 h3 => match us, its, ws, h1, h2, h3 with | [_, _], [_], [_], _, _, _ => ⟨_, rfl, rfl⟩)
  have b_falls_2 := FunD.binds1 (ps := ["rule", "tag", "leave"]) F_falls 2 0 (by simp) rfl (fun _ _ _ _ _ _ _ us its h1 h2 => match us, its, h1, h2 with | [_, _], [_], _, _ => ⟨_, rfl, rfl⟩)
  have b_falls_3 := FunD.binds1 (ps := ["rule", "tag", "leave"]) F_falls 3 1 (by simp) rfl (fun _ _ _ _ _ _ _ us its h1 h2 => match us, its, h1, h2 with | [_, _, _], [_], _, _ => ⟨_, rfl, rfl⟩)
  have F_first_day : FunD K "first_day" "first_day" (defArgs s_first_day) (defBody s_first_day) (defScope s_first_day) [.bl false] [] f_first_day _ := ⟨⟨_, _, _, _, _, _, _, _, _, _, rfl, l_first_day, e_first_day, .inr ⟨by simp, T_first_day, _, _, _, rfl, t_first_day, rfl, (.cons rfl .nil)⟩, .inl rfl⟩, k_first_day⟩
  have b_first_day_3 := FunD.binds1 (ps := ["rule", "tag", "amount", "leave"]) F_first_day 3 0 (by simp) rfl (fun _ _ _ _ _ _ _ us its h1 h2 => match us, its, h1, h2 with | [_, _, _], [_], _, _ => ⟨_, rfl, rfl⟩)
  have b_first_day_4 := FunD.binds1 (ps := ["rule", "tag", "amount", "leave"]) F_first_day 4 1 (by simp) rfl (fun _ _ _ _ _ _ _ us its h1 h2 => match us, its, h1, h2 with | [_, _, _, _], [_], _, _ => ⟨_, rfl, rfl⟩)
  have F__law_by_turns_right := fun_mk (st := s__law_by_turns_right) l__law_by_turns_right e__law_by_turns_right k__law_by_turns_right
  have b__law_by_turns_right := F__law_by_turns_right.binds (ps := ["_law_rules", "_law_tag"]) fun _ _ _ _ _ _ us hl => match us, hl with | [_, _], _ => rfl
  have F_parted := fun_mk (st := s_parted) l_parted e_parted k_parted
  have b_parted := F_parted.binds (ps := ["amount", "share"]) fun _ _ _ _ _ _ us hl => match us, hl with | [_, _], _ => rfl
  have F__law_is_number := fun_mk (st := s__law_is_number) l__law_is_number e__law_is_number k__law_is_number
  have b__law_is_number := F__law_is_number.binds (ps := ["_law_thing"]) fun _ _ _ _ _ _ us hl => match us, hl with | [_], _ => rfl
  have F__law_parted_right := fun_mk (st := s__law_parted_right) l__law_parted_right e__law_parted_right k__law_parted_right
  have b__law_parted_right := F__law_parted_right.binds (ps := ["_law_box_here"]) fun _ _ _ _ _ _ us hl => match us, hl with | [_], _ => rfl
  have F_is_rule_pair := fun_mk (st := s_is_rule_pair) l_is_rule_pair e_is_rule_pair k_is_rule_pair
  have b_is_rule_pair := F_is_rule_pair.binds (ps := ["thing"]) fun _ _ _ _ _ _ us hl => match us, hl with | [_], _ => rfl
  have F_is_rule := fun_mk (st := s_is_rule) l_is_rule e_is_rule k_is_rule
  have b_is_rule := F_is_rule.binds (ps := ["thing"]) fun _ _ _ _ _ _ us hl => match us, hl with | [_], _ => rfl
  have F__law_right := fun_mk (st := s__law_right) l__law_right e__law_right k__law_right
  have b__law_right := F__law_right.binds (ps := ["_law_box_here"]) fun _ _ _ _ _ _ us hl => match us, hl with | [_], _ => rfl
  have F__law_box := fun_mk (st := s__law_box) l__law_box e__law_box k__law_box
  have b__law_box := F__law_box.binds (ps := ["_law_script", "_law_k"]) fun _ _ _ _ _ _ us hl => match us, hl with | [_, _], _ => rfl
  have F_law := fun_mk (st := s_law) l_law e_law k_law
  have T : Txt K mg ⟨C_Tag, f__law_folded, PySem.W.fnOf "_law_folded" "_law_folded" (defArgs s__law_folded) (defBody s__law_folded) (defScope s__law_folded) .none kV__law_folded dc__law_folded pm__law_folded an__law_folded cd__law_folded ct__law_folded, f__law_take, PySem.W.fnOf "_law_take" "_law_take" (defArgs s__law_take) (defBody s__law_take) (defScope s__law_take) .none kV__law_take dc__law_take pm__law_take an__law_take cd__law_take ct__law_take, f__law_names, PySem.W.fnOf "_law_names" "_law_names" (defArgs s__law_names) (defBody s__law_names) (defScope s__law_names) .none kV__law_names dc__law_names pm__law_names an__law_names cd__law_names ct__law_names, f__law_rule, PySem.W.fnOf "_law_rule" "_law_rule" (defArgs s__law_rule) (defBody s__law_rule) (defScope s__law_rule) .none kV__law_rule dc__law_rule pm__law_rule an__law_rule cd__law_rule ct__law_rule, f__law_price, PySem.W.fnOf "_law_price" "_law_price" (defArgs s__law_price) (defBody s__law_price) (defScope s__law_price) .none kV__law_price dc__law_price pm__law_price an__law_price cd__law_price ct__law_price, f__law_five, PySem.W.fnOf "_law_five" "_law_five" (defArgs s__law_five) (defBody s__law_five) (defScope s__law_five) .none kV__law_five dc__law_five pm__law_five an__law_five cd__law_five ct__law_five, f_is_name, PySem.W.fnOf "is_name" "is_name" (defArgs s_is_name) (defBody s_is_name) (defScope s_is_name) .none kV_is_name dc_is_name pm_is_name an_is_name cd_is_name ct_is_name, f_is_whole, PySem.W.fnOf "is_whole" "is_whole" (defArgs s_is_whole) (defBody s_is_whole) (defScope s_is_whole) .none kV_is_whole dc_is_whole pm_is_whole an_is_whole cd_is_whole ct_is_whole, f_Tag_init, PySem.W.fnOf "__init__" "Tag.__init__" (defArgs s_Tag_init) (defBody s_Tag_init) (defScope s_Tag_init) (.ref T_Tag_init) kV_Tag_init dc_Tag_init pm_Tag_init an_Tag_init cd_Tag_init ct_Tag_init, f__law_made, PySem.W.fnOf "_law_made" "_law_made" (defArgs s__law_made) (defBody s__law_made) (defScope s__law_made) .none kV__law_made dc__law_made pm__law_made an__law_made cd__law_made ct__law_made, f_part_at, PySem.W.fnOf "part_at" "part_at" (defArgs s_part_at) (defBody s_part_at) (defScope s_part_at) .none kV_part_at dc_part_at pm_part_at an_part_at cd_part_at ct_part_at, f_price_by, PySem.W.fnOf "price_by" "price_by" (defArgs s_price_by) (defBody s_price_by) (defScope s_price_by) .none kV_price_by dc_price_by pm_price_by an_price_by cd_price_by ct_price_by, f_price_on, PySem.W.fnOf "price_on" "price_on" (defArgs s_price_on) (defBody s_price_on) (defScope s_price_on) (.ref T_price_on) kV_price_on dc_price_on pm_price_on an_price_on cd_price_on ct_price_on, f_falls, PySem.W.fnOf "falls" "falls" (defArgs s_falls) (defBody s_falls) (defScope s_falls) (.ref T_falls) kV_falls dc_falls pm_falls an_falls cd_falls ct_falls, f_first_day, PySem.W.fnOf "first_day" "first_day" (defArgs s_first_day) (defBody s_first_day) (defScope s_first_day) (.ref T_first_day) kV_first_day dc_first_day pm_first_day an_first_day cd_first_day ct_first_day, f__law_by_turns_right, PySem.W.fnOf "_law_by_turns_right" "_law_by_turns_right" (defArgs s__law_by_turns_right) (defBody s__law_by_turns_right) (defScope s__law_by_turns_right) .none kV__law_by_turns_right dc__law_by_turns_right pm__law_by_turns_right an__law_by_turns_right cd__law_by_turns_right ct__law_by_turns_right, f_parted, PySem.W.fnOf "parted" "parted" (defArgs s_parted) (defBody s_parted) (defScope s_parted) .none kV_parted dc_parted pm_parted an_parted cd_parted ct_parted, f__law_is_number, PySem.W.fnOf "_law_is_number" "_law_is_number" (defArgs s__law_is_number) (defBody s__law_is_number) (defScope s__law_is_number) .none kV__law_is_number dc__law_is_number pm__law_is_number an__law_is_number cd__law_is_number ct__law_is_number, f__law_parted_right, PySem.W.fnOf "_law_parted_right" "_law_parted_right" (defArgs s__law_parted_right) (defBody s__law_parted_right) (defScope s__law_parted_right) .none kV__law_parted_right dc__law_parted_right pm__law_parted_right an__law_parted_right cd__law_parted_right ct__law_parted_right, f_is_rule_pair, PySem.W.fnOf "is_rule_pair" "is_rule_pair" (defArgs s_is_rule_pair) (defBody s_is_rule_pair) (defScope s_is_rule_pair) .none kV_is_rule_pair dc_is_rule_pair pm_is_rule_pair an_is_rule_pair cd_is_rule_pair ct_is_rule_pair, f_is_rule, PySem.W.fnOf "is_rule" "is_rule" (defArgs s_is_rule) (defBody s_is_rule) (defScope s_is_rule) .none kV_is_rule dc_is_rule pm_is_rule an_is_rule cd_is_rule ct_is_rule, f__law_right, PySem.W.fnOf "_law_right" "_law_right" (defArgs s__law_right) (defBody s__law_right) (defScope s__law_right) .none kV__law_right dc__law_right pm__law_right an__law_right cd__law_right ct__law_right, f__law_box, PySem.W.fnOf "_law_box" "_law_box" (defArgs s__law_box) (defBody s__law_box) (defScope s__law_box) .none kV__law_box dc__law_box pm__law_box an__law_box cd__law_box ct__law_box, fa, PySem.W.fnOf "law" "law" (defArgs s_law) (defBody s_law) (defScope s_law) .none kV_law dc_law pm_law an_law cd_law ct_law⟩ := ⟨PySem.W.mg_none_of X G z_list, PySem.W.mg_none_of X G z_enumerate, PySem.W.mg_none_of X G z_divmod, PySem.W.mg_none_of X G z_range, PySem.W.mg_none_of X G z_tuple, PySem.W.mg_none_of X G z_len, PySem.W.mg_none_of X G z_all, PySem.W.mg_none_of X G z_isinstance, PySem.W.mg_none_of X G z_str, PySem.W.mg_none_of X G z_int, PySem.W.mg_none_of X G z_bool, PySem.W.mg_none_of X G z_max, PySem.W.mg_none_of X G z_zip, PySem.W.mg_none_of X G z_min, PySem.W.mg_none_of X G z_abs, ⟨_, PySem.W.mg_of X G y_SMALL_SIGNS, ⟨_, rfl⟩⟩, ⟨_, PySem.W.mg_of X G y_MOST_SIGNS, ⟨_, rfl⟩⟩, ⟨_, PySem.W.mg_of X G y_MOST_NUMBER, ⟨_, rfl⟩⟩, ⟨_, PySem.W.mg_of X G y_MOST_PRICE, ⟨_, rfl⟩⟩, ⟨_, PySem.W.mg_of X G y_MOST_DAY, ⟨_, rfl⟩⟩, ⟨_, PySem.W.mg_of X G y_MOST_PAIRS, ⟨_, rfl⟩⟩, ⟨_, PySem.W.mg_of X G y_MOST_AGE, ⟨_, rfl⟩⟩, ⟨_, PySem.W.mg_of X G y_MOST_PART, ⟨_, rfl⟩⟩, ⟨_, PySem.W.mg_of X G y_WHOLE_PART, ⟨_, rfl⟩⟩, ⟨pg_Tag, hd_Tag, po_Tag, sa_Tag⟩, PySem.W.mg_of X G a_Tag, a_Tag, ⟨mk_Tag, a_Tag_init, i_Tag_init, kc_Tag⟩, na_Tag_owner, na_Tag_number, na_Tag_price, na_Tag_least, na_Tag_day, F__law_folded, PySem.W.mg_of X G a__law_folded, b__law_folded, F__law_take, PySem.W.mg_of X G a__law_take, b__law_take, F__law_names, PySem.W.mg_of X G a__law_names, b__law_names, F__law_rule, PySem.W.mg_of X G a__law_rule, b__law_rule, F__law_price, PySem.W.mg_of X G a__law_price, b__law_price, F__law_five, PySem.W.mg_of X G a__law_five, b__law_five, F_is_name, PySem.W.mg_of X G a_is_name, b_is_name, F_is_whole, PySem.W.mg_of X G a_is_whole, b_is_whole, F_Tag_init, b_Tag_init_6, b_Tag_init_4, kb_Tag_init_4_day, b_Tag_init_5, kb_Tag_init_4_day_least, F__law_made, PySem.W.mg_of X G a__law_made, b__law_made, F_part_at, PySem.W.mg_of X G a_part_at, b_part_at, F_price_by, PySem.W.mg_of X G a_price_by, b_price_by, F_price_on, PySem.W.mg_of X G a_price_on, kb_price_on_3_leave, b_price_on_3, b_price_on_4, F_falls, PySem.W.mg_of X G a_falls, kb_falls_2_leave, b_falls_2, b_falls_3, F_first_day, PySem.W.mg_of X G a_first_day, b_first_day_3, b_first_day_4, F__law_by_turns_right, PySem.W.mg_of X G a__law_by_turns_right, b__law_by_turns_right, F_parted, PySem.W.mg_of X G a_parted, b_parted, F__law_is_number, PySem.W.mg_of X G a__law_is_number, b__law_is_number, F__law_parted_right, PySem.W.mg_of X G a__law_parted_right, b__law_parted_right, F_is_rule_pair, PySem.W.mg_of X G a_is_rule_pair, b_is_rule_pair, F_is_rule, PySem.W.mg_of X G a_is_rule, b_is_rule, F__law_right, PySem.W.mg_of X G a__law_right, b__law_right, F__law_box, PySem.W.mg_of X G a__law_box, b__law_box, F_law⟩
  exact ⟨_, fun s v => .of_eq rfl, fun base _ _ => ok_law T⟩
theorem walk {l : PySem.W.OpenLaw} {q : Program} {loose : List Str} {XP : (Str → Option Value) → Heap → Prop} {YP : World → Heap → Prop} {d : DefRec} {K : Params → PySem.W.Frag} (hn : l.most = some 63) (hdf : d.params.defaults = [])
    (hY : ∀ (w : World) (h : Heap), YP w h → (K w.params).In h)
    (F : ∀ (w : World) (mg : Str → Option Value) (fa : Addr) (h : Heap), (K w.params).In h → h.Ns mainGlobals mg → mg d.name = some (.ref fa) →
      ∃ fd : FuncData, (∀ (s : Shared) (u : Value), BindsTo s fd ⟨[u], []⟩ [("_law_script", u)]) ∧ ∀ base : Heap, (K w.params).In base → base.Ns mainGlobals mg → FnOk l.prog w (K w.params) mg base CX0 8 fa fd ["_law_script"] (sp_law (K w.params))) :
    PySem.W.WalkO q loose XP YP l.row.toRowW d [] (fun f vs => PySem.call f vs) :=
  L2.walk_of (n := 63) (k := 8) (x := "_law_script") (CX := fun _ => CX0) (sp := fun w => sp_law (K w.params)) hn (by decide) hdf ⟨rfl, by decide, by decide⟩ hY F (fun _ _ a ns hl _ hS => ⟨a, ns, rfl, hS, hl, fun _ => rfl⟩) fun _ _ _ _ _ z => z
end K

open PySem PySem.W PyProof.Rows in
set_option maxRecDepth 100000 in
set_option maxHeartbeats 0 in
theorem PySem.Challenge.cw_stallshares_k20_whole_parted_and_prices_holds : PySem.Challenge.rw_stallshares_k20_whole_parted_and_prices.Holds := by
  w_on; o_law; k_head; (case hw => w_witness2)
  k_fill
  refine K.walk (l := PySem.Challenge.rw_stallshares_k20_whole_parted_and_prices) rfl rfl (fun w h Y => PySem.W.kIn_of Y) ?F
  case F =>
    intro w mg fa h KX G hmg
    refine' K.all_mk KX G hmg ?a_Tag ?pg_Tag ?hd_Tag ?po_Tag ?sa_Tag ?mk_Tag ?kc_Tag ?na_Tag_owner ?na_Tag_number ?na_Tag_price ?na_Tag_least ?na_Tag_day ?a__law_folded ?l__law_folded ?e__law_folded ?k__law_folded ?a__law_take ?l__law_take ?e__law_take ?k__law_take ?a__law_names ?l__law_names ?e__law_names ?k__law_names ?a__law_rule ?l__law_rule ?e__law_rule ?k__law_rule ?a__law_price ?l__law_price ?e__law_price ?k__law_price ?a__law_five ?l__law_five ?e__law_five ?k__law_five ?a_is_name ?l_is_name ?e_is_name ?k_is_name ?a_is_whole ?l_is_whole ?e_is_whole ?k_is_whole ?a_Tag_init ?i_Tag_init ?l_Tag_init ?e_Tag_init ?k_Tag_init ?t_Tag_init ?a__law_made ?l__law_made ?e__law_made ?k__law_made ?a_part_at ?l_part_at ?e_part_at ?k_part_at ?a_price_by ?l_price_by ?e_price_by ?k_price_by ?a_price_on ?l_price_on ?e_price_on ?k_price_on ?t_price_on ?a_falls ?l_falls ?e_falls ?k_falls ?t_falls ?a_first_day ?l_first_day ?e_first_day ?k_first_day ?t_first_day ?a__law_by_turns_right ?l__law_by_turns_right ?e__law_by_turns_right ?k__law_by_turns_right ?a_parted ?l_parted ?e_parted ?k_parted ?a__law_is_number ?l__law_is_number ?e__law_is_number ?k__law_is_number ?a__law_parted_right ?l__law_parted_right ?e__law_parted_right ?k__law_parted_right ?a_is_rule_pair ?l_is_rule_pair ?e_is_rule_pair ?k_is_rule_pair ?a_is_rule ?l_is_rule ?e_is_rule ?k_is_rule ?a__law_right ?l__law_right ?e__law_right ?k__law_right ?a__law_box ?l__law_box ?e__law_box ?k__law_box ?a_law ?l_law ?e_law ?k_law ?z_list ?z_enumerate ?z_divmod ?z_range ?z_tuple ?z_len ?z_all ?z_isinstance ?z_str ?z_int ?z_bool ?z_max ?z_zip ?z_min ?z_abs ?y_SMALL_SIGNS ?y_MOST_SIGNS ?y_MOST_NUMBER ?y_MOST_PRICE ?y_MOST_DAY ?y_MOST_PAIRS ?y_MOST_AGE ?y_MOST_PART ?y_WHOLE_PART
    (case a_Tag => k_is)
    (case pg_Tag => k_is)
    (case hd_Tag => k_is)
    (case po_Tag => k_is)
    (case sa_Tag => k_is)
    (case mk_Tag => k_is)
    (case kc_Tag => k_is)
    (case na_Tag_owner => k_is)
    (case na_Tag_number => k_is)
    (case na_Tag_price => k_is)
    (case na_Tag_least => k_is)
    (case na_Tag_day => k_is)
    (case a__law_folded => k_is)
    (case l__law_folded => k_is)
    (case e__law_folded => k_is)
    (case k__law_folded => k_is)
    (case a__law_take => k_is)
    (case l__law_take => k_is)
    (case e__law_take => k_is)
    (case k__law_take => k_is)
    (case a__law_names => k_is)
    (case l__law_names => k_is)
    (case e__law_names => k_is)
    (case k__law_names => k_is)
    (case a__law_rule => k_is)
    (case l__law_rule => k_is)
    (case e__law_rule => k_is)
    (case k__law_rule => k_is)
    (case a__law_price => k_is)
    (case l__law_price => k_is)
    (case e__law_price => k_is)
    (case k__law_price => k_is)
    (case a__law_five => k_is)
    (case l__law_five => k_is)
    (case e__law_five => k_is)
    (case k__law_five => k_is)
    (case a_is_name => k_is)
    (case l_is_name => k_is)
    (case e_is_name => k_is)
    (case k_is_name => k_is)
    (case a_is_whole => k_is)
    (case l_is_whole => k_is)
    (case e_is_whole => k_is)
    (case k_is_whole => k_is)
    (case a_Tag_init => k_is)
    (case i_Tag_init => k_is)
    (case l_Tag_init => k_is)
    (case e_Tag_init => k_is)
    (case k_Tag_init => k_is)
    (case t_Tag_init => k_is)
    (case a__law_made => k_is)
    (case l__law_made => k_is)
    (case e__law_made => k_is)
    (case k__law_made => k_is)
    (case a_part_at => k_is)
    (case l_part_at => k_is)
    (case e_part_at => k_is)
    (case k_part_at => k_is)
    (case a_price_by => k_is)
    (case l_price_by => k_is)
    (case e_price_by => k_is)
    (case k_price_by => k_is)
    (case a_price_on => k_is)
    (case l_price_on => k_is)
    (case e_price_on => k_is)
    (case k_price_on => k_is)
    (case t_price_on => k_is)
    (case a_falls => k_is)
    (case l_falls => k_is)
    (case e_falls => k_is)
    (case k_falls => k_is)
    (case t_falls => k_is)
    (case a_first_day => k_is)
    (case l_first_day => k_is)
    (case e_first_day => k_is)
    (case k_first_day => k_is)
    (case t_first_day => k_is)
    (case a__law_by_turns_right => k_is)
    (case l__law_by_turns_right => k_is)
    (case e__law_by_turns_right => k_is)
    (case k__law_by_turns_right => k_is)
    (case a_parted => k_is)
    (case l_parted => k_is)
    (case e_parted => k_is)
    (case k_parted => k_is)
    (case a__law_is_number => k_is)
    (case l__law_is_number => k_is)
    (case e__law_is_number => k_is)
    (case k__law_is_number => k_is)
    (case a__law_parted_right => k_is)
    (case l__law_parted_right => k_is)
    (case e__law_parted_right => k_is)
    (case k__law_parted_right => k_is)
    (case a_is_rule_pair => k_is)
    (case l_is_rule_pair => k_is)
    (case e_is_rule_pair => k_is)
    (case k_is_rule_pair => k_is)
    (case a_is_rule => k_is)
    (case l_is_rule => k_is)
    (case e_is_rule => k_is)
    (case k_is_rule => k_is)
    (case a__law_right => k_is)
    (case l__law_right => k_is)
    (case e__law_right => k_is)
    (case k__law_right => k_is)
    (case a__law_box => k_is)
    (case l__law_box => k_is)
    (case e__law_box => k_is)
    (case k__law_box => k_is)
    (case a_law => k_is)
    (case l_law => k_is)
    (case e_law => k_is)
    (case k_law => k_is)
    (case z_list => k_is)
    (case z_enumerate => k_is)
    (case z_divmod => k_is)
    (case z_range => k_is)
    (case z_tuple => k_is)
    (case z_len => k_is)
    (case z_all => k_is)
    (case z_isinstance => k_is)
    (case z_str => k_is)
    (case z_int => k_is)
    (case z_bool => k_is)
    (case z_max => k_is)
    (case z_zip => k_is)
    (case z_min => k_is)
    (case z_abs => k_is)
    (case y_SMALL_SIGNS => k_is)
    (case y_MOST_SIGNS => k_is)
    (case y_MOST_NUMBER => k_is)
    (case y_MOST_PRICE => k_is)
    (case y_MOST_DAY => k_is)
    (case y_MOST_PAIRS => k_is)
    (case y_MOST_AGE => k_is)
    (case y_MOST_PART => k_is)
    (case y_WHOLE_PART => k_is)
