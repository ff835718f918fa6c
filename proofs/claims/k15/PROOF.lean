import PyProof.Rows.All
import Wide.All
import OpenK.AllK
import Wide.FinOn
import HandS.ForMost
import HandS.IsInst
import HandS.StrMore
import HandS.Walk
import HandS.SortInts
import HandS.Zip
import HandS.Style
import HandS.MakeKw
import HandS.TupAny
import HandS.Exc
import HandS.ExcInit
import HandS.ExcOwn
import HandS.CallSlots
import HandS.ExcIs
import HandS.ExcField
import HandS.WordsExc
import KE.KExcInit
import KE.KTryMore
import KE.KExcIs
import KE.KExcLine
import KE.RegKIsAll
import KE.RegKTryMore
import PySem.Challenge.RW_stallshares_k15_rules_or_not
set_option Elab.async false
set_option linter.all false
set_option maxRecDepth 100000
set_option maxHeartbeats 4000000
/-! the shared layer: heaps but for some mutable places, the box of draws -/
namespace Z
open PySem L2

/-- H without the places of M -/
def hid (M : List Addr) (H : Hp) : Hp := fun a => if a ∈ M then none else H a
theorem hid_of {M : List Addr} {H : Hp} {a : Addr} (h : a ∉ M) : hid M H a = H a := if_neg h
theorem hid_none {M : List Addr} {H : Hp} {a : Addr} (h : H a = none) : hid M H a = none := by
  unfold hid; split <;> simp_all
theorem hid_same {M : List Addr} {H : Hp} : Same (hid M H) H := fun a o h => by
  unfold hid at h
  split at h
  · cases h
  · exact h
/-- what stands outside M is as it was -/
def Fr (M : List Addr) (H H' : Hp) : Prop := ∀ a o, a ∉ M → H a = some o → H' a = some o
theorem Fr.refl (M : List Addr) (H : Hp) : Fr M H H := fun _ _ _ h => h
theorem Fr.trans {M : List Addr} {H H1 H2 : Hp} (a : Fr M H H1) (b : Fr M H1 H2) : Fr M H H2 := fun x o n h => b x o n (a x o n h)
theorem Same.fr {M : List Addr} {H H' : Hp} (s : Same H H') : Fr M H H' := fun a o _ h => s a o h
theorem Fr.same {M : List Addr} {H H' : Hp} (f : Fr M H H') : Same (hid M H) (hid M H') := fun a o h => by
  unfold hid at h ⊢
  split at h
  · cases h
  · next n => rw [if_neg n]; exact f a o n h
theorem Fr.new {M : List Addr} {H : Hp} {p : Addr} {o : HO} (h : H p = none) : Fr M H (upd H p o) := fun a u _ e => by
  rw [upd_ne (ne_of_none e h)]; exact e
theorem Same.new {H : Hp} {p : Addr} {o : HO} (h : H p = none) : Same H (upd H p o) := fun a u e => by
  rw [upd_ne (ne_of_none e h)]; exact e
theorem Fr.put {M : List Addr} {H H' : Hp} {p : Addr} {o : HO} (f : Fr M H H') (h : p ∈ M) : Fr M H (upd H' p o) := fun a u n e => by
  rw [upd_ne (fun q : a = p => n (by rw [q]; exact h))]; exact f a u n e
theorem Fr.mono {M N : List Addr} {H H' : Hp} (f : Fr M H H') (s : ∀ a ∈ M, a ∈ N) : Fr N H H' := fun a o n h => f a o (fun q => n (s a q)) h
theorem Fr.nil {H H' : Hp} (f : Fr [] H H') : Same H H' := fun a o h => f a o (by simp) h
theorem Fr.back {M : List Addr} {H H' : Hp} {p : Addr} (f : Fr M H H') (hp : p ∉ M) (h : H' p = none) : H p = none := by
  cases q : H p with
  | none => rfl
  | some o => rw [f p o hp q] at h; cases h
theorem Fr.out {M : List Addr} {H H1 H2 : Hp} (f : Fr M H1 H2) (s : Same H H1) (hM : ∀ b ∈ M, H b = none) : Same H H2 := fun a o h => f a o (fun q => by rw [hM a q] at h; cases h) (s a o h)
theorem Fr.drop {M : List Addr} {H H' : Hp} {f : Addr} (fr : Fr (M ++ [f]) H H') (h : H f = none) : Fr M H H' := fun a o n e => fr a o (by
  simp only [List.mem_append, List.mem_singleton, not_or]
  exact ⟨n, ne_of_none e h⟩) e
theorem SqL.mono {K : PySem.W.Frag} {H H' : Hp} {a : Addr} {xs : List V} (e : Same H H') (h : SqL K H a xs) : SqL K H' a xs := e.seq h
theorem SqT.mono {K : PySem.W.Frag} {H H' : Hp} {a : Addr} {xs : List V} (e : Same H H') (h : SqT K H a xs) : SqT K H' a xs := by
  rcases h with (h | ⟨o, h⟩) | h
  · exact .inl (.inl (e _ _ h))
  · exact .inl (.inr ⟨o, e _ _ h⟩)
  · exact .inr h
mutual
theorem Dp.mono {K : PySem.W.Frag} {H H' : Hp} (e : Same H H') : ∀ {v : V} {d : PyData}, Dp K H v d → Dp K H' v d
  | _, _, .non => .non
  | _, _, .bl b => .bl b
  | _, _, .int i => .int i
  | _, _, .str x => .str x
  | _, _, .lst h r => .lst (SqL.mono e h) (DpAll.mono e r)
  | _, _, .tup h r => .tup (SqT.mono e h) (DpAll.mono e r)
theorem DpAll.mono {K : PySem.W.Frag} {H H' : Hp} (e : Same H H') : ∀ {v : List V} {d : List PyData}, DpAll K H v d → DpAll K H' v d
  | _, _, .nil => .nil
  | _, _, .cons a b => .cons (Dp.mono e a) (DpAll.mono e b)
end

theorem DpAll.length {K : PySem.W.Frag} {H : Hp} : ∀ {v : List V} {d : List PyData}, DpAll K H v d → v.length = d.length
  | _, _, .nil => rfl
  | _, _, .cons _ b => by rw [List.length_cons, List.length_cons, DpAll.length b]
theorem DpAll.get {K : PySem.W.Frag} {H : Hp} : ∀ {v : List V} {d : List PyData} {i : Nat} {x : V}, DpAll K H v d → v[i]? = some x → ∃ y, d[i]? = some y ∧ Dp K H x y
  | _, _, _, _, .nil, h => by simp at h
  | _, _, 0, _, .cons a _, h => by simp at h; subst h; exact ⟨_, rfl, a⟩
  | _, _, i + 1, _, .cons _ b, h => by
    obtain ⟨y, e, q⟩ := DpAll.get (i := i) b (by simpa using h)
    exact ⟨y, by simpa using e, q⟩
theorem Dp.list_of {K : PySem.W.Frag} {H : Hp} {v : V} {ds : List PyData} (h : Dp K H v (.list ds)) : ∃ a xs, v = .ref a ∧ SqL K H a xs ∧ DpAll K H xs ds := by
  cases h with
  | lst s r => exact ⟨_, _, rfl, s, r⟩
theorem Dp.tuple_of {K : PySem.W.Frag} {H : Hp} {v : V} {ds : List PyData} (h : Dp K H v (.tuple ds)) : ∃ a xs, v = .ref a ∧ SqT K H a xs ∧ DpAll K H xs ds := by
  cases h with
  | tup s r => exact ⟨_, _, rfl, s, r⟩
/-- the built-in class of data -/
def kindD : PyData → String
  | .none => "NoneType"
  | .bool _ => "bool"
  | .int _ => "int"
  | .str _ => "str"
  | .list _ => "list"
  | .tuple _ => "tuple"
  | .dict _ => "dict"
theorem SqL.ty {K : PySem.W.Frag} {H : Hp} {a : Addr} {xs : List V} (h : SqL K H a xs) : TyX K H (.ref a) (.type "list") := by
  rcases h with (h | ⟨o, h⟩) | ⟨o, its, n, e, c, _⟩
  · exact .base (.lst h)
  · exact .base (.frz h)
  · exact .kList e c
theorem SqT.ty {K : PySem.W.Frag} {H : Hp} {a : Addr} {xs : List V} (h : SqT K H a xs) : TyX K H (.ref a) (.type "tuple") := by
  rcases h with (h | ⟨o, h⟩) | ⟨o, its, n, e, c, _⟩
  · exact .base (.tup h)
  · exact .fTuple h
  · exact .kTuple e c
theorem Dp.ty {K : PySem.W.Frag} {H : Hp} {v : V} {d : PyData} (h : Dp K H v d) : TyX K H v (.type (kindD d)) := by
  cases h with
  | non => exact .base .non
  | bl b => exact .base (.bl b)
  | int i => exact .base (.int i)
  | str x => exact .base (.str x)
  | lst s _ => exact SqL.ty s
  | tup s _ => exact SqT.ty s
theorem tyD {K : PySem.W.Frag} {H : Hp} {v : V} {d : PyData} (A : String) (h : Dp K H v d) (e : kindD d = A) : TyX K H v (.type A) := e ▸ Dp.ty h
theorem ltC : Paired ClsV [.ty "list", .ty "tuple"] [.type "list", .type "tuple"] := .cons (.ty _) (.cons (.ty _) .nil)
theorem kitLT {K : PySem.W.Frag} (A : String) (b c : Bool) (k : kitB A "list" = some b) (k2 : kitB A "tuple" = some c) : PySem.W.kitAny K (.type A) [.type "list", .type "tuple"] = some (b || c) := by
  refine kitAny_cons (kit_ty k) (fun e => ?_) (fun e => by rw [e]; rfl)
  subst e
  exact kitAny_cons (kit_ty k2) (fun e => by subst e; exact kitAny_nil) (fun e => by rw [e]; rfl)
theorem lay_mem : ∀ {ds : List PyData} {d : PyData}, PyData.canLayAll0 ds = true → d ∈ ds → d.canLay0 = true
  | [], _, _, h => by cases h
  | x :: r, d, h, hm => by
    have h' : (x.canLay0 && PyData.canLayAll0 r) = true := h
    rw [Bool.and_eq_true] at h'
    rcases List.mem_cons.mp hm with rfl | hm
    · exact h'.1
    · exact lay_mem h'.2 hm
theorem depth_mem : ∀ {ds : List PyData} {d : PyData}, d ∈ ds → d.depth ≤ PyData.depthAll ds
  | [], _, h => by cases h
  | x :: r, d, hm => by
    show _ ≤ max x.depth (PyData.depthAll r)
    rcases List.mem_cons.mp hm with rfl | hm
    · exact Nat.le_max_left _ _
    · exact Nat.le_trans (depth_mem hm) (Nat.le_max_right _ _)
theorem shaped_mem {ds : List PyData} {d : PyData} (h : SeqAt.shaped (.list ds) = true ∨ SeqAt.shaped (.tuple ds) = true) (hm : d ∈ ds) : SeqAt.shaped d = true ∧ d.depth ≤ PyData.depthAll ds := by
  have h1 : PyData.canLayAll0 ds = true ∧ PyData.depthAll ds + 1 ≤ 64 := by
    rcases h with h | h
    · exact ⟨SeqAt.canLay_of_shaped h, SeqAt.depth_of_shaped h⟩
    · exact ⟨SeqAt.canLay_of_shaped h, SeqAt.depth_of_shaped h⟩
  have h2 := depth_mem hm
  refine ⟨?_, h2⟩
  unfold SeqAt.shaped
  rw [lay_mem h1.1 hm, decide_eq_true (by omega)]
  rfl
mutual
/-- how many things data is made of -/
def nodes : PyData → Nat
  | .list xs => nodesAll xs + 1
  | .tuple xs => nodesAll xs + 1
  | _ => 1
def nodesAll : List PyData → Nat
  | [] => 0
  | x :: r => nodes x + nodesAll r
end
theorem nodes_pos (d : PyData) : 1 ≤ nodes d := by cases d <;> simp [nodes]
theorem len_nodes : ∀ ds : List PyData, ds.length ≤ nodesAll ds
  | [] => Nat.le_refl _
  | x :: r => by
    have h1 := nodes_pos x
    have h2 := len_nodes r
    show r.length + 1 ≤ nodes x + nodesAll r
    omega
theorem nodes_mem : ∀ {ds : List PyData} {d : PyData}, d ∈ ds → nodes d ≤ nodesAll ds
  | [], _, h => by cases h
  | x :: r, d, hm => by
    show _ ≤ nodes x + nodesAll r
    rcases List.mem_cons.mp hm with rfl | hm
    · omega
    · have := nodes_mem hm
      omega
theorem walk_zipT {K : PySem.W.Frag} {a b : Addr} {xs ys : List V} {n : Nat} (hn : n = min xs.length ys.length) :
    Walk (RZ.ItzT K a b) n (fun H => SqT K H a xs ∧ SqT K H b ys) (YPair (fun i => xs[i]?) (fun i => ys[i]?)) := by
  refine ⟨fun i H hi q => ?_, fun H q => ⟨xs, ys, q.1, q.2, by omega⟩, fun i H v H' hi q y => ?_⟩
  · exact ⟨xs, ys, xs[i]'(by omega), ys[i]'(by omega), q.1, q.2, List.getElem?_eq_getElem (by omega), List.getElem?_eq_getElem (by omega)⟩
  · obtain ⟨t, x, z, e1, e2, e3, e4, e5⟩ := y
    exact ⟨t, x, z, e1, e2, e3, e4 xs q.1, e5 ys q.2⟩
/-- a comprehension that lays g of each, nothing else being changed -/
structure LcP {α : Type} (H1 : Hp) (D : Addr) (xs : List α) (g : α → V) (i : Nat) (H : Hp) : Prop where
  new : H1 D = none
  same : Same H1 H
  at_ : H D = some (.lst ((xs.take i).map g))
theorem LcP.start {α : Type} {H1 : Hp} {D : Addr} {xs : List α} {g : α → V} (h : H1 D = none) : LcP H1 D xs g 0 (upd H1 D (.lst [])) := ⟨h, Same.new h, upd_same⟩
theorem LcP.step {α : Type} {H1 H H4 : Hp} {D : Addr} {xs : List α} {g : α → V} {i : Nat} {x : α} {y : V} (p : LcP H1 D xs g i H) (s : Same H H4) (hx : xs[i]? = some x) (hy : y = g x) (hl : xs.length ≤ sizeLine) :
    ∃ acc, H4 D = some (.lst acc) ∧ acc.length < sizeLine ∧ LcP H1 D xs g (i + 1) (upd H4 D (.lst (acc ++ [y]))) := by
  have hi : i < xs.length := (List.getElem?_eq_some_iff.mp hx).1
  refine ⟨_, s _ _ p.at_, by simp; omega, p.new, fun b o e => ?_, ?_⟩
  · rw [upd_ne (ne_of_none e p.new)]
    exact s _ _ (p.same _ _ e)
  · rw [upd_same, hy, List.take_add_one, hx, List.map_append]
    rfl
theorem LcP.done {α : Type} {H1 H : Hp} {D : Addr} {xs : List α} {g : α → V} (p : LcP H1 D xs g xs.length H) : H D = some (.lst (xs.map g)) := by
  have h := p.at_
  rw [List.take_length] at h
  exact h

/-- a comprehension: what is laid so far is told by A -/
structure LcA (H1 : Hp) (D : Addr) (A : Nat → List V) (i : Nat) (H : Hp) : Prop where
  new : H1 D = none
  same : Same H1 H
  at_ : H D = some (.lst (A i))
theorem LcA.start {H1 : Hp} {D : Addr} {A : Nat → List V} (h : H1 D = none) (h0 : A 0 = []) : LcA H1 D A 0 (upd H1 D (.lst [])) := ⟨h, Same.new h, by rw [upd_same, h0]⟩
theorem LcA.put {H1 H H4 : Hp} {D : Addr} {A : Nat → List V} {i : Nat} {y : V} (p : LcA H1 D A i H) (s : Same H H4) (hA : A (i + 1) = A i ++ [y]) (hl : (A i).length < sizeLine) :
    ∃ acc, H4 D = some (.lst acc) ∧ acc.length < sizeLine ∧ LcA H1 D A (i + 1) (upd H4 D (.lst (acc ++ [y]))) := by
  refine ⟨_, s _ _ p.at_, hl, p.new, fun b o e => ?_, by rw [upd_same, hA]⟩
  rw [upd_ne (ne_of_none e p.new)]
  exact s _ _ (p.same _ _ e)
theorem LcA.skip {H1 H H4 : Hp} {D : Addr} {A : Nat → List V} {i : Nat} (p : LcA H1 D A i H) (s : Same H H4) (hA : A (i + 1) = A i) : LcA H1 D A (i + 1) H4 :=
  ⟨p.new, p.same.trans s, by rw [hA]; exact s _ _ p.at_⟩

/-- tuples and locked things stay -/
def Immut : HO → Prop
  | .tup _ => True
  | .frz _ _ => True
  | .ins _ _ _ => True
  | .own _ => True
  | _ => False
def KeepT (H H' : Hp) : Prop := ∀ t u, Immut u → H t = some u → H' t = some u
theorem KeepT.refl (H : Hp) : KeepT H H := fun _ _ _ h => h
theorem KeepT.trans {H H1 H2 : Hp} (a : KeepT H H1) (b : KeepT H1 H2) : KeepT H H2 := fun t u i h => b t u i (a t u i h)
theorem Same.kt {H H' : Hp} (s : Same H H') : KeepT H H' := fun t u _ h => s t u h
theorem KeepT.new {H : Hp} {p : Addr} {o : HO} (h : H p = none) : KeepT H (upd H p o) := Same.kt (Same.new h)
theorem KeepT.lst {H : Hp} {p : Addr} {xs : List V} {o : HO} (h : H p = some (.lst xs)) : KeepT H (upd H p o) := fun t u i e => by
  have hn : t ≠ p := fun q => by
    rw [q, h] at e
    cases e
    exact i
  rw [upd_ne hn]
  exact e
mutual
def noList : PyData → Bool
  | .list _ => false
  | .dict _ => false
  | .tuple xs => noLists xs
  | _ => true
def noLists : List PyData → Bool
  | [] => true
  | x :: r => noList x && noLists r
end
theorem SqT.keep {K : PySem.W.Frag} {H H' : Hp} {a : Addr} {xs : List V} (e : KeepT H H') (h : SqT K H a xs) : SqT K H' a xs := by
  rcases h with (h | ⟨o, h⟩) | h
  · exact .inl (.inl (e _ _ trivial h))
  · exact .inl (.inr ⟨o, e _ _ trivial h⟩)
  · exact .inr h
mutual
theorem Dp.keep {K : PySem.W.Frag} {H H' : Hp} (e : KeepT H H') : ∀ {v : V} {d : PyData}, Dp K H v d → noList d = true → Dp K H' v d
  | _, _, .non, _ => .non
  | _, _, .bl b, _ => .bl b
  | _, _, .int i, _ => .int i
  | _, _, .str x, _ => .str x
  | _, _, .lst _ _, h => by cases h
  | _, _, .tup s r, h => .tup (SqT.keep e s) (DpAll.keep e r h)
theorem DpAll.keep {K : PySem.W.Frag} {H H' : Hp} (e : KeepT H H') : ∀ {v : List V} {d : List PyData}, DpAll K H v d → noLists d = true → DpAll K H' v d
  | _, _, .nil, _ => .nil
  | _, _, .cons a b, h => by
    have h' := Bool.and_eq_true_iff.mp h
    exact .cons (Dp.keep e a h'.1) (DpAll.keep e b h'.2)
end
theorem DpAll.snoc {K : PySem.W.Frag} {H : Hp} {y : V} {c : PyData} (hy : Dp K H y c) : ∀ {v : List V} {d : List PyData}, DpAll K H v d → DpAll K H (v ++ [y]) (d ++ [c])
  | _, _, .nil => .cons hy .nil
  | _, _, .cons a b => .cons a (DpAll.snoc hy b)
theorem DpAll.take {K : PySem.W.Frag} {H : Hp} : ∀ {v : List V} {d : List PyData} (n : Nat), DpAll K H v d → DpAll K H (v.take n) (d.take n)
  | _, _, 0, _ => .nil
  | _, _, _ + 1, .nil => .nil
  | _, _, n + 1, .cons a b => .cons a (DpAll.take n b)
theorem DpAll.set {K : PySem.W.Frag} {H : Hp} {y : V} {c : PyData} (hy : Dp K H y c) : ∀ {v : List V} {d : List PyData} (n : Nat), DpAll K H v d → DpAll K H (v.set n y) (d.set n c)
  | _, _, _, .nil => .nil
  | _, _, 0, .cons _ b => .cons hy b
  | _, _, n + 1, .cons a b => .cons a (DpAll.set hy n b)

theorem DpAll.ints {K : PySem.W.Frag} {H : Hp} : ∀ ns : List Int, DpAll K H (ns.map V.int) (ns.map .int)
  | [] => .nil
  | n :: r => .cons (.int n) (DpAll.ints r)
theorem lay_ints (ns : List Int) : PyData.canLayAll0 (ns.map .int) = true ∧ PyData.depthAll (ns.map .int) = 0 ∧ nodesAll (ns.map .int) = ns.length := by
  induction ns with
  | nil => exact ⟨rfl, rfl, rfl⟩
  | cons n r ih =>
    refine ⟨ih.1, ?_, ?_⟩
    · show max 0 (PyData.depthAll (r.map .int)) = 0
      rw [ih.2.1]
      rfl
    · show 1 + nodesAll (r.map .int) = r.length + 1
      rw [ih.2.2]
      omega
theorem shaped_ints (ns : List Int) : SeqAt.shaped (.list (ns.map .int)) = true := by
  obtain ⟨h1, h2, _⟩ := lay_ints ns
  show (PyData.canLayAll0 (ns.map .int) && decide (PyData.depthAll (ns.map .int) + 1 ≤ 64)) = true
  rw [h1, h2]
  rfl
/-- those of xs whose data is kept -/
def selV {α : Type} (k : α → Bool) (xs : List V) (ps : List α) : List V := ((xs.zip ps).filter fun z => k z.2).map Prod.fst
theorem DpAll.sel {α : Type} {K : PySem.W.Frag} {H : Hp} {k : α → Bool} {g : α → PyData} : ∀ {xs : List V} {ps : List α}, DpAll K H xs (ps.map g) → DpAll K H (selV k xs ps) ((ps.filter k).map g)
  | [], [], _ => .nil
  | _ :: _, [], h => by cases h
  | [], _ :: _, h => by cases h
  | x :: xs, p :: ps, h => by
    cases h with
    | cons a b =>
      have ih := DpAll.sel (k := k) b
      unfold selV at ih ⊢
      rw [List.zip_cons_cons, List.filter_cons, List.filter_cons]
      cases hk : k p
      · rw [if_neg (by simp [hk]), if_neg (by simp)]
        exact ih
      · rw [if_pos (by simp [hk]), if_pos rfl]
        exact .cons a ih
theorem selV_take {α : Type} {k : α → Bool} {xs : List V} {ps : List α} {i : Nat} {x : V} {p : α} (hx : xs[i]? = some x) (hp : ps[i]? = some p) :
    selV k (xs.take (i + 1)) (ps.take (i + 1)) = selV k (xs.take i) (ps.take i) ++ (if k p then [x] else []) := by
  unfold selV
  have tz : ∀ n, (xs.take n).zip (ps.take n) = (xs.zip ps).take n := fun n => by rw [List.zip_eq_zipWith, List.zip_eq_zipWith, List.take_zipWith]
  rw [tz, tz, List.take_add_one, (List.getElem?_zip_eq_some (z := (x, p))).mpr ⟨hx, hp⟩, List.filter_append, List.map_append]
  congr 1
  cases hk : k p <;> simp [hk]
theorem selV_len {α : Type} {k : α → Bool} {xs : List V} {ps : List α} : (selV k xs ps).length ≤ xs.length := by
  unfold selV
  rw [List.length_map]
  exact Nat.le_trans (List.length_filter_le _ _) (by rw [List.length_zip]; omega)

/-- the box of draws at B, n draws behind it at most -/
def Box (H : Hp) (B : Addr) (n : Nat) : Prop := ∃ b0 b1 b2 : Int, H B = some (.lst [.int b0, .int b1, .int b2]) ∧ 0 ≤ b0 ∧ 0 ≤ b1 ∧ b1 < 2147483647 ∧ 0 ≤ b2 ∧ b2 ≤ (n : Int)
theorem Box.mono {H : Hp} {B : Addr} {n m : Nat} (b : Box H B n) (h : n ≤ m) : Box H B m := by
  obtain ⟨b0, b1, b2, e, h0, h1, h2, h3, h4⟩ := b
  exact ⟨b0, b1, b2, e, h0, h1, h2, h3, by omega⟩
theorem Box.some {H : Hp} {B : Addr} {n : Nat} (b : Box H B n) : ∃ o, H B = some o := by
  obtain ⟨b0, b1, b2, e, _⟩ := b
  exact ⟨_, e⟩
theorem Box.keep {H H' : Hp} {B : Addr} {n : Nat} (b : Box H B n) (s : Same H H') : Box H' B n := by
  obtain ⟨b0, b1, b2, e, h⟩ := b
  exact ⟨b0, b1, b2, s _ _ e, h⟩
theorem Box.put {H : Hp} {B p : Addr} {n : Nat} {o : HO} (b : Box H B n) (h : p ≠ B) : Box (upd H p o) B n := by
  obtain ⟨b0, b1, b2, e, r⟩ := b
  exact ⟨b0, b1, b2, by rw [upd_ne h.symm]; exact e, r⟩
theorem Box.ne {H : Hp} {B p : Addr} {n : Nat} (b : Box H B n) (h : H p = none) : p ≠ B := by
  obtain ⟨o, e⟩ := b.some
  exact (ne_of_none e h).symm
theorem Fr.kt {H H' : Hp} {B : Addr} {n : Nat} (f : Fr [B] H H') (b : Box H B n) : KeepT H H' := fun t u i e => by
  have hn : t ≠ B := fun q => by
    obtain ⟨b0, b1, b2, hB, _⟩ := b
    rw [q, hB] at e
    cases e
    exact i
  exact f t u (by simp [hn]) e
theorem atI_in {xs : List V} {r : Int} (h0 : 0 ≤ r) (h1 : r < xs.length) : ∃ v, atI xs r = some v ∧ v ∈ xs := by
  obtain ⟨j, rfl⟩ := Int.eq_ofNat_of_zero_le h0
  have hj : j < xs.length := by omega
  exact ⟨xs[j], atI_nat (List.getElem?_eq_getElem hj), List.getElem_mem hj⟩
theorem walk_range0 {n : Nat} : Walk (Itr 0 n) n (fun _ => True) (YFn fun i => .int ((i : Nat) : Int)) :=
  walk_range.mono (fun _ h => h) fun i H x H' _ _ y => ⟨y.1, by rw [y.2]; show V.int (0 + (i : Int)) = V.int (i : Int); rw [Int.zero_add]⟩
theorem iteD {p A B : Prop} [Decidable p] (h1 : p → A) (h2 : ¬ p → B) : if decide p = true then A else B := by
  by_cases h : p
  · rw [if_pos (decide_eq_true h)]; exact h1 h
  · rw [if_neg (by rw [decide_eq_false h]; exact Bool.false_ne_true)]; exact h2 h
theorem iteND {p A B : Prop} [Decidable p] (h1 : ¬ p → A) (h2 : p → B) : if (!decide p) = true then A else B := by
  by_cases h : p
  · rw [decide_eq_true h]; exact iteF (h2 h)
  · rw [decide_eq_false h]; exact iteT (h1 h)
theorem iteDS {p A B : Prop} [Decidable p] (h : p) (a : A) : if decide p = true then A else B := by rw [if_pos (decide_eq_true h)]; exact a
theorem iteDN {p A B : Prop} [Decidable p] (h : ¬ p) (b : B) : if decide p = true then A else B := by rw [decide_eq_false h]; exact iteF b
theorem iteNDN {p A B : Prop} [Decidable p] (h : ¬ p) (a : A) : if (!decide p) = true then A else B := by rw [decide_eq_false h]; exact iteT a
theorem ixN_nat {n j : Nat} (h : j < n) : ixN n (j : Int) = some j := by
  unfold ixN
  rw [if_pos (by omega), if_pos (by omega), Int.toNat_natCast]
def rLenK (K : PySem.W.Frag) : List V → Hp → VK → Prop := fun xs H Q => ∃ p ys, xs = [.ref p] ∧ (SqL K H p ys ∨ SqT K H p ys) ∧ Q (.int ys.length) H
theorem call_len_seqK {X : Cx} {K : PySem.W.Frag} (h : X.K = K) : CallR X (.builtin "len") (rLenK K) := by
  subst h
  exact call_len_seq
theorem atI_last {xs : List V} {x : V} (h : xs[xs.length - 1]? = some x) : atI xs (-1) = some x := by
  have hl : xs.length - 1 < xs.length := (List.getElem?_eq_some_iff.mp h).1
  have e : ixN xs.length (-1) = some (xs.length - 1) := by
    unfold ixN
    rw [if_neg (by decide), if_pos (by omega)]
    congr 1
    omega
  unfold atI
  rw [e]
  exact h
theorem ixN_last {n : Nat} (h : 0 < n) : ixN n (-1) = some (n - 1) := by
  unfold ixN
  rw [if_neg (by decide), if_pos (by omega)]
  congr 1
  omega
theorem vals3 {a b c : V} {us : List Value} (r : Vals [a, b, c] us) : ∃ x y z, us = [x, y, z] ∧ RelV a x ∧ RelV b y ∧ RelV c z := by
  cases r with
  | cons r1 r => cases r with
    | cons r2 r => cases r with
      | cons r3 r => cases r; exact ⟨_, _, _, rfl, r1, r2, r3⟩
def max3 (i j k : Int) : Int := if k > (if j > i then j else i) then k else (if j > i then j else i)
theorem call_max3 {X : Cx} (hc : X.calm = true) : CallR X (.builtin "max") (fun xs H Q => ∃ i j k, xs = [.int i, .int j, .int k] ∧ Q (.int (max3 i j k)) H) := by
  intro pins s σ H xs us Q I r h
  obtain ⟨i, j, k, rfl, q⟩ := h
  obtain ⟨u, v, w', rfl, ⟨t, rfl⟩, ⟨t', rfl⟩, ⟨t'', rfl⟩⟩ := vals3 r
  refine max_three_ints (I.ok.hd hc) fun h' tk kk => ⟨_, H, I.kept kk, ?_, q⟩
  unfold max3
  by_cases h1 : j > i
  · rw [if_pos h1, if_pos h1]
    by_cases h2 : k > j
    · rw [if_pos h2, if_pos h2]; exact ⟨_, rfl⟩
    · rw [if_neg h2, if_neg h2]; exact ⟨_, rfl⟩
  · rw [if_neg h1, if_neg h1]
    by_cases h2 : k > i
    · rw [if_pos h2, if_pos h2]; exact ⟨_, rfl⟩
    · rw [if_neg h2, if_neg h2]; exact ⟨_, rfl⟩
theorem putF_len (f : Str) (v : V) : ∀ l : List (Str × V), (putF f v l).length ≤ l.length + 1
  | [] => Nat.le_refl _
  | (g, w) :: r => by
    unfold putF
    split
    · exact Nat.le_succ _
    · have := putF_len f v r
      simp only [List.length_cons]
      omega
theorem putF_few {f : Str} {v : V} {l : List (Str × V)} {n : Nat} (h : l.length ≤ n) : (putF f v l).length ≤ n + 1 := Nat.le_trans (putF_len f v l) (Nat.succ_le_succ h)
theorem putF_ok {l : List (Str × V)} {n : Nat} (h : l.length ≤ n) (hn : n < 1000) : l.length < 1000 := Nat.lt_of_le_of_lt h hn
theorem ix3 {a b c : V} : (atI [a, b, c] 0 = some a ∧ atI [a, b, c] 1 = some b ∧ atI [a, b, c] 2 = some c) := ⟨rfl, rfl, rfl⟩

theorem log2_ok {x : Int} (h : x.natAbs < 2 ^ 200) : x.natAbs.log2 < 1920 := by
  by_cases h0 : x.natAbs = 0
  · rw [h0]; decide
  · exact Nat.lt_of_lt_of_le ((Nat.log2_lt h0).mpr h) (by decide)
theorem log2_ok18 {x : Int} (h : x.natAbs < 10 ^ 18) : x.natAbs.log2 < 1920 := log2_ok (Nat.lt_of_lt_of_le h (by decide))
theorem ite01 (b : Bool) : (0 : Int) ≤ (if b = true then 1 else 0) := by cases b <;> decide
theorem pe_globE {X : Cx} {x : Str} {v : V} {pos : Pos} (hg : Gl X x) (h : ∃ u, X.mg x = some u ∧ RelV v u) (hd : (x == ("__debug__" : Str)) = false := by decide) : PE X (.Name x pos) (tC v) := by
  obtain ⟨u, hm, r⟩ := h
  exact pe_glob hg hm r hd
/-- s.rpartition(t) -/
theorem mt_rpartition {X : Cx} : MtR X "str.rpartition" (fun x xs H Q => ∃ a b, x = .str a ∧ xs = [.str b] ∧ (b.length == 0) = false ∧ a.length ≤ sizeLine ∧
    ∀ p, H p = none → Q (.ref p) (upd H p (.tup [.str (Txt.rpartition a b).1, .str (Txt.rpartition a b).2.1, .str (Txt.rpartition a b).2.2]))) := by
  intro pins s σ H x xs v us Q I rx rs h
  obtain ⟨a, b, rfl, rfl, hb, hz, h⟩ := h
  obtain ⟨t, rfl⟩ := rx
  cases rs with
  | cons r1 rs =>
    cases rs
    obtain ⟨u, rfl⟩ := r1
    refine call_meets F.slot_str_rpartition (typeIs_str _ _ _) F.entry_str_rpartition (F.args_str_rpartition_2 _ _) (meets_str_rpartition a b t u hb hz) ?_
    unfold Txt.rpartition at h
    revert h
    cases Builtin.Str.lastOccurrence a b 0 a.length with
    | none => intro h; exact laid_parts I h
    | some i => intro h; exact laid_parts I h
end Z
/-! defs that run while no repr is under way; repr and str of data -/
namespace Z
open PySem L2 PySem.Spec PyProof.Rows

/-- a promise that is kept wherever no repr is under way -/
structure FnG (P : Program) (w : World) (K : PySem.W.Frag) (mg : Str → Option Value) (base : Heap) (k : Nat) (f : Addr) (fd : FuncData)
    (ps : List Str) (sp : Sp) : Prop where
  size : ∀ vs H Q E, sp vs H Q E → vs.length = ps.length
  goes : ∀ (A : Around) (outer : List Env) (s : Shared) (H : Hp) (args : Args) (us : List Value) (vs : List V) (Q : VK) (E : XK),
    Room k A → A.guards = some [] → Env0 P w K mg base A outer s H → BindsTo s fd args (ps.zip us) → Vals vs us → sp vs H Q E →
    codeAny (model P w) A (.call (.ref f) args) (CR CX0 outer P w H s Q E) s
section
variable {P : Program} {w : World} {K : PySem.W.Frag} {mg : Str → Option Value} {base : Heap} {k : Nat} {f : Addr} {fd : FuncData} {ps : List Str} {sp : Sp}
theorem FnG.of (F : FnOk P w K mg base CX0 k f fd ps sp) : FnG P w K mg base k f fd ps sp :=
  ⟨F.len, fun A outer s H args us vs Q E hr _ => F.run A outer s H args us vs Q E hr⟩
theorem FnG.fit (F : FnG P w K mg base k f fd ps sp) {j : Nat} (h : k ≤ j) : FnG P w K mg base j f fd ps sp :=
  ⟨F.size, fun A outer s H args us vs Q E hr => F.goes A outer s H args us vs Q E (hr.mono h)⟩
/-- its body, in a frame of which it is known that no repr is under way -/
theorem okG {x qual : Str} {st : Stmt} {N : List Str} (F : Fun K x qual st f fd) (S : FnScope N ps (defScope st))
    (len : ∀ vs H Q E, sp vs H Q E → vs.length = ps.length)
    (body : ∀ (cdv : Value) (A : Around) (outer : List Env) (s : Shared) (H : Hp) (vs : List V) (Q : VK) (E : XK),
      Room k (A.deeper (envOfC qual (defScope st) s.heap.objs.size f cdv)) →
      (A.deeper (envOfC qual (defScope st) s.heap.objs.size f cdv)).guards = some [] → sp vs H Q E →
      ∃ t, PSs (cxOf CX0 P w K mg base N qual (defScope st) f cdv A outer s H E).nox (defBody st) t ∧
        t { nx := fun _ H' => Q .non H', rt := Q } (start N vs) H) :
    FnG P w K mg base (k + 1) f fd ps sp := by
  obtain ⟨oc, od, kV, doc, pm, an, cdv, ct, osl, rfl, at_f, code⟩ := F.ex
  refine ⟨len, fun A outer s H args us vs Q E room calm start0 binds rel want => ?_⟩
  have here : K.In s.heap := start0.mod.kin.keeps fun b o e => (start0.bs b o e).1
  have nolim : s.heap.NoLimit := start0.mod.nolimit.keeps fun b o e => (start0.bs b o e).1
  obtain ⟨t, der, rd⟩ := body cdv A outer s H vs Q E (room.deeper _) calm want
  have kinds : ∀ y ∈ ps.zip us, (defScope st).names.lookup y.1 = some .local ∨
      ((defScope st).names.lookup y.1 = some .cell ∧ ((cellsFrom (s.heap.objs.size + 1) (defScope st).names []).lookup y.1).isSome = true) := by
    rintro ⟨n, v⟩ hy
    refine (S.par n (List.of_mem_zip hy).1).imp id fun q => ⟨q, PySem.W.cellsFrom_some _ _ _ (.inl q)⟩
  refine codeAny_call_function room.depth (here _ _ at_f) rfl S.co S.gen rfl (PySem.W.codeRec_of here code) (binds _ _ _ _ ?_)
  refine wpAny_newFunctionEnv_cells S.kind kinds fun env he s1 inside => ?_
  subst he
  refine ⟨nolim.keeps inside.toInCall.keep, codeAny_func ?_⟩
  have I := inv_start (CX := CX0) (E := E) S room.hd start0 (len _ _ _ _ want) rel inside
  refine wpAny_mono (der.nox.run [] s1 (start N vs) H _ I rd) (fun fl s' ends => ?_) fun e s' ends => ends
  cases fl with
  | ret u => obtain ⟨v, σ', H', J, rv, q⟩ := ends; exact ⟨v, H', J.os, J.bare, J.base, J.hok, rv, q⟩
  | next => obtain ⟨σ', H', J, q⟩ := ends; exact ⟨.non, H', J.os, J.bare, J.base, J.hok, rfl, q⟩
  | brk => obtain ⟨_, _, _, q⟩ := ends; exact q.elim
  | cont => obtain ⟨_, _, _, q⟩ := ends; exact q.elim
end
section
variable {X : Cx} {k : Nat} {f : Addr} {fd : FuncData} {ps : List Str} {sp : Sp} {dvs : List V} {ds : List Value} {x : Str} {p pos : Pos} {e : Expr} {es : List Expr} {t : TA}
/-- such a callee runs -/
theorem runG {pins : List (Addr × Obj)} {σ : L2.St} {H : Hp} {s : Shared} {Q : VK} {us : List Value} {vs : List V} (F : FnG X.prog X.w X.K X.mg X.base k f fd ps sp)
    (hr : Room k X.A) (calm : X.A.guards = some []) (hb : Binds X.K fd ps ds) (hd : Vals dvs ds) (I : Inv X pins σ H s) (r : Vals vs us)
    (h : sp (vs ++ dvs) H Q E0) : wpAny (model X.prog X.w) X.A (call (.ref f) us) (EP X pins σ Q) X.xe s := by
  have both : Vals (vs ++ dvs) (us ++ ds) := r.append hd
  have enough : (us ++ ds).length = ps.length := both.length ▸ F.size _ _ _ _ h
  refine wpAny_call (codeAny_mono (F.goes X.A X.stack s H ⟨us, []⟩ _ _ Q E0 hr calm I.env0 (hb s us I.kIn enough) both h) fun res s' out => ?_)
  match res, out with
  | .ok (.ret u), out => exact I.after out
  | .ok .next, out => exact (out : False).elim
  | .ok .brk, out => exact (out : False).elim
  | .ok .cont, out => exact (out : False).elim
  | .error _, out => exact (out : False).elim
theorem pe_callG (F : FnG X.prog X.w X.K X.mg X.base k f fd ps sp) (hr : Room k X.A) (calm : X.A.guards = some []) (hg : Gl X x)
    (hm : X.mg x = some (.ref f)) (hk : PySem.W.keepIn X.K (.ref f) = true) (hb : Binds X.K fd ps ds) (hd : Vals dvs ds) (ha : PA X (e :: es) t)
    (nodebug : (x == ("__debug__" : Str)) = false := by decide)
    (nostar : starEach (e :: es) X.env = (false, eval e X.env) :: starEach es X.env := by rfl)
    (plain : (backTo pos (starEach es X.env)).any (·.1) = false := by rfl) : PE X (.Call (.Name x p) (e :: es) [] pos) (tCall sp dvs E0 t) :=
  ⟨fun pins s σ H Q I h => wpAny_Call_Name_kw (ld_glob I hg hm
    (PySem.W.callWith_K (h₀ := X.base) I.ok.mod.kin hk (thn (ha.run pos pins s σ H _ I h) fun us s1 ⟨vs, H1, I1, r, q⟩ =>
      ⟨I1.kIn, runG F hr calm hb hd I1 r q⟩) nostar plain) nodebug)⟩
theorem pe_callG0 (F : FnG X.prog X.w X.K X.mg X.base k f fd ps sp) (hr : Room k X.A) (calm : X.A.guards = some []) (hg : Gl X x)
    (hm : X.mg x = some (.ref f)) (hk : PySem.W.keepIn X.K (.ref f) = true) (hb : Binds X.K fd ps ds) (hd : Vals dvs ds)
    (nodebug : (x == ("__debug__" : Str)) = false := by decide) : PE X (.Call (.Name x p) [] [] pos) (tCall sp dvs E0 tNil) :=
  ⟨fun pins s σ H Q I h => wpAny_Call_Name_kw (ld_glob I hg hm (PySem.W.callWith_K0 I.kIn hk (runG (us := []) F hr calm hb hd I .nil h)) nodebug)⟩
end

/-! the law's call, its def being such a one -/
theorem law_callG {P : Program} {w : World} {K : PySem.W.Frag} {mg mb : Str → Option Value} {k : Nat} {fa a : Addr} {fd : FuncData} {x : Str} {sp : Sp} {s₁ : Shared} {vs : List Value} {ns : List Int}
    (kin : K.In s₁.heap) (ng : s₁.heap.Ns mainGlobals mg) (nb : s₁.heap.Ns builtinsNs mb) (boot : ∀ x : Str, x ≠ "__name__" → mb x = bootBuiltins x)
    (nolim : s₁.heap.NoLimit) (nogen : s₁.gens = #[]) (at_a : s₁.heap.get? a = some { cls := .type "list", data := .seq vs.toArray })
    (ints_ : IntsAre vs ns) (few : ns.length ≤ sizeLine) (room : Room k callerA)
    (F : ∀ base : Heap, K.In base → base.Ns mainGlobals mg → FnG P w K mg base k fa fd [x] sp) (bind : ∀ (s : Shared) (u : Value), BindsTo s fd ⟨[u], []⟩ [(x, u)])
    (want : ∀ H : Hp, Only H → SqL K H a (ns.map V.int) → sp [.ref a] H (fun v _ => v = .bl true) fun _ _ _ => False) :
    codeAny (model P w) callerA (.call (.ref fa) ⟨[.ref a], []⟩)
      (fun r s' => r = .ok (.ret (.bool true)) ∧ OldK s₁.heap s'.heap ∧ s'.os = s₁.os ∧ AllBare s'.gens) s₁ := by
  have rel := vals_ints ints_
  have one : ∀ H : Hp, Only H → SqL K H a (ns.map V.int) → HOk P w H s₁.heap → (∀ b, H b ≠ none → b = a) → (H a ≠ none → K.lookup a = none) →
      codeAny (model P w) callerA (.call (.ref fa) ⟨[.ref a], []⟩)
        (fun r s' => r = .ok (.ret (.bool true)) ∧ OldK s₁.heap s'.heap ∧ s'.os = s₁.os ∧ AllBare s'.gens) s₁ := fun H only sq hok alone noK => by
    have dictOut : ∀ {b : Addr} {o : Obj} {es : Array DictEntry} {ep : Nat}, s₁.heap.get? b = some o → o.data = .dict es ep → H b = none := by
      intro b o es ep e d
      refine Option.eq_none_iff_forall_ne_some.mpr fun u q => ?_
      have hb := alone b (q ▸ Option.some_ne_none u)
      rw [hb, at_a] at e
      injection e with e
      rw [← e] at d
      exact Data.noConfusion d
    have nsIn : ∀ {b : Addr} {m : Str → Option Value}, s₁.heap.Ns b m → (hidT s₁.heap H).Ns b m := by
      rintro b m ⟨o, es, ep, e, d, r⟩
      exact ⟨o, es, ep, hidT_get e (dictOut e d), d, r⟩
    have kb : K.In (hidT s₁.heap H) := fun b o e => hidT_get (kin b o e) (Option.eq_none_iff_forall_ne_some.mpr fun u q => by
      have hb := alone b (q ▸ Option.some_ne_none u)
      rw [hb] at q e
      rw [noK (q ▸ Option.some_ne_none u)] at e
      cases e)
    have lim' : (hidT s₁.heap H).NoLimit := by
      obtain ⟨mc, h1, h2⟩ := nolim
      exact ⟨mc, nsIn h1, h2⟩
    have start0 : Env0 P w K mg (hidT s₁.heap H) callerA [] s₁ H :=
      ⟨rfl, ⟨kb, nsIn ng, ⟨mb, nsIn nb, boot⟩, lim'⟩, fun b o e => of_hidT e, Nat.le_of_eq (hidT_size _ _), trivial, (fun b hb => (List.not_mem_nil hb).elim), hok, .of_eq nogen⟩
    refine codeAny_mono ((F _ kb (nsIn ng)).goes callerA [] s₁ H ⟨[.ref a], []⟩ [.ref a] [.ref a] _ _ room rfl start0 (bind s₁ (.ref a)) (.cons rfl .nil) (want H only sq)) ?_
    intro res s' out
    match res, out with
    | .ok .next, out => exact (out : False).elim
    | .ok .brk, out => exact (out : False).elim
    | .ok .cont, out => exact (out : False).elim
    | .error _, out => exact (out : False).elim
    | .ok (.ret u), out =>
      obtain ⟨v, H', os, bare, un, hok', rv, q⟩ := out
      cases (show v = .bl true from q)
      cases (show u = Value.bool true from rv)
      refine ⟨rfl, OldK.of_keep fun b o e => ?_, os, bare⟩
      rcases only b with z | ⟨ob, xs, z⟩
      · exact un.keep b o e z (fun q => by cases q) (fun q => by cases q)
      · have e1 := (hok b _ z).1
        have e2 := (hok' b _ (un.frzs b ob _ z)).1
        rw [e] at e1
        injection e1 with e1
        rw [e1]
        exact e2
  by_cases hk : K.lookup a = none
  · refine one (fun b => if b = a then some (.frz { cls := .type "list", data := .seq vs.toArray } (.lst (ns.map V.int))) else none) (fun b => ?_)
      (.inl (.inr ⟨_, if_pos rfl⟩)) (fun b u z => ?_) (fun b z => ?_) fun _ => hk
    · exact if h : b = a then .inr ⟨_, _, if_pos h⟩ else .inl (if_neg h)
    · refine if h : b = a then ?_ else ?_
      · dsimp only at z
        rw [if_pos h] at z
        cases z
        rw [h]
        exact ⟨at_a, by rw [List.length_map]; exact few, vs, _, rel, at_a⟩
      · dsimp only at z
        rw [if_neg h] at z
        cases z
    · exact Decidable.byContradiction fun h => z (if_neg h)
  · obtain ⟨o, ho⟩ := Option.ne_none_iff_exists'.mp hk
    have e := kin a o ho
    rw [at_a] at e
    injection e with e
    refine one (fun _ => none) (fun _ => .inl rfl) (.inr ⟨_, vs.toArray, _, ho, by rw [← e], by rw [← e], by rw [← e], ?_, ?_⟩) (fun b u z => by cases z) (fun b z => (z rfl).elim) fun z => (z rfl).elim
    · rw [List.size_toArray, ints_.length]
      exact few
    · simpa using rel
theorem walk_ofG {l : PySem.W.OpenLaw} {n k : Nat} {q : Program} {loose : List Str} {XP : (Str → Option Value) → Heap → Prop} {YP : World → Heap → Prop} {d : DefRec} {K : Params → PySem.W.Frag}
    {sp : PySem.W.Frag → Sp} {x : Str} (most : l.most = some n) (line : n ≤ sizeLine) (nodef : d.params.defaults = []) (room : Room k callerA)
    (kin : ∀ (w : World) (h : Heap), YP w h → (K w.params).In h)
    (F : ∀ (w : World) (mg : Str → Option Value) (fa : Addr) (h : Heap), (K w.params).In h → h.Ns mainGlobals mg → mg d.name = some (.ref fa) →
      ∃ fd : FuncData, (∀ (s : Shared) (u : Value), BindsTo s fd ⟨[u], []⟩ [(x, u)]) ∧
        ∀ base : Heap, (K w.params).In base → base.Ns mainGlobals mg → FnG l.prog w (K w.params) mg base k fa fd [x] (sp (K w.params)))
    (want : ∀ (K : PySem.W.Frag) (H : Hp) (a : Addr) (ns : List Int), ns.length ≤ n → Only H → SqL K H a (ns.map V.int) → sp K [.ref a] H (fun v _ => v = .bl true) fun _ _ _ => False) :
    PySem.W.WalkO q loose XP YP l.row.toRowW d [] (fun f vs => PySem.call f vs) := by
  refine Att.attach_call most nodef fun w s₀ s₁ mg mb fa o pm cd doc a vs ns G Y ho hd hcd hmg hobj hints hlen hg => ?_
  obtain ⟨fd, hb, hF⟩ := F w mg fa _ (kin w _ Y) G.T.g hmg
  exact law_callG (kin w _ Y) G.T.g G.T.b G.T.builtins G.T.nolimit hg hobj hints (Nat.le_trans hlen line) room hF hb fun H only sq => want _ H a ns hlen only sq
end Z
namespace Z
open PySem L2 PySem.Spec PyProof.Rows
section
variable {X : Cx}
mutual
theorem Dp.plain {K : PySem.W.Frag} {H : Hp} : ∀ {v : V} {d : PyData}, Dp K H v d → d.hasDict = false
  | _, _, .non => rfl
  | _, _, .bl _ => rfl
  | _, _, .int _ => rfl
  | _, _, .str _ => rfl
  | _, _, .lst _ r => DpAll.plain r
  | _, _, .tup _ r => DpAll.plain r
theorem DpAll.plain {K : PySem.W.Frag} {H : Hp} : ∀ {v : List V} {d : List PyData}, DpAll K H v d → PyData.hasDictAll d = false
  | _, _, .nil => rfl
  | _, _, .cons a b => by
    show (PyData.hasDict _ || PyData.hasDictAll _) = false
    rw [Dp.plain a, DpAll.plain b]
    rfl
end
/-- repr(x), x a list or a tuple of data -/
theorem call_reprD (calm : X.A.guards = some []) (hu : X.A.units + 64 < cLine) : CallR X (.builtin "repr") (fun xs H Q => ∃ (a : Addr) (d : PyData), xs = [.ref a] ∧ Dp X.K H (.ref a) d ∧
    d.showable = true ∧ d.depth ≤ 60 ∧ d.shown.length ≤ sizeLine ∧ Q (.str d.shown) H) := by
  intro pins s σ H xs us Q I r h
  obtain ⟨a, d, rfl, hd, sh, dp, sz, q⟩ := h
  obtain ⟨u, rfl, rx⟩ := vals1 r
  obtain ⟨as, rd⟩ := Dp.reads I d _ u hd rx
  cases (show u = Value.ref a from rx)
  exact repr_of_reads' rd sh (PyData.noDict_hsm (Dp.plain hd)) calm (by omega) (fun _ _ e => e) (fun h' u tk hk => ⟨.str d.shown, H, I.kept (t' := tk) hk, ⟨u, rfl⟩, q⟩) sz
/-- str(x), x a list or a tuple of data -/
theorem call_strD (calm : X.A.guards = some []) (hu : X.A.units + 64 < cLine) : CallR X (.type "str") (fun xs H Q => ∃ (a : Addr) (d : PyData), xs = [.ref a] ∧ Dp X.K H (.ref a) d ∧
    d.showable = true ∧ d.depth ≤ 60 ∧ d.shown.length ≤ sizeLine ∧ Q (.str d.shown) H) := by
  intro pins s σ H xs us Q I r h
  obtain ⟨a, d, rfl, hd, sh, dp, sz, q⟩ := h
  obtain ⟨u, rfl, rx⟩ := vals1 r
  obtain ⟨as, rd⟩ := Dp.reads I d _ u hd rx
  cases (show u = Value.ref a from rx)
  exact str_of_reads rd sh (PyData.noDict_hsm (Dp.plain hd)) calm (by omega) (fun _ _ e => e) (fun h' u tk hk => ⟨.str d.shown, H, I.kept (t' := tk) hk, ⟨u, rfl⟩, q⟩) sz
end
end Z
/-! carrying facts along heaps -/
namespace Z
open PySem L2
theorem Same.at {H H' : Hp} {p : Addr} {o : HO} (s : Same H H') (h : H p = some o) : H' p = some o := s _ _ h
theorem Fr.at1 {H H' : Hp} {B p : Addr} {o : HO} (f : Fr [B] H H') (n : p ≠ B) (h : H p = some o) : H' p = some o := f p o (by simp [n]) h
theorem upd_at {H : Hp} {p q : Addr} {o u : HO} (n : q ≠ p) (h : H q = some o) : upd H p u q = some o := by rw [upd_ne n]; exact h
theorem upd_new {H : Hp} {p q : Addr} {o u : HO} (n : H p = none) (h : H q = some o) : upd H p u q = some o := by rw [upd_ne (ne_of_none h n)]; exact h
theorem KeepT.bySame {H H1 H2 : Hp} (s : Same H1 H2) (k : KeepT H H1) : KeepT H H2 := k.trans (Same.kt s)
theorem KeepT.byFr {H H1 H2 : Hp} {B : Addr} {n : Nat} (f : Fr [B] H1 H2) (b : Box H1 B n) (k : KeepT H H1) : KeepT H H2 := k.trans (f.kt b)
theorem Fr.bySame {H H1 H2 : Hp} {M : List Addr} (s : Same H1 H2) (f : Fr M H H1) : Fr M H H2 := f.trans (Same.fr s)
theorem Fr.byFr {H H1 H2 : Hp} {M : List Addr} (g : Fr M H1 H2) (f : Fr M H H1) : Fr M H H2 := f.trans g
theorem Same.bySame {H H1 H2 : Hp} (s : Same H1 H2) (f : Same H H1) : Same H H2 := f.trans s
theorem Box.bySame {H H' : Hp} {B : Addr} {n : Nat} (s : Same H H') (b : Box H B n) : Box H' B n := b.keep s
theorem Dp.bySame {K : PySem.W.Frag} {H H' : Hp} {v : V} {d : PyData} (s : Same H H') (h : Dp K H v d) : Dp K H' v d := Dp.mono s h
theorem Dp.byFr {K : PySem.W.Frag} {H H' : Hp} {v : V} {d : PyData} {B : Addr} {n : Nat} (f : Fr [B] H H') (b : Box H B n) (nl : noList d = true) (h : Dp K H v d) : Dp K H' v d := Dp.keep (f.kt b) h nl
theorem DpAll.bySame {K : PySem.W.Frag} {H H' : Hp} {v : List V} {d : List PyData} (s : Same H H') (h : DpAll K H v d) : DpAll K H' v d := DpAll.mono s h
theorem DpAll.byFr {K : PySem.W.Frag} {H H' : Hp} {v : List V} {d : List PyData} {B : Addr} {n : Nat} (f : Fr [B] H H') (b : Box H B n) (nl : noLists d = true) (h : DpAll K H v d) : DpAll K H' v d := DpAll.keep (f.kt b) h nl
theorem SqT.bySame {K : PySem.W.Frag} {H H' : Hp} {a : Addr} {xs : List V} (s : Same H H') (h : SqT K H a xs) : SqT K H' a xs := SqT.mono s h
theorem SqT.byFr {K : PySem.W.Frag} {H H' : Hp} {a : Addr} {xs : List V} {B : Addr} {n : Nat} (f : Fr [B] H H') (b : Box H B n) (h : SqT K H a xs) : SqT K H' a xs := SqT.keep (f.kt b) h
theorem SqL.bySame {K : PySem.W.Frag} {H H' : Hp} {a : Addr} {xs : List V} (s : Same H H') (h : SqL K H a xs) : SqL K H' a xs := SqL.mono s h
theorem Box.byPut {H : Hp} {B p : Addr} {n : Nat} {o : HO} (h : p ≠ B) (b : Box H B n) : Box (upd H p o) B n := b.put h
theorem Fr.byPut {M : List Addr} {H H' : Hp} {p : Addr} {o : HO} (h : p ∈ M) (f : Fr M H H') : Fr M H (upd H' p o) := f.put h
theorem none_of_same {H H' : Hp} {p : Addr} (s : Same H H') (h : H' p = none) : H p = none := by
  cases e : H p with
  | none => rfl
  | some o => rw [s _ _ e] at h; cases h
end Z
/-! tuples cut and put together, by what is to be read there -/
namespace Z
open PySem L2
theorem cut_to (xs : List V) (k : Nat) : cutV xs none (some (k : Int)) = xs.take k := by
  unfold cutV
  rw [HT.sIx_nat, HT.sIx_none, List.drop_zero, Nat.sub_zero]
  by_cases h : k ≤ xs.length
  · rw [Nat.min_eq_left h]
  · rw [Nat.min_eq_right (by omega), List.take_length, List.take_of_length_le (by omega)]
theorem cut_from (xs : List V) (k : Nat) : cutV xs (some (k : Int)) none = xs.drop k := by
  unfold cutV
  rw [HT.sIx_nat, HT.sIx_none]
  by_cases h : k ≤ xs.length
  · rw [Nat.min_eq_left h, List.take_of_length_le (by rw [List.length_drop]; omega)]
  · rw [Nat.min_eq_right (by omega), List.drop_length, List.take_nil, List.drop_of_length_le (by omega)]
theorem cut_mid (xs : List V) (k l : Nat) : cutV xs (some (k : Int)) (some (l : Int)) = (xs.take l).drop k := by
  unfold cutV
  rw [HT.sIx_nat, HT.sIx_nat, List.drop_take]
  by_cases h : k ≤ xs.length
  · rw [Nat.min_eq_left h]
    by_cases h2 : l ≤ xs.length
    · rw [Nat.min_eq_left h2]
    · rw [Nat.min_eq_right (by omega), List.take_of_length_le (by rw [List.length_drop]; omega), List.take_of_length_le (by rw [List.length_drop]; omega)]
  · rw [show min k xs.length = xs.length by omega, List.drop_length, List.drop_of_length_le (show xs.length ≤ k by omega), List.take_nil, List.take_nil]
theorem sl_of {K : PySem.W.Frag} {H : Hp} {a : Addr} {xs : List V} {lo hi : Option Int} {Q : VK} (h : SqT K H a xs)
    (q : ∀ p H', Same H H' → SqT K H' p (cutV xs lo hi) → Q (.ref p) H') : rSlA K (.ref a) lo hi H Q := by
  refine ⟨a, xs, rfl, h, fun e => q a H (Same.refl _) ?_, fun _ p hp => q p _ (Same.new hp) (SqT.of upd_same)⟩
  unfold cutV
  rw [e.1, e.2, List.drop_zero, Nat.sub_zero, List.take_length]
  exact h
theorem cat_of {K : PySem.W.Frag} {H : Hp} {a b : Addr} {xs ys : List V} {Q : VK} (h : SqT K H a xs) (h2 : SqT K H b ys) (hl : xs.length + ys.length ≤ sizeLine)
    (q : ∀ p H', Same H H' → SqT K H' p (xs ++ ys) → Q (.ref p) H') : rCatA K (.ref a) (.ref b) H Q := by
  refine ⟨a, b, xs, ys, rfl, rfl, h, h2, hl, fun e => ?_, fun _ e => ?_, fun _ _ p hp => q p _ (Same.new hp) (SqT.of upd_same)⟩
  · subst e
    exact q b H (Same.refl _) h2
  · subst e
    exact q a H (Same.refl _) (by rw [List.append_nil]; exact h)
end Z
/-! defs with defaults -/
namespace Z
open PySem L2 PySem.Spec PyProof.Rows
section
variable {P : Program} {w : World} {K : PySem.W.Frag} {mg : Str → Option Value} {base : Heap} {x qual : Str} {params : Arguments} {body : List Stmt} {scope : Scope} {dvs : List V} {kws : List (Str × V)} {f : Addr} {fd : FuncData}
theorem okD {N ps : List Str} {k : Nat} {sp : Sp} (F : FunD K x qual params body scope dvs kws f fd) (S : FnScope N ps scope) (len : ∀ vs H Q E, sp vs H Q E → vs.length = ps.length)
    (walk : ∀ (cdv : Value) (A : Around) (outer : List Env) (s : Shared) (H : Hp) (vs : List V) (Q : VK) (E : XK), Room k (A.deeper (envOfC qual scope s.heap.objs.size f cdv)) → sp vs H Q E →
      ∃ t, PSs (cxOf CX0 P w K mg base N qual scope f cdv A outer s H E).nox body t ∧ t { nx := fun _ H' => Q .non H', rt := Q } (start N vs) H) : FnOk P w K mg base CX0 (k + 1) f fd ps sp :=
  FunD.ok F S len fun cdv A outer s H vs Q E hr h => by
    obtain ⟨t, der, rd⟩ := walk cdv A outer s H vs Q E hr h
    exact ⟨t, der.nox, rd⟩
theorem binds_full {ps : List Str} (F : FunD K x qual params body scope dvs kws f fd)
    (h : ∀ (dV kV doc pm : Value) (an : Option Addr) (cdv ct : Value) (us : List Value), us.length = ps.length → bindArgs (PySem.W.fnOf x qual params body scope dV kV doc pm an cdv ct) ⟨us, []⟩ = pure (ps.zip us)) : Binds K fd ps [] := by
  obtain ⟨oc, od, dV, kV, doc, pm, an, cdv, ct, osl, rfl, _⟩ := F.ex
  exact .all (h dV kV doc pm an cdv ct)
theorem kb_full {ps : List Str} (F : FunD K x qual params body scope dvs kws f fd) (n : Nat) (ks : List Str) (g : {α : Type} → List α → List α → List α → List α)
    (rel : ∀ {vs ds zs : List V} {us its ws : List Value}, Vals vs us → Vals ds its → Vals zs ws → Vals (g vs ds zs) (g us its ws))
    (h : ∀ (dV kV doc pm : Value) (an : Option Addr) (cdv ct : Value) (us its ws : List Value), us.length = n → its.length = dvs.length → ws.length = ks.length →
      bindArgs (PySem.W.fnOf x qual params body scope dV kV doc pm an cdv ct) ⟨us, ks.zip ws⟩ = pure (ps.zip (g us its ws))) :
    ∃ its : List Value, KBn K fd ps n ks (fun us ws => g us its ws) (fun vs zs => g vs dvs zs) := by
  obtain ⟨oc, od, dV, kV, doc, pm, an, cdv, ct, osl, rfl, _, _, hD, _⟩ := F.ex
  obtain ⟨its, rI⟩ : ∃ its, Vals dvs its := by
    rcases hD with ⟨e, _⟩ | ⟨_, T, o, its, m, _, _, _, rT⟩
    · exact ⟨[], by rw [e]; exact .nil⟩
    · exact ⟨its, rT⟩
  exact ⟨its, fun s us ws _ l1 l2 => BindsTo.of_eq (h dV kV doc pm an cdv ct us its ws l1 rI.length.symm l2), fun r1 r2 => rel r1 rI r2⟩
end
end Z
/-! values as data: heaps but for some places, slots, what stands in them -/
namespace DL
open PySem L2 Z
open Classical in
/-- H without the places of A -/
noncomputable def hp (A : Addr → Prop) (H : Hp) : Hp := fun a => if A a then none else H a
theorem hp_of {A : Addr → Prop} {H : Hp} {a : Addr} (h : ¬ A a) : hp A H a = H a := if_neg h
theorem hp_some {A : Addr → Prop} {H : Hp} {a : Addr} {o : HO} (h : hp A H a = some o) : ¬ A a ∧ H a = some o := by
  by_cases q : A a
  · rw [show hp A H a = none from if_pos q] at h; cases h
  · exact ⟨q, by rw [← hp_of (H := H) q]; exact h⟩
theorem hp_mk {A : Addr → Prop} {H : Hp} {a : Addr} {o : HO} (h : ¬ A a) (e : H a = some o) : hp A H a = some o := by rw [hp_of h]; exact e
theorem hp_same {A : Addr → Prop} {H : Hp} : Same (hp A H) H := fun _ _ h => (hp_some h).2
def FrA (A : Addr → Prop) (H H' : Hp) : Prop := ∀ a o, ¬ A a → H a = some o → H' a = some o
theorem FrA.refl (A : Addr → Prop) (H : Hp) : FrA A H H := fun _ _ _ h => h
theorem FrA.trans {A : Addr → Prop} {H H1 H2 : Hp} (f : FrA A H H1) (g : FrA A H1 H2) : FrA A H H2 := fun a o n h => g a o n (f a o n h)
theorem FrA.of {A : Addr → Prop} {H H' : Hp} (s : Same H H') : FrA A H H' := fun a o _ h => s a o h
theorem FrA.up {A B : Addr → Prop} {H H' : Hp} (f : FrA A H H') (h : ∀ a, A a → B a) : FrA B H H' := fun a o n e => f a o (fun q => n (h a q)) e
theorem hp_less {A B : Addr → Prop} {H : Hp} (h : ∀ a, B a → A a) : Same (hp A H) (hp B H) := fun a o e => by
  obtain ⟨n, e⟩ := hp_some e
  exact hp_mk (fun q => n (h a q)) e
theorem hp_fr {A W : Addr → Prop} {H H' : Hp} (f : FrA W H H') (h : ∀ a, W a → A a) : Same (hp A H) (hp A H') := fun a o e => by
  obtain ⟨n, e⟩ := hp_some e
  exact hp_mk n (f a o (fun q => n (h a q)) e)
theorem hp_grow {A : Addr → Prop} {H H' : Hp} (s : Same H H') : Same (hp A H) (hp A H') := hp_fr (W := fun _ => False) (FrA.of s) (fun _ q => q.elim)
/-- a caught exception that is kept: its class, its dict -/
def exk (a C dx : Addr) : HO := .ext fun h => ∃ o vs, h.get? a = some o ∧ o.cls = .ref C ∧ o.dict = some dx ∧ o.data = .fields vs
mutual
inductive Dq (K : PySem.W.Frag) (H : Hp) : V → PyData → Prop
  | non : Dq K H .non .none
  | bl (b : Bool) : Dq K H (.bl b) (.bool b)
  | int (i : Int) : Dq K H (.int i) (.int i)
  | str (x : Str) : Dq K H (.str x) (.str x)
  | lst {a : Addr} {xs : List V} {ds : List PyData} : SqL K H a xs → DqAll K H xs ds → Dq K H (.ref a) (.list ds)
  | tup {a : Addr} {xs : List V} {ds : List PyData} : SqT K H a xs → DqAll K H xs ds → Dq K H (.ref a) (.tuple ds)
  | obj {a C dx : Addr} {c : Str} {fv : List (Str × V)} {fs : List (PyData × PyData)} : PySem.W.nsIn K mainGlobals c = some (some (.ref C)) → H a = some (.ins C dx fv) → DqFs K H fv fs → Dq K H (.ref a) (.dict ((.str c, .none) :: fs))
  | exc {a C dx : Addr} {c : Str} {fv : List (Str × V)} {fs : List (PyData × PyData)} : PySem.W.nsIn K mainGlobals c = some (some (.ref C)) → H a = some (exk a C dx) → H dx = some (.xd fv) → DqFs K H fv fs → Dq K H (.ref a) (.dict ((.str c, .bool true) :: fs))
  | fnc {a : Addr} {x : Str} : PySem.W.nsIn K mainGlobals x = some (some (.ref a)) → Dq K H (.ref a) (.dict [(.str x, .int 0)])
/-- the fields of an object -/
inductive DqFs (K : PySem.W.Frag) (H : Hp) : List (Str × V) → List (PyData × PyData) → Prop
  | nil : DqFs K H [] []
  | cons {f : Str} {v : V} {d : PyData} {fv : List (Str × V)} {fs : List (PyData × PyData)} : Dq K H v d → DqFs K H fv fs → DqFs K H ((f, v) :: fv) ((.str f, d) :: fs)
inductive DqAll (K : PySem.W.Frag) (H : Hp) : List V → List PyData → Prop
  | nil : DqAll K H [] []
  | cons {v : V} {vs : List V} {d : PyData} {ds : List PyData} : Dq K H v d → DqAll K H vs ds → DqAll K H (v :: vs) (d :: ds)
end
mutual
theorem Dq.mono {K : PySem.W.Frag} {H H' : Hp} (e : Same H H') : ∀ {v : V} {d : PyData}, Dq K H v d → Dq K H' v d
  | _, _, .non => .non
  | _, _, .bl b => .bl b
  | _, _, .int i => .int i
  | _, _, .str x => .str x
  | _, _, .lst h r => .lst (SqL.mono e h) (DqAll.mono e r)
  | _, _, .tup h r => .tup (SqT.mono e h) (DqAll.mono e r)
  | _, _, .obj c h r => .obj c (e _ _ h) (DqFs.mono e r)
  | _, _, .exc c h g r => .exc c (e _ _ h) (e _ _ g) (DqFs.mono e r)
  | _, _, .fnc h => .fnc h
theorem DqFs.mono {K : PySem.W.Frag} {H H' : Hp} (e : Same H H') : ∀ {fv : List (Str × V)} {fs : List (PyData × PyData)}, DqFs K H fv fs → DqFs K H' fv fs
  | _, _, .nil => .nil
  | _, _, .cons a b => .cons (Dq.mono e a) (DqFs.mono e b)
theorem DqAll.mono {K : PySem.W.Frag} {H H' : Hp} (e : Same H H') : ∀ {v : List V} {d : List PyData}, DqAll K H v d → DqAll K H' v d
  | _, _, .nil => .nil
  | _, _, .cons a b => .cons (Dq.mono e a) (DqAll.mono e b)
end
mutual
theorem Dq.dp {K : PySem.W.Frag} {H : Hp} : ∀ {v : V} {d : PyData}, Dq K H v d → d.hasDict = false → Dp K H v d
  | _, _, .non, _ => .non
  | _, _, .bl b, _ => .bl b
  | _, _, .int i, _ => .int i
  | _, _, .str x, _ => .str x
  | _, _, .lst h r, e => .lst h (DqAll.dp r e)
  | _, _, .tup h r, e => .tup h (DqAll.dp r e)
  | _, _, .obj _ _ _, e => by cases e
  | _, _, .exc _ _ _ _, e => by cases e
  | _, _, .fnc _, e => by cases e
theorem DqAll.dp {K : PySem.W.Frag} {H : Hp} : ∀ {v : List V} {d : List PyData}, DqAll K H v d → PyData.hasDictAll d = false → DpAll K H v d
  | _, _, .nil, _ => .nil
  | _, _, .cons a b, e => by
    have e' : (PyData.hasDict _ || PyData.hasDictAll _) = false := e
    rw [Bool.or_eq_false_iff] at e'
    exact .cons (Dq.dp a e'.1) (DqAll.dp b e'.2)
end
theorem plain_of {d : PyData} (h : SeqAt.shaped d = true) : d.hasDict = false := PyData.hasDict_of_canLay d (SeqAt.canLay_of_shaped h)
def fldD (f : Str) : List (PyData × PyData) → Option PyData
  | [] => none
  | (.str g, d) :: r => if f = g then some d else fldD f r
  | _ :: r => fldD f r
theorem DqFs.get {K : PySem.W.Frag} {H : Hp} {f : Str} {d : PyData} : ∀ {fv : List (Str × V)} {fs : List (PyData × PyData)}, DqFs K H fv fs → fldD f fs = some d → ∃ v, fv.lookup f = some v ∧ Dq K H v d
  | _, _, .nil, h => by cases h
  | _, _, .cons (f := g) (v := v) (d := c) a b, h => by
    unfold fldD at h
    rw [List.lookup_cons]
    by_cases e : f = g
    · rw [if_pos e] at h
      cases h
      have : (f == g) = true := by rw [e]; exact beq_self_eq_true g
      rw [this]
      exact ⟨_, rfl, a⟩
    · rw [if_neg e] at h
      have : (f == g) = false := by simpa using e
      rw [this]
      exact DqFs.get b h
section
variable {K : PySem.W.Frag} {H : Hp}
theorem DqAll.length : ∀ {v : List V} {d : List PyData}, DqAll K H v d → v.length = d.length
  | _, _, .nil => rfl
  | _, _, .cons _ b => by rw [List.length_cons, List.length_cons, DqAll.length b]
theorem DqAll.get : ∀ {v : List V} {d : List PyData} {i : Nat} {x : V}, DqAll K H v d → v[i]? = some x → ∃ y, d[i]? = some y ∧ Dq K H x y
  | _, _, _, _, .nil, h => by simp at h
  | _, _, 0, _, .cons a _, h => by simp at h; subst h; exact ⟨_, rfl, a⟩
  | _, _, i + 1, _, .cons _ b, h => by
    obtain ⟨y, e, q⟩ := DqAll.get (i := i) b (by simpa using h)
    exact ⟨y, by simpa using e, q⟩
theorem DqAll.got : ∀ {v : List V} {d : List PyData} {i : Nat} {y : PyData}, DqAll K H v d → d[i]? = some y → ∃ x, v[i]? = some x ∧ Dq K H x y
  | _, _, _, _, .nil, h => by simp at h
  | _, _, 0, _, .cons a _, h => by simp at h; subst h; exact ⟨_, rfl, a⟩
  | _, _, i + 1, _, .cons _ b, h => by
    obtain ⟨y, e, q⟩ := DqAll.got (i := i) b (by simpa using h)
    exact ⟨y, by simpa using e, q⟩
theorem DqAll.append : ∀ {v : List V} {d : List PyData} {w : List V} {e : List PyData}, DqAll K H v d → DqAll K H w e → DqAll K H (v ++ w) (d ++ e)
  | _, _, _, _, .nil, h => h
  | _, _, _, _, .cons a b, h => .cons a (DqAll.append b h)
theorem DqAll.take : ∀ {v : List V} {d : List PyData} (n : Nat), DqAll K H v d → DqAll K H (v.take n) (d.take n)
  | _, _, 0, _ => .nil
  | _, _, _ + 1, .nil => .nil
  | _, _, n + 1, .cons a b => .cons a (DqAll.take n b)
theorem DqAll.drop : ∀ {v : List V} {d : List PyData} (n : Nat), DqAll K H v d → DqAll K H (v.drop n) (d.drop n)
  | _, _, 0, h => h
  | _, _, _ + 1, .nil => .nil
  | _, _, n + 1, .cons _ b => DqAll.drop n b
theorem DqAll.set {y : V} {c : PyData} (hy : Dq K H y c) : ∀ {v : List V} {d : List PyData} (n : Nat), DqAll K H v d → DqAll K H (v.set n y) (d.set n c)
  | _, _, _, .nil => .nil
  | _, _, 0, .cons _ b => .cons hy b
  | _, _, n + 1, .cons a b => .cons a (DqAll.set hy n b)
theorem DqAll.rev : ∀ {v : List V} {d : List PyData}, DqAll K H v d → DqAll K H v.reverse d.reverse
  | _, _, .nil => .nil
  | _, _, .cons a b => by rw [List.reverse_cons, List.reverse_cons]; exact DqAll.append (DqAll.rev b) (.cons a .nil)
theorem DqAll.rep {v : List V} {d : List PyData} (h : DqAll K H v d) : ∀ n : Nat, DqAll K H (List.replicate n v).flatten (List.replicate n d).flatten
  | 0 => .nil
  | n + 1 => by rw [List.replicate_succ, List.replicate_succ, List.flatten_cons, List.flatten_cons]; exact DqAll.append h (DqAll.rep h n)
theorem DqAll.ints : ∀ ns : List Int, DqAll K H (ns.map V.int) (ns.map .int)
  | [] => .nil
  | n :: r => .cons (.int n) (DqAll.ints r)
theorem DqAll.strs : ∀ ns : List Str, DqAll K H (ns.map V.str) (ns.map .str)
  | [] => .nil
  | n :: r => .cons (.str n) (DqAll.strs r)
theorem DqAll.ints_of : ∀ {ns : List Int} {v : List V}, DqAll K H v (ns.map .int) → v = ns.map V.int
  | [], _, .nil => rfl
  | n :: r, _, .cons a b => by cases a; rw [DqAll.ints_of b]; rfl
theorem DqAll.strs_of : ∀ {ns : List Str} {v : List V}, DqAll K H v (ns.map .str) → v = ns.map V.str
  | [], _, .nil => rfl
  | n :: r, _, .cons a b => by cases a; rw [DqAll.strs_of b]; rfl
theorem DqAll.bools_of : ∀ {ns : List Bool} {v : List V}, DqAll K H v (ns.map .bool) → v = ns.map V.bl
  | [], _, .nil => rfl
  | n :: r, _, .cons a b => by cases a; rw [DqAll.bools_of b]; rfl
theorem Dq.list_of {v : V} {ds : List PyData} (h : Dq K H v (.list ds)) : ∃ a xs, v = .ref a ∧ SqL K H a xs ∧ DqAll K H xs ds := by
  cases h with
  | lst s r => exact ⟨_, _, rfl, s, r⟩
theorem Dq.tuple_of {v : V} {ds : List PyData} (h : Dq K H v (.tuple ds)) : ∃ a xs, v = .ref a ∧ SqT K H a xs ∧ DqAll K H xs ds := by
  cases h with
  | tup s r => exact ⟨_, _, rfl, s, r⟩
end

/-- a slot: nothing that is known, data that stays, a list that is its own -/
inductive Sl where
  | no
  | fz (d : PyData)
  | own (ds : List PyData)
abbrev En := List Sl
def Own (as : Nat → Option Addr) (a : Addr) : Prop := ∃ i, as i = some a
def Hid (O : Addr → Prop) (as : Nat → Option Addr) (a : Addr) : Prop := O a ∨ Own as a
section
variable {as as' as'' : Nat → Option Addr} {H H' H'' : Hp} {n : Nat}
/-- how one state comes of another: but for own lists and new objects all stays -/
structure Ext (n : Nat) (as as' : Nat → Option Addr) (H H' : Hp) : Prop where
  fr : FrA (Own as) H H'
  new : ∀ a, Own as' a → Own as a ∨ H a = none
  fix : ∀ i, i < n → as' i = as i
theorem Ext.refl : Ext n as as H H := ⟨FrA.refl _ _, fun _ h => .inl h, fun _ _ => rfl⟩
theorem Ext.of (f : FrA (Own as) H H') : Ext n as as H H' := ⟨f, fun _ h => .inl h, fun _ _ => rfl⟩
theorem Ext.trans (x : Ext n as as' H H') (y : Ext n as' as'' H' H'') : Ext n as as'' H H'' := by
  refine ⟨fun a o h e => y.fr a o (fun q => ?_) (x.fr a o h e), fun a q => ?_, fun i h => (y.fix i h).trans (x.fix i h)⟩
  · rcases x.new a q with z | z
    · exact h z
    · rw [z] at e; cases e
  · rcases y.new a q with z | z
    · exact x.new a z
    · by_cases w : Own as a
      · exact .inl w
      · cases e : H a with
        | none => exact .inr rfl
        | some o => rw [x.fr a o w e] at z; cases z
theorem Ext.less {m : Nat} (x : Ext n as as' H H') (h : m ≤ n) : Ext m as as' H H' := ⟨x.fr, x.new, fun i q => x.fix i (Nat.lt_of_lt_of_le q h)⟩
end
/-- what is so from some state on -/
structure Jv (n : Nat) where
  P : (Nat → Option Addr) → Hp → Prop
  cl : ∀ as as' H H', P as H → Ext n as as' H H' → P as' H'
  Q : (Addr → Prop) → Prop
  up : ∀ O O' : Addr → Prop, (∀ a, O a → O' a) → Q O → Q O'
def J0 : Jv n := ⟨fun _ _ => True, fun _ _ _ _ _ _ => trivial, fun _ => True, fun _ _ _ _ => trivial⟩
/-- all that comes of this state -/
def Jst (n : Nat) (O : Addr → Prop) (as : Nat → Option Addr) (H : Hp) : Jv n := ⟨fun as' H' => Ext n as as' H H', fun _ _ _ _ x y => x.trans y, fun O' => ∀ a, O a → O' a, fun _ _ h q a z => h a (q a z)⟩
def Jv.and {n : Nat} (J J' : Jv n) : Jv n := ⟨fun as H => J.P as H ∧ J'.P as H, fun _ _ _ _ x y => ⟨J.cl _ _ _ _ x.1 y, J'.cl _ _ _ _ x.2 y⟩, fun O => J.Q O ∧ J'.Q O, fun _ _ h q => ⟨J.up _ _ h q.1, J'.up _ _ h q.2⟩⟩
def Jv.le {n : Nat} (J' J : Jv n) : Prop := (∀ as H, J'.P as H → J.P as H) ∧ ∀ O, J'.Q O → J.Q O
theorem Jv.le.refl {n : Nat} {J : Jv n} : J.le J := ⟨fun _ _ h => h, fun _ h => h⟩
theorem Jv.fr {n : Nat} (J : Jv n) {as : Nat → Option Addr} {H H' : Hp} (h : J.P as H) (f : FrA (Own as) H H') : J.P as H' := J.cl _ _ _ _ h (.of f)
inductive SlR (K : PySem.W.Frag) (G H : Hp) : Option Addr → Sl → Option V → Prop
  | no {o : Option V} : SlR K G H none .no o
  | fz {v : V} {d : PyData} : Dq K G v d → SlR K G H none (.fz d) (some v)
  | own {a : Addr} {xs : List V} {ds : List PyData} : H a = some (.lst xs) → DqAll K G xs ds → SlR K G H (some a) (.own ds) (some (.ref a))
structure EnR (K : PySem.W.Frag) {n : Nat} (J : Jv n) (O : Addr → Prop) (as : Nat → Option Addr) (H : Hp) (ρ : En) (σ : L2.St) : Prop where
  len : ρ.length = σ.length
  at_ : ∀ (i : Nat) (sl : Sl) (o : Option V), ρ[i]? = some sl → σ[i]? = some o → SlR K (hp (Hid O as) H) H (as i) sl o
  inj : ∀ (i j : Nat) (a : Addr), as i = some a → as j = some a → i = j
  out : ∀ (i : Nat) (a : Addr), as i = some a → ¬ O a
  bnd : ∀ (i : Nat) (a : Addr), as i = some a → i < ρ.length
  occ : ∀ a, O a → H a ≠ none
  inv : J.P as H
  inq : J.Q O
section
variable {K : PySem.W.Frag} {n : Nat} {J : Jv n} {O : Addr → Prop} {as as' as'' : Nat → Option Addr} {H H' H'' : Hp} {ρ : En} {σ : L2.St} {i : Nat} {v : V} {d : PyData} {ds : List PyData}
theorem EnR.reJ {n' : Nat} {J' : Jv n'} (E : EnR K J O as H ρ σ) (h : J'.P as H) (q : J'.Q O) : EnR K J' O as H ρ σ := ⟨E.len, E.at_, E.inj, E.out, E.bnd, E.occ, h, q⟩
theorem EnR.at' (E : EnR K J O as H ρ σ) {sl : Sl} (h : ρ[i]? = some sl) : ∃ o, σ[i]? = some o ∧ SlR K (hp (Hid O as) H) H (as i) sl o := by
  have hi : i < σ.length := by rw [← E.len]; exact (List.getElem?_eq_some_iff.mp h).1
  exact ⟨_, List.getElem?_eq_getElem hi, E.at_ i sl _ h (List.getElem?_eq_getElem hi)⟩
theorem EnR.fz_at (E : EnR K J O as H ρ σ) (h : ρ[i]? = some (.fz d)) : ∃ v, σ[i]? = some (some v) ∧ as i = none ∧ Dq K (hp (Hid O as) H) v d := by
  obtain ⟨o, e, r⟩ := E.at' h
  generalize as i = z at r
  cases r with
  | fz q => exact ⟨_, e, rfl, q⟩
theorem EnR.own_at (E : EnR K J O as H ρ σ) (h : ρ[i]? = some (.own ds)) : ∃ a xs, σ[i]? = some (some (.ref a)) ∧ as i = some a ∧ H a = some (.lst xs) ∧ DqAll K (hp (Hid O as) H) xs ds := by
  obtain ⟨o, e, r⟩ := E.at' h
  generalize as i = z at r
  cases r with
  | own q z => exact ⟨_, _, e, rfl, q, z⟩
theorem EnR.is_own (E : EnR K J O as H ρ σ) {a : Addr} (h : as i = some a) : ∃ ds xs, ρ[i]? = some (.own ds) ∧ σ[i]? = some (some (.ref a)) ∧ H a = some (.lst xs) ∧ DqAll K (hp (Hid O as) H) xs ds := by
  have hi := E.bnd i a h
  obtain ⟨o, e, r⟩ := E.at' (List.getElem?_eq_getElem hi)
  rw [h] at r
  rw [List.getElem?_eq_getElem hi]
  generalize ρ[i] = sl at r
  cases r with
  | own q z => exact ⟨_, _, rfl, e, q, z⟩
theorem EnR.not_own (E : EnR K J O as H ρ σ) {sl : Sl} (h : ρ[i]? = some sl) (n : ∀ ds, sl ≠ .own ds) : as i = none := by
  cases e : as i with
  | none => rfl
  | some a =>
    obtain ⟨ds, xs, h', _⟩ := E.is_own e
    rw [h] at h'
    exact absurd (Option.some.inj h') (n ds)
theorem EnR.full (E : EnR K J O as H ρ σ) {a : Addr} (h : Hid O as a) : H a ≠ none := by
  rcases h with h | ⟨i, h⟩
  · exact E.occ a h
  · obtain ⟨ds, xs, _, _, e, _⟩ := E.is_own h
    rw [e]
    exact Option.some_ne_none _
theorem EnR.fresh (E : EnR K J O as H ρ σ) {a : Addr} (h : H a = none) : ¬ Hid O as a := fun q => E.full q h
theorem SlR.mono {G G' H H' : Hp} {a : Option Addr} {sl : Sl} {o : Option V} (s : Same G G') (f : ∀ b, a = some b → H' b = H b) (r : SlR K G H a sl o) : SlR K G' H' a sl o := by
  cases r with
  | no => exact .no
  | fz q => exact .fz (q.mono s)
  | own q z => exact .own (by rw [f _ rfl]; exact q) (z.mono s)
/-- more objects -/
theorem EnR.grow (E : EnR K J O as H ρ σ) (s : Same H H') : EnR K J O as H' ρ σ := by
  refine ⟨E.len, fun i sl o h1 h2 => (E.at_ i sl o h1 h2).mono (hp_grow s) fun b hb => ?_, E.inj, E.out, E.bnd, fun a h => ?_, J.fr E.inv (FrA.of s), E.inq⟩
  · obtain ⟨ds, xs, _, _, e, _⟩ := E.is_own hb
    rw [e, s _ _ e]
  · obtain ⟨o, e⟩ := Option.ne_none_iff_exists'.mp (E.occ a h)
    rw [s _ _ e]
    exact Option.some_ne_none _
def Sl.isOwn : Sl → Bool
  | .own _ => true
  | _ => false
/-- the slot is there and no list of its own -/
def slotF (ρ : En) (i : Nat) : Bool := match ρ[i]? with
  | some (.own _) => false
  | some _ => true
  | none => false
theorem slotF_of (h : slotF ρ i = true) : ∃ sl, ρ[i]? = some sl ∧ ∀ ds, sl ≠ .own ds := by
  unfold slotF at h
  split at h
  · cases h
  · next sl e hn => exact ⟨sl, hn, fun ds q => e ds (by rw [q])⟩
  · cases h
theorem EnR.none_of (E : EnR K J O as H ρ σ) (h : slotF ρ i = true) : as i = none := by
  obtain ⟨sl, e, n⟩ := slotF_of h
  exact E.not_own e n
/-- data stored -/
theorem EnR.setFz (E : EnR K J O as H ρ σ) (h : slotF ρ i = true) (q : Dq K (hp (Hid O as) H) v d) : EnR K J O as H (ρ.set i (.fz d)) (σ.set i (some v)) := by
  have hn := E.none_of h
  refine ⟨by rw [List.length_set, List.length_set]; exact E.len, fun j sl o h1 h2 => ?_, E.inj, E.out, fun j a e => by rw [List.length_set]; exact E.bnd j a e, E.occ, E.inv, E.inq⟩
  rw [List.getElem?_set] at h1 h2
  by_cases e : i = j
  · subst e
    rw [if_pos rfl] at h1 h2
    split at h1
    · split at h2
      · cases h1; cases h2
        rw [hn]
        exact .fz q
      · cases h2
    · cases h1
  · rw [if_neg e] at h1 h2
    exact E.at_ j sl o h1 h2
theorem EnR.setNo (E : EnR K J O as H ρ σ) (h : slotF ρ i = true) (o : Option V) : EnR K J O as H (ρ.set i .no) (σ.set i o) := by
  have hn := E.none_of h
  refine ⟨by rw [List.length_set, List.length_set]; exact E.len, fun j sl o h1 h2 => ?_, E.inj, E.out, fun j a e => by rw [List.length_set]; exact E.bnd j a e, E.occ, E.inv, E.inq⟩
  rw [List.getElem?_set] at h1 h2
  by_cases e : i = j
  · subst e
    rw [if_pos rfl] at h1 h2
    split at h1
    · cases h1
      rw [hn]
      exact .no
    · cases h1
  · rw [if_neg e] at h1 h2
    exact E.at_ j sl o h1 h2
/-- an own list changed -/
theorem EnR.put (E : EnR K J O as H ρ σ) {a : Addr} (ha : as i = some a) {xs : List V} (q : DqAll K (hp (Hid O as) H) xs ds) : EnR K J O as (upd H a (.lst xs)) (ρ.set i (.own ds)) σ := by
  have hS : Same (hp (Hid O as) H) (hp (Hid O as) (upd H a (.lst xs))) := fun b o e => by
    obtain ⟨n, e⟩ := hp_some e
    exact hp_mk n (by rw [upd_ne (fun z : b = a => n (by rw [z]; exact .inr ⟨i, ha⟩))]; exact e)
  refine ⟨by rw [List.length_set]; exact E.len, fun j sl o h1 h2 => ?_, E.inj, E.out, fun j a e => by rw [List.length_set]; exact E.bnd j a e, fun b h => ?_, J.fr E.inv fun b o nb e => by rw [upd_ne (fun z : b = a => nb (by rw [z]; exact ⟨i, ha⟩))]; exact e, E.inq⟩
  · rw [List.getElem?_set] at h1
    by_cases e : i = j
    · subst e
      rw [if_pos rfl] at h1
      obtain ⟨ds0, xs0, e0, e1, _, _⟩ := E.is_own ha
      rw [e1] at h2
      cases h2
      split at h1
      · cases h1
        rw [ha]
        exact .own upd_same (q.mono hS)
      · cases h1
    · rw [if_neg e] at h1
      refine (E.at_ j sl o h1 h2).mono hS fun b hb => ?_
      rw [upd_ne]
      intro z
      rw [z] at hb
      exact e (E.inj i j a ha hb)
  · by_cases z : b = a
    · rw [z, upd_same]; exact Option.some_ne_none _
    · rw [upd_ne z]; exact E.occ b h
def upA (as : Nat → Option Addr) (i : Nat) (o : Option Addr) : Nat → Option Addr := fun j => if j = i then o else as j
theorem upA_at {o : Option Addr} : upA as i o i = o := if_pos rfl
theorem upA_ne {o : Option Addr} {j : Nat} (h : j ≠ i) : upA as i o j = as j := if_neg h
theorem Own.up {a : Addr} {o : Option Addr} (h : Own (upA as i o) a) : o = some a ∨ Own as a := by
  obtain ⟨j, h⟩ := h
  by_cases e : j = i
  · rw [e, upA_at] at h; exact .inl h
  · rw [upA_ne e] at h; exact .inr ⟨j, h⟩
/-- a new list of its own -/
theorem EnR.setOwn (E : EnR K J O as H ρ σ) (hi : i < ρ.length) {p : Addr} (hJ : J.P (upA as i (some p)) H) {xs : List V} (hp0 : ¬ Hid O as p) (hp1 : H p = some (.lst xs))
    (hf : ∀ (j : Nat) (sl : Sl) (o : Option V), ρ[j]? = some sl → σ[j]? = some o → j ≠ i → SlR K (hp (fun a => Hid O as a ∨ a = p) H) H (as j) sl o)
    (q : DqAll K (hp (fun a => Hid O as a ∨ a = p) H) xs ds) : EnR K J O (upA as i (some p)) H (ρ.set i (.own ds)) (σ.set i (some (.ref p))) := by
  have hS : Same (hp (fun a => Hid O as a ∨ a = p) H) (hp (Hid O (upA as i (some p))) H) := hp_less fun a h => by
    rcases h with h | h
    · exact .inl (.inl h)
    · rcases h.up with h | h
      · exact .inr (Option.some.inj h).symm
      · exact .inl (.inr h)
  refine ⟨by rw [List.length_set, List.length_set]; exact E.len, fun j sl o h1 h2 => ?_, fun j k a h1 h2 => ?_, fun j a h => ?_, fun j a h => ?_, E.occ, hJ, E.inq⟩
  · rw [List.getElem?_set] at h1 h2
    by_cases e : i = j
    · subst e
      rw [if_pos rfl, if_pos hi] at h1
      rw [if_pos rfl, if_pos (by rw [← E.len]; exact hi)] at h2
      cases h1; cases h2
      rw [upA_at]
      exact .own hp1 (q.mono hS)
    · rw [if_neg e] at h1 h2
      rw [upA_ne (fun z => e z.symm)]
      exact (hf j sl o h1 h2 (fun z => e z.symm)).mono hS fun _ _ => rfl
  · by_cases e1 : j = i
    · rw [e1, upA_at] at h1
      by_cases e2 : k = i
      · rw [e1, e2]
      · rw [upA_ne e2] at h2
        have := Option.some.inj h1
        exact absurd (.inr ⟨k, by rw [this]; exact h2⟩) hp0
    · rw [upA_ne e1] at h1
      by_cases e2 : k = i
      · rw [e2, upA_at] at h2
        have := Option.some.inj h2
        exact absurd (.inr ⟨j, by rw [this]; exact h1⟩) hp0
      · rw [upA_ne e2] at h2
        exact E.inj j k a h1 h2
  · by_cases e1 : j = i
    · rw [e1, upA_at] at h
      rw [← Option.some.inj h]
      exact fun z => hp0 (.inl z)
    · rw [upA_ne e1] at h
      exact E.out j a h
  · rw [List.length_set]
    by_cases e1 : j = i
    · rw [e1]; exact hi
    · rw [upA_ne e1] at h
      exact E.bnd j a h
/-- an own list that stays from now on -/
theorem EnR.freeze (E : EnR K J O as H ρ σ) (hn : n ≤ i) (h : ρ[i]? = some (.own ds)) : EnR K J O (upA as i none) H (ρ.set i (.fz (.list ds))) σ := by
  obtain ⟨a, xs, e1, e2, e3, e4⟩ := E.own_at h
  have hS : Same (hp (Hid O as) H) (hp (Hid O (upA as i none)) H) := hp_less fun a h => by
    rcases h with h | h
    · exact .inl h
    · rcases h.up with h | h
      · cases h
      · exact .inr h
  have hn : ¬ Hid O (upA as i none) a := by
    rintro (z | ⟨j, z⟩)
    · exact E.out i a e2 z
    · by_cases q : j = i
      · rw [q, upA_at] at z; cases z
      · rw [upA_ne q] at z
        exact q (E.inj j i a z e2)
  refine ⟨by rw [List.length_set]; exact E.len, fun j sl o h1 h2 => ?_, fun j k b h1 h2 => ?_, fun j b h => ?_, fun j b h => ?_, E.occ, J.cl _ _ _ _ E.inv ⟨FrA.refl _ _, fun a q => by
    rcases q.up with q | q
    · cases q
    · exact .inl q, fun j hj => upA_ne (by omega)⟩, E.inq⟩
  · rw [List.getElem?_set] at h1
    by_cases e : i = j
    · subst e
      rw [e1] at h2
      cases h2
      rw [if_pos rfl] at h1
      split at h1
      · cases h1
        rw [upA_at]
        exact .fz (.lst (SqL.of (hp_mk hn e3)) (e4.mono hS))
      · cases h1
    · rw [if_neg e] at h1
      rw [upA_ne (fun z => e z.symm)]
      exact (E.at_ j sl o h1 h2).mono hS fun _ _ => rfl
  · by_cases q : j = i
    · rw [q, upA_at] at h1; cases h1
    · by_cases q2 : k = i
      · rw [q2, upA_at] at h2; cases h2
      · rw [upA_ne q] at h1; rw [upA_ne q2] at h2
        exact E.inj j k b h1 h2
  · by_cases q : j = i
    · rw [q, upA_at] at h; cases h
    · rw [upA_ne q] at h; exact E.out j b h
  · by_cases q : j = i
    · rw [q, upA_at] at h; cases h
    · rw [upA_ne q] at h; rw [List.length_set]; exact E.bnd j b h
theorem Ext.same (x : Ext n as as' H H') : Same (hp (Hid O as) H) (hp (Hid O as') H') := fun a o e => by
  obtain ⟨h, e⟩ := hp_some e
  refine hp_mk (fun q => ?_) (x.fr a o (fun z => h (.inr z)) e)
  rcases q with q | q
  · exact h (.inl q)
  · rcases x.new a q with z | z
    · exact h (.inr z)
    · rw [z] at e; cases e
end
end DL
/-! what expressions, tests, arguments, stores and statements come to -/
namespace DL
open PySem L2 Z
abbrev FE := En → (PyData → En → Prop) → Prop
abbrev FT := En → (Bool → En → Prop) → Prop
abbrev FA := En → (List PyData → En → Prop) → Prop
abbrev FG := PyData → En → (En → Prop) → Prop
abbrev FGs := List PyData → En → (En → Prop) → Prop
inductive Ar where
  | dat (d : PyData)
  | own (i : Nat)
abbrev FC := En → (List Ar → En → Prop) → Prop
structure FEnds where
  nx : En → Prop
  rt : PyData → En → Prop
  bk : En → Prop := fun _ => False
  ct : En → Prop := fun _ => False
  ro : List PyData → En → Prop := fun _ _ => False
abbrev FS := FEnds → En → Prop
abbrev FN := List Sl → (PyData → List Sl → Prop) → Prop
def RE (K : PySem.W.Frag) {n : Nat} (J : Jv n) (t : TE) (f : FE) : Prop := ∀ (O : Addr → Prop) (as : Nat → Option Addr) (σ : L2.St) (H : Hp) (Q : VK) (ρ : En) (P : PyData → En → Prop), EnR K J O as H ρ σ → f ρ P →
  (∀ d ρ' v H', P d ρ' → FrA (Own as) H H' → EnR K J O as H' ρ' σ → Dq K (hp (Hid O as) H') v d → Q v H') → t σ H Q
/-- one place more -/
def plus (O : Addr → Prop) (p : Addr) : Addr → Prop := fun a => O a ∨ a = p
theorem hid_plus {O : Addr → Prop} {p : Addr} {as : Nat → Option Addr} {a : Addr} (h : Hid O as a) : Hid (plus O p) as a := by
  rcases h with h | h
  · exact .inl (.inl h)
  · exact .inr h
theorem EnR.addO {K : PySem.W.Frag} {n : Nat} {J : Jv n} {O : Addr → Prop} {as : Nat → Option Addr} {H : Hp} {ρ : En} {σ : L2.St} {p : Addr} {o : HO} (E : EnR K J O as H ρ σ) (h : H p = none) :
    EnR K J (plus O p) as (upd H p o) ρ σ ∧ Same (hp (Hid O as) H) (hp (Hid (plus O p) as) (upd H p o)) := by
  have np := E.fresh h
  have hS : Same (hp (Hid O as) H) (hp (Hid (plus O p) as) (upd H p o)) := fun a u e => by
    obtain ⟨n, e⟩ := hp_some e
    have ne : a ≠ p := ne_of_none e h
    refine hp_mk (fun q => ?_) (by rw [upd_ne ne]; exact e)
    rcases q with (q | q) | q
    · exact n (.inl q)
    · exact ne q
    · exact n (.inr q)
  refine ⟨⟨E.len, fun i sl o' h1 h2 => (E.at_ i sl o' h1 h2).mono hS fun b hb => ?_, E.inj, fun i a e q => ?_, E.bnd, fun a q => ?_, J.fr E.inv (FrA.of (Same.new h)), J.up _ _ (fun _ z => .inl z) E.inq⟩, hS⟩
  · rw [upd_ne]
    rintro rfl
    exact np (.inr ⟨i, hb⟩)
  · rcases q with q | rfl
    · exact E.out i a e q
    · exact np (.inr ⟨i, e⟩)
  · by_cases z : a = p
    · rw [z, upd_same]; exact Option.some_ne_none _
    · rw [upd_ne z]
      rcases q with q | q
      · exact E.occ a q
      · exact absurd q z
theorem EnR.lessO {K : PySem.W.Frag} {n : Nat} {J : Jv n} {O : Addr → Prop} {as : Nat → Option Addr} {H : Hp} {ρ : En} {σ : L2.St} {p : Addr} (E : EnR K J (plus O p) as H ρ σ) (hq : J.Q O) : EnR K J O as H ρ σ :=
  ⟨E.len, fun i sl o h1 h2 => (E.at_ i sl o h1 h2).mono (hp_less fun _ => hid_plus) fun _ _ => rfl, E.inj, fun i a e q => E.out i a e (.inl q), E.bnd, fun a q => E.occ a (.inl q), E.inv, hq⟩
theorem EnR.putO {K : PySem.W.Frag} {n : Nat} {J : Jv n} {O : Addr → Prop} {as : Nat → Option Addr} {H : Hp} {ρ : En} {σ : L2.St} {p : Addr} {o : HO} (E : EnR K J O as H ρ σ) (h : O p) (hJ : J.P as (upd H p o)) :
    EnR K J O as (upd H p o) ρ σ ∧ Same (hp (Hid O as) H) (hp (Hid O as) (upd H p o)) := by
  have hS : Same (hp (Hid O as) H) (hp (Hid O as) (upd H p o)) := fun a u e => by
    obtain ⟨n, e⟩ := hp_some e
    exact hp_mk n (by rw [upd_ne (fun z : a = p => n (by rw [z]; exact .inl h))]; exact e)
  refine ⟨⟨E.len, fun i sl o' h1 h2 => (E.at_ i sl o' h1 h2).mono hS fun b hb => ?_, E.inj, E.out, E.bnd, fun a q => ?_, hJ, E.inq⟩, hS⟩
  · rw [upd_ne]
    rintro rfl
    exact E.out i b hb h
  · by_cases z : a = p
    · rw [z, upd_same]; exact Option.some_ne_none _
    · rw [upd_ne z]; exact E.occ a q
/-- an expression that makes a new list -/
def RN (K : PySem.W.Frag) {n : Nat} (J : Jv n) (t : TE) (f : FA) : Prop := ∀ (O : Addr → Prop) (as : Nat → Option Addr) (σ : L2.St) (H : Hp) (Q : VK) (ρ : En) (P : List PyData → En → Prop), EnR K J O as H ρ σ → f ρ P →
  (∀ ds ρ' p xs H', P ds ρ' → FrA (Own as) H H' → H p = none → EnR K J (plus O p) as H' ρ' σ → H' p = some (.lst xs) → DqAll K (hp (Hid (plus O p) as) H') xs ds → Q (.ref p) H') → t σ H Q
def RT (K : PySem.W.Frag) {n : Nat} (J : Jv n) (t : TT) (f : FT) : Prop := ∀ (O : Addr → Prop) (as : Nat → Option Addr) (σ : L2.St) (H : Hp) (Q : Bool → Hp → Prop) (ρ : En) (P : Bool → En → Prop), EnR K J O as H ρ σ → f ρ P →
  (∀ b ρ' H', P b ρ' → FrA (Own as) H H' → EnR K J O as H' ρ' σ → Q b H') → t σ H Q
def RA (K : PySem.W.Frag) {n : Nat} (J : Jv n) (t : TA) (f : FA) : Prop := ∀ (O : Addr → Prop) (as : Nat → Option Addr) (σ : L2.St) (H : Hp) (Q : List V → Hp → Prop) (ρ : En) (P : List PyData → En → Prop), EnR K J O as H ρ σ → f ρ P →
  (∀ ds ρ' vs H', P ds ρ' → FrA (Own as) H H' → EnR K J O as H' ρ' σ → DqAll K (hp (Hid O as) H') vs ds → Q vs H') → t σ H Q
inductive ArR (K : PySem.W.Frag) (G : Hp) (as : Nat → Option Addr) : V → Ar → Prop
  | dat {v : V} {d : PyData} : Dq K G v d → ArR K G as v (.dat d)
  | own {a : Addr} {i : Nat} : as i = some a → ArR K G as (.ref a) (.own i)
inductive ArsR (K : PySem.W.Frag) (G : Hp) (as : Nat → Option Addr) : List V → List Ar → Prop
  | nil : ArsR K G as [] []
  | cons {v : V} {vs : List V} {x : Ar} {xs : List Ar} : ArR K G as v x → ArsR K G as vs xs → ArsR K G as (v :: vs) (x :: xs)
def RC (K : PySem.W.Frag) {n : Nat} (J : Jv n) (t : TA) (f : FC) : Prop := ∀ (O : Addr → Prop) (as : Nat → Option Addr) (σ : L2.St) (H : Hp) (Q : List V → Hp → Prop) (ρ : En) (P : List Ar → En → Prop), EnR K J O as H ρ σ → f ρ P →
  (∀ xs ρ' vs H', P xs ρ' → FrA (Own as) H H' → EnR K J O as H' ρ' σ → ArsR K (hp (Hid O as) H') as vs xs → Q vs H') → t σ H Q
/-- but for these slots all is as it was -/
def Touch (vs : List Nat) (σ σ' : L2.St) : Prop := σ'.length = σ.length ∧ ∀ j, j ∉ vs → σ'[j]? = σ[j]?
def RG (K : PySem.W.Frag) {n : Nat} (J : Jv n) (vs : List Nat) (g : TG) (f : FG) : Prop := ∀ (O : Addr → Prop) (as : Nat → Option Addr) (σ : L2.St) (H : Hp) (R : L2.St → Hp → Prop) (ρ : En) (P : En → Prop) (v : V) (d : PyData), EnR K J O as H ρ σ → Dq K (hp (Hid O as) H) v d → f d ρ P →
  (∀ ρ' σ' H', P ρ' → FrA (Own as) H H' → EnR K J O as H' ρ' σ' → Touch vs σ σ' → R σ' H') → g v σ H R
def RGs (K : PySem.W.Frag) {n : Nat} (J : Jv n) (vs : List Nat) (g : TGs) (f : FGs) : Prop := ∀ (O : Addr → Prop) (as : Nat → Option Addr) (σ : L2.St) (H : Hp) (R : L2.St → Hp → Prop) (ρ : En) (P : En → Prop) (ys : List V) (ds : List PyData), EnR K J O as H ρ σ → DqAll K (hp (Hid O as) H) ys ds → f ds ρ P →
  (∀ ρ' σ' H', P ρ' → FrA (Own as) H H' → EnR K J O as H' ρ' σ' → Touch vs σ σ' → R σ' H') → g ys σ H R
/-- what the ends ask, carried over -/
structure Car (K : PySem.W.Frag) {n : Nat} (J : Jv n) (O : Addr → Prop) (as : Nat → Option Addr) (H : Hp) (E : FEnds) (D : Ends) : Prop where
  nx : ∀ ρ' as' σ' H', E.nx ρ' → Ext n as as' H H' → EnR K J O as' H' ρ' σ' → D.nx σ' H'
  rt : ∀ d ρ' v as' σ' H', E.rt d ρ' → Ext n as as' H H' → EnR K J O as' H' ρ' σ' → Dq K (hp (Hid O as') H') v d → D.rt v H'
  bk : ∀ ρ' as' σ' H', E.bk ρ' → Ext n as as' H H' → EnR K J O as' H' ρ' σ' → D.bk σ' H'
  ct : ∀ ρ' as' σ' H', E.ct ρ' → Ext n as as' H H' → EnR K J O as' H' ρ' σ' → D.ct σ' H'
  ro : ∀ ds ρ' p xs as' σ' H', E.ro ds ρ' → Ext n as as' H H' → H p = none ∨ Own as p → EnR K J (plus O p) as' H' ρ' σ' → H' p = some (.lst xs) → DqAll K (hp (Hid (plus O p) as') H') xs ds → D.rt (.ref p) H'
theorem Ext.old {n : Nat} {as as' : Nat → Option Addr} {H H' : Hp} {p : Addr} (x : Ext n as as' H H') (h : H' p = none ∨ Own as' p) : H p = none ∨ Own as p := by
  by_cases w : Own as p
  · exact .inr w
  · rcases h with h | h
    · cases e : H p with
      | none => exact .inl rfl
      | some o => rw [x.fr p o w e] at h; cases h
    · rcases x.new p h with z | z
      · exact absurd z w
      · exact .inl z
theorem Car.ext {K : PySem.W.Frag} {n : Nat} {J : Jv n} {O : Addr → Prop} {as as' : Nat → Option Addr} {H H' : Hp} {E : FEnds} {D : Ends} (C : Car K J O as H E D) (x : Ext n as as' H H') : Car K J O as' H' E D :=
  ⟨fun ρ' as2 σ' H2 p y => C.nx ρ' as2 σ' H2 p (x.trans y), fun d ρ' v as2 σ' H2 p y => C.rt d ρ' v as2 σ' H2 p (x.trans y), fun ρ' as2 σ' H2 p y => C.bk ρ' as2 σ' H2 p (x.trans y), fun ρ' as2 σ' H2 p y => C.ct ρ' as2 σ' H2 p (x.trans y), fun ds ρ' p xs as2 σ' H2 q y o => C.ro ds ρ' p xs as2 σ' H2 q (x.trans y) (x.old o)⟩
def RS (K : PySem.W.Frag) {n : Nat} (J : Jv n) (t : TS) (f : FS) : Prop := ∀ (O : Addr → Prop) (as : Nat → Option Addr) (σ : L2.St) (H : Hp) (D : Ends) (ρ : En) (E : FEnds), EnR K J O as H ρ σ → f E ρ → Car K J O as H E D → t D σ H

section
variable {K : PySem.W.Frag} {n : Nat} {J : Jv n}
theorem own_hid {O : Addr → Prop} {as : Nat → Option Addr} : ∀ a, Own as a → Hid O as a := fun _ h => .inr h
theorem Dq.fr {O : Addr → Prop} {as : Nat → Option Addr} {H H' : Hp} {v : V} {d : PyData} (q : Dq K (hp (Hid O as) H) v d) (f : FrA (Own as) H H') : Dq K (hp (Hid O as) H') v d := q.mono (hp_fr f own_hid)
theorem DqAll.fr {O : Addr → Prop} {as : Nat → Option Addr} {H H' : Hp} {v : List V} {d : List PyData} (q : DqAll K (hp (Hid O as) H) v d) (f : FrA (Own as) H H') : DqAll K (hp (Hid O as) H') v d := q.mono (hp_fr f own_hid)
/-! constants, names -/
def fC (d : PyData) : FE := fun ρ P => P d ρ
theorem re_c {v : V} {d : PyData} (h : ∀ H, Dq K H v d) : RE K J (tC v) (fC d) := fun O as σ H Q ρ P E f k => k d ρ v H f (FrA.refl _ _) E (h _)
def fV (i : Nat) : FE := fun ρ P => match ρ[i]? with
  | some (.fz d) => P d ρ
  | _ => False
theorem re_v {i : Nat} : RE K J (tVar i) (fV i) := by
  intro O as σ H Q ρ P E f k
  unfold fV at f
  split at f
  · next d h =>
    obtain ⟨v, e, _, q⟩ := E.fz_at h
    exact ⟨v, e, k d ρ v H f (FrA.refl _ _) E q⟩
  · exact f.elim
/-! arguments -/
def fNil : FA := fun ρ P => P [] ρ
def fCons (a : FE) (b : FA) : FA := fun ρ P => a ρ fun d ρ1 => b ρ1 fun ds ρ2 => P (d :: ds) ρ2
theorem ra_nil : RA K J tNil fNil := fun O as σ H Q ρ P E f k => k [] ρ [] H f (FrA.refl _ _) E .nil
theorem ra_cons {ta : TE} {t : TA} {fa : FE} {f : FA} (ha : RE K J ta fa) (h : RA K J t f) : RA K J (tCons ta t) (fCons fa f) := by
  intro O as σ H Q ρ P E q k
  refine ha O as σ H _ ρ _ E q fun d ρ1 v H1 q1 f1 E1 d1 => ?_
  refine h O as σ H1 _ ρ1 _ E1 q1 fun ds ρ2 vs H2 q2 f2 E2 d2 => ?_
  exact k _ _ _ _ q2 (f1.trans f2) E2 (.cons (d1.fr f2) d2)
/-! operators -/
def RR (K : PySem.W.Frag) (r : R2) (g : PyData → PyData → (PyData → Prop) → Prop) : Prop := ∀ (A : Addr → Prop) (H : Hp) (Q : VK) (x y : V) (a b : PyData) (P : PyData → Prop), (∀ c, A c → H c ≠ none) →
  Dq K (hp A H) x a → Dq K (hp A H) y b → g a b P → (∀ d v H', P d → Same H H' → Dq K (hp A H') v d → Q v H') → r x y H Q
def fOp (g : PyData → PyData → (PyData → Prop) → Prop) (a b : FE) : FE := fun ρ P => a ρ fun x ρ1 => b ρ1 fun y ρ2 => g x y fun d => P d ρ2
theorem re_op {r : R2} {g : PyData → PyData → (PyData → Prop) → Prop} {ta tb : TE} {fa fb : FE} (hr : RR K r g) (ha : RE K J ta fa) (hb : RE K J tb fb) : RE K J (tOp r ta tb) (fOp g fa fb) := by
  intro O as σ H Q ρ P E q k
  refine ha O as σ H _ ρ _ E q fun a ρ1 x H1 q1 f1 E1 d1 => ?_
  refine hb O as σ H1 _ ρ1 _ E1 q1 fun b ρ2 y H2 q2 f2 E2 d2 => ?_
  refine hr (Hid O as) H2 _ x y a b _ (fun c h => E2.full h) (d1.fr f2) d2 q2 fun d v H3 p s3 d3 => ?_
  exact k d ρ2 v H3 p ((f1.trans f2).trans (FrA.of s3)) (E2.grow s3) d3
def RU (K : PySem.W.Frag) (r : V → Hp → VK → Prop) (g : PyData → (PyData → Prop) → Prop) : Prop := ∀ (A : Addr → Prop) (H : Hp) (Q : VK) (x : V) (a : PyData) (P : PyData → Prop), (∀ c, A c → H c ≠ none) →
  Dq K (hp A H) x a → g a P → (∀ d v H', P d → Same H H' → Dq K (hp A H') v d → Q v H') → r x H Q
def fUn (g : PyData → (PyData → Prop) → Prop) (a : FE) : FE := fun ρ P => a ρ fun x ρ1 => g x fun d => P d ρ1
theorem re_un {r : V → Hp → VK → Prop} {g : PyData → (PyData → Prop) → Prop} {ta : TE} {fa : FE} (hr : RU K r g) (ha : RE K J ta fa) : RE K J (tUn r ta) (fUn g fa) := by
  intro O as σ H Q ρ P E q k
  refine ha O as σ H _ ρ _ E q fun a ρ1 x H1 q1 f1 E1 d1 => ?_
  refine hr (Hid O as) H1 _ x a _ (fun c h => E1.full h) d1 q1 fun d v H3 p s3 d3 => ?_
  exact k d ρ1 v H3 p (f1.trans (FrA.of s3)) (E1.grow s3) d3
/-! built-in calls -/
def RB (K : PySem.W.Frag) (r : List V → Hp → VK → Prop) (g : List PyData → (PyData → Prop) → Prop) : Prop := ∀ (A : Addr → Prop) (H : Hp) (Q : VK) (xs : List V) (ds : List PyData) (P : PyData → Prop), (∀ c, A c → H c ≠ none) →
  DqAll K (hp A H) xs ds → g ds P → (∀ d v H', P d → Same H H' → Dq K (hp A H') v d → Q v H') → r xs H Q
def fCB (g : List PyData → (PyData → Prop) → Prop) (a : FA) : FE := fun ρ P => a ρ fun ds ρ1 => g ds fun d => P d ρ1
theorem re_cb {r : List V → Hp → VK → Prop} {g : List PyData → (PyData → Prop) → Prop} {t : TA} {f : FA} (hr : RB K r g) (ha : RA K J t f) : RE K J (tCB r t) (fCB g f) := by
  intro O as σ H Q ρ P E q k
  refine ha O as σ H _ ρ _ E q fun ds ρ1 vs H1 q1 f1 E1 d1 => ?_
  refine hr (Hid O as) H1 _ vs ds _ (fun c h => E1.full h) d1 q1 fun d v H3 p s3 d3 => ?_
  exact k d ρ1 v H3 p (f1.trans (FrA.of s3)) (E1.grow s3) d3
/-- methods of texts -/
def RM (K : PySem.W.Frag) (r : V → List V → Hp → VK → Prop) (g : Str → List PyData → (PyData → Prop) → Prop) : Prop := ∀ (A : Addr → Prop) (H : Hp) (Q : VK) (z : Str) (xs : List V) (ds : List PyData) (P : PyData → Prop), (∀ c, A c → H c ≠ none) →
  DqAll K (hp A H) xs ds → g z ds P → (∀ d v H', P d → Same H H' → Dq K (hp A H') v d → Q v H') → r (.str z) xs H Q
def strF (a : PyData) (k : Str → Prop) : Prop := match a with
  | .str z => k z
  | _ => False
def fBM (g : Str → List PyData → (PyData → Prop) → Prop) (a : FE) (b : FA) : FE := fun ρ P => a ρ fun x ρ1 => strF x fun z => b ρ1 fun ds ρ2 => g z ds fun d => P d ρ2
theorem re_bm {r : V → List V → Hp → VK → Prop} {g : Str → List PyData → (PyData → Prop) → Prop} {to : TE} {t : TA} {fo : FE} {f : FA} (hr : RM K r g) (ho : RE K J to fo) (ha : RA K J t f) : RE K J (tBM K "str" r to t) (fBM g fo f) := by
  intro O as σ H Q ρ P E q k
  refine ho O as σ H _ ρ _ E q fun a ρ1 x H1 q1 f1 E1 d1 => ?_
  unfold strF at q1
  split at q1
  · next z =>
    cases d1
    refine ⟨rfl, ?_⟩
    refine ha O as σ H1 _ ρ1 _ E1 q1 fun ds ρ2 vs H2 q2 f2 E2 d2 => ?_
    refine hr (Hid O as) H2 _ z vs ds _ (fun c h => E2.full h) d2 q2 fun d v H3 p s3 d3 => ?_
    exact k d ρ2 v H3 p ((f1.trans f2).trans (FrA.of s3)) (E2.grow s3) d3
  · exact q1.elim
/-! displays -/
def fTup (f : FA) : FE := fun ρ P => f ρ fun ds ρ1 => ds.length ≤ sizeLine ∧ P (.tuple ds) ρ1
theorem re_tup {t : TA} {f : FA} (h : RA K J t f) : RE K J (tTup t) (fTup f) := by
  intro O as σ H Q ρ P E q k
  refine h O as σ H _ ρ _ E q fun ds ρ1 vs H1 q1 f1 E1 d1 => ⟨by rw [d1.length]; exact q1.1, fun p hp1 => ?_⟩
  have s := Same.new (o := .tup vs) hp1
  refine k _ _ _ _ q1.2 (f1.trans (FrA.of s)) (E1.grow s) (.tup (SqT.of (hp_mk (E1.fresh hp1) upd_same)) (d1.mono (hp_grow s)))
def fLst (f : FA) : FA := fun ρ P => f ρ fun ds ρ1 => ds.length ≤ sizeLine ∧ P ds ρ1
theorem rn_lst {t : TA} {f : FA} (h : RA K J t f) : RN K J (tLst t) (fLst f) := by
  intro O as σ H Q ρ P E q k
  refine h O as σ H _ ρ _ E q fun ds ρ1 vs H1 q1 f1 E1 d1 => ⟨by rw [d1.length]; exact q1.1, fun p hp1 => ?_⟩
  obtain ⟨E2, s2⟩ := E1.addO (o := .lst vs) hp1
  refine k _ _ _ _ _ q1.2 (f1.trans (FrA.of (Same.new hp1))) ?_ E2 upd_same (d1.mono s2)
  cases e : H p with
  | none => rfl
  | some o =>
    by_cases w : Own as p
    · exact absurd (.inr w) (E1.fresh hp1)
    · rw [f1 _ _ w e] at hp1; cases hp1
def fNew (f : FA) : FE := fun ρ P => f ρ fun ds ρ1 => P (.list ds) ρ1
theorem RN.re {t : TE} {f : FA} (h : RN K J t f) : RE K J t (fNew f) := by
  intro O as σ H Q ρ P E q k
  refine h O as σ H _ ρ _ E q fun ds ρ1 p xs H2 q1 f1 hp1 E1 hp2 d1 => ?_
  exact k _ _ _ _ q1 f1 (E1.lessO E.inq) (.lst (SqL.of (hp_mk (E.fresh hp1) hp2)) (d1.mono (hp_less fun _ => hid_plus)))
/-! tests -/
def boolF (a : PyData) (k : Bool → Prop) : Prop := match a with
  | .bool b => k b
  | _ => False
def fB (f : FE) : FT := fun ρ P => f ρ fun d ρ1 => boolF d fun b => P b ρ1
theorem rt_b {t : TE} {f : FE} (h : RE K J t f) : RT K J (tB t) (fB f) := by
  intro O as σ H Q ρ P E q k
  refine h O as σ H _ ρ _ E q fun d ρ1 v H1 q1 f1 E1 d1 => ?_
  unfold boolF at q1
  split at q1
  · cases d1; exact ⟨_, rfl, k _ _ _ q1 f1 E1⟩
  · exact q1.elim
theorem rt_test {t : TE} {f : FE} (h : RE K J t f) : RT K J (tTest t) (fB f) := rt_b h
def fAnd (a b : FT) : FT := fun ρ P => a ρ fun c ρ1 => if c = true then b ρ1 P else P false ρ1
def fOr (a b : FT) : FT := fun ρ P => a ρ fun c ρ1 => if c = true then P true ρ1 else b ρ1 P
def fNot (a : FT) : FT := fun ρ P => a ρ fun c ρ1 => P (!c) ρ1
theorem rt_and {t u : TT} {a b : FT} (ha : RT K J t a) (hb : RT K J u b) : RT K J (tAnd t u) (fAnd a b) := by
  intro O as σ H Q ρ P E q k
  refine ha O as σ H _ ρ _ E q fun c ρ1 H1 q1 f1 E1 => ?_
  cases c
  · exact k _ _ _ q1 f1 E1
  · exact hb O as σ H1 _ ρ1 _ E1 q1 fun b ρ2 H2 q2 f2 E2 => k _ _ _ q2 (f1.trans f2) E2
theorem rt_or {t u : TT} {a b : FT} (ha : RT K J t a) (hb : RT K J u b) : RT K J (tOr t u) (fOr a b) := by
  intro O as σ H Q ρ P E q k
  refine ha O as σ H _ ρ _ E q fun c ρ1 H1 q1 f1 E1 => ?_
  cases c
  · exact hb O as σ H1 _ ρ1 _ E1 q1 fun b ρ2 H2 q2 f2 E2 => k _ _ _ q2 (f1.trans f2) E2
  · exact k _ _ _ q1 f1 E1
theorem rt_not {t : TT} {a : FT} (ha : RT K J t a) : RT K J (tNot t) (fNot a) := by
  intro O as σ H Q ρ P E q k
  exact ha O as σ H _ ρ _ E q fun c ρ1 H1 q1 f1 E1 => k _ _ _ q1 f1 E1
def fAndV (a b : FE) : FE := fun ρ P => a ρ fun d ρ1 => boolF d fun c => if c = true then b ρ1 P else P (.bool false) ρ1
def fOrV (a b : FE) : FE := fun ρ P => a ρ fun d ρ1 => boolF d fun c => if c = true then P (.bool true) ρ1 else b ρ1 P
def fNotV (a : FE) : FE := fun ρ P => a ρ fun d ρ1 => boolF d fun c => P (.bool (!c)) ρ1
theorem re_and {t u : TE} {a b : FE} (ha : RE K J t a) (hb : RE K J u b) : RE K J (tAndV t u) (fAndV a b) := by
  intro O as σ H Q ρ P E q k
  refine ha O as σ H _ ρ _ E q fun d ρ1 v H1 q1 f1 E1 d1 => ?_
  unfold boolF at q1
  split at q1
  · next c =>
    cases d1
    refine ⟨_, rfl, ?_⟩
    cases c
    · exact k _ _ _ _ q1 f1 E1 (.bl _)
    · exact hb O as σ H1 _ ρ1 _ E1 q1 fun b ρ2 v H2 q2 f2 E2 => k _ _ _ _ q2 (f1.trans f2) E2
  · exact q1.elim
theorem re_or {t u : TE} {a b : FE} (ha : RE K J t a) (hb : RE K J u b) : RE K J (tOrV t u) (fOrV a b) := by
  intro O as σ H Q ρ P E q k
  refine ha O as σ H _ ρ _ E q fun d ρ1 v H1 q1 f1 E1 d1 => ?_
  unfold boolF at q1
  split at q1
  · next c =>
    cases d1
    refine ⟨_, rfl, ?_⟩
    cases c
    · exact hb O as σ H1 _ ρ1 _ E1 q1 fun b ρ2 v H2 q2 f2 E2 => k _ _ _ _ q2 (f1.trans f2) E2
    · exact k _ _ _ _ q1 f1 E1 (.bl _)
  · exact q1.elim
theorem re_not {t : TE} {a : FE} (ha : RE K J t a) : RE K J (tNotV t) (fNotV a) := by
  intro O as σ H Q ρ P E q k
  refine ha O as σ H _ ρ _ E q fun d ρ1 v H1 q1 f1 E1 d1 => ?_
  unfold boolF at q1
  split at q1
  · cases d1
    exact ⟨_, rfl, k _ _ _ _ q1 f1 E1 (.bl _)⟩
  · exact q1.elim
def fIf (c : FT) (a b : FE) : FE := fun ρ P => c ρ fun k ρ1 => if k = true then a ρ1 P else b ρ1 P
theorem re_if {t : TT} {ta tb : TE} {c : FT} {a b : FE} (hc : RT K J t c) (ha : RE K J ta a) (hb : RE K J tb b) : RE K J (tIf t ta tb) (fIf c a b) := by
  intro O as σ H Q ρ P E q k
  refine hc O as σ H _ ρ _ E q fun c ρ1 H1 q1 f1 E1 => ?_
  cases c
  · exact hb O as σ H1 _ ρ1 _ E1 q1 fun b ρ2 v H2 q2 f2 E2 => k _ _ _ _ q2 (f1.trans f2) E2
  · exact ha O as σ H1 _ ρ1 _ E1 q1 fun b ρ2 v H2 q2 f2 E2 => k _ _ _ _ q2 (f1.trans f2) E2
def fChain (g g' : PyData → PyData → (PyData → Prop) → Prop) (a b c : FE) : FE := fun ρ P => a ρ fun x ρ1 => b ρ1 fun y ρ2 => g x y fun z => boolF z fun k => if k = true then c ρ2 fun w ρ3 => g' y w fun d => P d ρ3 else P (.bool false) ρ2
theorem re_chain {r r' : R2} {g g' : PyData → PyData → (PyData → Prop) → Prop} {ta tb tc : TE} {fa fb fc : FE} (hr : RR K r g) (hr' : RR K r' g') (ha : RE K J ta fa) (hb : RE K J tb fb) (hc : RE K J tc fc) : RE K J (tChain r r' ta tb tc) (fChain g g' fa fb fc) := by
  intro O as σ H Q ρ P E q k
  refine ha O as σ H _ ρ _ E q fun a ρ1 x H1 q1 f1 E1 d1 => ?_
  refine hb O as σ H1 _ ρ1 _ E1 q1 fun b ρ2 y H2 q2 f2 E2 d2 => ?_
  refine hr (Hid O as) H2 _ x y a b _ (fun c h => E2.full h) (d1.fr f2) d2 q2 fun d v H3 p s3 d3 => ?_
  unfold boolF at p
  split at p
  · next c =>
    cases d3
    refine ⟨_, rfl, ?_⟩
    have E3 := E2.grow s3
    have f3 := (f1.trans f2).trans (FrA.of s3)
    cases c
    · exact k _ _ _ _ p f3 E3 (.bl _)
    · refine hc O as σ H3 _ ρ2 _ E3 p fun e ρ4 w H4 q4 f4 E4 d4 => ?_
      refine hr' (Hid O as) H4 _ y w b e _ (fun c h => E4.full h) ((d2.mono (hp_grow s3)).fr f4) d4 q4 fun d v H5 p s5 d5 => ?_
      exact k _ _ _ _ p ((f3.trans f4).trans (FrA.of s5)) (E4.grow s5) d5
  · exact p.elim
/-! stores -/
def gN (i : Nat) : FG := fun d ρ P => slotF ρ i = true ∧ P (ρ.set i (.fz d))
theorem rg_name {i : Nat} : RG K J [i] (gName i) (gN i) := fun O as σ H R ρ P v d E q f k => k _ _ H f.2 (FrA.refl _ _) (E.setFz f.1 q) ⟨List.length_set, fun j hj => by
  rw [List.getElem?_set, if_neg (fun z => hj (by simp [z]))]⟩
def gsNil : FGs := fun ds ρ P => ds = [] ∧ P ρ
def gsCons (a : FG) (b : FGs) : FGs := fun ds ρ P => match ds with
  | d :: r => a d ρ fun ρ1 => b r ρ1 P
  | [] => False
theorem rgs_nil : RGs K J [] gNil gsNil := by
  intro O as σ H R ρ P vs ds E q f k
  obtain ⟨rfl, f⟩ := f
  cases q
  exact ⟨rfl, k _ _ H f (FrA.refl _ _) E ⟨rfl, fun _ _ => rfl⟩⟩
theorem rgs_cons {us ws : List Nat} {g : TG} {gs : TGs} {a : FG} {b : FGs} (ha : RG K J us g a) (hb : RGs K J ws gs b) : RGs K J (us ++ ws) (gCons g gs) (gsCons a b) := by
  intro O as σ H R ρ P vs ds E q f k
  cases q with
  | nil => exact f.elim
  | cons q1 q2 =>
    refine ⟨_, _, rfl, ?_⟩
    refine ha O as σ H _ ρ _ _ _ E q1 f fun ρ1 σ1 H1 p1 f1 E1 z1 => ?_
    exact hb O as σ1 H1 _ ρ1 _ _ _ E1 (q2.fr f1) p1 fun ρ2 σ2 H2 p2 f2 E2 z2 => k _ _ _ p2 (f1.trans f2) E2 ⟨z2.1.trans z1.1, fun j hj => by
      rw [List.mem_append, not_or] at hj
      rw [z2.2 j hj.2, z1.2 j hj.1]⟩
def gT (m : Nat) (b : FGs) : FG := fun d ρ P => match d with
  | .tuple ds => ds.length = m ∧ b ds ρ P
  | _ => False
theorem rg_tup {ws : List Nat} {m : Nat} {gs : TGs} {b : FGs} (h : RGs K J ws gs b) : RG K J ws (gTup K m gs) (gT m b) := by
  intro O as σ H R ρ P v d E q f k
  unfold gT at f
  split at f
  · obtain ⟨a, xs, rfl, s, r⟩ := q.tuple_of
    exact ⟨_, _, rfl, SqT.mono hp_same s, by rw [r.length]; exact f.1, h O as σ H _ ρ _ _ _ E r f.2 k⟩
  · exact f.elim
/-! statements -/
def fSeq (a b : FS) : FS := fun E ρ => a { E with nx := b E } ρ
theorem rs_seq {t u : TS} {a b : FS} (ha : RS K J t a) (hb : RS K J u b) : RS K J (tSeq t u) (fSeq a b) := by
  intro O as σ H D ρ E R f C
  refine ha O as σ H _ ρ _ R f ⟨fun ρ' as' σ' H' p x R' => ?_, C.rt, C.bk, C.ct, C.ro⟩
  exact hb O as' σ' H' D ρ' E R' p (C.ext x)
def fNext : FS := fun E ρ => E.nx ρ
theorem rs_next : RS K J tNext fNext := fun O as σ H D ρ E R f C => C.nx ρ as σ H f .refl R
def fAsg (a : FE) (g : FG) : FS := fun E ρ => a ρ fun d ρ1 => g d ρ1 E.nx
theorem rs_asg {ws : List Nat} {te : TE} {g : TG} {a : FE} {b : FG} (ha : RE K J te a) (hg : RG K J ws g b) : RS K J (tAsg te g) (fAsg a b) := by
  intro O as σ H D ρ E R f C
  refine ha O as σ H _ ρ _ R f fun d ρ1 v H1 q1 f1 E1 d1 => ?_
  refine hg O as σ H1 _ ρ1 _ v d E1 d1 q1 fun ρ2 σ2 H2 p2 f2 E2 _ => ?_
  exact C.nx _ _ _ _ p2 (.of (f1.trans f2)) E2
def fRet (a : FE) : FS := fun E ρ => a ρ E.rt
theorem rs_ret {te : TE} {a : FE} (ha : RE K J te a) : RS K J (tRet te) (fRet a) := by
  intro O as σ H D ρ E R f C
  exact ha O as σ H _ ρ _ R f fun d ρ1 v H1 q1 f1 E1 d1 => C.rt _ _ _ _ _ _ q1 (.of f1) E1 d1
def fRetN : FS := fun E ρ => E.rt .none ρ
theorem rs_retN : RS K J tRetN fRetN := fun O as σ H D ρ E R f C => C.rt _ _ _ _ _ _ f .refl R .non
def fDrop (a : FE) : FS := fun E ρ => a ρ fun _ ρ1 => E.nx ρ1
theorem rs_drop {te : TE} {a : FE} (ha : RE K J te a) : RS K J (tDrop te) (fDrop a) := by
  intro O as σ H D ρ E R f C
  exact ha O as σ H _ ρ _ R f fun d ρ1 v H1 q1 f1 E1 d1 => C.nx _ _ _ _ q1 (.of f1) E1
def fIfS (c : FT) (a b : FS) : FS := fun E ρ => c ρ fun k ρ1 => if k = true then a E ρ1 else b E ρ1
theorem rs_if {c : TT} {t u : TS} {fc : FT} {a b : FS} (hc : RT K J c fc) (ha : RS K J t a) (hb : RS K J u b) : RS K J (tIfS c t u) (fIfS fc a b) := by
  intro O as σ H D ρ E R f C
  refine hc O as σ H _ ρ _ R f fun k ρ1 H1 q1 f1 E1 => ?_
  cases k
  · exact hb O as σ H1 D ρ1 E E1 q1 (C.ext (.of f1))
  · exact ha O as σ H1 D ρ1 E E1 q1 (C.ext (.of f1))
def fNever : FS := fun _ _ => False
theorem rs_never : RS K J tNever fNever := fun O as σ H D ρ E R f C => f.elim
def fBreak : FS := fun E ρ => E.bk ρ
theorem rs_break : RS K J tBreak fBreak := fun O as σ H D ρ E R f C => C.bk ρ as σ H f .refl R
def fCont : FS := fun E ρ => E.ct ρ
theorem rs_cont : RS K J tCont fCont := fun O as σ H D ρ E R f C => C.ct ρ as σ H f .refl R
def fPar (i j : Nat) (a : FA) : FS := fun E ρ => a ρ fun ds ρ1 => match ds with
  | [x, y] => gN i x ρ1 fun ρ2 => gN j y ρ2 E.nx
  | _ => False
theorem rs_par {i j : Nat} {t : TA} {a : FA} (ha : RA K J t a) : RS K J (tPar i j t) (fPar i j a) := by
  intro O as σ H D ρ E R f C
  refine ha O as σ H _ ρ _ R f fun ds ρ1 vs H1 q1 f1 E1 d1 => ?_
  split at q1
  · cases d1 with
    | cons d1 r => cases r with
      | cons d2 r =>
        cases r
        refine ⟨_, _, rfl, ?_⟩
        exact C.nx _ _ _ _ q1.2.2 (.of f1) ((E1.setFz q1.1 d1).setFz q1.2.1 d2)
  · exact q1.elim
/-- an own list that is so from now on -/
def fFreeze (i : Nat) (a : FS) : FS := fun E ρ => match ρ[i]? with
  | some (.own ds) => a E (ρ.set i (.fz (.list ds)))
  | _ => a E ρ
theorem rs_freeze {i : Nat} {t : TS} {a : FS} (hi : n ≤ i) (ha : RS K J t a) : RS K J t (fFreeze i a) := by
  intro O as σ H D ρ E R f C
  unfold fFreeze at f
  split at f
  · next ds h =>
    refine ha O _ σ H D _ E (R.freeze hi h) f (C.ext ⟨FrA.refl _ _, fun a q => ?_, fun j hj => upA_ne (by omega)⟩)
    rcases q.up with q | q
    · cases q
    · exact .inl q
  · exact ha O as σ H D ρ E R f C
/-- a new list into a slot, its own -/
def fOwn (i : Nat) (a : FA) : FS := fun E ρ => a ρ fun ds ρ1 => i < ρ1.length ∧ E.nx (ρ1.set i (.own ds))
theorem rs_own {i : Nat} {te : TE} {a : FA} (hi : n ≤ i) (ha : RN K J te a) : RS K J (tAsg te (gName i)) (fOwn i a) := by
  intro O as σ H D ρ E R f C
  refine ha O as σ H _ ρ _ R f fun ds ρ1 p xs H2 q1 f1 hp1 E1 hp2 d1 => ?_
  have np := R.fresh hp1
  have hS : Same (hp (Hid (plus O p) as) H2) (hp (fun a => Hid O as a ∨ a = p) H2) := hp_less fun a q => by
    rcases q with (q | q) | q
    · exact .inl (.inl q)
    · exact .inr q
    · exact .inl (.inr q)
  have x : Ext n as (upA as i (some p)) H H2 := ⟨f1, fun a q => by
    rcases q.up with q | q
    · rw [← Option.some.inj q]; exact .inr hp1
    · exact .inl q, fun j hj => upA_ne (by omega)⟩
  have E2 := (E1.lessO R.inq).setOwn q1.1 (J.cl _ _ _ _ R.inv x) np hp2 (fun j sl o h1 h2 _ => (E1.at_ j sl o h1 h2).mono hS fun b hb => rfl) (d1.mono hS)
  exact C.nx _ _ _ _ q1.2 x E2
end
end DL
/-! loops, comprehensions, calls -/
namespace DL
open PySem L2 Z
/-- what is gone through: the data of each turn -/
def IsIt (K : PySem.W.Frag) (A : Addr → Prop) (J : It) (H : Hp) (ds : List PyData) : Prop := ∃ (G : Hp → Prop) (Y : Nat → Hp → V → Hp → Prop), Walk J ds.length G Y ∧ (∀ (A' : Addr → Prop) (H1 : Hp), Same (hp A H) (hp A' H1) → G H1) ∧
  ∀ (i : Nat) (d : PyData) (A' : Addr → Prop) (H1 : Hp) (x : V) (H2 : Hp), ds[i]? = some d → Same (hp A H) (hp A' H1) → (∀ c, A' c → H1 c ≠ none) → Y i H1 x H2 → Same H1 H2 ∧ Dq K (hp A' H2) x d
def RI (K : PySem.W.Frag) {n : Nat} (J : Jv n) (wi : TI) (f : FA) : Prop := ∀ (O : Addr → Prop) (as : Nat → Option Addr) (σ : L2.St) (H : Hp) (R : It → Hp → Prop) (ρ : En) (P : List PyData → En → Prop), EnR K J O as H ρ σ → f ρ P →
  (∀ ds ρ' I H', P ds ρ' → FrA (Own as) H H' → EnR K J O as H' ρ' σ → IsIt K (Hid O as) I H' ds → R I H') → wi σ H R
section
variable {K : PySem.W.Frag} {n : Nat} {J : Jv n}
def listF (a : PyData) (k : List PyData → Prop) : Prop := match a with
  | .list ds => k ds
  | _ => False
def tupleF (a : PyData) (k : List PyData → Prop) : Prop := match a with
  | .tuple ds => k ds
  | _ => False
def intF (a : PyData) (k : Int → Prop) : Prop := match a with
  | .int i => k i
  | _ => False
def iL (f : FE) : FA := fun ρ P => f ρ fun d ρ1 => listF d fun ds => P ds ρ1
theorem ri_list {tl : TE} {f : FE} (h : RE K J tl f) : RI K J (iList K tl) (iL f) := by
  intro O as σ H R ρ P E q k
  refine h O as σ H _ ρ _ E q fun d ρ1 v H1 q1 f1 E1 d1 => ?_
  unfold listF at q1
  split at q1
  · next ds =>
    obtain ⟨a, xs, rfl, s, r⟩ := d1.list_of
    refine ⟨a, rfl, ⟨_, SqL.mono hp_same s⟩, k _ _ _ _ q1 f1 E1 ?_⟩
    refine ⟨_, _, by rw [← r.length]; exact walk_list (xs := xs), fun A' H2 s2 => SqL.mono hp_same (SqL.mono s2 s), fun i d A' H2 x H3 hd s2 oc y => ?_⟩
    obtain ⟨rfl, hx⟩ := y
    obtain ⟨d', e, q⟩ := r.get hx
    rw [hd] at e
    cases e
    exact ⟨Same.refl _, q.mono s2⟩
  · exact q1.elim
def iT (f : FE) : FA := fun ρ P => f ρ fun d ρ1 => tupleF d fun ds => P ds ρ1
theorem ri_tup {tl : TE} {f : FE} (h : RE K J tl f) : RI K J (iTup K tl) (iT f) := by
  intro O as σ H R ρ P E q k
  refine h O as σ H _ ρ _ E q fun d ρ1 v H1 q1 f1 E1 d1 => ?_
  unfold tupleF at q1
  split at q1
  · next ds =>
    obtain ⟨a, xs, rfl, s, r⟩ := d1.tuple_of
    refine ⟨a, rfl, ⟨_, SqT.mono hp_same s⟩, k _ _ _ _ q1 f1 E1 ?_⟩
    refine ⟨_, _, by rw [← r.length]; exact walk_tup (xs := xs), fun A' H2 s2 => SqT.mono hp_same (SqT.mono s2 s), fun i d A' H2 x H3 hd s2 oc y => ?_⟩
    obtain ⟨rfl, hx⟩ := y
    obtain ⟨d', e, q⟩ := r.get hx
    rw [hd] at e
    cases e
    exact ⟨Same.refl _, q.mono s2⟩
  · exact q1.elim
def signs (z : Str) : List PyData := z.cps.toList.map fun c => .str ⟨#[c]⟩
def iS (f : FE) : FA := fun ρ P => f ρ fun d ρ1 => strF d fun z => P (signs z) ρ1
theorem ri_str {te : TE} {f : FE} (h : RE K J te f) : RI K J (iStr te) (iS f) := by
  intro O as σ H R ρ P E q k
  refine h O as σ H _ ρ _ E q fun d ρ1 v H1 q1 f1 E1 d1 => ?_
  unfold strF at q1
  split at q1
  · next z =>
    cases d1
    refine ⟨z, rfl, k _ _ _ _ q1 f1 E1 ?_⟩
    refine ⟨_, _, by rw [signs, List.length_map, Array.length_toList]; exact walk_str (z := z), fun _ _ _ => trivial, fun i d A' H2 x H3 hd s2 oc y => ?_⟩
    obtain ⟨rfl, c, hc, rfl⟩ := y
    rw [signs, List.getElem?_map, Array.getElem?_toList, hc] at hd
    cases hd
    exact ⟨Same.refl _, .str _⟩
  · exact q1.elim
def rangeD (lo : Int) (m : Nat) : List PyData := (List.range m).map fun k : Nat => .int (lo + (k : Int))
theorem isIt_range {A : Addr → Prop} {H : Hp} {lo : Int} {m : Nat} : IsIt K A (Itr lo m) H (rangeD lo m) := by
  refine ⟨_, _, by rw [rangeD, List.length_map, List.length_range]; exact walk_range (lo := lo) (n := m), fun _ _ _ => trivial, fun i d A' H2 x H3 hd s2 oc y => ?_⟩
  obtain ⟨rfl, rfl⟩ := y
  rw [rangeD, List.getElem?_map] at hd
  have hi : i < m := by
    by_cases h : i < m
    · exact h
    · rw [List.getElem?_eq_none (by rw [List.length_range]; omega)] at hd; cases hd
  rw [List.getElem?_range hi] at hd
  cases hd
  exact ⟨Same.refl _, .int _⟩
def iR1 (f : FA) : FA := fun ρ P => f ρ fun ds ρ1 => match ds with
  | [.int j] => -(2 ^ 62) ≤ j ∧ j < 2 ^ 62 ∧ P (rangeD 0 j.toNat) ρ1
  | _ => False
theorem ri_rng1 {ta : TA} {f : FA} (h : RA K J ta f) : RI K J (iRng1 ta) (iR1 f) := by
  intro O as σ H R ρ P E q k
  refine h O as σ H _ ρ _ E q fun ds ρ1 vs H1 q1 f1 E1 d1 => ?_
  split at q1
  · cases d1 with
    | cons a b => cases a; cases b; exact ⟨_, rfl, q1.1, q1.2.1, k _ _ _ _ q1.2.2 f1 E1 isIt_range⟩
  · exact q1.elim
def iR2 (f : FA) : FA := fun ρ P => f ρ fun ds ρ1 => match ds with
  | [.int i, .int j] => (-(2 ^ 62) ≤ i ∧ i < 2 ^ 62 ∧ -(2 ^ 62) ≤ j ∧ j < 2 ^ 62) ∧ P (rangeD i (j - i).toNat) ρ1
  | _ => False
theorem ri_rng2 {ta : TA} {f : FA} (h : RA K J ta f) : RI K J (iRng2 ta) (iR2 f) := by
  intro O as σ H R ρ P E q k
  refine h O as σ H _ ρ _ E q fun ds ρ1 vs H1 q1 f1 E1 d1 => ?_
  split at q1
  · cases d1 with
    | cons a b => cases a; cases b with
      | cons a b => cases a; cases b; exact ⟨_, _, rfl, q1.1, k _ _ _ _ q1.2 f1 E1 isIt_range⟩
  · exact q1.elim
def downD (lo : Int) (m : Nat) : List PyData := (List.range m).map fun k : Nat => .int (lo - (k : Int))
/-- range(i, j, -1) -/
def iR3 (f : FA) : FA := fun ρ P => f ρ fun ds ρ1 => match ds with
  | [.int i, .int j, .int c] => c = -1 ∧ (-(2 ^ 62) ≤ i ∧ i < 2 ^ 62 ∧ -(2 ^ 62) ≤ j ∧ j < 2 ^ 62) ∧ P (downD i (i - j).toNat) ρ1
  | _ => False
theorem ri_rng3 {ta : TA} {f : FA} (h : RA K J ta f) : RI K J (iRng3 ta) (iR3 f) := by
  intro O as σ H R ρ P E q k
  refine h O as σ H _ ρ _ E q fun ds ρ1 vs H1 q1 f1 E1 d1 => ?_
  split at q1
  · next i j c =>
    cases d1 with
    | cons a b => cases a; cases b with
      | cons a b => cases a; cases b with
        | cons a b =>
          cases a; cases b
          obtain ⟨rfl, ⟨b1, b2, b3, b4⟩, q1⟩ := q1
          refine ⟨_, _, _, _, rfl, RgC.neg b1 b2 b3 b4, k _ _ _ _ q1 f1 E1 ?_⟩
          refine ⟨_, _, by rw [downD, List.length_map, List.length_range]; exact walk_rangeC (lo := i) (c := -1) (n := (i - j).toNat), fun _ _ _ => trivial, fun l d A' H2 x H3 hd s2 oc y => ?_⟩
          obtain ⟨rfl, rfl⟩ := y
          rw [downD, List.getElem?_map] at hd
          have hi : l < (i - j).toNat := by
            by_cases h : l < (i - j).toNat
            · exact h
            · rw [List.getElem?_eq_none (by rw [List.length_range]; omega)] at hd; cases hd
          rw [List.getElem?_range hi] at hd
          cases hd
          refine ⟨Same.refl _, ?_⟩
          dsimp only
          rw [show i + (l : Int) * -1 = i - (l : Int) by omega]
          exact .int _
  · exact q1.elim
theorem yPair {A A' : Addr → Prop} {H H1 H2 : Hp} {T : Addr} {x y : V} {a b : PyData} (hT : H1 T = none) (e : H2 = upd H1 T (.tup [x, y])) (oc : ∀ c, A' c → H1 c ≠ none) (hx : Dq K (hp A' H1) x a) (hy : Dq K (hp A' H1) y b) :
    Same H1 H2 ∧ Dq K (hp A' H2) (.ref T) (.tuple [a, b]) := by
  subst e
  have s := Same.new (o := .tup [x, y]) hT
  exact ⟨s, .tup (SqT.of (hp_mk (fun q => oc _ q hT) upd_same)) (.cons (hx.mono (hp_grow s)) (.cons (hy.mono (hp_grow s)) .nil))⟩
def enumD (ds : List PyData) : List PyData := ds.zipIdx.map fun z => .tuple [.int (z.2 : Nat), z.1]
def iE (f : FA) : FA := fun ρ P => f ρ fun ds ρ1 => match ds with
  | [.list es] => P (enumD es) ρ1
  | _ => False
theorem ri_enum {ta : TA} {f : FA} (h : RA K J ta f) : RI K J (iEnum K ta) (iE f) := by
  intro O as σ H R ρ P E q k
  refine h O as σ H _ ρ _ E q fun ds ρ1 vs H1 q1 f1 E1 d1 => ?_
  split at q1
  · next es =>
    cases d1 with
    | cons d1 b =>
      cases b
      obtain ⟨a, xs, rfl, s, r⟩ := d1.list_of
      refine ⟨a, xs, rfl, SqL.mono hp_same s, k _ _ _ _ q1 f1 E1 ?_⟩
      refine ⟨_, _, by rw [enumD, List.length_map, List.length_zipIdx, ← r.length]; exact walk_enum (xs := xs), fun A' H2 s2 => SqL.mono hp_same (SqL.mono s2 s), fun i d A' H2 x H3 hd s2 oc y => ?_⟩
      obtain ⟨T, x1, y1, rfl, hT, e, e1, e2⟩ := y
      cases e1
      obtain ⟨d', e', q'⟩ := r.get e2
      rw [enumD, List.getElem?_map, List.getElem?_zipIdx, e'] at hd
      simp only [Option.map_some, Nat.zero_add] at hd
      cases hd
      exact yPair (A := fun _ => False) (H := H) hT e oc (.int _) (q'.mono s2)
  · exact q1.elim
def zipD (a b : List PyData) : List PyData := (a.zip b).map fun z => .tuple [z.1, z.2]
def iZ (f : FA) : FA := fun ρ P => f ρ fun ds ρ1 => match ds with
  | [.list es, .list gs] => P (zipD es gs) ρ1
  | [.tuple es, .tuple gs] => P (zipD es gs) ρ1
  | _ => False
theorem zipD_get {es gs : List PyData} {i : Nat} {d d1 d2 : PyData} (h : (zipD es gs)[i]? = some d) (h1 : es[i]? = some d1) (h2 : gs[i]? = some d2) : d = .tuple [d1, d2] := by
  rw [zipD, List.getElem?_map, (List.getElem?_zip_eq_some (z := (d1, d2))).mpr ⟨h1, h2⟩] at h
  cases h
  rfl
theorem zipD_len {es gs : List PyData} : (zipD es gs).length = min es.length gs.length := by rw [zipD, List.length_map, List.length_zip]
theorem ri_zip {ta : TA} {f : FA} (h : RA K J ta f) : RI K J (RZ.iZipA K ta) (iZ f) := by
  intro O as σ H R ρ P E q k
  refine h O as σ H _ ρ _ E q fun ds ρ1 vs H1 q1 f1 E1 d1 => ?_
  split at q1
  · next es gs =>
    cases d1 with
    | cons d1 b => cases b with
      | cons d2 b =>
        cases b
        obtain ⟨a, xs, rfl, s, r⟩ := d1.list_of
        obtain ⟨a', xs', rfl, s', r'⟩ := d2.list_of
        refine ⟨a, a', xs, xs', rfl, .inl ⟨SqL.mono hp_same s, SqL.mono hp_same s', k _ _ _ _ q1 f1 E1 ?_⟩⟩
        refine ⟨_, _, walk_zip (xs := xs) (ys := xs') (n := (zipD es gs).length) (by rw [zipD_len, ← r.length, ← r'.length]), fun A' H2 s2 => ⟨SqL.mono hp_same (SqL.mono s2 s), SqL.mono hp_same (SqL.mono s2 s')⟩, fun i d A' H2 x H3 hd s2 oc y => ?_⟩
        obtain ⟨T, x1, y1, rfl, hT, e, e1, e2⟩ := y
        obtain ⟨c1, g1, q1'⟩ := r.get e1
        obtain ⟨c2, g2, q2'⟩ := r'.get e2
        rw [zipD_get hd g1 g2]
        exact yPair (A := fun _ => False) (H := H) hT e oc (q1'.mono s2) (q2'.mono s2)
  · next es gs =>
    cases d1 with
    | cons d1 b => cases b with
      | cons d2 b =>
        cases b
        obtain ⟨a, xs, rfl, s, r⟩ := d1.tuple_of
        obtain ⟨a', xs', rfl, s', r'⟩ := d2.tuple_of
        refine ⟨a, a', xs, xs', rfl, .inr ⟨SqT.mono hp_same s, SqT.mono hp_same s', k _ _ _ _ q1 f1 E1 ?_⟩⟩
        refine ⟨_, _, walk_zipT (xs := xs) (ys := xs') (n := (zipD es gs).length) (by rw [zipD_len, ← r.length, ← r'.length]), fun A' H2 s2 => ⟨SqT.mono hp_same (SqT.mono s2 s), SqT.mono hp_same (SqT.mono s2 s')⟩, fun i d A' H2 x H3 hd s2 oc y => ?_⟩
        obtain ⟨T, x1, y1, rfl, hT, e, e1, e2⟩ := y
        obtain ⟨c1, g1, q1'⟩ := r.get e1
        obtain ⟨c2, g2, q2'⟩ := r'.get e2
        rw [zipD_get hd g1 g2]
        exact yPair (A := fun _ => False) (H := H) hT e oc (q1'.mono s2) (q2'.mono s2)
  · exact q1.elim
/-! for, while -/
/-- slots forgotten -/
def fgt (ρ : En) : List Nat → En
  | [] => ρ
  | v :: vs => fgt (ρ.set v .no) vs
theorem EnR.forget1 {O : Addr → Prop} {as : Nat → Option Addr} {H : Hp} {ρ : En} {σ : L2.St} {v : Nat} (R : EnR K J O as H ρ σ) (hv : n ≤ v) : ∃ as', Ext n as as' H H ∧ EnR K J O as' H (ρ.set v .no) σ := by
  have self : ∀ {ρ : En} {as : Nat → Option Addr}, EnR K J O as H ρ σ → slotF ρ v = true → EnR K J O as H (ρ.set v .no) σ := fun {ρ as} R h => by
    obtain ⟨sl, e, _⟩ := slotF_of h
    obtain ⟨o, eo, _⟩ := R.at' e
    have := R.setNo h o
    rw [show σ.set v o = σ from by
      refine List.ext_getElem? fun j => ?_
      rw [List.getElem?_set]
      by_cases z : v = j
      · subst z
        rw [if_pos rfl, eo, if_pos (List.getElem?_eq_some_iff.mp eo).1]
      · rw [if_neg z]] at this
    exact this
  cases e : ρ[v]? with
  | none =>
    rw [List.set_eq_of_length_le (List.getElem?_eq_none_iff.mp e)]
    exact ⟨as, .refl, R⟩
  | some sl =>
    cases sl with
    | no => exact ⟨as, .refl, self R (by unfold slotF; rw [e])⟩
    | fz d => exact ⟨as, .refl, self R (by unfold slotF; rw [e])⟩
    | own ds =>
      have R2 := R.freeze hv e
      have hl := (List.getElem?_eq_some_iff.mp e).1
      have R3 := self R2 (by unfold slotF; rw [List.getElem?_set, if_pos rfl, if_pos hl])
      rw [List.set_set] at R3
      refine ⟨_, ⟨FrA.refl _ _, fun a q => ?_, fun j hj => upA_ne (by omega)⟩, R3⟩
      rcases q.up with q | q
      · cases q
      · exact .inl q
theorem EnR.forget {O : Addr → Prop} {H : Hp} {σ : L2.St} : ∀ (vs : List Nat) {as : Nat → Option Addr} {ρ : En}, EnR K J O as H ρ σ → (∀ v ∈ vs, n ≤ v) → ∃ as', Ext n as as' H H ∧ EnR K J O as' H (fgt ρ vs) σ
  | [], as, ρ, R, _ => ⟨as, .refl, R⟩
  | v :: vs, as, ρ, R, h => by
    obtain ⟨a1, x1, R1⟩ := R.forget1 (h v (List.mem_cons_self ..))
    obtain ⟨a2, x2, R2⟩ := EnR.forget vs R1 (fun u hu => h u (List.mem_cons_of_mem _ hu))
    exact ⟨a2, x1.trans x2, R2⟩
/-- a loop over data from now on; the slots us are forgotten at each turn's end -/
def forW (us : List Nat) (ds : List PyData) (g : FG) (b : FS) (E : FEnds) (ρ : En) : Prop := ∃ W : Nat → En → Prop, W 0 (fgt ρ us) ∧ (∀ i d ρ2, ds[i]? = some d → W i ρ2 → g d ρ2 fun ρ3 => b { E with nx := fun ρ4 => W (i + 1) (fgt ρ4 us), ct := fun ρ4 => W (i + 1) (fgt ρ4 us), bk := E.nx } ρ3) ∧ ∀ ρ2, W ds.length ρ2 → E.nx ρ2
def fFor (us : List Nat) (fi : FA) (g : FG) (b : FS) : FS := fun E ρ => fi ρ fun ds ρ1 => forW us ds g b E ρ1
theorem rs_for {us ws : List Nat} {wi : TI} {g : TG} {tb : TS} {fi : FA} {fg : FG} {b : FS} (hu : ∀ u ∈ us, n ≤ u) (hi : RI K J wi fi) (hg : RG K J ws g fg) (hb : RS K J tb b) : RS K J (tFor wi g tb) (fFor us fi fg b) := by
  intro O as σ H D ρ E R f C
  refine hi O as σ H _ ρ _ R f fun ds ρ1 I H1 q1 f1 E1 it => ?_
  obtain ⟨W, w0, ws', we⟩ := q1
  obtain ⟨G, Y, wk, hG, hY⟩ := it
  have C1 := C.ext (.of f1)
  obtain ⟨a0, x0, R0⟩ := E1.forget us hu
  refine for_it wk (fun i σ' H' => ∃ as' ρ', Ext n as as' H1 H' ∧ EnR K J O as' H' ρ' σ' ∧ W i ρ') ⟨a0, _, x0, R0, w0⟩ (fun i σ' H' _ ⟨as', ρ', x, _, _⟩ => hG _ _ x.same) ?_ ?_
  · rintro i x σ2 H2 H3 hi' ⟨as', ρ', x2, E2, w⟩ y
    obtain ⟨s3, d3⟩ := hY i _ (Hid O as') H2 x H3 (List.getElem?_eq_getElem hi') x2.same (fun c h => E2.full h) y
    have x3 : Ext n as' as' H2 H3 := .of (FrA.of s3)
    refine hg O as' σ2 H3 _ ρ' _ x _ (E2.grow s3) d3 (ws' i _ ρ' (List.getElem?_eq_getElem hi') w) fun ρ4 σ4 H4 p4 f4 E4 _ => ?_
    have x4 := (x2.trans x3).trans (Ext.of (n := n) f4)
    have C4 := C1.ext x4
    have fin : ∀ ρ5 as5 σ5 H5, W (i + 1) (fgt ρ5 us) → Ext n as' as5 H4 H5 → EnR K J O as5 H5 ρ5 σ5 → ∃ as' ρ', Ext n as as' H1 H5 ∧ EnR K J O as' H5 ρ' σ5 ∧ W (i + 1) ρ' := fun ρ5 as5 σ5 H5 p5 x5 E5 => by
      obtain ⟨a6, x6, R6⟩ := E5.forget us hu
      exact ⟨a6, _, (x4.trans x5).trans x6, R6, p5⟩
    refine hb O as' σ4 H4 _ ρ4 _ E4 p4 ⟨fin, C4.rt, C4.nx, fin, C4.ro⟩
  · rintro σ2 H2 ⟨as', ρ', x2, E2, w⟩
    exact C1.nx _ _ _ _ (we _ w) x2 E2
def whileW (us : List Nat) (c : FT) (b : FS) (E : FEnds) (ρ : En) : Prop := ∃ W : Nat → En → Prop, (∃ m, W m (fgt ρ us)) ∧ ∀ m ρ1, W m ρ1 → c ρ1 fun k ρ2 => if k = true then b { E with nx := fun ρ' => ∃ m', m' < m ∧ W m' (fgt ρ' us), ct := fun ρ' => ∃ m', m' < m ∧ W m' (fgt ρ' us), bk := E.nx } ρ2 else E.nx ρ2
def fWhile (us : List Nat) (c : FT) (b : FS) : FS := fun E ρ => whileW us c b E ρ
theorem rs_while {us : List Nat} {c : TT} {tb : TS} {fc : FT} {b : FS} (hu : ∀ u ∈ us, n ≤ u) (hc : RT K J c fc) (hb : RS K J tb b) : RS K J (tWhile c tb) (fWhile us fc b) := by
  intro O as σ H D ρ E R f C
  obtain ⟨W, ⟨m0, w0⟩, st⟩ := f
  obtain ⟨a0, x0, R0⟩ := R.forget us hu
  refine ⟨fun m σ' H' => ∃ as' ρ', Ext n as as' H H' ∧ EnR K J O as' H' ρ' σ' ∧ W m ρ', ⟨m0, a0, _, x0, R0, w0⟩, ?_⟩
  rintro m σ1 H1 ⟨as1, ρ1, x1, E1, w⟩
  refine hc O as1 σ1 H1 _ ρ1 _ E1 (st m ρ1 w) fun k ρ2 H2 q2 f2 E2 => ?_
  have x2 := x1.trans (Ext.of (n := n) f2)
  cases k
  · exact C.nx _ _ _ _ q2 x2 E2
  · refine ⟨fun σ' H' => ∃ m', m' < m ∧ ∃ as' ρ', Ext n as as' H H' ∧ EnR K J O as' H' ρ' σ' ∧ W m' ρ', fun σ' H' h => h, ?_⟩
    have C2 := C.ext x2
    have fin : ∀ ρ5 as5 σ5 H5, (∃ m', m' < m ∧ W m' (fgt ρ5 us)) → Ext n as1 as5 H2 H5 → EnR K J O as5 H5 ρ5 σ5 → ∃ m', m' < m ∧ ∃ as' ρ', Ext n as as' H H5 ∧ EnR K J O as' H5 ρ' σ5 ∧ W m' ρ' := fun ρ5 as5 σ5 H5 ⟨m', hm, p5⟩ x5 E5 => by
      obtain ⟨a6, x6, R6⟩ := E5.forget us hu
      exact ⟨m', hm, a6, _, (x2.trans x5).trans x6, R6, p5⟩
    exact hb O as1 σ1 H2 _ ρ2 _ E2 q2 ⟨fin, C2.rt, C2.nx, fin, C2.ro⟩
/-! comprehensions -/
def wipeF (ρ : En) : List Nat → En
  | [] => ρ
  | v :: vs => (wipeF ρ vs).set v .no
theorem wipe_at (σ : L2.St) (j : Nat) : ∀ vs : List Nat, (wipe σ vs)[j]? = if j ∈ vs ∧ j < σ.length then some none else σ[j]?
  | [] => by simp [wipe]
  | v :: vs => by
    rw [wipe, List.getElem?_set, wipe_length, wipe_at σ j vs]
    by_cases e : v = j
    · subst e
      by_cases h : v < σ.length
      · simp [h]
      · simp [h]
    · rw [if_neg e]
      simp [show ¬ j = v from fun z => e z.symm]
theorem wipe_eq {σ σ' : L2.St} {vs : List Nat} (hl : σ'.length = σ.length) (h : ∀ j, j ∉ vs → σ'[j]? = σ[j]?) : wipe σ' vs = wipe σ vs := by
  refine List.ext_getElem? fun j => ?_
  rw [wipe_at, wipe_at, hl]
  by_cases q : j ∈ vs
  · by_cases z : j < σ.length
    · rw [if_pos ⟨q, z⟩, if_pos ⟨q, z⟩]
    · rw [if_neg (fun w => z w.2), if_neg (fun w => z w.2), List.getElem?_eq_none (by omega), List.getElem?_eq_none (by omega)]
  · rw [if_neg (fun w => q w.1), if_neg (fun w => q w.1)]
    exact h j q
theorem slotF_set {ρ : En} {i j : Nat} (h : slotF ρ j = true) : slotF (ρ.set i .no) j = true := by
  obtain ⟨sl, q, _⟩ := slotF_of h
  have hj : j < ρ.length := (List.getElem?_eq_some_iff.mp q).1
  unfold slotF at *
  rw [List.getElem?_set]
  by_cases e : i = j
  · subst e
    simp [hj]
  · rw [if_neg e]
    exact h
theorem EnR.wipes {O : Addr → Prop} {as : Nat → Option Addr} {H : Hp} {ρ : En} {σ : L2.St} (E : EnR K J O as H ρ σ) : ∀ vs : List Nat, vs.all (slotF ρ) = true → EnR K J O as H (wipeF ρ vs) (wipe σ vs) ∧ ∀ j, slotF ρ j = true → slotF (wipeF ρ vs) j = true
  | [], _ => ⟨E, fun _ h => h⟩
  | v :: vs, h => by
    have h' : (slotF ρ v && vs.all (slotF ρ)) = true := h
    rw [Bool.and_eq_true] at h'
    obtain ⟨E1, k⟩ := EnR.wipes E vs h'.2
    exact ⟨E1.setNo (k v h'.1) none, fun j hj => slotF_set (k j hj)⟩
theorem wipeF_len (ρ : En) : ∀ vs : List Nat, (wipeF ρ vs).length = ρ.length
  | [] => rfl
  | v :: vs => by rw [wipeF, List.length_set, wipeF_len ρ vs]
theorem wipeF_at (ρ : En) (j : Nat) : ∀ vs : List Nat, (wipeF ρ vs)[j]? = if j ∈ vs ∧ j < ρ.length then some .no else ρ[j]?
  | [] => by simp [wipeF]
  | v :: vs => by
    rw [wipeF, List.getElem?_set, wipeF_len, wipeF_at ρ j vs]
    by_cases e : v = j
    · subst e
      by_cases h : v < ρ.length
      · simp [h]
      · simp [h]
    · rw [if_neg e]
      simp [show ¬ j = v from fun z => e z.symm]
/-- slots that are known of nothing may hold anything -/
theorem EnR.unwipe {O : Addr → Prop} {as : Nat → Option Addr} {H : Hp} {ρ : En} {σ σ' : L2.St} {vs : List Nat} (E : EnR K J O as H (wipeF ρ vs) (wipe σ vs)) (h : ∀ j, j ∈ vs → as j = none) (hl : σ'.length = σ.length) (h' : ∀ j, j ∉ vs → σ'[j]? = σ[j]?) :
    EnR K J O as H (wipeF ρ vs) σ' := by
  refine ⟨by rw [E.len, wipe_length, hl], fun j sl o h1 h2 => ?_, E.inj, E.out, E.bnd, E.occ, E.inv, E.inq⟩
  by_cases q : j ∈ vs
  · rw [wipeF_at] at h1
    have hj : j < ρ.length := by
      have := (List.getElem?_eq_some_iff.mp h2).1
      have e := E.len
      rw [wipeF_len, wipe_length] at e
      omega
    rw [if_pos ⟨q, hj⟩] at h1
    cases h1
    rw [h j q]
    exact .no
  · refine E.at_ j sl o h1 ?_
    rw [wipe_at, if_neg (fun w => q w.1), ← h' j q]
    exact h2
/-- without one place -/
def wo (H : Hp) (D : Addr) : Hp := fun a => if a = D then none else H a
theorem wo_some {H : Hp} {D a : Addr} {o : HO} (h : wo H D a = some o) : a ≠ D ∧ H a = some o := by
  unfold wo at h
  split at h
  · cases h
  · next e => exact ⟨e, h⟩
theorem wo_mk {H : Hp} {D a : Addr} {o : HO} (e : a ≠ D) (h : H a = some o) : wo H D a = some o := (if_neg e).trans h
def Jv.hide {n : Nat} (J : Jv n) (D : Addr) : Jv n := ⟨fun as H => J.P as (wo H D), fun as as' H H' p x => J.cl _ _ _ _ p ⟨fun a o na e => wo_mk (wo_some e).1 (x.fr a o na (wo_some e).2), fun a h => (x.new a h).imp id fun z => by
  unfold wo
  split
  · rfl
  · exact z, x.fix⟩, J.Q, J.up⟩
theorem Jv.hide_le {n : Nat} {J : Jv n} {D : Addr} : (J.hide D).le J := ⟨fun _ _ h => J.fr h fun _ _ _ e => (wo_some e).2, fun _ h => h⟩
theorem Jv.hide_new {n : Nat} {J : Jv n} {D : Addr} {as : Nat → Option Addr} {H : Hp} {o : HO} (h : J.P as H) (e : H D = none) : (J.hide D).P as (upd H D o) := J.fr h fun a o' _ e' => by
  have ne : a ≠ D := ne_of_none e' e
  exact wo_mk ne (by rw [upd_ne ne]; exact e')
theorem Jv.hide_put {n : Nat} {J : Jv n} {D : Addr} {as : Nat → Option Addr} {H : Hp} {o : HO} (h : (J.hide D).P as H) : (J.hide D).P as (upd H D o) := J.fr h fun a o' _ e' => wo_mk (wo_some e').1 (by rw [upd_ne (wo_some e').1]; exact (wo_some e').2)
def lcW (ds : List PyData) (g : FG) (ft : FT) (fe : FE) (vs : List Nat) (ρ : En) (P : List PyData → En → Prop) : Prop := vs.all (slotF ρ) = true ∧ ∃ W : Nat → List PyData → En → Prop, W 0 [] (wipeF ρ vs) ∧
  (∀ i d acc ρ2, ds[i]? = some d → W i acc ρ2 → g d ρ2 fun ρ3 => ft ρ3 fun b ρ4 => if b = true then fe ρ4 fun y ρ5 => acc.length < sizeLine ∧ vs.all (slotF ρ5) = true ∧ W (i + 1) (acc ++ [y]) (wipeF ρ5 vs) else vs.all (slotF ρ4) = true ∧ W (i + 1) acc (wipeF ρ4 vs)) ∧
  ∀ acc ρ2, W ds.length acc (wipeF ρ2 vs) → P acc (wipeF ρ2 vs)
def fLc (fi : FA) (g : FG) (ft : FT) (fe : FE) (vs : List Nat) : FA := fun ρ P => fi ρ fun ds ρ1 => lcW ds g ft fe vs ρ1 P
theorem rn_lc {ws vs : List Nat} {wi : TI} {g : TG} {tt : TT} {te : TE} {fi : FA} {fg : FG} {ft : FT} {fe : FE} (hw : ∀ j ∈ ws, j ∈ vs) (hi : RI K J wi fi) (hg : ∀ J' : Jv n, J'.le J → RG K J' ws g fg) (ht : ∀ J' : Jv n, J'.le J → RT K J' tt ft) (he : ∀ J' : Jv n, J'.le J → RE K J' te fe) : RN K J (tLc wi g tt te vs) (fLc fi fg ft fe vs) := by
  intro O as σ H Q ρ P E q k
  refine hi O as σ H _ ρ _ E q fun ds ρ1 I H1 q1 f1 E1 it => ?_
  obtain ⟨hv, W, w0, ws', we⟩ := q1
  obtain ⟨G, Y, wk, hG, hY⟩ := it
  intro D hD
  have hvn : ∀ j, j ∈ vs → as j = none := fun j hj => E1.none_of (List.all_eq_true.mp hv j hj)
  have sO : ∀ {H2 : Hp}, FrA (Own as) H1 H2 → Same (hp (Hid O as) H1) (hp (Hid (plus O D) as) H2) := fun f a o e => by
    obtain ⟨na, e⟩ := hp_some e
    refine hp_mk (fun z => ?_) (f a o (fun z => na (.inr z)) e)
    rcases z with (z | z) | z
    · exact na (.inl z)
    · rw [z, hD] at e; cases e
    · exact na (.inr z)
  have hD0 : H D = none := by
    cases e : H D with
    | none => rfl
    | some o =>
      by_cases w : Own as D
      · exact absurd (.inr w) (E1.fresh hD)
      · rw [f1 _ _ w e] at hD; cases hD
  have nD : ¬ Own as D := fun w => E1.fresh hD (.inr w)
  refine lc_it wk (fun i H2 => ∃ acc ρ2 xs, FrA (Own as) H1 H2 ∧ EnR K (J.hide D) (plus O D) as H2 (wipeF ρ2 vs) (wipe σ vs) ∧ H2 D = some (.lst xs) ∧ DqAll K (hp (Hid (plus O D) as) H2) xs acc ∧ W i acc (wipeF ρ2 vs)) ?_ (fun i H2 _ ⟨acc, ρ2, xs, f2, _⟩ => hG _ _ (sO f2)) ?_ ?_
  · exact ⟨[], ρ1, [], FrA.of (Same.new hD), (((E1.addO (o := .lst []) hD).1.reJ (Jv.hide_new E1.inv hD) (J.up _ _ (fun _ z => .inl z) E1.inq)).wipes vs hv).1, upd_same, .nil, w0⟩
  · rintro i x H2 H3 hi' ⟨acc, ρ2, xs, f2, E2, hx, dx, w⟩ y
    obtain ⟨s3, d3⟩ := hY i _ (Hid (plus O D) as) H2 x H3 (List.getElem?_eq_getElem hi') (sO f2) (fun c h => E2.full h) y
    have E3 := E2.grow s3
    refine hg _ Jv.hide_le (plus O D) as _ H3 _ _ _ x _ E3 d3 (ws' i _ acc _ (List.getElem?_eq_getElem hi') w) fun ρ4 σ4 H4 p4 f4 E4 z4 => ?_
    have len4 : σ4.length = σ.length := by rw [z4.1, wipe_length]
    have z4' : ∀ j, j ∉ vs → σ4[j]? = σ[j]? := fun j hj => by
      rw [z4.2 j (fun z => hj (hw j z)), wipe_at, if_neg (fun w => hj w.1)]
    refine ⟨wipe_eq len4 z4', ?_⟩
    refine ht _ Jv.hide_le (plus O D) as σ4 H4 _ ρ4 _ E4 p4 fun b ρ5 H5 q5 f5 E5 => ?_
    cases b
    · obtain ⟨v5, w5⟩ := q5
      have E6 := ((E5.wipes vs v5).1)
      rw [wipe_eq len4 z4'] at E6
      have f35 := (FrA.of s3).trans (f4.trans f5)
      exact ⟨acc, ρ5, xs, f2.trans f35, E6, f35 _ _ nD hx, dx.fr f35, w5⟩
    · refine he _ Jv.hide_le (plus O D) as σ4 H5 _ ρ5 _ E5 q5 fun d ρ6 v H6 q6 f6 E6 d6 => ?_
      obtain ⟨l6, v6, w6⟩ := q6
      have f36 := (FrA.of (A := Own as) s3).trans ((f4.trans f5).trans f6)
      have hx6 := f36 _ _ nD hx
      have dx6 := dx.fr f36
      obtain ⟨E7, s7⟩ := E6.putO (p := D) (o := .lst (xs ++ [v])) (.inr rfl) (Jv.hide_put E6.inv)
      have E8 := ((E7.wipes vs v6).1)
      rw [wipe_eq len4 z4'] at E8
      refine ⟨xs, hx6, by rw [dx.length]; exact l6, acc ++ [d], ρ6, xs ++ [v], fun a o na e => ?_, E8, upd_same, (dx6.mono s7).append (.cons (d6.mono s7) .nil), w6⟩
      by_cases z : a = D
      · rw [z, hD] at e; cases e
      · rw [upd_ne z]; exact f36 a o na (f2 a o na e)
  · rintro H2 ⟨acc, ρ2, xs, f2, E2, hx, dx, w⟩
    have E3 := (E2.unwipe hvn (σ' := σ) rfl fun j hj => rfl).reJ (Jv.hide_le.1 _ _ E2.inv) (Jv.hide_le.2 _ E2.inq)
    exact k _ _ _ _ _ (we acc ρ2 w) (f1.trans f2) hD0 E3 hx dx
end
end DL
/-! calls of defs, own lists, the def itself -/
namespace DL
open PySem L2 Z PySem.Spec PyProof.Rows
section
variable {K : PySem.W.Frag} {n : Nat} {J : Jv n}
def spF (K : PySem.W.Frag) (n : Nat) (F : FN) : Sp := fun vs H Q _ => vs.length = n ∧ ∃ (O : Addr → Prop) (as : Nat → Option Addr) (ρ : En) (P : PyData → List Sl → Prop), EnR K (J0 : Jv 0) O as H ρ (vs.map some) ∧ F ρ P ∧
  ∀ d out v H', P d out → FrA (Own as) H H' → (∀ i a, as i = some a → ∃ ds xs, out[i]? = some (.own ds) ∧ H' a = some (.lst xs) ∧ DqAll K (hp (Hid O as) H') xs ds) → Dq K (hp (Hid O as) H') v d → Q v H'
/-! arguments -/
def cNil : FC := fun ρ P => P [] ρ
def cDat (a : FE) (b : FC) : FC := fun ρ P => a ρ fun d ρ1 => b ρ1 fun xs ρ2 => P (.dat d :: xs) ρ2
def cOwn (i : Nat) (b : FC) : FC := fun ρ P => match ρ[i]? with
  | some (.own _) => b ρ fun xs ρ1 => P (.own i :: xs) ρ1
  | _ => False
theorem ArsR.fr {O : Addr → Prop} {as : Nat → Option Addr} {H H' : Hp} (f : FrA (Own as) H H') : ∀ {vs : List V} {xs : List Ar}, ArsR K (hp (Hid O as) H) as vs xs → ArsR K (hp (Hid O as) H') as vs xs
  | _, _, .nil => .nil
  | _, _, .cons (.dat q) r => .cons (.dat (q.fr f)) (ArsR.fr f r)
  | _, _, .cons (.own q) r => .cons (.own q) (ArsR.fr f r)
theorem rc_nil : RC K J tNil cNil := fun O as σ H Q ρ P E f k => k [] ρ [] H f (FrA.refl _ _) E .nil
theorem rc_dat {ta : TE} {t : TA} {fa : FE} {f : FC} (ha : RE K J ta fa) (h : RC K J t f) : RC K J (tCons ta t) (cDat fa f) := by
  intro O as σ H Q ρ P E q k
  refine ha O as σ H _ ρ _ E q fun d ρ1 v H1 q1 f1 E1 d1 => ?_
  refine h O as σ H1 _ ρ1 _ E1 q1 fun ds ρ2 vs H2 q2 f2 E2 d2 => ?_
  exact k _ _ _ _ q2 (f1.trans f2) E2 (.cons (.dat (d1.fr f2)) d2)
theorem rc_own {i : Nat} {t : TA} {f : FC} (h : RC K J t f) : RC K J (tCons (tVar i) t) (cOwn i f) := by
  intro O as σ H Q ρ P E q k
  unfold cOwn at q
  split at q
  · next ds hs =>
    obtain ⟨a, xs, e1, e2, e3, e4⟩ := E.own_at hs
    refine ⟨_, e1, ?_⟩
    exact h O as σ H _ ρ _ E q fun ds ρ2 vs H2 q2 f2 E2 d2 => k _ _ _ _ q2 f2 E2 (.cons (.own e2) d2)
  · exact q.elim
def argF (ρ : En) : List Ar → (List Sl → Prop) → Prop
  | [], k => k []
  | .dat d :: xs, k => argF ρ xs fun r => k (.fz d :: r)
  | .own i :: xs, k => match ρ[i]? with
    | some (.own ds) => argF ρ xs fun r => k (.own ds :: r)
    | _ => False
def ownIx : List Ar → List Nat
  | [] => []
  | .dat _ :: xs => ownIx xs
  | .own i :: xs => i :: ownIx xs
/-- what comes back -/
def wb (ρ : En) : List Ar → List Sl → En
  | [], _ => ρ
  | .own i :: xs, r => (wb ρ xs r.tail).set i (r.headD .no)
  | .dat _ :: xs, r => wb ρ xs r.tail
def adrs (as : Nat → Option Addr) (xs : List Ar) : Nat → Option Addr := fun j => match xs[j]? with
  | some (.own i) => as i
  | _ => none
theorem adrs_own {as : Nat → Option Addr} {xs : List Ar} {j : Nat} {a : Addr} (h : adrs as xs j = some a) : ∃ i, xs[j]? = some (.own i) ∧ as i = some a := by
  unfold adrs at h
  split at h
  · next i e => exact ⟨i, e, h⟩
  · cases h
theorem ownIx_mem {i : Nat} : ∀ {xs : List Ar}, i ∈ ownIx xs → ∃ j : Nat, xs[j]? = some (Ar.own i)
  | .dat _ :: xs, h => by
    obtain ⟨j, e⟩ := ownIx_mem (xs := xs) h
    exact ⟨j + 1, e⟩
  | .own k :: xs, h => by
    rcases List.mem_cons.mp h with rfl | h
    · exact ⟨0, rfl⟩
    · obtain ⟨j, e⟩ := ownIx_mem (xs := xs) h
      exact ⟨j + 1, e⟩
theorem mem_ownIx {i : Nat} : ∀ {xs : List Ar} {j : Nat}, xs[j]? = some (.own i) → i ∈ ownIx xs
  | .dat _ :: xs, 0, h => by cases h
  | .dat _ :: xs, j + 1, h => mem_ownIx (xs := xs) (j := j) h
  | .own k :: xs, 0, h => by cases h; exact List.mem_cons_self ..
  | .own k :: xs, j + 1, h => List.mem_cons_of_mem _ (mem_ownIx (xs := xs) (j := j) h)
theorem ownIx_inj {i : Nat} : ∀ {xs : List Ar} {j k : Nat}, (ownIx xs).Nodup → xs[j]? = some (.own i) → xs[k]? = some (.own i) → j = k
  | [], _, _, _, h, _ => by cases h
  | .dat _ :: xs, 0, _, _, h, _ => by cases h
  | .dat _ :: xs, _ + 1, 0, _, _, h => by cases h
  | .dat _ :: xs, j + 1, k + 1, nd, h, h' => by rw [ownIx_inj (xs := xs) nd h h']
  | .own m :: xs, 0, 0, _, _, _ => rfl
  | .own m :: xs, 0, k + 1, nd, h, h' => by cases h; exact absurd (mem_ownIx (xs := xs) (j := k) h') (List.nodup_cons.mp nd).1
  | .own m :: xs, j + 1, 0, nd, h', h => by cases h; exact absurd (mem_ownIx (xs := xs) (j := j) h') (List.nodup_cons.mp nd).1
  | .own m :: xs, j + 1, k + 1, nd, h, h' => by rw [ownIx_inj (xs := xs) (List.nodup_cons.mp nd).2 h h']
theorem wb_len (ρ : En) : ∀ (xs : List Ar) (r : List Sl), (wb ρ xs r).length = ρ.length
  | [], _ => rfl
  | .own i :: xs, r => by rw [wb, List.length_set, wb_len ρ xs r.tail]
  | .dat _ :: xs, r => by rw [wb, wb_len ρ xs r.tail]
theorem wb_other (ρ : En) {i : Nat} : ∀ (xs : List Ar) (r : List Sl), i ∉ ownIx xs → (wb ρ xs r)[i]? = ρ[i]?
  | [], _, _ => rfl
  | .own k :: xs, r, h => by
    have h' := not_or.mp (fun q => h (List.mem_cons.mpr q))
    rw [wb, List.getElem?_set, if_neg (fun z => h'.1 z.symm), wb_other ρ xs r.tail h'.2]
  | .dat _ :: xs, r, h => by rw [wb, wb_other ρ xs r.tail h]
theorem wb_own (ρ : En) {i : Nat} {sl : Sl} (hi : i < ρ.length) : ∀ {xs : List Ar} {r : List Sl} {j : Nat}, (ownIx xs).Nodup → xs[j]? = some (.own i) → r[j]? = some sl → (wb ρ xs r)[i]? = some sl
  | [], _, _, _, h, _ => by cases h
  | _, [], _, _, _, h => by cases h
  | .dat _ :: xs, _, 0, _, h, _ => by cases h
  | .dat _ :: xs, _ :: r, j + 1, nd, h, h' => by rw [wb]; exact wb_own ρ hi (xs := xs) (r := r) (j := j) nd h h'
  | .own k :: xs, s :: r, 0, nd, h, h' => by
    cases h; cases h'
    rw [wb, List.getElem?_set, if_pos rfl, wb_len, if_pos hi]
    rfl
  | .own k :: xs, _ :: r, j + 1, nd, h, h' => by
    have nd' := List.nodup_cons.mp nd
    have hk : k ≠ i := fun z => nd'.1 (by rw [z]; exact mem_ownIx (xs := xs) (j := j) h)
    rw [wb, List.getElem?_set, if_neg hk]
    exact wb_own ρ hi (xs := xs) (r := r) (j := j) nd'.2 h h'
inductive Fits (ρ : En) : List Ar → List Sl → Prop
  | nil : Fits ρ [] []
  | dat {d : PyData} {xs : List Ar} {r : List Sl} : Fits ρ xs r → Fits ρ (.dat d :: xs) (.fz d :: r)
  | own {i : Nat} {ds : List PyData} {xs : List Ar} {r : List Sl} : ρ[i]? = some (.own ds) → Fits ρ xs r → Fits ρ (.own i :: xs) (.own ds :: r)
theorem argF_of {ρ : En} : ∀ {xs : List Ar} {k : List Sl → Prop}, argF ρ xs k → ∃ r, Fits ρ xs r ∧ k r
  | [], k, h => ⟨_, .nil, h⟩
  | .dat d :: xs, k, h => by
    obtain ⟨r, f, q⟩ := argF_of (xs := xs) h
    exact ⟨_, .dat f, q⟩
  | .own i :: xs, k, h => by
    unfold argF at h
    split at h
    · next ds e =>
      obtain ⟨r, f, q⟩ := argF_of (xs := xs) h
      exact ⟨_, .own e f, q⟩
    · exact h.elim
/-- one argument's slot -/
theorem fits_at {O : Addr → Prop} {as : Nat → Option Addr} {H G : Hp} {ρ : En} {σ : L2.St} (E : EnR K J O as H ρ σ) (s : Same (hp (Hid O as) H) G) : ∀ {xs : List Ar} {r : List Sl} {vs : List V} {j : Nat} {sl : Sl} {o : Option V}, Fits ρ xs r → ArsR K (hp (Hid O as) H) as vs xs →
    r[j]? = some sl → (vs.map some)[j]? = some o → SlR K G H (adrs as xs j) sl o
  | _, _, _, _, _, _, .nil, _, h, _ => by cases h
  | _, _, _, 0, _, _, .dat f, .cons (.dat q) _, h, h' => by cases h; cases h'; exact .fz (q.mono s)
  | _, _, _, 0, _, _, .own e f, .cons (.own q) _, h, h' => by
    cases h; cases h'
    obtain ⟨a, xs, e1, e2, e3, e4⟩ := E.own_at e
    rw [q] at e2
    cases e2
    show SlR K G H (as _) _ _
    rw [q]
    exact .own e3 (e4.mono s)
  | _, _, _, j + 1, _, _, .dat f, .cons _ r', h, h' => fits_at E s (j := j) f r' h h'
  | _, _, _, j + 1, _, _, .own _ f, .cons _ r', h, h' => fits_at E s (j := j) f r' h h'
theorem Fits.len {ρ : En} : ∀ {xs : List Ar} {r : List Sl}, Fits ρ xs r → r.length = xs.length
  | _, _, .nil => rfl
  | _, _, .dat f => by rw [List.length_cons, List.length_cons, Fits.len f]
  | _, _, .own _ f => by rw [List.length_cons, List.length_cons, Fits.len f]
theorem ArsR.len {G : Hp} {as : Nat → Option Addr} : ∀ {vs : List V} {xs : List Ar}, ArsR K G as vs xs → vs.length = xs.length
  | _, _, .nil => rfl
  | _, _, .cons _ r => by rw [List.length_cons, List.length_cons, ArsR.len r]
def fCall (m : Nat) (F : FN) (dv : List PyData) (a : FC) : FE := fun ρ P => a ρ fun xs ρ1 => xs.length + dv.length = m ∧ (ownIx xs).Nodup ∧ argF ρ1 xs fun r => F (r ++ dv.map .fz) fun d out => P d (wb ρ1 xs out)
theorem dat_ars {G : Hp} {as : Nat → Option Addr} : ∀ {vs : List V} {ds : List PyData}, DqAll K G vs ds → ArsR K G as vs (ds.map .dat)
  | _, _, .nil => .nil
  | _, _, .cons a b => .cons (.dat a) (dat_ars b)
theorem fits_dat {ρ : En} : ∀ ds : List PyData, Fits ρ (ds.map .dat) (ds.map .fz)
  | [] => .nil
  | d :: r => .dat (fits_dat r)
theorem ArsR.app {G : Hp} {as : Nat → Option Addr} : ∀ {vs ws : List V} {xs ys : List Ar}, ArsR K G as vs xs → ArsR K G as ws ys → ArsR K G as (vs ++ ws) (xs ++ ys)
  | _, _, _, _, .nil, h => h
  | _, _, _, _, .cons a b, h => .cons a (ArsR.app b h)
theorem Fits.app {ρ : En} : ∀ {xs ys : List Ar} {r s : List Sl}, Fits ρ xs r → Fits ρ ys s → Fits ρ (xs ++ ys) (r ++ s)
  | _, _, _, _, .nil, h => h
  | _, _, _, _, .dat f, h => .dat (Fits.app f h)
  | _, _, _, _, .own e f, h => .own e (Fits.app f h)
theorem ownIx_app : ∀ (xs : List Ar) (ds : List PyData), ownIx (xs ++ ds.map .dat) = ownIx xs
  | [], [] => rfl
  | [], d :: r => ownIx_app [] r
  | .dat _ :: xs, ds => ownIx_app xs ds
  | .own i :: xs, ds => by show i :: ownIx (xs ++ _) = _; rw [ownIx_app xs ds]; rfl
theorem wb_app (ρ : En) : ∀ (xs : List Ar) (ds : List PyData) (r : List Sl), wb ρ (xs ++ ds.map .dat) r = wb ρ xs r
  | [], [], r => rfl
  | [], d :: ds, r => by
    show wb ρ (ds.map .dat) r.tail = _
    have := wb_app ρ [] ds r.tail
    rw [List.nil_append] at this
    rw [this]
    rfl
  | .dat _ :: xs, ds, r => wb_app ρ xs ds r.tail
  | .own i :: xs, ds, r => by show (wb ρ (xs ++ _) r.tail).set i _ = _; rw [wb_app ρ xs ds r.tail]; rfl
theorem ArsR.own_at {G : Hp} {as : Nat → Option Addr} {i : Nat} : ∀ {vs : List V} {xs : List Ar} {j : Nat}, ArsR K G as vs xs → xs[j]? = some (Ar.own i) → ∃ a, as i = some a
  | _, _, _, .nil, h => by cases h
  | _, _, 0, .cons (.dat _) _, h => by cases h
  | _, _, 0, .cons (.own q) _, h => by cases h; exact ⟨_, q⟩
  | _, _, j + 1, .cons _ r, h => ArsR.own_at (j := j) r h
/-- the callee's view of the state, and back -/
theorem call_core {O : Addr → Prop} {as : Nat → Option Addr} {H : Hp} {ρ : En} {σ : L2.St} {xs : List Ar} {r : List Sl} {vs : List V} {m : Nat} {F : FN} {P : PyData → En → Prop} {Q : VK} {E0 : XK} (E : EnR K J O as H ρ σ) (fit : Fits ρ xs r) (ar : ArsR K (hp (Hid O as) H) as vs xs) (hm : xs.length = m) (nd : (ownIx xs).Nodup)
    (f : F r fun d out => P d (wb ρ xs out)) (k : ∀ d ρ' v H', P d ρ' → FrA (Own as) H H' → EnR K J O as H' ρ' σ → Dq K (hp (Hid O as) H') v d → Q v H') : spF K m F vs H Q E0 := by
  have sub : ∀ a, Own (adrs as xs) a → Own as a := fun a ⟨j, h⟩ => by
    obtain ⟨i, _, h⟩ := adrs_own h
    exact ⟨i, h⟩
  have hid : ∀ a, Hid (fun a => Hid O as a ∧ ¬ Own (adrs as xs) a) (adrs as xs) a ↔ Hid O as a := fun a => by
    constructor
    · rintro (h | h)
      · exact h.1
      · exact .inr (sub a h)
    · intro h
      by_cases q : Own (adrs as xs) a
      · exact .inr q
      · exact .inl ⟨h, q⟩
  have s1 : ∀ H', Same (hp (Hid O as) H') (hp (Hid (fun a => Hid O as a ∧ ¬ Own (adrs as xs) a) (adrs as xs)) H') := fun H' => hp_less fun a h => (hid a).mp h
  have s2 : ∀ H', Same (hp (Hid (fun a => Hid O as a ∧ ¬ Own (adrs as xs) a) (adrs as xs)) H') (hp (Hid O as) H') := fun H' => hp_less fun a h => (hid a).mpr h
  refine ⟨by rw [ar.len, hm], fun a => Hid O as a ∧ ¬ Own (adrs as xs) a, adrs as xs, r, _, ⟨by rw [List.length_map, fit.len, ar.len], fun j sl o h1 h2 => fits_at E (s1 H) fit ar h1 h2, fun j1 j2 a h1 h2 => ?_, fun j a h q => q.2 ⟨j, h⟩, fun j a h => ?_, fun a h => E.full h.1, trivial, trivial⟩, f, fun d out v H' p fr ow dv => ?_⟩
  · obtain ⟨i1, e1, h1⟩ := adrs_own h1
    obtain ⟨i2, e2, h2⟩ := adrs_own h2
    rw [E.inj i1 i2 a h1 h2] at e1
    exact ownIx_inj nd e1 e2
  · obtain ⟨i, e, _⟩ := adrs_own h
    rw [fit.len]
    exact (List.getElem?_eq_some_iff.mp e).1
  · have fr' : FrA (Own as) H H' := fr.up sub
    refine k d _ v H' p fr' ⟨by rw [wb_len]; exact E.len, fun i sl o h1 h2 => ?_, E.inj, E.out, fun i a h => by rw [wb_len]; exact E.bnd i a h, fun a h => ?_, J.fr E.inv fr', E.inq⟩ (dv.mono (s2 H'))
    · by_cases q : i ∈ ownIx xs
      · obtain ⟨j, e⟩ := ownIx_mem q
        have hi : i < ρ.length := by
          have := (List.getElem?_eq_some_iff.mp h1).1
          rw [wb_len] at this
          exact this
        have hown : ∃ a, as i = some a := ar.own_at e
        obtain ⟨a, ha⟩ := hown
        have hadr : adrs as xs j = some a := by unfold adrs; rw [e]; exact ha
        obtain ⟨ds, ys, e1, e2, e3⟩ := ow j a hadr
        rw [wb_own ρ hi nd e e1] at h1
        cases h1
        obtain ⟨_, _, _, e4, _⟩ := E.is_own ha
        rw [e4] at h2
        cases h2
        rw [ha]
        exact .own e2 (e3.mono (s2 H'))
      · rw [wb_other ρ xs out q] at h1
        refine (E.at_ i sl o h1 h2).mono (hp_fr fr' own_hid) fun b hb => ?_
        obtain ⟨_, _, _, _, e, _⟩ := E.is_own hb
        rw [e]
        refine fr _ _ (fun z => ?_) e
        obtain ⟨j, z⟩ := z
        obtain ⟨i', e', h'⟩ := adrs_own z
        rw [E.inj i' i b h' hb] at e'
        exact q (mem_ownIx e')
    · obtain ⟨o, e⟩ := Option.ne_none_iff_exists'.mp (E.occ a h)
      rw [fr' a o (fun ⟨i, z⟩ => E.out i a z h) e]
      exact Option.some_ne_none _
theorem re_call {m : Nat} {F : FN} {dvs : List V} {dv : List PyData} {E0 : XK} {t : TA} {f : FC} (hd : ∀ H, DqAll K H dvs dv) (ha : RC K J t f) : RE K J (tCall (spF K m F) dvs E0 t) (fCall m F dv f) := by
  intro O as σ H Q ρ P E q k
  refine ha O as σ H _ ρ _ E q fun xs ρ1 vs H1 q1 f1 E1 d1 => ?_
  obtain ⟨hm, nd, q1⟩ := q1
  obtain ⟨r, fit, q1⟩ := argF_of q1
  refine call_core (xs := xs ++ dv.map .dat) E1 (fit.app (fits_dat dv)) (d1.app (dat_ars (hd _))) (by rw [List.length_append, List.length_map]; exact hm) (by rw [ownIx_app]; exact nd) ?_ fun d ρ' v H' p fr E' q' => k d ρ' v H' p (f1.trans fr) E' q'
  · simp only [wb_app]
    exact q1
/-! own lists -/
def ownF (ρ : En) (i : Nat) (k : List PyData → Prop) : Prop := match ρ[i]? with
  | some (.own ds) => k ds
  | _ => False
theorem ownF_of {ρ : En} {i : Nat} {k : List PyData → Prop} (h : ownF ρ i k) : ∃ ds, ρ[i]? = some (.own ds) ∧ k ds := by
  unfold ownF at h
  split at h
  · next ds e => exact ⟨ds, e, h⟩
  · exact h.elim
theorem DqAll.atI {G : Hp} {xs : List V} {ds : List PyData} {k : Int} {d : PyData} (r : DqAll K G xs ds) (h : L2.atI ds k = some d) : ∃ v, L2.atI xs k = some v ∧ Dq K G v d := by
  unfold L2.atI at h ⊢
  rw [r.length]
  cases e : ixN ds.length k with
  | none => rw [e] at h; cases h
  | some j =>
    rw [e] at h
    exact r.got h
def fIxO (i : Nat) (b : FE) : FE := fun ρ P => ownF ρ i fun _ => b ρ fun x ρ1 => intF x fun k => ownF ρ1 i fun ds => ∃ d, atI ds k = some d ∧ P d ρ1
theorem re_ixO {i : Nat} {tb : TE} {b : FE} (hb : RE K J tb b) : RE K J (tOp (rIxL K) (tVar i) tb) (fIxO i b) := by
  intro O as σ H Q ρ P E q k
  obtain ⟨ds0, h0, q⟩ := ownF_of q
  obtain ⟨a, xs0, e1, e2, _, _⟩ := E.own_at h0
  refine ⟨_, e1, ?_⟩
  refine hb O as σ H _ ρ _ E q fun x ρ1 v H1 q1 f1 E1 d1 => ?_
  unfold intF at q1
  split at q1
  · next z =>
    cases d1
    obtain ⟨ds, hds, d, hd, p⟩ := ownF_of q1
    obtain ⟨a', xs, e1', e2', e3, e4⟩ := E1.own_at hds
    rw [e2] at e2'
    cases e2'
    obtain ⟨v, hv, dv⟩ := e4.atI hd
    exact ⟨a, xs, z, v, rfl, rfl, SqL.of e3, hv, k d ρ1 v H1 p f1 E1 dv⟩
  · exact q1.elim
/-- len of an own list -/
def fLenO (i : Nat) : FE := fun ρ P => ownF ρ i fun ds => P (.int ds.length) ρ
theorem re_lenO {i : Nat} : RE K J (tCB (fun xs H Q => ∃ p ys, xs = [.ref p] ∧ (SqL K H p ys ∨ SqT K H p ys) ∧ Q (.int ys.length) H) (tCons (tVar i) tNil)) (fLenO i) := by
  intro O as σ H Q ρ P E q k
  obtain ⟨ds, h0, q⟩ := ownF_of q
  obtain ⟨a, xs, e1, e2, e3, e4⟩ := E.own_at h0
  refine ⟨_, e1, a, xs, rfl, .inl (SqL.of e3), ?_⟩
  rw [e4.length]
  exact k _ _ _ _ q (FrA.refl _ _) E (.int _)
def fLenOK (i : Nat) : FE := fLenO i
theorem re_lenOK {i : Nat} : RE K J (tCB (rLenK K) (tCons (tVar i) tNil)) (fLenO i) := re_lenO
/-- own.append(e) -/
def fAppend (i : Nat) (a : FE) : FS := fun E ρ => ownF ρ i fun _ => a ρ fun d ρ1 => ownF ρ1 i fun ds => ds.length < sizeLine ∧ E.nx (ρ1.set i (.own (ds ++ [d])))
theorem rs_append {i : Nat} {te : TE} {a : FE} (ha : RE K J te a) : RS K J (tDrop (tBM K "list" rAppend (tVar i) (tCons te tNil))) (fAppend i a) := by
  intro O as σ H D ρ E R f C
  obtain ⟨ds0, h0, f⟩ := ownF_of f
  obtain ⟨p, xs0, e1, e2, e3, _⟩ := R.own_at h0
  refine ⟨_, e1, .inl ⟨rfl, _, SqL.of e3⟩, ?_⟩
  refine ha O as σ H _ ρ _ R f fun d ρ1 v H1 q1 f1 E1 d1 => ?_
  obtain ⟨ds, hds, hl, q1⟩ := ownF_of q1
  obtain ⟨p', xs, e1', e2', e3', e4'⟩ := E1.own_at hds
  rw [e2] at e2'
  cases e2'
  refine ⟨p, xs, v, rfl, rfl, e3', by rw [e4'.length]; exact hl, ?_⟩
  refine C.nx _ _ _ _ q1 (.of (f1.trans fun b o nb e => ?_)) (E1.put e2 (e4'.append (.cons d1 .nil)))
  rw [upd_ne (fun z : b = p => nb (by rw [z]; exact ⟨i, e2⟩))]
  exact e
/-- own[k] = e -/
def gSubO (i : Nat) (b : FE) : FG := fun d ρ P => ownF ρ i fun _ => b ρ fun x ρ1 => intF x fun k => ownF ρ1 i fun ds => ∃ j, ixN ds.length k = some j ∧ P (ρ1.set i (.own (ds.set j d)))
theorem rg_subO {i : Nat} {ti : TE} {b : FE} (hb : RE K J ti b) : RG K J [] (gSub (tVar i) ti rSetL) (gSubO i b) := by
  intro O as σ H R ρ P v d E q f k
  obtain ⟨ds0, h0, f⟩ := ownF_of f
  obtain ⟨p, xs0, e1, e2, e3, _⟩ := E.own_at h0
  refine ⟨_, e1, ?_⟩
  refine hb O as σ H _ ρ _ E f fun x ρ1 w H1 q1 f1 E1 d1 => ?_
  unfold intF at q1
  split at q1
  · next z =>
    cases d1
    obtain ⟨ds, hds, j, hj, q1⟩ := ownF_of q1
    obtain ⟨p', xs, e1', e2', e3', e4'⟩ := E1.own_at hds
    rw [e2] at e2'
    cases e2'
    refine ⟨p, xs, z, j, rfl, rfl, e3', by rw [e4'.length]; exact hj, ?_⟩
    refine k _ _ _ q1 (f1.trans fun b o nb e => ?_) (E1.put e2 (e4'.set (q.fr f1) j)) ⟨rfl, fun _ _ => rfl⟩
    rw [upd_ne (fun z : b = p => nb (by rw [z]; exact ⟨i, e2⟩))]
    exact e
  · exact q1.elim
/-! the def -/
def fnF (n m : Nat) (b : FS) : FN := fun sls P => b { nx := fun ρ' => P .none (ρ'.take n), rt := fun d ρ' => P d (ρ'.take n) } (sls ++ List.replicate (m - n) .no)
theorem EnR.start {n : Nat} {n' : Nat} {J : Jv n'} {O : Addr → Prop} {as : Nat → Option Addr} {H : Hp} {ρ : En} {vs : List V} (N : List Str) (E : EnR K J O as H ρ (vs.map some)) (hv : vs.length = n) : EnR K J O as H (ρ ++ List.replicate (N.length - n) .no) (L2.start N vs) := by
  have hl : ρ.length = n := by have := E.len; rw [List.length_map] at this; omega
  refine ⟨by rw [L2.start, List.length_append, List.length_append, List.length_replicate, List.length_replicate, E.len, hv], fun i sl o h1 h2 => ?_, E.inj, E.out, fun i a h => by have := E.bnd i a h; rw [List.length_append]; omega, E.occ, E.inv, E.inq⟩
  by_cases q : i < n
  · rw [List.getElem?_append_left (by omega)] at h1
    rw [L2.start, List.getElem?_append_left (by rw [List.length_map]; omega)] at h2
    exact E.at_ i sl o h1 h2
  · rw [List.getElem?_append_right (by omega), List.getElem?_replicate] at h1
    split at h1
    · cases h1
      have : as i = none := by
        cases e : as i with
        | none => rfl
        | some a => have := E.bnd i a e; omega
      rw [this]
      exact .no
    · cases h1
theorem fn_core {ps : List Str} {N : List Str} {b : FS} {t : TS} (rs : ∀ J : Jv ps.length, RS K J t b) {vs : List V} {H : Hp} {Q : VK} {E : XK} (h : spF K ps.length (fnF ps.length N.length b) vs H Q E) : t { nx := fun _ H' => Q .non H', rt := Q } (L2.start N vs) H := by
  obtain ⟨hv, O, as, ρ, P, R, hF, q⟩ := h
  have own : ∀ {ρ' : En} {as' : Nat → Option Addr} {σ' : L2.St} {H' : Hp}, Ext ps.length as as' H H' → EnR K (J0 : Jv ps.length) O as' H' ρ' σ' → ∀ i a, as i = some a → ∃ ds xs, (ρ'.take ps.length)[i]? = some (.own ds) ∧ H' a = some (.lst xs) ∧ DqAll K (hp (Hid O as) H') xs ds := by
    intro ρ' as' σ' H' x R' i a h
    have hi : i < ps.length := by have := R.bnd i a h; have := R.len; rw [List.length_map] at this; omega
    have h' : as' i = some a := by rw [x.fix i hi]; exact h
    obtain ⟨ds, xs, e1, _, e3, e4⟩ := R'.is_own h'
    refine ⟨ds, xs, by rw [List.getElem?_take, if_pos hi]; exact e1, e3, e4.mono ?_⟩
    refine hp_less fun c hc => ?_
    rcases hc with hc | ⟨j, hc⟩
    · exact .inl hc
    · have hj : j < ps.length := by have := R.bnd j c hc; have := R.len; rw [List.length_map] at this; omega
      exact .inr ⟨j, by rw [x.fix j hj]; exact hc⟩
  have less : ∀ {as' : Nat → Option Addr} {H' : Hp}, Ext ps.length as as' H H' → (∀ i a, as i = some a → i < ps.length) → Same (hp (Hid O as') H') (hp (Hid O as) H') := by
    intro as' H' x hb
    refine hp_less fun c hc => ?_
    rcases hc with hc | ⟨j, hc⟩
    · exact .inl hc
    · exact .inr ⟨j, by rw [x.fix j (hb j c hc)]; exact hc⟩
  have hb : ∀ i a, as i = some a → i < ps.length := fun i a h => by have := R.bnd i a h; have := R.len; rw [List.length_map] at this; omega
  refine rs J0 O as _ H _ _ _ ((R.start N hv).reJ trivial trivial) hF ⟨fun ρ' as' σ' H' p x R' => ?_, fun d ρ' v as' σ' H' p x R' dv => ?_, fun _ _ _ _ p => p.elim, fun _ _ _ _ p => p.elim, fun _ _ _ _ _ _ _ p => p.elim⟩
  · exact q _ _ _ _ p x.fr (own x R') .non
  · exact q _ _ _ _ p x.fr (own x R') (dv.mono (less x hb))
section
variable {P : Program} {w : World} {mg : Str → Option Value} {base : Heap} {k : Nat} {f : Addr} {fd : FuncData} {ps : List Str} {x qual : Str} {st : Stmt} {N : List Str} {b : FS}
theorem okF (F : Fun K x qual st f fd) (S : FnScope N ps (defScope st))
    (body : ∀ (cdv : Value) (A : Around) (outer : List Env) (s : Shared) (H : Hp) (E : XK), Room k (A.deeper (envOfC qual (defScope st) s.heap.objs.size f cdv)) →
      (A.deeper (envOfC qual (defScope st) s.heap.objs.size f cdv)).guards = some [] →
      ∃ t, PSs (cxOf CX0 P w K mg base N qual (defScope st) f cdv A outer s H E).nox (defBody st) t ∧ ∀ J : Jv ps.length, RS K J t b) :
    FnG P w K mg base (k + 1) f fd ps (spF K ps.length (fnF ps.length N.length b)) := by
  refine okG F S (fun vs H Q E h => h.1) (fun cdv A outer s H vs Q E hr hg h => ?_)
  obtain ⟨t, pt, rs⟩ := body cdv A outer s H E hr hg
  exact ⟨t, pt, fn_core rs h⟩
/-- without repr -/
theorem okF0 (F : Fun K x qual st f fd) (S : FnScope N ps (defScope st))
    (body : ∀ (cdv : Value) (A : Around) (outer : List Env) (s : Shared) (H : Hp) (E : XK), Room k (A.deeper (envOfC qual (defScope st) s.heap.objs.size f cdv)) →
      ∃ t, PSs (cxOf CX0 P w K mg base N qual (defScope st) f cdv A outer s H E).nox (defBody st) t ∧ ∀ J : Jv ps.length, RS K J t b) :
    FnOk P w K mg base CX0 (k + 1) f fd ps (spF K ps.length (fnF ps.length N.length b)) := by
  refine F.ok S (fun vs H Q E h => h.1) (fun cdv A outer s H vs Q E hr h => ?_)
  obtain ⟨t, pt, rs⟩ := body cdv A outer s H E hr
  exact ⟨t, pt, fn_core rs h⟩
/-- with defaults -/
theorem okFD {params : Arguments} {bd : List Stmt} {scope : Scope} {dvs : List V} {kws : List (Str × V)} (F : FunD K x qual params bd scope dvs kws f fd) (S : FnScope N ps scope)
    (body : ∀ (cdv : Value) (A : Around) (outer : List Env) (s : Shared) (H : Hp) (E : XK), Room k (A.deeper (envOfC qual scope s.heap.objs.size f cdv)) →
      ∃ t, PSs (cxOf CX0 P w K mg base N qual scope f cdv A outer s H E).nox bd t ∧ ∀ J : Jv ps.length, RS K J t b) :
    FnOk P w K mg base CX0 (k + 1) f fd ps (spF K ps.length (fnF ps.length N.length b)) := by
  refine okD F S (fun vs H Q E h => h.1) (fun cdv A outer s H vs Q E hr h => ?_)
  obtain ⟨t, pt, rs⟩ := body cdv A outer s H E hr
  exact ⟨t, pt, fn_core rs h⟩
end
end
end DL
/-! operators and built-in calls over data -/
namespace DL
open PySem L2 Z PySem.Spec PyProof.Rows
abbrev G2 := PyData → PyData → (PyData → Prop) → Prop
section
variable {K : PySem.W.Frag} {n : Nat} {J : Jv n}
def o2 (h : Int → Int → PyData) : G2 := fun a b P => match a, b with
  | .int i, .int j => P (h i j)
  | _, _ => False
def o2c (C : Int → Int → Prop) (h : Int → Int → PyData) : G2 := fun a b P => match a, b with
  | .int i, .int j => C i j ∧ P (h i j)
  | _, _ => False
theorem rr_i0 {h : Int → Int → V} {h' : Int → Int → PyData} (e : ∀ i j H, Dq K H (h i j) (h' i j)) : RR K (rI0 h) (o2 h') := by
  intro A H Q x y a b P oc da db g k
  unfold o2 at g
  split at g
  · cases da; cases db; exact ⟨_, _, rfl, rfl, k _ _ _ g (Same.refl _) (e _ _ _)⟩
  · exact g.elim
theorem rr_ic {C : Int → Int → Prop} {h : Int → Int → V} {h' : Int → Int → PyData} (e : ∀ i j H, Dq K H (h i j) (h' i j)) : RR K (rI C h) (o2c C h') := by
  intro A H Q x y a b P oc da db g k
  unfold o2c at g
  split at g
  · cases da; cases db; exact ⟨_, _, rfl, rfl, g.1, k _ _ _ g.2 (Same.refl _) (e _ _ _)⟩
  · exact g.elim
abbrev oAdd : G2 := o2 fun i j => .int (i + j)
abbrev oSub : G2 := o2 fun i j => .int (i - j)
abbrev oMul : G2 := o2c CMul fun i j => .int (i * j)
abbrev oDiv : G2 := o2c CDiv fun i j => .int (i / j)
abbrev oMod : G2 := o2c (fun _ j => 0 < j) fun i j => .int (i % j)
abbrev oPow : G2 := o2c CPow fun i j => .int (i ^ j.toNat)
abbrev oShl : G2 := o2c CPow fun i j => .int (i * 2 ^ j.toNat)
abbrev oShr : G2 := o2c (fun _ j => 0 ≤ j) fun i j => .int (i / 2 ^ j.toNat)
abbrev oBAnd : G2 := o2 fun i j => .int (Builtin.bitAnd i j)
abbrev oBOr : G2 := o2 fun i j => .int (Builtin.bitOr i j)
abbrev oLt : G2 := o2 fun i j => .bool (decide (i < j))
abbrev oLe : G2 := o2 fun i j => .bool (decide (i ≤ j))
abbrev oGt : G2 := o2 fun i j => .bool (decide (j < i))
abbrev oGe : G2 := o2 fun i j => .bool (decide (j ≤ i))
theorem rr_add : RR K (rI0 fun i j => .int (i + j)) oAdd := rr_i0 fun _ _ _ => .int _
theorem rr_sub : RR K (rI0 fun i j => .int (i - j)) oSub := rr_i0 fun _ _ _ => .int _
theorem rr_mul : RR K (rI CMul fun i j => .int (i * j)) oMul := rr_ic fun _ _ _ => .int _
theorem rr_fdiv : RR K (rI CDiv fun i j => .int (i / j)) oDiv := rr_ic fun _ _ _ => .int _
theorem rr_mod : RR K (rI (fun _ j => 0 < j) fun i j => .int (i % j)) oMod := rr_ic fun _ _ _ => .int _
theorem rr_pow : RR K (rI CPow fun i j => .int (i ^ j.toNat)) oPow := rr_ic fun _ _ _ => .int _
theorem rr_shl : RR K (rI CPow fun i j => .int (i * 2 ^ j.toNat)) oShl := rr_ic fun _ _ _ => .int _
theorem rr_shr : RR K (rI (fun _ j => 0 ≤ j) fun i j => .int (i / 2 ^ j.toNat)) oShr := rr_ic fun _ _ _ => .int _
theorem rr_and : RR K (rI0 fun i j => .int (Builtin.bitAnd i j)) oBAnd := rr_i0 fun _ _ _ => .int _
theorem rr_or : RR K (rI0 fun i j => .int (Builtin.bitOr i j)) oBOr := rr_i0 fun _ _ _ => .int _
theorem rr_lt : RR K (rI0 fun i j => .bl (decide (i < j))) oLt := rr_i0 fun _ _ _ => .bl _
theorem rr_le : RR K (rI0 fun i j => .bl (decide (i ≤ j))) oLe := rr_i0 fun _ _ _ => .bl _
theorem rr_gt : RR K (rI0 fun i j => .bl (decide (j < i))) oGt := rr_i0 fun _ _ _ => .bl _
theorem rr_ge : RR K (rI0 fun i j => .bl (decide (j ≤ i))) oGe := rr_i0 fun _ _ _ => .bl _
def oStr (C : Str → Str → Prop) (h : Str → Str → PyData) : G2 := fun a b P => match a, b with
  | .str i, .str j => C i j ∧ P (h i j)
  | _, _ => False
abbrev oAddS : G2 := oStr (fun i j => i.length + j.length ≤ sizeLine) fun i j => .str (i ++ j)
theorem rr_add_str : RR K (fun x y H Q => ∃ i j, x = .str i ∧ y = .str j ∧ i.length + j.length ≤ sizeLine ∧ Q (.str (i ++ j)) H) oAddS := by
  intro A H Q x y a b P oc da db g k
  unfold oAddS oStr at g
  split at g
  · cases da; cases db; exact ⟨_, _, rfl, rfl, g.1, k _ _ _ g.2 (Same.refl _) (.str _)⟩
  · exact g.elim
abbrev oLtS : G2 := oStr (fun _ _ => True) fun i j => .bool (decide (i.cps.toList < j.cps.toList))
theorem rr_lt_str : RR K (fun x y H Q => ∃ i j, x = .str i ∧ y = .str j ∧ Q (.bl (decide (i.cps.toList < j.cps.toList))) H) oLtS := by
  intro A H Q x y a b P oc da db g k
  unfold oLtS oStr at g
  split at g
  · cases da; cases db; exact ⟨_, _, rfl, rfl, k _ _ _ g.2 (Same.refl _) (.bl _)⟩
  · exact g.elim
/-- == of plain things -/
def oEqB (h : Bool → Bool) : G2 := fun a b P => match a, b with
  | .int i, .int j => P (.bool (h (decide (i = j))))
  | .str i, .str j => P (.bool (h (decide (i = j))))
  | .bool i, .bool j => P (.bool (h (decide (i = j))))
  | .none, .none => P (.bool (h true))
  | .none, .int _ => P (.bool (h false))
  | .int _, .none => P (.bool (h false))
  | .none, .str _ => P (.bool (h false))
  | .str _, .none => P (.bool (h false))
  | .none, .bool _ => P (.bool (h false))
  | .bool _, .none => P (.bool (h false))
  | .int _, .str _ => P (.bool (h false))
  | .str _, .int _ => P (.bool (h false))
  | _, _ => False
abbrev oEq : G2 := oEqB id
abbrev oNe : G2 := oEqB not
theorem dec_int {i j : Int} : decide (V.int i = V.int j) = decide (i = j) := by by_cases h : i = j <;> simp [h]
theorem dec_str {i j : Str} : decide (V.str i = V.str j) = decide (i = j) := by by_cases h : i = j <;> simp [h]
theorem dec_bl {i j : Bool} : decide (V.bl i = V.bl j) = decide (i = j) := by by_cases h : i = j <;> simp [h]
theorem rr_eq : RR K rEq oEq := by
  intro A H Q x y a b P oc da db g k
  unfold oEq oEqB at g
  split at g
  · cases da; cases db; refine ⟨rfl, ?_⟩; rw [dec_int]; exact k _ _ _ g (Same.refl _) (.bl _)
  · cases da; cases db; refine ⟨rfl, ?_⟩; rw [dec_str]; exact k _ _ _ g (Same.refl _) (.bl _)
  · cases da; cases db; refine ⟨rfl, ?_⟩; rw [dec_bl]; exact k _ _ _ g (Same.refl _) (.bl _)
  all_goals first | (exact g.elim) | (cases da; cases db; exact ⟨rfl, k _ _ _ g (Same.refl _) (.bl _)⟩)
theorem rr_ne : RR K rNe oNe := by
  intro A H Q x y a b P oc da db g k
  unfold oNe oEqB at g
  split at g
  · cases da; cases db; refine ⟨rfl, ?_⟩; rw [dec_int]; exact k _ _ _ g (Same.refl _) (.bl _)
  · cases da; cases db; refine ⟨rfl, ?_⟩; rw [dec_str]; exact k _ _ _ g (Same.refl _) (.bl _)
  · cases da; cases db; refine ⟨rfl, ?_⟩; rw [dec_bl]; exact k _ _ _ g (Same.refl _) (.bl _)
  all_goals first | (exact g.elim) | (cases da; cases db; exact ⟨rfl, k _ _ _ g (Same.refl _) (.bl _)⟩)
/-- == of data -/
def oEqD : G2 := fun a b P => SeqAt.shaped a = true ∧ SeqAt.shaped b = true ∧ P (.bool (PyData.eqv a b))
def oNeD : G2 := fun a b P => SeqAt.shaped a = true ∧ SeqAt.shaped b = true ∧ P (.bool (!PyData.eqv a b))
theorem rr_eqD : RR K (rEqD K) oEqD := fun A H Q x y a b P oc da db g k => ⟨a, b, Dp.mono hp_same (da.dp (plain_of g.1)), Dp.mono hp_same (db.dp (plain_of g.2.1)), g.1, g.2.1, k _ _ _ g.2.2 (Same.refl _) (.bl _)⟩
theorem rr_neD : RR K (rNeD K) oNeD := fun A H Q x y a b P oc da db g k => ⟨a, b, Dp.mono hp_same (da.dp (plain_of g.1)), Dp.mono hp_same (db.dp (plain_of g.2.1)), g.1, g.2.1, k _ _ _ g.2.2 (Same.refl _) (.bl _)⟩
def isNone : PyData → Bool
  | .none => true
  | _ => false
def oIsB (h : Bool → Bool) : G2 := fun a b P => match b with
  | .none => P (.bool (h (isNone a)))
  | _ => False
abbrev oIs : G2 := oIsB id
abbrev oIsnt : G2 := oIsB not
theorem isNone_of {H : Hp} {x : V} {a : PyData} (d : Dq K H x a) : decide (x = .non) = isNone a := by cases d <;> rfl
theorem rr_isN : RR K (fun x y H Q => y = .non ∧ Q (.bl (decide (x = .non))) H) oIs := by
  intro A H Q x y a b P oc da db g k
  unfold oIs oIsB at g
  split at g
  · cases db; refine ⟨rfl, ?_⟩; rw [isNone_of da]; exact k _ _ _ g (Same.refl _) (.bl _)
  · exact g.elim
theorem rr_notN : RR K (fun x y H Q => y = .non ∧ Q (.bl (!decide (x = .non))) H) oIsnt := by
  intro A H Q x y a b P oc da db g k
  unfold oIsnt oIsB at g
  split at g
  · cases db; refine ⟨rfl, ?_⟩; rw [isNone_of da]; exact k _ _ _ g (Same.refl _) (.bl _)
  · exact g.elim
/-- a sign in a text -/
def oInSB (h : Bool → Bool) : G2 := fun a b P => match a, b with
  | .str s, .str z => ∃ c, s = ⟨#[c]⟩ ∧ P (.bool (h (decide (c ∈ z.cps.toList))))
  | _, _ => False
abbrev oInS : G2 := oInSB id
abbrev oNinS : G2 := oInSB not
theorem rr_in_sign : RR K (fun x y H Q => ∃ (c : Nat) (z : Str), x = .str ⟨#[c]⟩ ∧ y = .str z ∧ Q (.bl (decide (c ∈ z.cps.toList))) H) oInS := by
  intro A H Q x y a b P oc da db g k
  unfold oInS oInSB at g
  split at g
  · cases da; cases db; obtain ⟨c, rfl, g⟩ := g; exact ⟨_, _, rfl, rfl, k _ _ _ g (Same.refl _) (.bl _)⟩
  · exact g.elim
theorem rr_notIn_sign : RR K (fun x y H Q => ∃ (c : Nat) (z : Str), x = .str ⟨#[c]⟩ ∧ y = .str z ∧ Q (.bl (!decide (c ∈ z.cps.toList))) H) oNinS := by
  intro A H Q x y a b P oc da db g k
  unfold oNinS oInSB at g
  split at g
  · cases da; cases db; obtain ⟨c, rfl, g⟩ := g; exact ⟨_, _, rfl, rfl, k _ _ _ g (Same.refl _) (.bl _)⟩
  · exact g.elim
def flatD : PyData → Bool
  | .none => true
  | .bool _ => true
  | .int _ => true
  | .str _ => true
  | _ => false
theorem flat_of {H : Hp} {x : V} {a : PyData} (d : Dq K H x a) (h : flatD a = true) : flatV x = true := by
  cases d <;> first | rfl | cases h
theorem eqV_of {H : Hp} {x y : V} {a b : PyData} (d : Dq K H x a) (e : Dq K H y b) (h : flatD a = true) (h' : flatD b = true) : eqV x y = PyData.eqv a b := by
  cases d <;> first | (cases h; done) | (cases e <;> first | (cases h'; done) | (unfold PyData.eqv; rfl))
theorem flats_of {H : Hp} : ∀ {xs : List V} {ds : List PyData}, DqAll K H xs ds → ds.all flatD = true → xs.all flatV = true
  | _, _, .nil, _ => rfl
  | _, _, .cons a b, h => by
    have h' := Bool.and_eq_true_iff.mp h
    exact Bool.and_eq_true_iff.mpr ⟨flat_of a h'.1, flats_of b h'.2⟩
def inD (a : PyData) (ds : List PyData) : Bool := ds.any fun y => PyData.eqv y a
theorem in_of {H : Hp} {x : V} {a : PyData} (d : Dq K H x a) (h : flatD a = true) : ∀ {xs : List V} {ds : List PyData}, DqAll K H xs ds → ds.all flatD = true → inV x xs = inD a ds
  | _, _, .nil, _ => rfl
  | _, _, .cons e b, h' => by
    have h' := Bool.and_eq_true_iff.mp h'
    show (eqV _ x || inV x _) = (PyData.eqv _ a || inD a _)
    rw [eqV_of e d h'.1 h, in_of d h b h'.2]
def seqF (a : PyData) (k : List PyData → Prop) : Prop := match a with
  | .list ds => k ds
  | .tuple ds => k ds
  | _ => False
def oIn (neg : Bool) : G2 := fun a b P => seqF b fun ds => flatD a = true ∧ ds.all flatD = true ∧ P (.bool (if neg then !inD a ds else inD a ds))
theorem seqF_of {A : Addr → Prop} {H : Hp} {x : V} {a : PyData} {k : List PyData → Prop} (d : Dq K (hp A H) x a) (h : seqF a k) : ∃ p xs ds, x = .ref p ∧ (SqL K H p xs ∨ SqT K H p xs) ∧ DqAll K (hp A H) xs ds ∧ k ds := by
  unfold seqF at h
  split at h
  · obtain ⟨p, xs, rfl, s, r⟩ := d.list_of
    exact ⟨p, xs, _, rfl, .inl (SqL.mono hp_same s), r, h⟩
  · obtain ⟨p, xs, rfl, s, r⟩ := d.tuple_of
    exact ⟨p, xs, _, rfl, .inr (SqT.mono hp_same s), r, h⟩
  · exact h.elim
theorem rr_in {neg : Bool} : RR K (rIn K neg) (oIn neg) := by
  intro A H Q x y a b P oc da db g k
  obtain ⟨p, xs, ds, rfl, s, r, h1, h2, g⟩ := seqF_of db g
  refine ⟨p, xs, rfl, s, flat_of da h1, flats_of r h2, ?_⟩
  rw [in_of da h1 r h2]
  exact k _ _ _ g (Same.refl _) (.bl _)
/-- x in own -/
def fInO (neg : Bool) (i : Nat) (a : FE) : FE := fun ρ P => a ρ fun x ρ1 => ownF ρ1 i fun ds => flatD x = true ∧ ds.all flatD = true ∧ P (.bool (if neg then !inD x ds else inD x ds)) ρ1
theorem re_inO {neg : Bool} {i : Nat} {ta : TE} {a : FE} (ha : RE K J ta a) : RE K J (tOp (rIn K neg) ta (tVar i)) (fInO neg i a) := by
  intro O as σ H Q ρ P E q k
  refine ha O as σ H _ ρ _ E q fun x ρ1 v H1 q1 f1 E1 d1 => ?_
  obtain ⟨ds, hds, h1, h2, q1⟩ := ownF_of q1
  obtain ⟨p, xs, e1, e2, e3, e4⟩ := E1.own_at hds
  refine ⟨_, e1, p, xs, rfl, .inl (SqL.of e3), flat_of d1 h1, flats_of e4 h2, ?_⟩
  rw [in_of d1 h1 e4 h2]
  exact k _ _ _ _ q1 f1 E1 (.bl _)
/-! places -/
def oIxL : G2 := fun a b P => match a, b with
  | .list ds, .int k => ∃ d, atI ds k = some d ∧ P d
  | _, _ => False
def oIxT : G2 := fun a b P => match a, b with
  | .tuple ds, .int k => ∃ d, atI ds k = some d ∧ P d
  | _, _ => False
def oIxS : G2 := fun a b P => match a, b with
  | .str z, .int k => z.length ≤ sizeLine ∧ ∃ c, atI z.cps.toList k = some c ∧ P (.str ⟨#[c]⟩)
  | _, _ => False
theorem rr_ixL : RR K (rIxL K) oIxL := by
  intro A H Q x y a b P oc da db g k
  unfold oIxL at g
  split at g
  · cases db
    obtain ⟨p, xs, rfl, s, r⟩ := da.list_of
    obtain ⟨d, hd, g⟩ := g
    obtain ⟨v, hv, dv⟩ := r.atI hd
    exact ⟨p, xs, _, v, rfl, rfl, SqL.mono hp_same s, hv, k _ _ _ g (Same.refl _) dv⟩
  · exact g.elim
theorem rr_ixT : RR K (rIxT K) oIxT := by
  intro A H Q x y a b P oc da db g k
  unfold oIxT at g
  split at g
  · cases db
    obtain ⟨p, xs, rfl, s, r⟩ := da.tuple_of
    obtain ⟨d, hd, g⟩ := g
    obtain ⟨v, hv, dv⟩ := r.atI hd
    exact ⟨p, xs, _, v, rfl, rfl, SqT.mono hp_same s, hv, k _ _ _ g (Same.refl _) dv⟩
  · exact g.elim
theorem rr_ixS : RR K rIxS oIxS := by
  intro A H Q x y a b P oc da db g k
  unfold oIxS at g
  split at g
  · cases da; cases db
    obtain ⟨hz, c, hc, g⟩ := g
    exact ⟨_, _, c, rfl, rfl, hz, hc, k _ _ _ g (Same.refl _) (.str _)⟩
  · exact g.elim
def oIx : G2 := fun a b P => match a, b with
  | .list ds, .int k => ∃ d, atI ds k = some d ∧ P d
  | .tuple ds, .int k => ∃ d, atI ds k = some d ∧ P d
  | .str z, .int k => z.length ≤ sizeLine ∧ ∃ c, atI z.cps.toList k = some c ∧ P (.str ⟨#[c]⟩)
  | _, _ => False
theorem rr_ix : RR K (rIx K) oIx := by
  intro A H Q x y a b P oc da db g k
  unfold oIx at g
  split at g
  · exact .inl (rr_ixL A H Q x y _ _ P oc da db g k)
  · exact .inr (.inl (rr_ixT A H Q x y _ _ P oc da db g k))
  · exact .inr (.inr (rr_ixS A H Q x y _ _ P oc da db g k))
  · exact g.elim
/-! slices -/
abbrev FO := En → (Option Int → En → Prop) → Prop
def RO (K : PySem.W.Frag) {n : Nat} (J : Jv n) (t : TO) (f : FO) : Prop := ∀ (O : Addr → Prop) (as : Nat → Option Addr) (σ : L2.St) (H : Hp) (Q : Option Int → Hp → Prop) (ρ : En) (P : Option Int → En → Prop), EnR K J O as H ρ σ → f ρ P →
  (∀ o ρ' H', P o ρ' → FrA (Own as) H H' → EnR K J O as H' ρ' σ → Q o H') → t σ H Q
def pNo : FO := fun ρ P => P none ρ
def pSo (a : FE) : FO := fun ρ P => a ρ fun d ρ1 => intF d fun i => P (some i) ρ1
theorem ro_no : RO K J tNoPart pNo := fun O as σ H Q ρ P E f k => k none ρ H f (FrA.refl _ _) E
theorem ro_so {t : TE} {a : FE} (ha : RE K J t a) : RO K J (tPart t) (pSo a) := by
  intro O as σ H Q ρ P E q k
  refine ha O as σ H _ ρ _ E q fun d ρ1 v H1 q1 f1 E1 d1 => ?_
  unfold intF at q1
  split at q1
  · cases d1; exact ⟨_, rfl, k _ _ _ q1 f1 E1⟩
  · exact q1.elim
def RL (K : PySem.W.Frag) (r : V → Option Int → Option Int → Hp → VK → Prop) (g : PyData → Option Int → Option Int → (PyData → Prop) → Prop) : Prop := ∀ (A : Addr → Prop) (H : Hp) (Q : VK) (x : V) (a : PyData) (lo hi : Option Int) (P : PyData → Prop), (∀ c, A c → H c ≠ none) →
  Dq K (hp A H) x a → g a lo hi P → (∀ d v H', P d → Same H H' → Dq K (hp A H') v d → Q v H') → r x lo hi H Q
def fSl (g : PyData → Option Int → Option Int → (PyData → Prop) → Prop) (a : FE) (lo hi : FO) : FE := fun ρ P => a ρ fun x ρ1 => lo ρ1 fun l ρ2 => hi ρ2 fun u ρ3 => g x l u fun d => P d ρ3
theorem re_sl {r : V → Option Int → Option Int → Hp → VK → Prop} {g : PyData → Option Int → Option Int → (PyData → Prop) → Prop} {te : TE} {tl th : TO} {a : FE} {lo hi : FO} (hr : RL K r g) (ha : RE K J te a) (hl : RO K J tl lo) (hh : RO K J th hi) : RE K J (tSl r te tl th) (fSl g a lo hi) := by
  intro O as σ H Q ρ P E q k
  refine ha O as σ H _ ρ _ E q fun x ρ1 v H1 q1 f1 E1 d1 => ?_
  refine hl O as σ H1 _ ρ1 _ E1 q1 fun l ρ2 H2 q2 f2 E2 => ?_
  refine hh O as σ H2 _ ρ2 _ E2 q2 fun u ρ3 H3 q3 f3 E3 => ?_
  refine hr (Hid O as) H3 _ v x l u _ (fun c h => E3.full h) ((d1.fr f2).fr f3) q3 fun d w H4 p s4 d4 => ?_
  exact k _ _ _ _ p (((f1.trans f2).trans f3).trans (FrA.of s4)) (E3.grow s4) d4
def cutD (xs : List PyData) (lo hi : Option Int) : List PyData := (xs.drop (HT.sIx xs.length 0 lo)).take (HT.sIx xs.length xs.length hi - HT.sIx xs.length 0 lo)
theorem DqAll.cut {G : Hp} {xs : List V} {ds : List PyData} (r : DqAll K G xs ds) (lo hi : Option Int) : DqAll K G (cutV xs lo hi) (cutD ds lo hi) := by
  unfold cutV cutD
  rw [r.length]
  exact (r.drop _).take _
def sL : PyData → Option Int → Option Int → (PyData → Prop) → Prop := fun a lo hi P => listF a fun ds => P (.list (cutD ds lo hi))
def sT : PyData → Option Int → Option Int → (PyData → Prop) → Prop := fun a lo hi P => tupleF a fun ds => P (.tuple (cutD ds lo hi))
def sS : PyData → Option Int → Option Int → (PyData → Prop) → Prop := fun a lo hi P => strF a fun z => z.length ≤ sizeLine ∧ P (.str (cutS z lo hi))
theorem rl_list : RL K (rSlL K) sL := by
  intro A H Q x a lo hi P oc da g k
  unfold sL listF at g
  split at g
  · obtain ⟨p, xs, rfl, s, r⟩ := da.list_of
    refine ⟨p, xs, rfl, SqL.mono hp_same s, fun l hl => ?_⟩
    have sm := Same.new (o := .lst (cutV xs lo hi)) hl
    exact k _ _ _ g sm (.lst (SqL.of (hp_mk (fun q => oc _ q hl) upd_same)) ((r.mono (hp_grow sm)).cut lo hi))
  · exact g.elim
theorem rl_tupA : RL K (rSlA K) sT := by
  intro A H Q x a lo hi P oc da g k
  unfold sT tupleF at g
  split at g
  · obtain ⟨p, xs, rfl, s, r⟩ := da.tuple_of
    refine ⟨p, xs, rfl, SqT.mono hp_same s, fun e => ?_, fun _ l hl => ?_⟩
    · refine k _ _ _ g (Same.refl _) (.tup (xs := cutV xs lo hi) ?_ (r.cut lo hi))
      unfold cutV
      rw [e.1, e.2, List.drop_zero, Nat.sub_zero, List.take_length]
      exact s
    · have sm := Same.new (o := .tup (cutV xs lo hi)) hl
      exact k _ _ _ g sm (.tup (SqT.of (hp_mk (fun q => oc _ q hl) upd_same)) ((r.mono (hp_grow sm)).cut lo hi))
  · exact g.elim
theorem rl_str : RL K rSlS sS := by
  intro A H Q x a lo hi P oc da g k
  unfold sS strF at g
  split at g
  · cases da; exact ⟨_, rfl, g.1, k _ _ _ g.2 (Same.refl _) (.str _)⟩
  · exact g.elim
end
end DL
namespace DL
open PySem L2 Z PySem.Spec PyProof.Rows
section
variable {K : PySem.W.Frag} {n : Nat} {J : Jv n}
/-- list + list, each tracked, frozen or of the module -/
def rCatK (K : PySem.W.Frag) : R2 := fun x y H Q => ∃ l b xs zs, x = .ref l ∧ y = .ref b ∧ SqL K H l xs ∧ SqL K H b zs ∧ xs.length + zs.length ≤ sizeLine ∧ ∀ p, H p = none → Q (.ref p) (upd H p (.lst (xs ++ zs)))
theorem op_catK {X : Cx} : OpR X (binaryOp .Add) (rCatK X.K) := by
  intro pins s σ H x y v u Q I rx ry h
  obtain ⟨l, b, xs, zs, rfl, rfl, hH, hB, hz, q⟩ := h
  cases rx
  cases ry
  obtain ⟨its, r, ⟨⟨c1, d1, e1, sl1⟩, n1, ho1, hc1, hd1, hs1⟩, z1⟩ := I.list hH
  obtain ⟨its2, r2, ⟨⟨c2, d2, e2, sl2⟩, n2, ho2, hc2, hd2, hs2⟩, z2⟩ := I.list hB
  simp only at hc1 hd1 hs1 hc2 hd2 hs2
  subst hc1 hd1 hs1 hc2 hd2 hs2
  have ea : its.toArray ++ its2.toArray = (its ++ its2).toArray := by simp
  have l1 := r.length
  have l2 := r2.length
  refine concat_meets ⟨_, ho1, rfl⟩ ⟨_, ho2, rfl⟩ noFill_list_add seq_list_add PySem.F.slot_list_add PySem.F.entry_list_add (PySem.F.args_list_add_2 _ _) (list_addW l b its.toArray its2.toArray n1 n2 none none sl1 sl2 (by simp; omega)) ⟨ho1, ho2, ?_⟩
  rw [ea]
  exact ⟨.ref _, _, I.lnew (t' := s.toks) (r.append r2) (by rw [List.length_append]; omega), rfl, q _ I.fresh⟩
def oCatL : G2 := fun a b P => match a, b with
  | .list xs, .list ys => xs.length + ys.length ≤ sizeLine ∧ P (.list (xs ++ ys))
  | _, _ => False
theorem rr_cat : RR K (rCatK K) oCatL := by
  intro A H Q x y a b P oc da db g k
  unfold oCatL at g
  split at g
  · obtain ⟨p, xs, rfl, s, r⟩ := da.list_of
    obtain ⟨p', xs', rfl, s', r'⟩ := db.list_of
    refine ⟨p, p', xs, xs', rfl, rfl, SqL.mono hp_same s, SqL.mono hp_same s', by rw [r.length, r'.length]; exact g.1, fun l hl => ?_⟩
    have sm := Same.new (o := .lst (xs ++ xs')) hl
    exact k _ _ _ g.2 sm (.lst (SqL.of (hp_mk (fun q => oc _ q hl) upd_same)) ((r.mono (hp_grow sm)).append (r'.mono (hp_grow sm))))
  · exact g.elim
def oCatT : G2 := fun a b P => match a, b with
  | .tuple xs, .tuple ys => xs.length + ys.length ≤ sizeLine ∧ P (.tuple (xs ++ ys))
  | _, _ => False
theorem rr_catA : RR K (rCatA K) oCatT := by
  intro A H Q x y a b P oc da db g k
  unfold oCatT at g
  split at g
  · obtain ⟨p, xs, rfl, s, r⟩ := da.tuple_of
    obtain ⟨p', xs', rfl, s', r'⟩ := db.tuple_of
    have rr := r.append r'
    refine ⟨p, p', xs, xs', rfl, rfl, SqT.mono hp_same s, SqT.mono hp_same s', by rw [r.length, r'.length]; exact g.1, fun e => ?_, fun _ e => ?_, fun _ _ l hl => ?_⟩
    · subst e
      exact k _ _ _ g.2 (Same.refl _) (.tup s' rr)
    · subst e
      rw [List.append_nil] at rr
      exact k _ _ _ g.2 (Same.refl _) (.tup s rr)
    · have sm := Same.new (o := .tup (xs ++ xs')) hl
      exact k _ _ _ g.2 sm (.tup (SqT.of (hp_mk (fun q => oc _ q hl) upd_same)) (rr.mono (hp_grow sm)))
  · exact g.elim
def uNeg (a : PyData) (P : PyData → Prop) : Prop := intF a fun i => P (.int (-i))
theorem ru_neg : RU K (rU fun i => .int (-i)) uNeg := by
  intro A H Q x a P oc da g k
  unfold uNeg intF at g
  split at g
  · cases da; exact ⟨_, rfl, k _ _ _ g (Same.refl _) (.int _)⟩
  · exact g.elim
/-! built-in calls -/
def one (ds : List PyData) (k : PyData → Prop) : Prop := match ds with
  | [d] => k d
  | _ => False
theorem one_of {G : Hp} {vs : List V} {ds : List PyData} {k : PyData → Prop} (r : DqAll K G vs ds) (h : one ds k) : ∃ v d, vs = [v] ∧ Dq K G v d ∧ k d := by
  unfold one at h
  split at h
  · cases r with
    | cons a b => cases b; exact ⟨_, _, rfl, a, h⟩
  · exact h.elim
def bLenS (ds : List PyData) (P : PyData → Prop) : Prop := one ds fun d => strF d fun z => z.length ≤ sizeLine ∧ P (.int z.length)
theorem rb_len_str : RB K (fun xs H Q => ∃ z, xs = [.str z] ∧ z.length ≤ sizeLine ∧ Q (.int z.length) H) bLenS := by
  intro A H Q xs ds P oc r g k
  obtain ⟨v, d, rfl, q, g⟩ := one_of r g
  unfold strF at g
  split at g
  · cases q; exact ⟨_, rfl, g.1, k _ _ _ g.2 (Same.refl _) (.int _)⟩
  · exact g.elim
def bLen (ds : List PyData) (P : PyData → Prop) : Prop := one ds fun d => seqF d fun es => P (.int es.length)
theorem rb_len : RB K (fun xs H Q => ∃ p ys, xs = [.ref p] ∧ (SqL K H p ys ∨ SqT K H p ys) ∧ Q (.int ys.length) H) bLen := by
  intro A H Q xs ds P oc r g k
  obtain ⟨v, d, rfl, q, g⟩ := one_of r g
  obtain ⟨p, xs, ds, rfl, s, r, g⟩ := seqF_of q g
  refine ⟨p, xs, rfl, s, ?_⟩
  rw [r.length]
  exact k _ _ _ g (Same.refl _) (.int _)
theorem rb_lenK : RB K (rLenK K) bLen := rb_len
def bAbs (ds : List PyData) (P : PyData → Prop) : Prop := one ds fun d => intF d fun i => P (.int (if i < 0 then -i else i))
theorem rb_abs : RB K (fun xs H Q => ∃ i, xs = [.int i] ∧ Q (.int (if i < 0 then -i else i)) H) bAbs := by
  intro A H Q xs ds P oc r g k
  obtain ⟨v, d, rfl, q, g⟩ := one_of r g
  unfold intF at g
  split at g
  · cases q; exact ⟨_, rfl, k _ _ _ g (Same.refl _) (.int _)⟩
  · exact g.elim
def two (ds : List PyData) (k : Int → Int → Prop) : Prop := match ds with
  | [.int i, .int j] => k i j
  | _ => False
theorem two_of {G : Hp} {vs : List V} {ds : List PyData} {k : Int → Int → Prop} (r : DqAll K G vs ds) (h : two ds k) : ∃ i j, vs = [.int i, .int j] ∧ k i j := by
  unfold two at h
  split at h
  · cases r with
    | cons a b => cases b with
      | cons c d => cases a; cases c; cases d; exact ⟨_, _, rfl, h⟩
  · exact h.elim
def bMin (ds : List PyData) (P : PyData → Prop) : Prop := two ds fun i j => P (.int (if j < i then j else i))
def bMax (ds : List PyData) (P : PyData → Prop) : Prop := two ds fun i j => P (.int (if j > i then j else i))
theorem rb_min2 : RB K (fun xs H Q => ∃ i j, xs = [.int i, .int j] ∧ Q (.int (if j < i then j else i)) H) bMin := by
  intro A H Q xs ds P oc r g k
  obtain ⟨i, j, rfl, g⟩ := two_of r g
  exact ⟨_, _, rfl, k _ _ _ g (Same.refl _) (.int _)⟩
theorem rb_max2 : RB K (fun xs H Q => ∃ i j, xs = [.int i, .int j] ∧ Q (.int (if j > i then j else i)) H) bMax := by
  intro A H Q xs ds P oc r g k
  obtain ⟨i, j, rfl, g⟩ := two_of r g
  exact ⟨_, _, rfl, k _ _ _ g (Same.refl _) (.int _)⟩
def bDivmod (ds : List PyData) (P : PyData → Prop) : Prop := two ds fun i j => CDiv i j ∧ P (.tuple [.int (i / j), .int (i % j)])
theorem rb_divmod : RB K (fun xs H Q => ∃ i j, xs = [.int i, .int j] ∧ CDiv i j ∧ ∀ p, H p = none → Q (.ref p) (upd H p (.tup [.int (i / j), .int (i % j)]))) bDivmod := by
  intro A H Q xs ds P oc r g k
  obtain ⟨i, j, rfl, g⟩ := two_of r g
  refine ⟨_, _, rfl, g.1, fun p hp1 => ?_⟩
  exact k _ _ _ g.2 (Same.new hp1) (.tup (SqT.of (hp_mk (fun q => oc _ q hp1) upd_same)) (.cons (.int _) (.cons (.int _) .nil)))
def boolsF : List PyData → (List Bool → Prop) → Prop
  | [], k => k []
  | .bool b :: r, k => boolsF r fun bs => k (b :: bs)
  | _ :: _, _ => False
theorem boolsF_of : ∀ {ds : List PyData} {k : List Bool → Prop}, boolsF ds k → ∃ bs : List Bool, ds = bs.map .bool ∧ k bs
  | [], k, h => ⟨[], rfl, h⟩
  | .bool b :: r, k, h => by
    obtain ⟨bs, e, h'⟩ := boolsF_of (ds := r) h
    exact ⟨b :: bs, by rw [e]; rfl, h'⟩
theorem boolsF_map {bs : List Bool} : ∀ {k : List Bool → Prop}, k bs → boolsF (bs.map .bool) k := by
  induction bs with
  | nil => exact fun h => h
  | cons b r ih => exact fun {k} h => ih (k := fun bs => k (b :: bs)) h
def intsF : List PyData → (List Int → Prop) → Prop
  | [], k => k []
  | .int b :: r, k => intsF r fun bs => k (b :: bs)
  | _ :: _, _ => False
theorem intsF_of : ∀ {ds : List PyData} {k : List Int → Prop}, intsF ds k → ∃ bs : List Int, ds = bs.map .int ∧ k bs
  | [], k, h => ⟨[], rfl, h⟩
  | .int b :: r, k, h => by
    obtain ⟨bs, e, h'⟩ := intsF_of (ds := r) h
    exact ⟨b :: bs, by rw [e]; rfl, h'⟩
theorem intsF_map {bs : List Int} : ∀ {k : List Int → Prop}, k bs → intsF (bs.map .int) k := by
  induction bs with
  | nil => exact fun h => h
  | cons b r ih => exact fun {k} h => ih (k := fun bs => k (b :: bs)) h
def strsF : List PyData → (List Str → Prop) → Prop
  | [], k => k []
  | .str b :: r, k => strsF r fun bs => k (b :: bs)
  | _ :: _, _ => False
theorem strsF_of : ∀ {ds : List PyData} {k : List Str → Prop}, strsF ds k → ∃ bs : List Str, ds = bs.map .str ∧ k bs
  | [], k, h => ⟨[], rfl, h⟩
  | .str b :: r, k, h => by
    obtain ⟨bs, e, h'⟩ := strsF_of (ds := r) h
    exact ⟨b :: bs, by rw [e]; rfl, h'⟩
theorem strsF_map {bs : List Str} : ∀ {k : List Str → Prop}, k bs → strsF (bs.map .str) k := by
  induction bs with
  | nil => exact fun h => h
  | cons b r ih => exact fun {k} h => ih (k := fun bs => k (b :: bs)) h
def bAll (ds : List PyData) (P : PyData → Prop) : Prop := one ds fun d => listF d fun es => boolsF es fun bs => P (.bool (bs.all id))
def bAny (ds : List PyData) (P : PyData → Prop) : Prop := one ds fun d => listF d fun es => boolsF es fun bs => P (.bool (bs.any id))
def bSum (ds : List PyData) (P : PyData → Prop) : Prop := one ds fun d => listF d fun es => intsF es fun ns => P (.int ns.sum)
theorem rb_all : RB K (rAll K) bAll := by
  intro A H Q xs ds P oc r g k
  obtain ⟨v, d, rfl, q, g⟩ := one_of r g
  unfold listF at g
  split at g
  · obtain ⟨bs, e, g'⟩ := boolsF_of g
    subst e
    obtain ⟨a, ys, rfl, s, r⟩ := q.list_of
    cases r.bools_of
    exact ⟨a, bs, rfl, SqL.mono hp_same s, k _ _ _ g' (Same.refl _) (.bl _)⟩
  · exact g.elim
theorem rb_any : RB K (rAny K) bAny := by
  intro A H Q xs ds P oc r g k
  obtain ⟨v, d, rfl, q, g⟩ := one_of r g
  unfold listF at g
  split at g
  · obtain ⟨bs, e, g'⟩ := boolsF_of g
    subst e
    obtain ⟨a, ys, rfl, s, r⟩ := q.list_of
    cases r.bools_of
    exact ⟨a, bs, rfl, SqL.mono hp_same s, k _ _ _ g' (Same.refl _) (.bl _)⟩
  · exact g.elim
theorem rb_sum : RB K (rSum K) bSum := by
  intro A H Q xs ds P oc r g k
  obtain ⟨v, d, rfl, q, g⟩ := one_of r g
  unfold listF at g
  split at g
  · obtain ⟨bs, e, g'⟩ := intsF_of g
    subst e
    obtain ⟨a, ys, rfl, s, r⟩ := q.list_of
    cases r.ints_of
    exact ⟨a, bs, rfl, SqL.mono hp_same s, k _ _ _ g' (Same.refl _) (.int _)⟩
  · exact g.elim
def bMinL (ds : List PyData) (P : PyData → Prop) : Prop := one ds fun d => listF d fun es => intsF es fun ns => 0 < ns.length ∧ ∀ m, m ∈ ns → (∀ y, y ∈ ns → m ≤ y) → P (.int m)
def bMaxL (ds : List PyData) (P : PyData → Prop) : Prop := one ds fun d => listF d fun es => intsF es fun ns => 0 < ns.length ∧ ∀ m, m ∈ ns → (∀ y, y ∈ ns → y ≤ m) → P (.int m)
theorem rb_min : RB K (rMin K) bMinL := by
  intro A H Q xs ds P oc r g k
  obtain ⟨v, d, rfl, q, g⟩ := one_of r g
  unfold listF at g
  split at g
  · obtain ⟨bs, e, g'⟩ := intsF_of g
    subst e
    obtain ⟨a, ys, rfl, s, r⟩ := q.list_of
    cases r.ints_of
    exact ⟨a, bs, rfl, SqL.mono hp_same s, g'.1, fun m h1 h2 => k _ _ _ (g'.2 m h1 h2) (Same.refl _) (.int _)⟩
  · exact g.elim
theorem rb_max : RB K (rMax K) bMaxL := by
  intro A H Q xs ds P oc r g k
  obtain ⟨v, d, rfl, q, g⟩ := one_of r g
  unfold listF at g
  split at g
  · obtain ⟨bs, e, g'⟩ := intsF_of g
    subst e
    obtain ⟨a, ys, rfl, s, r⟩ := q.list_of
    cases r.ints_of
    exact ⟨a, bs, rfl, SqL.mono hp_same s, g'.1, fun m h1 h2 => k _ _ _ (g'.2 m h1 h2) (Same.refl _) (.int _)⟩
  · exact g.elim
def bSortI (ds : List PyData) (P : PyData → Prop) : Prop := one ds fun d => listF d fun es => intsF es fun ns => ∀ ms : List Int, ms.Perm ns → ms.Pairwise (· ≤ ·) → P (.list (ms.map .int))
theorem rb_sortI : RB K (rSortedI K) bSortI := by
  intro A H Q xs ds P oc r g k
  obtain ⟨v, d, rfl, q, g⟩ := one_of r g
  unfold listF at g
  split at g
  · obtain ⟨bs, e, g'⟩ := intsF_of g
    subst e
    obtain ⟨a, ys, rfl, s, r⟩ := q.list_of
    cases r.ints_of
    refine ⟨a, bs, rfl, SqL.mono hp_same s, fun ms p h1 h2 hp1 => ?_⟩
    exact k _ _ _ (g' ms h1 h2) (Same.new hp1) (.lst (SqL.of (hp_mk (fun q => oc _ q hp1) upd_same)) (DqAll.ints _))
  · exact g.elim
def bInt (ds : List PyData) (P : PyData → Prop) : Prop := one ds fun d => match d with
  | .int i => P (.int i)
  | .bool b => P (.int (if b then 1 else 0))
  | _ => False
theorem rb_int : RB K (fun xs H Q => (∃ i, xs = [.int i] ∧ Q (.int i) H) ∨ ∃ k, xs = [.bl k] ∧ Q (.int (if k then 1 else 0)) H) bInt := by
  intro A H Q xs ds P oc r g k
  obtain ⟨v, d, rfl, q, g⟩ := one_of r g
  split at g
  · cases q; exact .inl ⟨_, rfl, k _ _ _ g (Same.refl _) (.int _)⟩
  · cases q; exact .inr ⟨_, rfl, k _ _ _ g (Same.refl _) (.int _)⟩
  · exact g.elim
def bIntS (ds : List PyData) (P : PyData → Prop) : Prop := one ds fun d => strF d fun a => ∃ m, PySem.intText? a = some m ∧ a.length ≤ 640 ∧ P (.int m)
theorem rb_int_str : RB K (fun xs H Q => ∃ a n, xs = [.str a] ∧ PySem.intText? a = some n ∧ a.length ≤ 640 ∧ Q (.int n) H) bIntS := by
  intro A H Q xs ds P oc r g k
  obtain ⟨v, d, rfl, q, g⟩ := one_of r g
  unfold strF at g
  split at g
  · cases q; obtain ⟨m, h1, h2, g⟩ := g; exact ⟨_, _, rfl, h1, h2, k _ _ _ g (Same.refl _) (.int _)⟩
  · exact g.elim
def bStrI (ds : List PyData) (P : PyData → Prop) : Prop := one ds fun d => intF d fun i => i.natAbs.log2 < 1920 ∧ P (.str (toString i))
theorem rb_str_int : RB K (fun xs H Q => ∃ i, xs = [.int i] ∧ i.natAbs.log2 < 1920 ∧ Q (.str (toString i)) H) bStrI := by
  intro A H Q xs ds P oc r g k
  obtain ⟨v, d, rfl, q, g⟩ := one_of r g
  unfold intF at g
  split at g
  · cases q; exact ⟨_, rfl, g.1, k _ _ _ g.2 (Same.refl _) (.str _)⟩
  · exact g.elim
def bBool (ds : List PyData) (P : PyData → Prop) : Prop := one ds fun d => match d with
  | .int i => P (.bool (i != 0))
  | .bool b => P (.bool b)
  | _ => False
theorem rb_bool : RB K (fun xs H Q => (∃ i, xs = [.int i] ∧ Q (.bl (i != 0)) H) ∨ ∃ k, xs = [.bl k] ∧ Q (.bl k) H) bBool := by
  intro A H Q xs ds P oc r g k
  obtain ⟨v, d, rfl, q, g⟩ := one_of r g
  split at g
  · cases q; exact .inl ⟨_, rfl, k _ _ _ g (Same.refl _) (.bl _)⟩
  · cases q; exact .inr ⟨_, rfl, k _ _ _ g (Same.refl _) (.bl _)⟩
  · exact g.elim
def bList (ds : List PyData) (P : PyData → Prop) : Prop := one ds fun d => seqF d fun es => P (.list es)
theorem rb_list : RB K (fun xs H Q => ∃ p ys, xs = [.ref p] ∧ (SqL K H p ys ∨ SqT K H p ys) ∧ ∀ l, H l = none → Q (.ref l) (upd H l (.lst ys))) bList := by
  intro A H Q xs ds P oc r g k
  obtain ⟨v, d, rfl, q, g⟩ := one_of r g
  obtain ⟨p, xs, ds, rfl, s, r, g⟩ := seqF_of q g
  refine ⟨p, xs, rfl, s, fun l hl => ?_⟩
  have sm := Same.new (o := .lst xs) hl
  exact k _ _ _ g sm (.lst (SqL.of (hp_mk (fun q => oc _ q hl) upd_same)) (r.mono (hp_grow sm)))
def bTuple (ds : List PyData) (P : PyData → Prop) : Prop := one ds fun d => seqF d fun es => P (.tuple es)
theorem rb_tuple : RB K (fun xs H Q => ∃ p ys, xs = [.ref p] ∧ ((SqL K H p ys ∧ ∀ l, H l = none → Q (.ref l) (upd H l (.tup ys))) ∨ (SqT K H p ys ∧ Q (.ref p) H))) bTuple := by
  intro A H Q xs ds P oc r g k
  obtain ⟨v, d, rfl, q, g⟩ := one_of r g
  unfold seqF at g
  split at g
  · obtain ⟨p, xs, rfl, s, r⟩ := q.list_of
    refine ⟨p, xs, rfl, .inl ⟨SqL.mono hp_same s, fun l hl => ?_⟩⟩
    have sm := Same.new (o := .tup xs) hl
    exact k _ _ _ g sm (.tup (SqT.of (hp_mk (fun q => oc _ q hl) upd_same)) (r.mono (hp_grow sm)))
  · obtain ⟨p, xs, rfl, s, r⟩ := q.tuple_of
    exact ⟨p, xs, rfl, .inr ⟨SqT.mono hp_same s, k _ _ _ g (Same.refl _) (.tup s r)⟩⟩
  · exact g.elim
def bRepr (ds : List PyData) (P : PyData → Prop) : Prop := one ds fun d => seqF d fun _ => d.hasDict = false ∧ d.showable = true ∧ d.depth ≤ 60 ∧ d.shown.length ≤ sizeLine ∧ P (.str d.shown)
theorem rb_repr : RB K (fun xs H Q => ∃ (a : Addr) (d : PyData), xs = [.ref a] ∧ Dp K H (.ref a) d ∧ d.showable = true ∧ d.depth ≤ 60 ∧ d.shown.length ≤ sizeLine ∧ Q (.str d.shown) H) bRepr := by
  intro A H Q xs ds P oc r g k
  obtain ⟨v, d, rfl, q, g⟩ := one_of r g
  obtain ⟨p, xs, es, rfl, s, r, h0, h1, h2, h3, g⟩ := seqF_of q g
  exact ⟨p, d, rfl, Dp.mono hp_same (q.dp h0), h1, h2, h3, k _ _ _ g (Same.refl _) (.str _)⟩
/-! isinstance -/
def isObjD : PyData → Bool
  | .dict _ => true
  | _ => false
def fIsi (b : String) (a : FE) : FE := fun ρ P => a ρ fun d ρ1 => isObjD d = false ∧ ∃ c, kitB (kindD d) b = some c ∧ P (.bool c) ρ1
theorem Dq.ty {A : Addr → Prop} {H : Hp} {v : V} {d : PyData} (q : Dq K (hp A H) v d) (h : isObjD d = false) : TyX K H v (.type (kindD d)) := by
  cases q with
  | non => exact .base .non
  | bl b => exact .base (.bl b)
  | int i => exact .base (.int i)
  | str x => exact .base (.str x)
  | lst s _ => exact SqL.ty (SqL.mono hp_same s)
  | tup s _ => exact SqT.ty (SqT.mono hp_same s)
  | obj _ _ _ => cases h
  | exc _ _ _ _ => cases h
  | fnc _ => cases h
theorem re_isi {b : String} {ta : TE} {a : FE} (ha : RE K J ta a) : RE K J (tCB (rIsi K) (tCons ta (tCons (tC (.ty b)) tNil))) (fIsi b a) := by
  intro O as σ H Q ρ P E q k
  refine ha O as σ H _ ρ _ E q fun d ρ1 v H1 q1 f1 E1 d1 => ?_
  obtain ⟨ho, c, hc, q1⟩ := q1
  exact ⟨_, _, _, _, c, rfl, .ty _, d1.ty ho, kit_ty hc, k _ _ _ _ q1 f1 E1 (.bl _)⟩
/-! methods of texts -/
def mStr1 (C : Str → Str → Prop) (h : Str → Str → PyData) : Str → List PyData → (PyData → Prop) → Prop := fun z ds P => one ds fun d => strF d fun b => C z b ∧ P (h z b)
theorem strs1_of {G : Hp} {vs : List V} {ds : List PyData} {k : Str → Prop} (r : DqAll K G vs ds) (h : one ds fun d => strF d k) : ∃ b, vs = [.str b] ∧ k b := by
  obtain ⟨v, d, rfl, q, g⟩ := one_of r h
  unfold strF at g
  split at g
  · cases q; exact ⟨_, rfl, g⟩
  · exact g.elim
abbrev mFind := mStr1 (fun _ _ => True) fun a b => .int (Txt.find a b)
theorem rm_find : RM K (fun x xs H Q => ∃ a b, x = .str a ∧ xs = [.str b] ∧ Q (.int (Txt.find a b)) H) mFind := by
  intro A H Q z xs ds P oc r g k
  obtain ⟨b, rfl, g⟩ := strs1_of r g
  exact ⟨_, _, rfl, rfl, k _ _ _ g.2 (Same.refl _) (.int _)⟩
abbrev mCount := mStr1 (fun _ _ => True) fun a b => .int (Txt.count a b)
theorem rm_count : RM K (fun x xs H Q => ∃ a b, x = .str a ∧ xs = [.str b] ∧ Q (.int (Txt.count a b)) H) mCount := by
  intro A H Q z xs ds P oc r g k
  obtain ⟨b, rfl, g⟩ := strs1_of r g
  exact ⟨_, _, rfl, rfl, k _ _ _ g.2 (Same.refl _) (.int _)⟩
abbrev mSplit := mStr1 (fun a b => (b.length == 0) = false ∧ a.length + 2 ≤ sizeLine) fun a b => .list ((Txt.split a b).map .str)
theorem rm_split : RM K (fun x xs H Q => ∃ a b, x = .str a ∧ xs = [.str b] ∧ (b.length == 0) = false ∧ a.length + 2 ≤ sizeLine ∧ rNewStrs (Txt.split a b) H Q) mSplit := by
  intro A H Q z xs ds P oc r g k
  obtain ⟨b, rfl, g⟩ := strs1_of r g
  refine ⟨_, _, rfl, rfl, g.1.1, g.1.2, fun p hp1 => ?_⟩
  exact k _ _ _ g.2 (Same.new hp1) (.lst (SqL.of (hp_mk (fun q => oc _ q hp1) upd_same)) (DqAll.strs _))
abbrev mPart := mStr1 (fun a b => (b.length == 0) = false ∧ a.length ≤ sizeLine) fun a b => .tuple [.str (Txt.partition a b).1, .str (Txt.partition a b).2.1, .str (Txt.partition a b).2.2]
theorem rm_partition : RM K (fun x xs H Q => ∃ a b, x = .str a ∧ xs = [.str b] ∧ (b.length == 0) = false ∧ a.length ≤ sizeLine ∧ ∀ p, H p = none → Q (.ref p) (upd H p (.tup [.str (Txt.partition a b).1, .str (Txt.partition a b).2.1, .str (Txt.partition a b).2.2]))) mPart := by
  intro A H Q z xs ds P oc r g k
  obtain ⟨b, rfl, g⟩ := strs1_of r g
  refine ⟨_, _, rfl, rfl, g.1.1, g.1.2, fun p hp1 => ?_⟩
  exact k _ _ _ g.2 (Same.new hp1) (.tup (SqT.of (hp_mk (fun q => oc _ q hp1) upd_same)) (.cons (.str _) (.cons (.str _) (.cons (.str _) .nil))))
abbrev mRpart := mStr1 (fun a b => (b.length == 0) = false ∧ a.length ≤ sizeLine) fun a b => .tuple [.str (Txt.rpartition a b).1, .str (Txt.rpartition a b).2.1, .str (Txt.rpartition a b).2.2]
theorem rm_rpartition : RM K (fun x xs H Q => ∃ a b, x = .str a ∧ xs = [.str b] ∧ (b.length == 0) = false ∧ a.length ≤ sizeLine ∧ ∀ p, H p = none → Q (.ref p) (upd H p (.tup [.str (Txt.rpartition a b).1, .str (Txt.rpartition a b).2.1, .str (Txt.rpartition a b).2.2]))) mRpart := by
  intro A H Q z xs ds P oc r g k
  obtain ⟨b, rfl, g⟩ := strs1_of r g
  refine ⟨_, _, rfl, rfl, g.1.1, g.1.2, fun p hp1 => ?_⟩
  exact k _ _ _ g.2 (Same.new hp1) (.tup (SqT.of (hp_mk (fun q => oc _ q hp1) upd_same)) (.cons (.str _) (.cons (.str _) (.cons (.str _) .nil))))
def mZfill : Str → List PyData → (PyData → Prop) → Prop := fun z ds P => one ds fun d => intF d fun i => PadOk i = true ∧ P (.str (Txt.zfill z i))
theorem rm_zfill : RM K (fun x xs H Q => ∃ (a : Str) (i : Int), x = .str a ∧ xs = [.int i] ∧ PadOk i = true ∧ Q (.str (Txt.zfill a i)) H) mZfill := by
  intro A H Q z xs ds P oc r g k
  obtain ⟨v, d, rfl, q, g⟩ := one_of r g
  unfold intF at g
  split at g
  · cases q; exact ⟨_, _, rfl, rfl, g.1, k _ _ _ g.2 (Same.refl _) (.str _)⟩
  · exact g.elim
def mJoin : Str → List PyData → (PyData → Prop) → Prop := fun z ds P => one ds fun d => seqF d fun es => strsF es fun ys => (ys.map (·.length)).sum + ys.length * z.length ≤ 16777216 ∧ P (.str (Txt.join z ys))
theorem rm_join : RM K (fun x xs H Q => ∃ a p, ∃ ys : List Str, x = .str a ∧ xs = [.ref p] ∧ (SqL K H p (ys.map V.str) ∨ SqT K H p (ys.map V.str)) ∧ (ys.map (·.length)).sum + ys.length * a.length ≤ 16777216 ∧ Q (.str (Txt.join a ys)) H) mJoin := by
  intro A H Q z xs ds P oc r g k
  obtain ⟨v, d, rfl, q, g⟩ := one_of r g
  obtain ⟨p, xs, es, rfl, s, r, g⟩ := seqF_of q g
  obtain ⟨ys, e, h, g'⟩ := strsF_of g
  subst e
  cases r.strs_of
  exact ⟨_, p, ys, rfl, rfl, s, h, k _ _ _ g' (Same.refl _) (.str _)⟩
/-! x += e -/
def fAug (i : Nat) (a : FE) (h : Int → Int → Int) : FS := fun E ρ => match ρ[i]? with
  | some (.fz (.int x)) => a ρ fun y ρ1 => intF y fun j => gN i (.int (h x j)) ρ1 E.nx
  | _ => False
theorem rs_aug {i : Nat} {te : TE} {a : FE} {h : Int → Int → Int} (ha : RE K J te a) : RS K J (tAug i te (ipI h)) (fAug i a h) := by
  intro O as σ H D ρ E R f C
  unfold fAug at f
  split at f
  · next x hx =>
    obtain ⟨v, e, _, q⟩ := R.fz_at hx
    cases q
    refine ⟨_, e, ?_⟩
    refine ha O as σ H _ ρ _ R f fun d ρ1 v H1 q1 f1 E1 d1 => ?_
    unfold intF at q1
    split at q1
    · cases d1
      exact ⟨_, _, rfl, rfl, C.nx _ _ _ _ q1.2 (.of f1) (E1.setFz q1.1 (.int _))⟩
    · exact q1.elim
  · exact f.elim
def fPar3 (i j l : Nat) (a : FA) : FS := fun E ρ => a ρ fun ds ρ1 => match ds with
  | [x, y, z] => gN i x ρ1 fun ρ2 => gN j y ρ2 fun ρ3 => gN l z ρ3 E.nx
  | _ => False
theorem rs_par3 {i j l : Nat} {t : TA} {a : FA} (ha : RA K J t a) : RS K J (tPar3 i j l t) (fPar3 i j l a) := by
  intro O as σ H D ρ E R f C
  refine ha O as σ H _ ρ _ R f fun ds ρ1 vs H1 q1 f1 E1 d1 => ?_
  split at q1
  · cases d1 with
    | cons d1 r => cases r with
      | cons d2 r => cases r with
        | cons d3 r =>
          cases r
          exact ⟨_, _, _, rfl, C.nx _ _ _ _ q1.2.2.2 (.of f1) (((E1.setFz q1.1 d1).setFz q1.2.1 d2).setFz q1.2.2.1 d3)⟩
  · exact q1.elim
/-! truth -/
theorem DqAll.empty {G : Hp} {xs : List V} {ds : List PyData} (r : DqAll K G xs ds) : xs.isEmpty = ds.isEmpty := by cases r <;> rfl
def truF (d : PyData) (k : Bool → Prop) : Prop := match d with
  | .none => k false
  | .bool b => k b
  | .int i => k (i != 0)
  | .str z => z.length ≤ sizeLine ∧ k ((z.length : Int) != 0)
  | .list ds => k (!ds.isEmpty)
  | .tuple ds => k (!ds.isEmpty)
  | _ => False
def fTru (f : FE) : FT := fun ρ P => f ρ fun d ρ1 => truF d fun b => P b ρ1
theorem rt_tru {t : TE} {f : FE} (h : RE K J t f) : RT K J (fun σ H Q => t σ H fun x H' => ∃ k, TruV K x H' k ∧ Q k H') (fTru f) := by
  intro O as σ H Q ρ P E q k
  refine h O as σ H _ ρ _ E q fun d ρ1 v H1 q1 f1 E1 d1 => ?_
  unfold truF at q1
  split at q1
  · cases d1; exact ⟨_, rfl, k _ _ _ q1 f1 E1⟩
  · cases d1; exact ⟨_, rfl, k _ _ _ q1 f1 E1⟩
  · cases d1; exact ⟨_, rfl, k _ _ _ q1 f1 E1⟩
  · cases d1; exact ⟨_, ⟨q1.1, rfl⟩, k _ _ _ q1.2 f1 E1⟩
  · obtain ⟨p, xs, rfl, s, r⟩ := d1.list_of
    refine ⟨_, .inl ⟨xs, SqL.mono hp_same s, rfl⟩, ?_⟩
    rw [r.empty]
    exact k _ _ _ q1 f1 E1
  · obtain ⟨p, xs, rfl, s, r⟩ := d1.tuple_of
    refine ⟨_, .inr (.inl ⟨xs, SqT.mono hp_same s, rfl⟩), ?_⟩
    rw [r.empty]
    exact k _ _ _ q1 f1 E1
  · exact q1.elim
def fYes : FT := fun ρ P => P true ρ
theorem rt_yes : RT K J tYes fYes := fun O as σ H Q ρ P E f k => k true ρ H f (FrA.refl _ _) E
end
end DL
/-! the box of draws as data; promises weakened -/
namespace DL
open PySem L2 Z PySem.Spec PyProof.Rows
def BoxD (ds : List PyData) (n : Nat) : Prop := ∃ b0 b1 b2 : Int, ds = [.int b0, .int b1, .int b2] ∧ 0 ≤ b0 ∧ 0 ≤ b1 ∧ b1 < 2147483647 ∧ 0 ≤ b2 ∧ b2 ≤ (n : Int)
theorem BoxD.mono {ds : List PyData} {n m : Nat} (b : BoxD ds n) (h : n ≤ m) : BoxD ds m := by
  obtain ⟨b0, b1, b2, e, h0, h1, h2, h3, h4⟩ := b
  exact ⟨b0, b1, b2, e, h0, h1, h2, h3, by omega⟩
/-- a draw: any number below m -/
def takeF (ds : List PyData) (m : Int) (P : Int → List PyData → Prop) : Prop := ∃ n, BoxD ds n ∧ 0 < m ∧ m < 1073741824 ∧ n < 1000000000 ∧ ∀ r ds', 0 ≤ r → r < m → BoxD ds' (n + 1) → P r ds'
def F__law_take : FN := fun sls P => match sls with
  | [.own ds, .fz (.int m)] => takeF ds m fun r ds' => P (.int r) [.own ds', .no]
  | _ => False
section
variable {P : Program} {w : World} {K : PySem.W.Frag} {mg : Str → Option Value} {base : Heap} {k : Nat} {f : Addr} {fd : FuncData} {ps : List Str} {sp sp' : Sp}
theorem _root_.Z.FnG.weak (F : FnG P w K mg base k f fd ps sp) (h : ∀ vs H Q E, sp' vs H Q E → sp vs H Q E) : FnG P w K mg base k f fd ps sp' :=
  ⟨fun vs H Q E q => F.size vs H Q E (h vs H Q E q), fun A outer s H args us vs Q E hr hg e b r q => F.goes A outer s H args us vs Q E hr hg e b r (h vs H Q E q)⟩
theorem _root_.L2.FnOk.guarded (F : FnOk P w K mg base CX0 k f fd ps sp) (h : ∀ vs H Q E, sp' vs H Q E → sp vs H Q E) : FnG P w K mg base k f fd ps sp' := (FnG.of F).weak h
def spTake : Sp := fun vs H Q _ => ∃ (B : Addr) (m : Int) (n : Nat), vs = [.ref B, .int m] ∧ Box H B n ∧ 0 < m ∧ m < 1073741824 ∧ n < 1000000000 ∧ ∀ (r : Int) H', 0 ≤ r → r < m → Fr [B] H H' → Box H' B (n + 1) → Q (.int r) H'
theorem boxD_ints {G : Hp} {xs : List V} {b0 b1 b2 : Int} (h : DqAll K G xs [.int b0, .int b1, .int b2]) : xs = [.int b0, .int b1, .int b2] := by
  cases h with
  | cons a r => cases r with
    | cons b r => cases r with
      | cons c r => cases r; cases a; cases b; cases c; rfl
theorem take_of {vs : List V} {H : Hp} {Q : VK} {E : XK} (h : spF K 2 F__law_take vs H Q E) : spTake vs H Q E := by
  obtain ⟨hv, O, as, ρ, P, R, hF, q⟩ := h
  match vs, hv with
  | [v0, v1], _ =>
    have hl : ρ.length = 2 := R.len
    match ρ, hl with
    | [s0, s1], _ =>
      unfold F__law_take at hF
      split at hF
      · next ds m e =>
        injection e with e1 e2
        injection e2 with e2 _
        subst e1
        subst e2
        obtain ⟨n, hb, m0, m1, hn, st⟩ := hF
        obtain ⟨b0, b1, b2, rfl, h0, h1, h2, h3, h4⟩ := hb
        obtain ⟨B, xs, z1, z2, z3, z4⟩ := R.own_at (i := 0) rfl
        obtain ⟨v, y1, y2, y3⟩ := R.fz_at (i := 1) rfl
        cases boxD_ints z4
        cases z1
        cases y1
        cases y3
        refine ⟨B, m, n, rfl, ⟨b0, b1, b2, z3, h0, h1, h2, h3, h4⟩, m0, m1, hn, fun r H' r0 r1 fr hB => ?_⟩
        obtain ⟨c0, c1, c2, ec, k0, k1, k2, k3, k4⟩ := hB
        have hfr : FrA (Own as) H H' := fun a o na e => fr a o (fun z => na ⟨0, by rw [z2]; simpa using (List.mem_singleton.mp z).symm⟩) e
        refine q _ _ _ _ (st r [.int c0, .int c1, .int c2] r0 r1 ⟨c0, c1, c2, rfl, k0, k1, k2, k3, k4⟩) hfr (fun i a ha => ?_) (.int _)
        have hi := R.bnd i a ha
        match i, hi, ha with
        | 0, _, ha =>
          rw [z2] at ha
          cases ha
          exact ⟨_, _, rfl, ec, .cons (.int _) (.cons (.int _) (.cons (.int _) .nil))⟩
        | 1, _, ha => rw [y2] at ha; cases ha
      · exact hF.elim
def spBox : Sp := fun vs H Q _ => ∃ (B : Addr), vs = [.ref B] ∧ Box H B 0 ∧ ∀ H', Fr [B] H H' → Q (.bl true) H'
/-- a law's def over the box alone -/
theorem box_of {F : FN} (hF : ∀ ds, BoxD ds 0 → F [.own ds] fun d _ => d = .bool true) {vs : List V} {H : Hp} {Q : VK} {E : XK} (h : spBox vs H Q E) : spF K 1 F vs H Q E := by
  obtain ⟨B, rfl, ⟨b0, b1, b2, e, h0, h1, h2, h3, h4⟩, q⟩ := h
  refine ⟨rfl, fun _ => False, fun i => if i = 0 then some B else none, [.own [.int b0, .int b1, .int b2]], _, ⟨rfl, fun i sl o e1 e2 => ?_, fun i j a h1 h2 => ?_, fun _ _ _ z => z, fun i a h => ?_, fun a z => z.elim, trivial, trivial⟩, hF _ ⟨b0, b1, b2, rfl, h0, h1, h2, h3, h4⟩, fun d out v H' hd fr _ dv => ?_⟩
  · match i, e1, e2 with
    | 0, e1, e2 =>
      cases e1; cases e2
      exact .own e (.cons (.int _) (.cons (.int _) (.cons (.int _) .nil)))
  · split at h1
    · split at h2
      · omega
      · cases h2
    · cases h1
  · split at h
    · next z => rw [z]; exact Nat.one_pos
    · cases h
  · subst hd
    cases dv
    refine q H' fun a o na e => fr a o (fun ⟨i, z⟩ => ?_) e
    dsimp only at z
    split at z
    · cases z; exact na (List.mem_singleton.mpr rfl)
    · cases z
end
end DL
/-! going through data -/
namespace DL
open PySem L2 Z PySem.Spec PyProof.Rows
theorem kit_none_int : kitB (kindD .none) "int" = some false := by show kitB "NoneType" "int" = _; decide +kernel
theorem kit_none_bool : kitB (kindD .none) "bool" = some false := by show kitB "NoneType" "bool" = _; decide +kernel
theorem kit_none_str : kitB (kindD .none) "str" = some false := by show kitB "NoneType" "str" = _; decide +kernel
theorem kit_none_list : kitB (kindD .none) "list" = some false := by show kitB "NoneType" "list" = _; decide +kernel
theorem kit_none_tuple : kitB (kindD .none) "tuple" = some false := by show kitB "NoneType" "tuple" = _; decide +kernel
theorem kit_bool_int {b : Bool} : kitB (kindD (.bool b)) "int" = some true := by show kitB "bool" "int" = _; decide +kernel
theorem kit_bool_bool {b : Bool} : kitB (kindD (.bool b)) "bool" = some true := by show kitB "bool" "bool" = _; decide +kernel
theorem kit_bool_str {b : Bool} : kitB (kindD (.bool b)) "str" = some false := by show kitB "bool" "str" = _; decide +kernel
theorem kit_bool_list {b : Bool} : kitB (kindD (.bool b)) "list" = some false := by show kitB "bool" "list" = _; decide +kernel
theorem kit_bool_tuple {b : Bool} : kitB (kindD (.bool b)) "tuple" = some false := by show kitB "bool" "tuple" = _; decide +kernel
theorem kit_int_int {i : Int} : kitB (kindD (.int i)) "int" = some true := by show kitB "int" "int" = _; decide +kernel
theorem kit_int_bool {i : Int} : kitB (kindD (.int i)) "bool" = some false := by show kitB "int" "bool" = _; decide +kernel
theorem kit_int_str {i : Int} : kitB (kindD (.int i)) "str" = some false := by show kitB "int" "str" = _; decide +kernel
theorem kit_int_list {i : Int} : kitB (kindD (.int i)) "list" = some false := by show kitB "int" "list" = _; decide +kernel
theorem kit_int_tuple {i : Int} : kitB (kindD (.int i)) "tuple" = some false := by show kitB "int" "tuple" = _; decide +kernel
theorem kit_str_int {s : Str} : kitB (kindD (.str s)) "int" = some false := by show kitB "str" "int" = _; decide +kernel
theorem kit_str_bool {s : Str} : kitB (kindD (.str s)) "bool" = some false := by show kitB "str" "bool" = _; decide +kernel
theorem kit_str_str {s : Str} : kitB (kindD (.str s)) "str" = some true := by show kitB "str" "str" = _; decide +kernel
theorem kit_str_list {s : Str} : kitB (kindD (.str s)) "list" = some false := by show kitB "str" "list" = _; decide +kernel
theorem kit_str_tuple {s : Str} : kitB (kindD (.str s)) "tuple" = some false := by show kitB "str" "tuple" = _; decide +kernel
theorem kit_list_int {l : List PyData} : kitB (kindD (.list l)) "int" = some false := by show kitB "list" "int" = _; decide +kernel
theorem kit_list_bool {l : List PyData} : kitB (kindD (.list l)) "bool" = some false := by show kitB "list" "bool" = _; decide +kernel
theorem kit_list_str {l : List PyData} : kitB (kindD (.list l)) "str" = some false := by show kitB "list" "str" = _; decide +kernel
theorem kit_list_list {l : List PyData} : kitB (kindD (.list l)) "list" = some true := by show kitB "list" "list" = _; decide +kernel
theorem kit_list_tuple {l : List PyData} : kitB (kindD (.list l)) "tuple" = some false := by show kitB "list" "tuple" = _; decide +kernel
theorem kit_tuple_int {l : List PyData} : kitB (kindD (.tuple l)) "int" = some false := by show kitB "tuple" "int" = _; decide +kernel
theorem kit_tuple_bool {l : List PyData} : kitB (kindD (.tuple l)) "bool" = some false := by show kitB "tuple" "bool" = _; decide +kernel
theorem kit_tuple_str {l : List PyData} : kitB (kindD (.tuple l)) "str" = some false := by show kitB "tuple" "str" = _; decide +kernel
theorem kit_tuple_list {l : List PyData} : kitB (kindD (.tuple l)) "list" = some false := by show kitB "tuple" "list" = _; decide +kernel
theorem kit_tuple_tuple {l : List PyData} : kitB (kindD (.tuple l)) "tuple" = some true := by show kitB "tuple" "tuple" = _; decide +kernel
/-- a comprehension that draws nothing: of xs those of which k tells something -/
theorem lc_map {α : Type} {g : FG} {ft : FT} {fe : FE} {vs : List Nat} {ρ : En} {P : List PyData → En → Prop} {ds : List PyData} (xs : List α) (e : α → PyData) (k : α → Option PyData) (hd : ds = xs.map e) (hv : vs.all (slotF ρ) = true) (hl : xs.length ≤ sizeLine)
    (st : ∀ (x : α) (R : List PyData → En → Prop) (acc : List PyData), x ∈ xs → acc.length < sizeLine → R (acc ++ (k x).toList) (wipeF ρ vs) →
      g (e x) (wipeF ρ vs) fun ρ3 => ft ρ3 fun b ρ4 => if b = true then fe ρ4 fun y ρ5 => acc.length < sizeLine ∧ vs.all (slotF ρ5) = true ∧ R (acc ++ [y]) (wipeF ρ5 vs) else vs.all (slotF ρ4) = true ∧ R acc (wipeF ρ4 vs))
    (q : P (xs.filterMap k) (wipeF ρ vs)) : lcW ds g ft fe vs ρ P := by
  subst hd
  refine ⟨hv, fun i acc ρ2 => acc = (xs.take i).filterMap k ∧ ρ2 = wipeF ρ vs, ⟨rfl, rfl⟩, ?_, ?_⟩
  · rintro i d acc ρ2 hd ⟨rfl, rfl⟩
    rw [List.getElem?_map] at hd
    cases ex : xs[i]? with
    | none => rw [ex] at hd; cases hd
    | some x =>
      rw [ex] at hd
      cases hd
      have hi := (List.getElem?_eq_some_iff.mp ex).1
      refine st x (fun acc ρ2 => acc = (xs.take (i + 1)).filterMap k ∧ ρ2 = wipeF ρ vs) _ (List.mem_of_getElem? ex) ?_ ⟨?_, rfl⟩
      · refine Nat.lt_of_le_of_lt (List.length_filterMap_le _ _) ?_
        rw [List.length_take]
        omega
      · rw [List.take_add_one, ex, List.filterMap_append]
        cases h : k x <;> simp [h]
  · rintro acc ρ2 ⟨rfl, h⟩
    rw [h, List.length_map, List.take_length]
    exact q
/-- a comprehension by its state: W of the turn, what is laid, the slots -/
theorem lc_inv {α : Type} {g : FG} {ft : FT} {fe : FE} {vs : List Nat} {ρ : En} {P : List PyData → En → Prop} {ds : List PyData} (xs : List α) (e : α → PyData) (W : Nat → List PyData → En → Prop) (hd : ds = xs.map e) (hv : vs.all (slotF ρ) = true) (h0 : W 0 [] (wipeF ρ vs))
    (st : ∀ (i : Nat) (x : α) (acc : List PyData) (ρ2 : En), xs[i]? = some x → i < xs.length → W i acc ρ2 →
      g (e x) ρ2 fun ρ3 => ft ρ3 fun b ρ4 => if b = true then fe ρ4 fun y ρ5 => acc.length < sizeLine ∧ vs.all (slotF ρ5) = true ∧ W (i + 1) (acc ++ [y]) (wipeF ρ5 vs) else vs.all (slotF ρ4) = true ∧ W (i + 1) acc (wipeF ρ4 vs))
    (q : ∀ acc ρ2, W xs.length acc (wipeF ρ2 vs) → P acc (wipeF ρ2 vs)) : lcW ds g ft fe vs ρ P := by
  subst hd
  refine ⟨hv, W, h0, ?_, by rw [List.length_map]; exact q⟩
  intro i d acc ρ2 hd w
  rw [List.getElem?_map] at hd
  cases ex : xs[i]? with
  | none => rw [ex] at hd; cases hd
  | some x =>
    rw [ex] at hd
    cases hd
    exact st i x acc ρ2 ex (List.getElem?_eq_some_iff.mp ex).1 w
theorem boolsF_f {α : Type} {f : α → Bool} {xs : List α} {k : List Bool → Prop} (h : k (xs.map f)) : boolsF (xs.map fun x => .bool (f x)) k := by
  have := boolsF_map (bs := xs.map f) (k := k) h
  rw [List.map_map] at this
  exact this
theorem intsF_f {α : Type} {f : α → Int} {xs : List α} {k : List Int → Prop} (h : k (xs.map f)) : intsF (xs.map fun x => .int (f x)) k := by
  have := intsF_map (bs := xs.map f) (k := k) h
  rw [List.map_map] at this
  exact this
theorem strsF_f {α : Type} {f : α → Str} {xs : List α} {k : List Str → Prop} (h : k (xs.map f)) : strsF (xs.map fun x => .str (f x)) k := by
  have := strsF_map (bs := xs.map f) (k := k) h
  rw [List.map_map] at this
  exact this
theorem filterMap_if {α β : Type} (k : α → Bool) (f : α → β) (xs : List α) : xs.filterMap (fun x => if k x = true then some (f x) else none) = (xs.filter k).map f := by
  induction xs with
  | nil => rfl
  | cons x r ih =>
    rw [List.filterMap_cons, List.filter_cons, ih]
    cases h : k x <;> simp
theorem filterMap_some {α β : Type} (f : α → β) (xs : List α) : xs.filterMap (fun x => some (f x)) = xs.map f := by
  induction xs with
  | nil => rfl
  | cons x r ih => rw [List.filterMap_cons, ih]; rfl
/-- a loop by its state -/
theorem for_map {α : Type} {us : List Nat} {g : FG} {b : FS} {E : FEnds} {ρ : En} {ds : List PyData} (xs : List α) (e : α → PyData) (W : Nat → En → Prop) (hd : ds = xs.map e) (h0 : W 0 (fgt ρ us))
    (st : ∀ (i : Nat) (x : α) (ρ2 : En), xs[i]? = some x → i < xs.length → W i ρ2 → g (e x) ρ2 fun ρ3 => b { E with nx := fun ρ4 => W (i + 1) (fgt ρ4 us), ct := fun ρ4 => W (i + 1) (fgt ρ4 us), bk := E.nx } ρ3) (q : ∀ ρ2, W xs.length ρ2 → E.nx ρ2) : forW us ds g b E ρ := by
  subst hd
  refine ⟨W, h0, ?_, by rw [List.length_map]; exact q⟩
  intro i d ρ2 hd w
  rw [List.getElem?_map] at hd
  cases ex : xs[i]? with
  | none => rw [ex] at hd; cases hd
  | some x =>
    rw [ex] at hd
    cases hd
    exact st i x ρ2 ex (List.getElem?_eq_some_iff.mp ex).1 w
/-- a loop over range(m) -/
theorem for_range {us : List Nat} {g : FG} {b : FS} {E : FEnds} {ρ : En} {lo : Int} {m : Nat} (W : Nat → En → Prop) (h0 : W 0 (fgt ρ us))
    (st : ∀ (i : Nat) (ρ2 : En), i < m → W i ρ2 → g (.int (lo + (i : Int))) ρ2 fun ρ3 => b { E with nx := fun ρ4 => W (i + 1) (fgt ρ4 us), ct := fun ρ4 => W (i + 1) (fgt ρ4 us), bk := E.nx } ρ3) (q : ∀ ρ2, W m ρ2 → E.nx ρ2) : forW us (rangeD lo m) g b E ρ := by
  refine for_map (List.range m) (fun k : Nat => .int (lo + (k : Int))) W rfl h0 (fun i x ρ2 hx hi w => ?_) (by rw [List.length_range]; exact q)
  rw [List.length_range] at hi
  rw [List.getElem?_range hi] at hx
  cases hx
  exact st i ρ2 hi w
/-- a draw -/
theorem take_step {ds : List PyData} {m : Int} {n : Nat} {P : Int → List PyData → Prop} (hb : BoxD ds n) (h0 : 0 < m) (h1 : m < 1073741824) (h2 : n < 1000000000) (k : ∀ r ds', 0 ≤ r → r < m → BoxD ds' (n + 1) → P r ds') : takeF ds m P := ⟨n, hb, h0, h1, h2, k⟩
theorem sz0 : (0 ≤ sizeLine) = True := eq_true (by decide)
theorem sz1 : (1 ≤ sizeLine) = True := eq_true (by decide)
theorem sz2 : (2 ≤ sizeLine) = True := eq_true (by decide)
theorem sz3 : (3 ≤ sizeLine) = True := eq_true (by decide)
theorem sz4 : (4 ≤ sizeLine) = True := eq_true (by decide)
theorem sz5 : (5 ≤ sizeLine) = True := eq_true (by decide)
theorem sz6 : (6 ≤ sizeLine) = True := eq_true (by decide)
theorem sz7 : (7 ≤ sizeLine) = True := eq_true (by decide)
theorem sz8 : (8 ≤ sizeLine) = True := eq_true (by decide)
theorem sz9 : (9 ≤ sizeLine) = True := eq_true (by decide)
theorem sz10 : (10 ≤ sizeLine) = True := eq_true (by decide)
theorem sz11 : (11 ≤ sizeLine) = True := eq_true (by decide)
theorem sz12 : (12 ≤ sizeLine) = True := eq_true (by decide)
theorem sz13 : (13 ≤ sizeLine) = True := eq_true (by decide)
theorem sz14 : (14 ≤ sizeLine) = True := eq_true (by decide)
theorem sz15 : (15 ≤ sizeLine) = True := eq_true (by decide)
theorem sz16 : (16 ≤ sizeLine) = True := eq_true (by decide)
theorem sz17 : (17 ≤ sizeLine) = True := eq_true (by decide)
theorem sz18 : (18 ≤ sizeLine) = True := eq_true (by decide)
theorem sz19 : (19 ≤ sizeLine) = True := eq_true (by decide)
theorem sz20 : (20 ≤ sizeLine) = True := eq_true (by decide)
theorem at0 {α : Type} {x : α} {xs : List α} : L2.atI (x :: xs) 0 = some x := by simp [L2.atI, ixN]
theorem at1 {α : Type} {x y : α} {xs : List α} : L2.atI (x :: y :: xs) 1 = some y := by
  unfold L2.atI ixN
  rw [if_pos (by decide), if_pos (by simp only [List.length_cons]; omega)]
  rfl
theorem at2 {α : Type} {x y z : α} {xs : List α} : L2.atI (x :: y :: z :: xs) 2 = some z := by
  unfold L2.atI ixN
  rw [if_pos (by decide), if_pos (by simp only [List.length_cons]; omega)]
  rfl
theorem at3 {α : Type} {x y z w : α} {xs : List α} : L2.atI (x :: y :: z :: w :: xs) 3 = some w := by
  unfold L2.atI ixN
  rw [if_pos (by decide), if_pos (by simp only [List.length_cons]; omega)]
  rfl
theorem at4 {α : Type} {x y z w v : α} {xs : List α} : L2.atI (x :: y :: z :: w :: v :: xs) 4 = some v := by
  unfold L2.atI ixN
  rw [if_pos (by decide), if_pos (by simp only [List.length_cons]; omega)]
  rfl
theorem at_last {α : Type} {xs : List α} {x : α} (h : xs[xs.length - 1]? = some x) : L2.atI xs (-1) = some x := by
  have hl : xs.length - 1 < xs.length := (List.getElem?_eq_some_iff.mp h).1
  unfold L2.atI
  rw [ixN_last (by omega)]
  exact h
/-- a drawn one of a written list -/
theorem at_mem {α : Type} {xs : List α} {r : Int} (h0 : 0 ≤ r) (h1 : r < xs.length) : ∃ v, L2.atI xs r = some v ∧ v ∈ xs := by
  obtain ⟨j, rfl⟩ := Int.eq_ofNat_of_zero_le h0
  have hj : j < xs.length := by omega
  refine ⟨xs[j], ?_, List.getElem_mem hj⟩
  unfold L2.atI
  rw [ixN_nat hj]
  exact List.getElem?_eq_getElem hj
theorem rangeD_eq (lo : Int) (m : Nat) : rangeD lo m = (List.range m).map fun k : Nat => .int (lo + (k : Int)) := rfl
theorem range_at {m i x : Nat} (h : (List.range m)[i]? = some x) : x = i ∧ i < m := by
  have hi := (List.getElem?_eq_some_iff.mp h).1
  rw [List.length_range] at hi
  rw [List.getElem?_range hi] at h
  exact ⟨(Option.some.inj h).symm, hi⟩
theorem zipD_map {α β : Type} (xs : List α) (ys : List β) (e : α → PyData) (f : β → PyData) : zipD (xs.map e) (ys.map f) = (xs.zip ys).map fun z => .tuple [e z.1, f z.2] := by
  unfold zipD
  rw [List.zip_map, List.map_map]
  rfl
theorem cutD_tail {α : Type} (xs : List α) (e : α → PyData) : cutD (xs.map e) (some 1) none = xs.tail.map e := by
  unfold cutD
  have h : HT.sIx (xs.map e).length 0 (some 1) = min 1 (xs.map e).length := HT.sIx_nat _ _ 1
  rw [h, HT.sIx_none, List.length_map]
  cases xs with
  | nil => rfl
  | cons x r =>
    rw [List.length_cons, Nat.min_eq_left (by omega), List.map_cons, List.drop_succ_cons, List.drop_zero, List.take_of_length_le (by rw [List.length_map]; omega)]
    rfl
theorem cutD_take {α : Type} (xs : List α) (e : α → PyData) (k : Nat) : cutD (xs.map e) none (some (k : Int)) = (xs.take k).map e := by
  unfold cutD
  rw [HT.sIx_nat, HT.sIx_none, List.drop_zero, Nat.sub_zero, List.length_map]
  by_cases h : k ≤ xs.length
  · rw [Nat.min_eq_left h, List.map_take]
  · rw [Nat.min_eq_right (by omega), List.take_of_length_le (by rw [List.length_map]; omega), List.take_of_length_le (by omega)]
theorem cutD_drop {α : Type} (xs : List α) (e : α → PyData) (k : Nat) : cutD (xs.map e) (some (k : Int)) none = (xs.drop k).map e := by
  unfold cutD
  rw [HT.sIx_nat, HT.sIx_none, List.length_map]
  by_cases h : k ≤ xs.length
  · rw [Nat.min_eq_left h, List.take_of_length_le (by rw [List.length_drop, List.length_map]; omega), List.map_drop]
  · rw [Nat.min_eq_right (by omega), List.drop_of_length_le (by rw [List.length_map]; omega), List.take_nil, List.drop_of_length_le (by omega)]
    rfl
theorem atI_nat' {α : Type} {xs : List α} {k : Nat} {x : α} (h : xs[k]? = some x) : L2.atI xs (k : Int) = some x := by
  unfold L2.atI
  rw [ixN_nat (List.getElem?_eq_some_iff.mp h).1]
  exact h
theorem atI_map {α β : Type} (f : α → β) (xs : List α) (k : Int) : L2.atI (xs.map f) k = (L2.atI xs k).map f := by
  unfold L2.atI
  rw [List.length_map]
  cases ixN xs.length k with
  | none => rfl
  | some j => exact List.getElem?_map ..
end DL
/-! objects that stay, keywords, own lists in a parallel assignment, more of own lists -/
namespace DL
open PySem L2 Z PySem.Spec PyProof.Rows
section
variable {K : PySem.W.Frag} {n : Nat} {J : Jv n}
def objF (c : Str) (d : PyData) (k : List (PyData × PyData) → Prop) : Prop := match d with
  | .dict ((.str c', .none) :: fs) => c' = c ∧ k fs
  | _ => False
theorem objF_of {H : Hp} {c : Str} {C : Addr} {v : V} {d : PyData} {k : List (PyData × PyData) → Prop} (hc : PySem.W.nsIn K mainGlobals c = some (some (.ref C))) (q : Dq K H v d) (h : objF c d k) : ∃ a dx fv fs, v = .ref a ∧ H a = some (.ins C dx fv) ∧ DqFs K H fv fs ∧ k fs := by
  unfold objF at h
  split at h
  · obtain ⟨rfl, h⟩ := h
    cases q with
    | obj e1 e2 r =>
      rw [hc] at e1
      cases e1
      exact ⟨_, _, _, _, rfl, e2, r, h⟩
  · exact h.elim
/-- e.f -/
def fFld (c f : Str) (a : FE) : FE := fun ρ P => a ρ fun d ρ1 => objF c d fun fs => ∃ v, fldD f fs = some v ∧ P v ρ1
theorem re_fld {C : Addr} {c f : Str} {ta : TE} {a : FE} (hc : PySem.W.nsIn K mainGlobals c = some (some (.ref C))) (cl : Cls K C) (na : NoAttr K C f) (ha : RE K J ta a) : RE K J (tFld K ta f) (fFld c f a) := by
  intro O as σ H Q ρ P E q k
  refine ha O as σ H _ ρ _ E q fun d ρ1 v H1 q1 f1 E1 d1 => ?_
  obtain ⟨x, dx, fv, fs, rfl, e, r, u, hu, p⟩ := objF_of hc d1 q1
  obtain ⟨w, hw, dw⟩ := r.get hu
  exact ⟨x, C, dx, fv, w, rfl, (hp_some e).2, cl, na, hw, k _ _ _ _ p f1 E1 dw⟩
/-- how __init__ lays the fields -/
def RMk (K : PySem.W.Frag) (C : Addr) (sp : Sp) (G : List PyData → (List (PyData × PyData) → Prop) → Prop) : Prop := ∀ (A : Addr → Prop) (H : Hp) (x dx : Addr) (vs : List V) (ds : List PyData) (Q : VK) (E : XK) (P : List (PyData × PyData) → Prop),
  DqAll K (hp A H) vs ds → G ds P → H x = some (.ins C dx []) → (∀ fs fv H', P fs → (∀ a o, a ≠ x → H a = some o → H' a = some o) → H' x = some (.ins C dx fv) → DqFs K (hp A H') fv fs → Q .non H') → sp (.ref x :: vs) H Q E
theorem mk_core {O : Addr → Prop} {as : Nat → Option Addr} {H : Hp} {ρ : En} {σ : L2.St} {C x dx : Addr} {c : Str} {sp : Sp} {G : List PyData → (List (PyData × PyData) → Prop) → Prop} {vs : List V} {ds : List PyData} {Q : VK} {E0 : XK} {P : PyData → En → Prop}
    (hc : PySem.W.nsIn K mainGlobals c = some (some (.ref C))) (h : RMk K C sp G) (E : EnR K J O as H ρ σ) (dv : DqAll K (hp (Hid O as) H) vs ds) (g : G ds fun fs => P (.dict ((.str c, .none) :: fs)) ρ) (hx : H x = none) (hd : H dx = none) (ne : dx ≠ x)
    (k : ∀ d ρ' v H', P d ρ' → FrA (Own as) H H' → EnR K J O as H' ρ' σ → Dq K (hp (Hid O as) H') v d → Q v H') :
    sp (.ref x :: vs) (upd (upd H dx (.own x)) x (.ins C dx [])) (fun v H2 => v = .non ∧ Q (.ref x) H2) E0 := by
  have s1 : Same H (upd (upd H dx (.own x)) x (.ins C dx [])) := fun a o e => by
    rw [upd_ne (ne_of_none e hx), upd_ne (ne_of_none e hd)]
    exact e
  refine h (Hid O as) _ x dx vs ds _ _ _ (dv.mono (hp_grow s1)) g upd_same fun fs fv H' p fr e r => ⟨rfl, ?_⟩
  have s2 : Same H H' := fun a o e => fr a o (ne_of_none e hx) (s1 a o e)
  exact k _ _ _ _ p (FrA.of s2) (E.grow s2) (.obj hc (hp_mk (E.fresh hx) e) r)
def fMk (c : Str) (G : List PyData → (List (PyData × PyData) → Prop) → Prop) (dv : List PyData) (f : FA) : FE := fun ρ P => f ρ fun ds ρ1 => G (ds ++ dv) fun fs => P (.dict ((.str c, .none) :: fs)) ρ1
theorem re_mk {C : Addr} {c : Str} {sp : Sp} {G : List PyData → (List (PyData × PyData) → Prop) → Prop} {dvs : List V} {dv : List PyData} {E0 : XK} {t : TA} {f : FA} (hc : PySem.W.nsIn K mainGlobals c = some (some (.ref C))) (h : RMk K C sp G) (hd : ∀ H, DqAll K H dvs dv) (ha : RA K J t f) : RE K J (tMake C sp dvs E0 t) (fMk c G dv f) := by
  intro O as σ H Q ρ P E q k
  refine ha O as σ H _ ρ _ E q fun ds ρ1 vs H1 q1 f1 E1 d1 => ?_
  intro x dx hx hdx ne
  exact mk_core hc h E1 (d1.append (hd _)) q1 hx hdx ne fun d ρ' v H' p fr E' q' => k d ρ' v H' p (f1.trans fr) E' q'
def fMkN (c : Str) (G : List PyData → (List (PyData × PyData) → Prop) → Prop) (n m : Nat) (gD : List PyData → List PyData → List PyData) (f fk : FA) : FE := fun ρ P => f ρ fun ds ρ1 => fk ρ1 fun es ρ2 => ds.length = n ∧ es.length = m ∧ G (gD ds es) fun fs => P (.dict ((.str c, .none) :: fs)) ρ2
theorem re_mkN {C : Addr} {c : Str} {sp : Sp} {G : List PyData → (List (PyData × PyData) → Prop) → Prop} {n m : Nat} {gV : List V → List V → List V} {gD : List PyData → List PyData → List PyData} {E0 : XK} {t tk : TA} {f fk : FA} (hc : PySem.W.nsIn K mainGlobals c = some (some (.ref C))) (h : RMk K C sp G)
    (hg : ∀ (x : Addr) (vs zs : List V) (ds es : List PyData) (H : Hp), DqAll K H vs ds → DqAll K H zs es → ∃ ws, gV (.ref x :: vs) zs = .ref x :: ws ∧ DqAll K H ws (gD ds es)) (ha : RA K J t f) (hk : RA K J tk fk) : RE K J (tMakeN C n m sp gV E0 t tk) (fMkN c G n m gD f fk) := by
  intro O as σ H Q ρ P E q k
  refine ha O as σ H _ ρ _ E q fun ds ρ1 vs H1 q1 f1 E1 d1 => ?_
  refine hk O as σ H1 _ ρ1 _ E1 q1 fun es ρ2 zs H2 q2 f2 E2 d2 => ?_
  obtain ⟨l1, l2, q2⟩ := q2
  refine ⟨by rw [d1.length]; exact l1, by rw [d2.length]; exact l2, fun x dx hx hdx ne => ?_⟩
  obtain ⟨ws, e, r⟩ := hg x vs zs ds es _ (d1.fr f2) d2
  rw [e]
  exact mk_core hc h E2 r q2 hx hdx ne fun d ρ' v H' p fr E' q' => k d ρ' v H' p ((f1.trans f2).trans fr) E' q'
/-- a call with keywords, data alone -/
def fCallN (F : FN) (n m : Nat) (gD : List PyData → List PyData → List PyData) (f fk : FA) : FE := fun ρ P => f ρ fun ds ρ1 => fk ρ1 fun es ρ2 => ds.length = n ∧ es.length = m ∧ F ((gD ds es).map .fz) fun d _ => P d ρ2
theorem ownIx_dat : ∀ ds : List PyData, ownIx (ds.map .dat) = []
  | [] => rfl
  | _ :: r => ownIx_dat r
theorem wb_dat (ρ : En) : ∀ (ds : List PyData) (r : List Sl), wb ρ (ds.map .dat) r = ρ
  | [], _ => rfl
  | _ :: ds, r => wb_dat ρ ds r.tail
theorem re_callN {l n m : Nat} {F : FN} {gV : List V → List V → List V} {gD : List PyData → List PyData → List PyData} {E0 : XK} {t tk : TA} {f fk : FA}
    (hl : ∀ ds es : List PyData, ds.length = n → es.length = m → (gD ds es).length = l)
    (hg : ∀ (vs zs : List V) (ds es : List PyData) (H : Hp), DqAll K H vs ds → DqAll K H zs es → DqAll K H (gV vs zs) (gD ds es)) (ha : RA K J t f) (hk : RA K J tk fk) : RE K J (tCallN n m (spF K l F) gV E0 t tk) (fCallN F n m gD f fk) := by
  intro O as σ H Q ρ P E q k
  refine ha O as σ H _ ρ _ E q fun ds ρ1 vs H1 q1 f1 E1 d1 => ?_
  refine hk O as σ H1 _ ρ1 _ E1 q1 fun es ρ2 zs H2 q2 f2 E2 d2 => ?_
  obtain ⟨l1, l2, q2⟩ := q2
  refine ⟨by rw [d1.length]; exact l1, by rw [d2.length]; exact l2, ?_⟩
  refine call_core (xs := (gD ds es).map .dat) E2 (fits_dat _) (dat_ars (hg _ _ _ _ _ (d1.fr f2) d2)) (by rw [List.length_map]; exact hl _ _ l1 l2) (by rw [ownIx_dat]; exact .nil) ?_ fun d ρ' v H' p fr E' q' => k d ρ' v H' p ((f1.trans f2).trans fr) E' q'
  simp only [wb_dat]
  exact q2
/-! own lists in a parallel assignment -/
theorem EnR.ownNew {O : Addr → Prop} {as : Nat → Option Addr} {H : Hp} {ρ : En} {σ : L2.St} {p : Addr} {xs : List V} {ds : List PyData} {i : Nat} (E : EnR K J (plus O p) as H ρ σ) (hi : i < ρ.length) (hJ : J.P (upA as i (some p)) H) (hQ : J.Q O) (np : ¬ Hid O as p) (h : H p = some (.lst xs)) (d : DqAll K (hp (Hid (plus O p) as) H) xs ds) :
    EnR K J O (upA as i (some p)) H (ρ.set i (.own ds)) (σ.set i (some (.ref p))) := by
  have hS : Same (hp (Hid (plus O p) as) H) (hp (fun a => Hid O as a ∨ a = p) H) := hp_less fun a q => by
    rcases q with (q | q) | q
    · exact .inl (.inl q)
    · exact .inr q
    · exact .inl (.inr q)
  exact (E.lessO hQ).setOwn hi hJ np h (fun j sl o h1 h2 _ => (E.at_ j sl o h1 h2).mono hS fun b hb => rfl) (d.mono hS)
theorem same_plus {O : Addr → Prop} {as : Nat → Option Addr} {H H' : Hp} {p : Addr} (f : FrA (Own as) H H') (h : H p = none) : Same (hp (Hid O as) H) (hp (Hid (plus O p) as) H') := fun a o e => by
  obtain ⟨na, e⟩ := hp_some e
  refine hp_mk (fun z => ?_) (f a o (fun z => na (.inr z)) e)
  rcases z with (z | z) | z
  · exact na (.inl z)
  · rw [z, h] at e; cases e
  · exact na (.inr z)
theorem ext_own {as : Nat → Option Addr} {H H' : Hp} {p : Addr} {i : Nat} (f : FrA (Own as) H H') (hi : n ≤ i) (h : H p = none) : Ext n as (upA as i (some p)) H H' := by
  refine ⟨f, fun a q => ?_, fun j hj => upA_ne (by omega)⟩
  rcases q.up with q | q
  · rw [← Option.some.inj q]; exact .inr h
  · exact .inl q
/-- i, j = e, [..] -/
def fParO2 (i j : Nat) (a : FE) (b : FA) : FS := fun E ρ => a ρ fun d ρ1 => b ρ1 fun ds ρ2 => gN i d ρ2 fun ρ3 => j < ρ3.length ∧ E.nx (ρ3.set j (.own ds))
theorem none_back {as : Nat → Option Addr} {O : Addr → Prop} {H H1 : Hp} {ρ : En} {σ : L2.St} {p : Addr} (E1 : EnR K J O as H1 ρ σ) (f : FrA (Own as) H H1) (h : H1 p = none) : H p = none := by
  cases e : H p with
  | none => rfl
  | some o =>
    by_cases w : Own as p
    · exact absurd (.inr w) (E1.fresh h)
    · rw [f _ _ w e] at h; cases h
theorem rs_parO2 {i j : Nat} {ta tn : TE} {a : FE} {b : FA} (hj : n ≤ j) (ha : RE K J ta a) (hb : RN K J tn b) : RS K J (tPar i j (tCons ta (tCons tn tNil))) (fParO2 i j a b) := by
  intro O as σ H D ρ E R f C
  refine ha O as σ H _ ρ _ R f fun d ρ1 v H1 q1 f1 E1 d1 => ?_
  refine hb O as σ H1 _ ρ1 _ E1 q1 fun ds ρ2 p xs H2 q2 f2 hp1 E2 hp2 d2 => ?_
  refine ⟨_, _, rfl, ?_⟩
  have x := ext_own (f1.trans f2) hj (none_back E1 f1 hp1)
  exact C.nx _ _ _ _ q2.2.2 x ((E2.setFz q2.1 (d1.mono (same_plus f2 hp1))).ownNew q2.2.1 (J.cl _ _ _ _ R.inv x) R.inq (fun z => E1.fresh hp1 z) hp2 d2)
/-- i, j = [..], e -/
def fParO1 (i j : Nat) (b : FA) (a : FE) : FS := fun E ρ => b ρ fun ds ρ1 => a ρ1 fun d ρ2 => i < ρ2.length ∧ slotF (ρ2.set i (.own ds)) j = true ∧ E.nx ((ρ2.set i (.own ds)).set j (.fz d))
theorem rs_parO1 {i j : Nat} {ta tn : TE} {a : FE} {b : FA} (hi : n ≤ i) (hb : RN K J tn b) (ha : RE K J ta a) : RS K J (tPar i j (tCons tn (tCons ta tNil))) (fParO1 i j b a) := by
  intro O as σ H D ρ E R f C
  refine hb O as σ H _ ρ _ R f fun ds ρ1 p xs H1 q1 f1 hp1 E1 hp2 d1 => ?_
  refine ha (plus O p) as σ H1 _ ρ1 _ E1 q1 fun d ρ2 v H2 q2 f2 E2 d2 => ?_
  refine ⟨_, _, rfl, ?_⟩
  have np := R.fresh hp1
  have hp3 : H2 p = some (.lst xs) := f2 _ _ (fun z => np (.inr z)) hp2
  have x := ext_own (f1.trans f2) hi hp1
  have E3 := E2.ownNew (i := i) q2.1 (J.cl _ _ _ _ R.inv x) R.inq np hp3 (d1.fr f2)
  have E4 := E3.setFz (v := v) q2.2.1 (d2.mono (hp_less fun a z => by
    rcases z with z | z
    · exact .inl (.inl z)
    · rcases z.up with z | z
      · exact .inl (.inr (Option.some.inj z).symm)
      · exact .inr z))
  exact C.nx _ _ _ _ q2.2.2 x E4
/-- i, j = [..], [..] -/
def fParOO (i j : Nat) (a b : FA) : FS := fun E ρ => a ρ fun ds ρ1 => b ρ1 fun es ρ2 => i < ρ2.length ∧ j < ρ2.length ∧ E.nx ((ρ2.set i (.own ds)).set j (.own es))
theorem EnR.ownTwo {O : Addr → Prop} {as : Nat → Option Addr} {H0 H : Hp} {ρ : En} {σ : L2.St} {p q : Addr} {xs ys : List V} {ds es : List PyData} {i j : Nat} (E : EnR K J (plus (plus O p) q) as H ρ σ) (hij : i ≠ j) (hi : i < ρ.length) (hj : j < ρ.length) (ni : n ≤ i) (nj : n ≤ j) (h0 : J.P as H0) (hq0 : J.Q O) (f : FrA (Own as) H0 H)
    (hp : H0 p = none) (hq : H0 q = none) (np : ¬ Hid O as p) (nq : ¬ Hid (plus O p) as q) (h1 : H p = some (.lst xs)) (h2 : H q = some (.lst ys)) (d1 : DqAll K (DL.hp (Hid (plus (plus O p) q) as) H) xs ds) (d2 : DqAll K (DL.hp (Hid (plus (plus O p) q) as) H) ys es) :
    ∃ as', Ext n as as' H0 H ∧ EnR K J O as' H ((ρ.set i (.own ds)).set j (.own es)) ((σ.set i (some (.ref p))).set j (some (.ref q))) := by
  have x1 : Ext n as (upA as j (some q)) H0 H := ext_own f nj hq
  have E1 := E.ownNew (i := j) hj (J.cl _ _ _ _ h0 x1) (J.up _ _ (fun _ z => .inl z) hq0) nq h2 d2
  have x2 : Ext n as (upA (upA as j (some q)) i (some p)) H0 H := ⟨f, fun a z => by
    rcases z.up with z | z
    · rw [← Option.some.inj z]; exact .inr hp
    · exact x1.new a z, fun k hk => by rw [upA_ne (by omega)]; exact x1.fix k hk⟩
  have hne : p ≠ q := fun z => nq (.inl (.inr z.symm))
  have E2 := E1.ownNew (i := i) (by rw [List.length_set]; exact hi) (J.cl _ _ _ _ h0 x2) hq0 (fun z => by
    rcases z with z | z
    · exact np (.inl z)
    · rcases z.up with z | z
      · exact hne (Option.some.inj z).symm
      · exact np (.inr z)) h1 (d1.mono (hp_less fun a z => by
    rcases z with z | z
    · exact .inl (.inl z)
    · rcases z.up with z | z
      · exact .inl (.inr (Option.some.inj z).symm)
      · exact .inr z))
  refine ⟨_, x2, ?_⟩
  rw [List.set_comm _ _ hij, List.set_comm _ _ hij]
  exact E2
theorem rs_parOO {i j : Nat} {ta tb : TE} {a b : FA} (hij : i ≠ j) (hi : n ≤ i) (hj : n ≤ j) (ha : RN K J ta a) (hb : RN K J tb b) : RS K J (tPar i j (tCons ta (tCons tb tNil))) (fParOO i j a b) := by
  intro O as σ H D ρ E R f C
  refine ha O as σ H _ ρ _ R f fun ds ρ1 p xs H1 q1 f1 hp1 E1 hp2 d1 => ?_
  refine hb (plus O p) as σ H1 _ ρ1 _ E1 q1 fun es ρ2 q ys H2 q2 f2 hq1 E2 hq2 d2 => ?_
  refine ⟨_, _, rfl, ?_⟩
  obtain ⟨as', x, E3⟩ := E2.ownTwo hij q2.1 q2.2.1 hi hj R.inv R.inq (f1.trans f2) hp1 (none_back E1 f1 hq1) (fun z => R.fresh hp1 z) (fun z => E1.fresh hq1 z) (f2 _ _ (fun z => R.fresh hp1 (.inr z)) hp2) hq2 (d1.mono (same_plus f2 hq1)) d2
  exact C.nx _ _ _ _ q2.2.2 x E3
/-- i, j, l = e, e', [..] -/
def fPar3O3 (i j l : Nat) (a a' : FE) (b : FA) : FS := fun E ρ => a ρ fun d ρ1 => a' ρ1 fun d' ρ2 => b ρ2 fun ds ρ3 => gN i d ρ3 fun ρ4 => gN j d' ρ4 fun ρ5 => l < ρ5.length ∧ E.nx (ρ5.set l (.own ds))
theorem rs_par3O3 {i j l : Nat} {ta ta' tn : TE} {a a' : FE} {b : FA} (hl : n ≤ l) (ha : RE K J ta a) (ha' : RE K J ta' a') (hb : RN K J tn b) : RS K J (tPar3 i j l (tCons ta (tCons ta' (tCons tn tNil)))) (fPar3O3 i j l a a' b) := by
  intro O as σ H D ρ E R f C
  refine ha O as σ H _ ρ _ R f fun d ρ1 v H1 q1 f1 E1 d1 => ?_
  refine ha' O as σ H1 _ ρ1 _ E1 q1 fun d' ρ2 v' H2 q2 f2 E2 d2 => ?_
  refine hb O as σ H2 _ ρ2 _ E2 q2 fun ds ρ3 p xs H3 q3 f3 hp1 E3 hp2 d3 => ?_
  refine ⟨_, _, _, rfl, ?_⟩
  have x := ext_own ((f1.trans f2).trans f3) hl (none_back E1 f1 (none_back E2 f2 hp1))
  exact C.nx _ _ _ _ q3.2.2.2 x (((E3.setFz q3.1 ((d1.fr f2).mono (same_plus f3 hp1))).setFz q3.2.1 (d2.mono (same_plus f3 hp1))).ownNew q3.2.2.1 (J.cl _ _ _ _ R.inv x) R.inq (fun z => E2.fresh hp1 z) hp2 d3)
/-- own[k] += e -/
def fAugO (i : Nat) (b a : FE) (h : Int → Int → Int) : FS := fun E ρ => ownF ρ i fun _ => b ρ fun x ρ1 => intF x fun k => ownF ρ1 i fun ds => ∃ c, atI ds k = some (.int c) ∧ a ρ1 fun y ρ2 => intF y fun y => ownF ρ2 i fun es => ∃ j, ixN es.length k = some j ∧ E.nx (ρ2.set i (.own (es.set j (.int (h c y)))))
theorem rs_augO {i : Nat} {ti te : TE} {b a : FE} {h : Int → Int → Int} (hb : RE K J ti b) (ha : RE K J te a) : RS K J (tAugS (tVar i) ti te (rIxL K) (ipI h) rSetL) (fAugO i b a h) := by
  intro O as σ H D ρ E R f C
  obtain ⟨ds0, h0, f⟩ := ownF_of f
  obtain ⟨p, xs0, e1, e2, e3, _⟩ := R.own_at h0
  refine ⟨_, e1, ?_⟩
  refine hb O as σ H _ ρ _ R f fun x ρ1 v H1 q1 f1 E1 d1 => ?_
  unfold intF at q1
  split at q1
  · next z =>
    cases d1
    obtain ⟨ds, hds, c, hc, q1⟩ := ownF_of q1
    obtain ⟨p', xs, e1', e2', e3', e4'⟩ := E1.own_at hds
    rw [e2] at e2'
    cases e2'
    obtain ⟨u, hu, du⟩ := e4'.atI hc
    cases du
    refine ⟨p, xs, z, _, rfl, rfl, SqL.of e3', hu, ?_⟩
    refine ha O as σ H1 _ ρ1 _ E1 q1 fun y ρ2 w H2 q2 f2 E2 d2 => ?_
    unfold intF at q2
    split at q2
    · cases d2
      obtain ⟨es, hes, j, hj, q2⟩ := ownF_of q2
      obtain ⟨p'', ys, e1'', e2'', e3'', e4''⟩ := E2.own_at hes
      rw [e2] at e2''
      cases e2''
      refine ⟨_, _, rfl, rfl, p, ys, z, j, rfl, rfl, e3'', by rw [e4''.length]; exact hj, ?_⟩
      refine C.nx _ _ _ _ q2 (.of ((f1.trans f2).trans fun b o nb e => ?_)) (E2.put e2 (e4''.set (.int _) j))
      rw [upd_ne (fun z : b = p => nb (by rw [z]; exact ⟨i, e2⟩))]
      exact e
    · exact q2.elim
  · exact q1.elim
/-- i, j = e, [..] by way of the tuple -/
theorem rs_asgO2 {i j : Nat} {ta tn : TE} {a : FE} {b : FA} (hj : n ≤ j) (ha : RE K J ta a) (hb : RN K J tn b) : RS K J (tAsg (tTup (tCons ta (tCons tn tNil))) (gTup K 2 (gCons (gName i) (gCons (gName j) gNil)))) (fParO2 i j a b) := by
  intro O as σ H D ρ E R f C
  refine ha O as σ H _ ρ _ R f fun d ρ1 v H1 q1 f1 E1 d1 => ?_
  refine hb O as σ H1 _ ρ1 _ E1 q1 fun ds ρ2 p xs H2 q2 f2 hp1 E2 hp2 d2 => ?_
  refine ⟨by show 2 ≤ sizeLine; decide, fun T hT => ?_⟩
  have s3 := Same.new (o := .tup [v, .ref p]) hT
  refine ⟨T, _, rfl, SqT.of upd_same, rfl, _, _, rfl, _, _, rfl, rfl, ?_⟩
  have E3 := E2.grow s3
  have x := ext_own ((f1.trans f2).trans (FrA.of s3)) hj (none_back E1 f1 hp1)
  exact C.nx _ _ _ _ q2.2.2 x ((E3.setFz q2.1 ((d1.mono (same_plus f2 hp1)).mono (hp_grow s3))).ownNew q2.2.1 (J.cl _ _ _ _ R.inv x) R.inq (fun z => E1.fresh hp1 z) (s3 _ _ hp2) (d2.mono (hp_grow s3)))
/-- own == e, own != e -/
def fEqO (h : Bool → Bool) (i : Nat) (b : FE) : FE := fun ρ P => ownF ρ i fun _ => b ρ fun y ρ1 => ownF ρ1 i fun ds => SeqAt.shaped (.list ds) = true ∧ SeqAt.shaped y = true ∧ P (.bool (h (PyData.eqv (.list ds) y))) ρ1
theorem own_dp {O : Addr → Prop} {as : Nat → Option Addr} {H : Hp} {ρ : En} {σ : L2.St} {i : Nat} {ds : List PyData} (E : EnR K J O as H ρ σ) (h : ρ[i]? = some (.own ds)) (sh : SeqAt.shaped (.list ds) = true) : ∃ a, as i = some a ∧ σ[i]? = some (some (.ref a)) ∧ Dp K H (.ref a) (.list ds) := by
  obtain ⟨a, xs, e1, e2, e3, e4⟩ := E.own_at h
  exact ⟨a, e2, e1, .lst (SqL.of e3) (DpAll.mono hp_same (e4.dp (plain_of sh)))⟩
theorem re_eqO {i : Nat} {tb : TE} {b : FE} (hb : RE K J tb b) : RE K J (tOp (rEqD K) (tVar i) tb) (fEqO id i b) := by
  intro O as σ H Q ρ P E q k
  obtain ⟨ds0, h0, q⟩ := ownF_of q
  obtain ⟨a, xs0, e1, e2, _, _⟩ := E.own_at h0
  refine ⟨_, e1, ?_⟩
  refine hb O as σ H _ ρ _ E q fun x ρ1 v H1 q1 f1 E1 d1 => ?_
  obtain ⟨ds, hds, s1, s2, p⟩ := ownF_of q1
  obtain ⟨a', e2', _, dp⟩ := own_dp E1 hds s1
  rw [e2] at e2'
  cases e2'
  exact ⟨_, _, dp, Dp.mono hp_same (d1.dp (plain_of s2)), s1, s2, k _ _ _ _ p f1 E1 (.bl _)⟩
theorem re_neO {i : Nat} {tb : TE} {b : FE} (hb : RE K J tb b) : RE K J (tOp (rNeD K) (tVar i) tb) (fEqO not i b) := by
  intro O as σ H Q ρ P E q k
  obtain ⟨ds0, h0, q⟩ := ownF_of q
  obtain ⟨a, xs0, e1, e2, _, _⟩ := E.own_at h0
  refine ⟨_, e1, ?_⟩
  refine hb O as σ H _ ρ _ E q fun x ρ1 v H1 q1 f1 E1 d1 => ?_
  obtain ⟨ds, hds, s1, s2, p⟩ := ownF_of q1
  obtain ⟨a', e2', _, dp⟩ := own_dp E1 hds s1
  rw [e2] at e2'
  cases e2'
  exact ⟨_, _, dp, Dp.mono hp_same (d1.dp (plain_of s2)), s1, s2, k _ _ _ _ p f1 E1 (.bl _)⟩
end
end DL
/-! new lists handed back; own lists changed by methods; more built-in calls -/
namespace DL
open PySem L2 Z PySem.Spec PyProof.Rows
section
variable {K : PySem.W.Frag} {n : Nat} {J : Jv n}
theorem EnR.release {O : Addr → Prop} {as : Nat → Option Addr} {H : Hp} {ρ : En} {σ : L2.St} {i : Nat} {ds : List PyData} (E : EnR K J O as H ρ σ) (hn : n ≤ i) (h : ρ[i]? = some (.own ds)) :
    ∃ p xs, as i = some p ∧ H p = some (.lst xs) ∧ EnR K J (plus O p) (upA as i none) H (ρ.set i .no) σ ∧ DqAll K (hp (Hid (plus O p) (upA as i none)) H) xs ds := by
  obtain ⟨p, xs, e1, e2, e3, e4⟩ := E.own_at h
  have hS : Same (hp (Hid O as) H) (hp (Hid (plus O p) (upA as i none)) H) := hp_less fun a q => by
    rcases q with (q | q) | q
    · exact .inl q
    · rw [q]; exact .inr ⟨i, e2⟩
    · rcases q.up with q | q
      · cases q
      · exact .inr q
  refine ⟨p, xs, e2, e3, ⟨by rw [List.length_set]; exact E.len, fun j sl o h1 h2 => ?_, fun j k b h1 h2 => ?_, fun j b h => ?_, fun j b h => ?_, fun a q => ?_, J.cl _ _ _ _ E.inv ⟨FrA.refl _ _, fun a q => by
    rcases q.up with q | q
    · cases q
    · exact .inl q, fun j hj => upA_ne (by omega)⟩, J.up _ _ (fun _ z => .inl z) E.inq⟩, e4.mono hS⟩
  · rw [List.getElem?_set] at h1
    by_cases e : i = j
    · subst e
      rw [if_pos rfl] at h1
      split at h1
      · cases h1
        rw [upA_at]
        exact .no
      · cases h1
    · rw [if_neg e] at h1
      rw [upA_ne (fun z => e z.symm)]
      exact (E.at_ j sl o h1 h2).mono hS fun _ _ => rfl
  · by_cases q : j = i
    · rw [q, upA_at] at h1; cases h1
    · by_cases q2 : k = i
      · rw [q2, upA_at] at h2; cases h2
      · rw [upA_ne q] at h1; rw [upA_ne q2] at h2
        exact E.inj j k b h1 h2
  · by_cases q : j = i
    · rw [q, upA_at] at h; cases h
    · rw [upA_ne q] at h
      rintro (z | z)
      · exact E.out j b h z
      · rw [z] at h
        exact q (E.inj j i p h e2)
  · by_cases q : j = i
    · rw [q, upA_at] at h; cases h
    · rw [upA_ne q] at h; rw [List.length_set]; exact E.bnd j b h
  · rcases q with q | q
    · exact E.occ a q
    · rw [q, e3]; exact Option.some_ne_none _
/-- return own -/
def fRetO (i : Nat) : FS := fun E ρ => ownF ρ i fun ds => E.ro ds (ρ.set i .no)
theorem rs_retO {i : Nat} (hi : n ≤ i) : RS K J (tRet (tVar i)) (fRetO i) := by
  intro O as σ H D ρ E R f C
  obtain ⟨ds, h, f⟩ := ownF_of f
  obtain ⟨p, xs, e2, e3, R', d⟩ := R.release hi h
  obtain ⟨a, ys, e1, e2', _, _⟩ := R.own_at h
  rw [e2] at e2'
  cases e2'
  refine ⟨_, e1, C.ro _ _ _ _ _ _ _ f ⟨FrA.refl _ _, fun a q => ?_, fun j hj => upA_ne (by omega)⟩ (.inr ⟨i, e2⟩) R' e3 d⟩
  rcases q.up with q | q
  · cases q
  · exact .inl q
/-- return of a new list -/
def fRetW (f : FA) : FS := fun E ρ => f ρ fun ds ρ1 => E.ro ds ρ1
theorem rs_retW {te : TE} {f : FA} (h : RN K J te f) : RS K J (tRet te) (fRetW f) := by
  intro O as σ H D ρ E R q C
  exact h O as σ H _ ρ _ R q fun ds ρ1 p xs H2 q1 f1 hp1 E1 hp2 d1 => C.ro _ _ _ _ _ _ _ q1 (.of f1) (.inl hp1) E1 hp2 d1
abbrev FM := List Sl → (List PyData → List Sl → Prop) → Prop
/-- a def that hands back a new list -/
def spN (K : PySem.W.Frag) (n : Nat) (F : FM) : Sp := fun vs H Q _ => vs.length = n ∧ ∃ (O : Addr → Prop) (as : Nat → Option Addr) (ρ : En) (P : List PyData → List Sl → Prop), EnR K (J0 : Jv 0) O as H ρ (vs.map some) ∧ F ρ P ∧
  ∀ ds out p xs H', P ds out → FrA (Own as) H H' → H p = none → (∀ i a, as i = some a → ∃ ds xs, out[i]? = some (.own ds) ∧ H' a = some (.lst xs) ∧ DqAll K (hp (Hid (plus O p) as) H') xs ds) → H' p = some (.lst xs) → DqAll K (hp (Hid (plus O p) as) H') xs ds → Q (.ref p) H'
def fnM (n m : Nat) (b : FS) : FM := fun sls P => b { nx := fun _ => False, rt := fun _ _ => False, ro := fun ds ρ' => P ds (ρ'.take n) } (sls ++ List.replicate (m - n) .no)
theorem fn_coreN {ps : List Str} {N : List Str} {b : FS} {t : TS} (rs : ∀ J : Jv ps.length, RS K J t b) {vs : List V} {H : Hp} {Q : VK} {E : XK} (h : spN K ps.length (fnM ps.length N.length b) vs H Q E) : t { nx := fun _ H' => Q .non H', rt := Q } (L2.start N vs) H := by
  obtain ⟨hv, O, as, ρ, P, R, hF, q⟩ := h
  have few : ∀ i a, as i = some a → i < ps.length := fun i a h => by have := R.bnd i a h; have := R.len; rw [List.length_map] at this; omega
  refine rs J0 O as _ H _ _ _ ((R.start N hv).reJ trivial trivial) hF ⟨fun _ _ _ _ p => p.elim, fun _ _ _ _ _ _ p => p.elim, fun _ _ _ _ p => p.elim, fun _ _ _ _ p => p.elim, fun ds ρ' p xs as' σ' H' pr x o R' e d => ?_⟩
  have less : Same (hp (Hid (plus O p) as') H') (hp (Hid (plus O p) as) H') := hp_less fun c hc => by
    rcases hc with hc | ⟨j, hc⟩
    · exact .inl hc
    · exact .inr ⟨j, by rw [x.fix j (few j c hc)]; exact hc⟩
  have new : H p = none := by
    rcases o with o | ⟨j, o⟩
    · exact o
    · have h' : as' j = some p := by rw [x.fix j (few j p o)]; exact o
      exact absurd (.inr rfl) (R'.out j p h')
  refine q _ _ _ _ _ pr x.fr new (fun i a h => ?_) e (d.mono less)
  have h' : as' i = some a := by rw [x.fix i (few i a h)]; exact h
  obtain ⟨es, ys, e1, _, e3, e4⟩ := R'.is_own h'
  exact ⟨es, ys, by rw [List.getElem?_take, if_pos (few i a h)]; exact e1, e3, e4.mono less⟩
section
variable {P : Program} {w : World} {mg : Str → Option Value} {base : Heap} {k : Nat} {f : Addr} {fd : FuncData} {ps : List Str} {x qual : Str} {st : Stmt} {N : List Str} {b : FS}
theorem okN (F : Fun K x qual st f fd) (S : FnScope N ps (defScope st))
    (body : ∀ (cdv : Value) (A : Around) (outer : List Env) (s : Shared) (H : Hp) (E : XK), Room k (A.deeper (envOfC qual (defScope st) s.heap.objs.size f cdv)) →
      (A.deeper (envOfC qual (defScope st) s.heap.objs.size f cdv)).guards = some [] →
      ∃ t, PSs (cxOf CX0 P w K mg base N qual (defScope st) f cdv A outer s H E).nox (defBody st) t ∧ ∀ J : Jv ps.length, RS K J t b) :
    FnG P w K mg base (k + 1) f fd ps (spN K ps.length (fnM ps.length N.length b)) := by
  refine okG F S (fun vs H Q E h => h.1) (fun cdv A outer s H vs Q E hr hg h => ?_)
  obtain ⟨t, pt, rs⟩ := body cdv A outer s H E hr hg
  exact ⟨t, pt, fn_coreN rs h⟩
theorem okN0 (F : Fun K x qual st f fd) (S : FnScope N ps (defScope st))
    (body : ∀ (cdv : Value) (A : Around) (outer : List Env) (s : Shared) (H : Hp) (E : XK), Room k (A.deeper (envOfC qual (defScope st) s.heap.objs.size f cdv)) →
      ∃ t, PSs (cxOf CX0 P w K mg base N qual (defScope st) f cdv A outer s H E).nox (defBody st) t ∧ ∀ J : Jv ps.length, RS K J t b) :
    FnOk P w K mg base CX0 (k + 1) f fd ps (spN K ps.length (fnM ps.length N.length b)) := by
  refine F.ok S (fun vs H Q E h => h.1) (fun cdv A outer s H vs Q E hr h => ?_)
  obtain ⟨t, pt, rs⟩ := body cdv A outer s H E hr
  exact ⟨t, pt, fn_coreN rs h⟩
theorem okND {params : Arguments} {bd : List Stmt} {scope : Scope} {dvs : List V} {kws : List (Str × V)} (F : FunD K x qual params bd scope dvs kws f fd) (S : FnScope N ps scope)
    (body : ∀ (cdv : Value) (A : Around) (outer : List Env) (s : Shared) (H : Hp) (E : XK), Room k (A.deeper (envOfC qual scope s.heap.objs.size f cdv)) →
      ∃ t, PSs (cxOf CX0 P w K mg base N qual scope f cdv A outer s H E).nox bd t ∧ ∀ J : Jv ps.length, RS K J t b) :
    FnOk P w K mg base CX0 (k + 1) f fd ps (spN K ps.length (fnM ps.length N.length b)) := by
  refine okD F S (fun vs H Q E h => h.1) (fun cdv A outer s H vs Q E hr h => ?_)
  obtain ⟨t, pt, rs⟩ := body cdv A outer s H E hr
  exact ⟨t, pt, fn_coreN rs h⟩
end
theorem call_coreN {O : Addr → Prop} {as : Nat → Option Addr} {H : Hp} {ρ : En} {σ : L2.St} {xs : List Ar} {r : List Sl} {vs : List V} {m : Nat} {F : FM} {P : List PyData → En → Prop} {Q : VK} {E0 : XK} (E : EnR K J O as H ρ σ) (fit : Fits ρ xs r) (ar : ArsR K (hp (Hid O as) H) as vs xs) (hm : xs.length = m) (nd : (ownIx xs).Nodup)
    (f : F r fun d out => P d (wb ρ xs out)) (k : ∀ ds ρ' p ys H', P ds ρ' → FrA (Own as) H H' → H p = none → EnR K J (plus O p) as H' ρ' σ → H' p = some (.lst ys) → DqAll K (hp (Hid (plus O p) as) H') ys ds → Q (.ref p) H') : spN K m F vs H Q E0 := by
  have sub : ∀ a, Own (adrs as xs) a → Own as a := fun a ⟨j, h⟩ => by
    obtain ⟨i, _, h⟩ := adrs_own h
    exact ⟨i, h⟩
  have hid : ∀ a, Hid (fun a => Hid O as a ∧ ¬ Own (adrs as xs) a) (adrs as xs) a → Hid O as a := fun a => by
    rintro (h | h)
    · exact h.1
    · exact .inr (sub a h)
  have s1 : Same (hp (Hid O as) H) (hp (Hid (fun a => Hid O as a ∧ ¬ Own (adrs as xs) a) (adrs as xs)) H) := hp_less fun a h => hid a h
  have s2 : ∀ p H', Same (hp (Hid (plus (fun a => Hid O as a ∧ ¬ Own (adrs as xs) a) p) (adrs as xs)) H') (hp (Hid (plus O p) as) H') := fun p H' => hp_less fun a h => by
    by_cases z : a = p
    · exact .inl (.inr z)
    · by_cases q : Own (adrs as xs) a
      · exact .inr q
      · rcases h with (h | h) | h
        · exact .inl (.inl ⟨.inl h, q⟩)
        · exact absurd h z
        · exact .inl (.inl ⟨.inr h, q⟩)
  refine ⟨by rw [ar.len, hm], fun a => Hid O as a ∧ ¬ Own (adrs as xs) a, adrs as xs, r, _, ⟨by rw [List.length_map, fit.len, ar.len], fun j sl o h1 h2 => fits_at E s1 fit ar h1 h2, fun j1 j2 a h1 h2 => ?_, fun j a h q => q.2 ⟨j, h⟩, fun j a h => ?_, fun a h => E.full h.1, trivial, trivial⟩, f, fun d out p ys H' pr fr hp1 ow hp2 dv => ?_⟩
  · obtain ⟨i1, e1, h1⟩ := adrs_own h1
    obtain ⟨i2, e2, h2⟩ := adrs_own h2
    rw [E.inj i1 i2 a h1 h2] at e1
    exact ownIx_inj nd e1 e2
  · obtain ⟨i, e, _⟩ := adrs_own h
    rw [fit.len]
    exact (List.getElem?_eq_some_iff.mp e).1
  · have fr' : FrA (Own as) H H' := fr.up sub
    refine k d _ p ys H' pr fr' hp1 ⟨by rw [wb_len]; exact E.len, fun i sl o h1 h2 => ?_, E.inj, fun i a h => ?_, fun i a h => by rw [wb_len]; exact E.bnd i a h, fun a h => ?_, J.fr E.inv fr', J.up _ _ (fun _ z => .inl z) E.inq⟩ hp2 (dv.mono (s2 p H'))
    · by_cases q : i ∈ ownIx xs
      · obtain ⟨j, e⟩ := ownIx_mem q
        have hi : i < ρ.length := by
          have := (List.getElem?_eq_some_iff.mp h1).1
          rw [wb_len] at this
          exact this
        obtain ⟨a, ha⟩ := ar.own_at e
        have hadr : adrs as xs j = some a := by unfold adrs; rw [e]; exact ha
        obtain ⟨ds, zs, e1, e2, e3⟩ := ow j a hadr
        rw [wb_own ρ hi nd e e1] at h1
        cases h1
        obtain ⟨_, _, _, e4, _⟩ := E.is_own ha
        rw [e4] at h2
        cases h2
        rw [ha]
        exact .own e2 (e3.mono (s2 p H'))
      · rw [wb_other ρ xs out q] at h1
        refine (E.at_ i sl o h1 h2).mono (same_plus fr' hp1) fun b hb => ?_
        obtain ⟨_, _, _, _, e, _⟩ := E.is_own hb
        rw [e]
        refine fr _ _ (fun z => ?_) e
        obtain ⟨j, z⟩ := z
        obtain ⟨i', e', h'⟩ := adrs_own z
        rw [E.inj i' i b h' hb] at e'
        exact q (mem_ownIx e')
    · rintro (z | z)
      · exact E.out i a h z
      · obtain ⟨_, _, _, _, e, _⟩ := E.is_own h
        rw [z, hp1] at e
        cases e
    · rcases h with h | h
      · obtain ⟨o, e⟩ := Option.ne_none_iff_exists'.mp (E.occ a h)
        rw [fr' a o (fun ⟨i, z⟩ => E.out i a z h) e]
        exact Option.some_ne_none _
      · rw [h, hp2]; exact Option.some_ne_none _
def fCallW (m : Nat) (F : FM) (dv : List PyData) (a : FC) : FA := fun ρ P => a ρ fun xs ρ1 => xs.length + dv.length = m ∧ (ownIx xs).Nodup ∧ argF ρ1 xs fun r => F (r ++ dv.map .fz) fun d out => P d (wb ρ1 xs out)
theorem rn_call {m : Nat} {F : FM} {dvs : List V} {dv : List PyData} {E0 : XK} {t : TA} {f : FC} (hd : ∀ H, DqAll K H dvs dv) (ha : RC K J t f) : RN K J (tCall (spN K m F) dvs E0 t) (fCallW m F dv f) := by
  intro O as σ H Q ρ P E q k
  refine ha O as σ H _ ρ _ E q fun xs ρ1 vs H1 q1 f1 E1 d1 => ?_
  obtain ⟨hm, nd, q1⟩ := q1
  obtain ⟨r, fit, q1⟩ := argF_of q1
  refine call_coreN (xs := xs ++ dv.map .dat) E1 (fit.app (fits_dat dv)) (d1.app (dat_ars (hd _))) (by rw [List.length_append, List.length_map]; exact hm) (by rw [ownIx_app]; exact nd) ?_ fun ds ρ' p ys H' pr fr hp1 E' hp2 q' => k ds ρ' p ys H' pr (f1.trans fr) (none_back E1 f1 hp1) E' hp2 q'
  simp only [wb_app]
  exact q1
def fCallNW (F : FM) (n m : Nat) (gD : List PyData → List PyData → List PyData) (f fk : FA) : FA := fun ρ P => f ρ fun ds ρ1 => fk ρ1 fun es ρ2 => ds.length = n ∧ es.length = m ∧ F ((gD ds es).map .fz) fun d _ => P d ρ2
theorem rn_callN {l n m : Nat} {F : FM} {gV : List V → List V → List V} {gD : List PyData → List PyData → List PyData} {E0 : XK} {t tk : TA} {f fk : FA}
    (hl : ∀ ds es : List PyData, ds.length = n → es.length = m → (gD ds es).length = l)
    (hg : ∀ (vs zs : List V) (ds es : List PyData) (H : Hp), DqAll K H vs ds → DqAll K H zs es → DqAll K H (gV vs zs) (gD ds es)) (ha : RA K J t f) (hk : RA K J tk fk) : RN K J (tCallN n m (spN K l F) gV E0 t tk) (fCallNW F n m gD f fk) := by
  intro O as σ H Q ρ P E q k
  refine ha O as σ H _ ρ _ E q fun ds ρ1 vs H1 q1 f1 E1 d1 => ?_
  refine hk O as σ H1 _ ρ1 _ E1 q1 fun es ρ2 zs H2 q2 f2 E2 d2 => ?_
  obtain ⟨l1, l2, q2⟩ := q2
  refine ⟨by rw [d1.length]; exact l1, by rw [d2.length]; exact l2, ?_⟩
  refine call_coreN (xs := (gD ds es).map .dat) E2 (fits_dat _) (dat_ars (hg _ _ _ _ _ (d1.fr f2) d2)) (by rw [List.length_map]; exact hl _ _ l1 l2) (by rw [ownIx_dat]; exact .nil) ?_ fun ds ρ' p ys H' pr fr hp1 E' hp2 q' => k ds ρ' p ys H' pr ((f1.trans f2).trans fr) (none_back E1 f1 (none_back E2 f2 hp1)) E' hp2 q'
  simp only [wb_dat]
  exact q2
/-! built-in calls and operators that make a new list -/
def RBN (K : PySem.W.Frag) (r : List V → Hp → VK → Prop) (g : List PyData → (List PyData → Prop) → Prop) : Prop := ∀ (A : Addr → Prop) (H : Hp) (Q : VK) (xs : List V) (ds : List PyData) (P : List PyData → Prop),
  DqAll K (hp A H) xs ds → g ds P → (∀ es p ys, P es → H p = none → DqAll K (hp A H) ys es → Q (.ref p) (upd H p (.lst ys))) → r xs H Q
theorem new_step {O : Addr → Prop} {as : Nat → Option Addr} {H H1 : Hp} {ρ1 : En} {σ : L2.St} {p : Addr} {ys : List V} {es : List PyData} {P : List PyData → En → Prop} {Q : VK} (f1 : FrA (Own as) H H1) (E1 : EnR K J O as H1 ρ1 σ) (q : P es ρ1) (hp1 : H1 p = none) (d : DqAll K (hp (Hid O as) H1) ys es)
    (k : ∀ ds ρ' p xs H', P ds ρ' → FrA (Own as) H H' → H p = none → EnR K J (plus O p) as H' ρ' σ → H' p = some (.lst xs) → DqAll K (hp (Hid (plus O p) as) H') xs ds → Q (.ref p) H') : Q (.ref p) (upd H1 p (.lst ys)) := by
  obtain ⟨E2, s2⟩ := E1.addO (o := .lst ys) hp1
  exact k _ _ _ _ _ q (f1.trans (FrA.of (Same.new hp1))) (none_back E1 f1 hp1) E2 upd_same (d.mono s2)
def fCBN (g : List PyData → (List PyData → Prop) → Prop) (a : FA) : FA := fun ρ P => a ρ fun ds ρ1 => g ds fun es => P es ρ1
theorem rn_cb {r : List V → Hp → VK → Prop} {g : List PyData → (List PyData → Prop) → Prop} {t : TA} {f : FA} (hr : RBN K r g) (ha : RA K J t f) : RN K J (tCB r t) (fCBN g f) := by
  intro O as σ H Q ρ P E q k
  refine ha O as σ H _ ρ _ E q fun ds ρ1 vs H1 q1 f1 E1 d1 => ?_
  exact hr (Hid O as) H1 _ vs ds _ d1 q1 fun es p ys pr hp1 d => new_step f1 E1 pr hp1 d k
def nList (ds : List PyData) (P : List PyData → Prop) : Prop := one ds fun d => seqF d P
theorem rbn_list : RBN K (fun xs H Q => ∃ p ys, xs = [.ref p] ∧ (SqL K H p ys ∨ SqT K H p ys) ∧ ∀ l, H l = none → Q (.ref l) (upd H l (.lst ys))) nList := by
  intro A H Q xs ds P r g k
  obtain ⟨v, d, rfl, q, g⟩ := one_of r g
  obtain ⟨p, ys, es, rfl, s, r, g⟩ := seqF_of q g
  exact ⟨p, ys, rfl, s, fun l hl => k _ _ _ g hl r⟩
def nSortI (ds : List PyData) (P : List PyData → Prop) : Prop := one ds fun d => listF d fun es => intsF es fun ns => ∀ ms : List Int, ms.Perm ns → ms.Pairwise (· ≤ ·) → P (ms.map .int)
theorem rbn_sortI : RBN K (rSortedI K) nSortI := by
  intro A H Q xs ds P r g k
  obtain ⟨v, d, rfl, q, g⟩ := one_of r g
  unfold listF at g
  split at g
  · obtain ⟨ns, e, g'⟩ := intsF_of g
    subst e
    obtain ⟨a, ys, rfl, s, r⟩ := q.list_of
    cases r.ints_of
    exact ⟨a, ns, rfl, SqL.mono hp_same s, fun ms p h1 h2 hp1 => k _ _ _ (g' ms h1 h2) hp1 (DqAll.ints _)⟩
  · exact g.elim
def nSortS (ds : List PyData) (P : List PyData → Prop) : Prop := one ds fun d => listF d fun es => strsF es fun ns => ns.length < 64 ∧ ∀ ms : List Str, ms.Perm ns → sortedS ms = true → P (ms.map .str)
theorem rbn_sortS : RBN K (rSortedS K) nSortS := by
  intro A H Q xs ds P r g k
  obtain ⟨v, d, rfl, q, g⟩ := one_of r g
  unfold listF at g
  split at g
  · obtain ⟨ns, e, hl, g'⟩ := strsF_of g
    subst e
    obtain ⟨a, ys, rfl, s, r⟩ := q.list_of
    cases r.strs_of
    exact ⟨a, ns, rfl, SqL.mono hp_same s, hl, fun ms p h1 h2 hp1 => k _ _ _ (g' ms h1 h2) hp1 (DqAll.strs _)⟩
  · exact g.elim
def RRN (K : PySem.W.Frag) (r : R2) (g : PyData → PyData → (List PyData → Prop) → Prop) : Prop := ∀ (A : Addr → Prop) (H : Hp) (Q : VK) (x y : V) (a b : PyData) (P : List PyData → Prop),
  Dq K (hp A H) x a → Dq K (hp A H) y b → g a b P → (∀ es p ys, P es → H p = none → DqAll K (hp A H) ys es → Q (.ref p) (upd H p (.lst ys))) → r x y H Q
def fOpN (g : PyData → PyData → (List PyData → Prop) → Prop) (a b : FE) : FA := fun ρ P => a ρ fun x ρ1 => b ρ1 fun y ρ2 => g x y fun es => P es ρ2
theorem rn_op {r : R2} {g : PyData → PyData → (List PyData → Prop) → Prop} {ta tb : TE} {fa fb : FE} (hr : RRN K r g) (ha : RE K J ta fa) (hb : RE K J tb fb) : RN K J (tOp r ta tb) (fOpN g fa fb) := by
  intro O as σ H Q ρ P E q k
  refine ha O as σ H _ ρ _ E q fun a ρ1 x H1 q1 f1 E1 d1 => ?_
  refine hb O as σ H1 _ ρ1 _ E1 q1 fun b ρ2 y H2 q2 f2 E2 d2 => ?_
  exact hr (Hid O as) H2 _ x y a b _ (d1.fr f2) d2 q2 fun es p ys pr hp1 d => new_step (f1.trans f2) E2 pr hp1 d k
def nCat : PyData → PyData → (List PyData → Prop) → Prop := fun a b P => match a, b with
  | .list xs, .list ys => xs.length + ys.length ≤ sizeLine ∧ P (xs ++ ys)
  | _, _ => False
theorem rrn_cat : RRN K (rCatK K) nCat := by
  intro A H Q x y a b P da db g k
  unfold nCat at g
  split at g
  · obtain ⟨p, xs, rfl, s, r⟩ := da.list_of
    obtain ⟨p', xs', rfl, s', r'⟩ := db.list_of
    exact ⟨p, p', xs, xs', rfl, rfl, SqL.mono hp_same s, SqL.mono hp_same s', by rw [r.length, r'.length]; exact g.1, fun l hl => k _ _ _ g.2 hl (r.append r')⟩
  · exact g.elim
theorem own_out {O : Addr → Prop} {as : Nat → Option Addr} {H : Hp} {ρ : En} {σ : L2.St} {p : Addr} (E : EnR K J (plus O p) as H ρ σ) : ¬ Own as p := fun ⟨i, h⟩ => E.out i p h (.inr rfl)
theorem plus_sub {O : Addr → Prop} {p : Addr} : ∀ a, O a → plus O p a := fun _ h => .inl h
/-- [..] * k, the list being written there -/
def fRep (a : FA) (b : FE) : FA := fun ρ P => a ρ fun ds ρ1 => b ρ1 fun y ρ2 => intF y fun k => -(2 ^ 63) ≤ k ∧ k < 2 ^ 63 ∧ ds.length * k.toNat ≤ sizeLine ∧ P (List.replicate k.toNat ds).flatten ρ2
theorem rn_rep {ta tb : TE} {a : FA} {b : FE} (ha : RN K J ta a) (hb : RE K J tb b) : RN K J (tOp rRep ta tb) (fRep a b) := by
  intro O as σ H Q ρ P E q k
  refine ha O as σ H _ ρ _ E q fun ds ρ1 p xs H1 q1 f1 hp1 E1 hp2 d1 => ?_
  refine hb (plus O p) as σ H1 _ ρ1 _ E1 q1 fun y ρ2 v H2 q2 f2 E2 d2 => ?_
  unfold intF at q2
  split at q2
  · cases d2
    refine ⟨p, _, xs, rfl, rfl, f2 _ _ (own_out E1) hp2, q2.1, q2.2.1, by rw [d1.length]; exact q2.2.2.1, fun l hl => ?_⟩
    have E3 := E2.lessO E.inq
    exact new_step (f1.trans f2) E3 q2.2.2.2 hl (((d1.fr f2).mono (hp_less fun _ => hid_plus)).rep _) k
  · exact q2.elim
def fSlN (a : FE) (lo hi : FO) : FA := fun ρ P => a ρ fun x ρ1 => lo ρ1 fun l ρ2 => hi ρ2 fun u ρ3 => listF x fun ds => P (cutD ds l u) ρ3
theorem rn_sl {te : TE} {tl th : TO} {a : FE} {lo hi : FO} (ha : RE K J te a) (hl : RO K J tl lo) (hh : RO K J th hi) : RN K J (tSl (rSlL K) te tl th) (fSlN a lo hi) := by
  intro O as σ H Q ρ P E q k
  refine ha O as σ H _ ρ _ E q fun x ρ1 v H1 q1 f1 E1 d1 => ?_
  refine hl O as σ H1 _ ρ1 _ E1 q1 fun l ρ2 H2 q2 f2 E2 => ?_
  refine hh O as σ H2 _ ρ2 _ E2 q2 fun u ρ3 H3 q3 f3 E3 => ?_
  unfold listF at q3
  split at q3
  · obtain ⟨p, xs, rfl, s, r⟩ := ((d1.fr f2).fr f3).list_of
    exact ⟨p, xs, rfl, SqL.mono hp_same s, fun l hl => new_step ((f1.trans f2).trans f3) E3 q3 hl (r.cut _ _) k⟩
  · exact q3.elim
/-- xs[::-1] -/
def fRev (a : FE) : FA := fun ρ P => a ρ fun x ρ1 => listF x fun ds => P ds.reverse ρ1
theorem rn_rev {te : TE} {a : FE} (ha : RE K J te a) : RN K J (tRevL K te) (fRev a) := by
  intro O as σ H Q ρ P E q k
  refine ha O as σ H _ ρ _ E q fun x ρ1 v H1 q1 f1 E1 d1 => ?_
  unfold listF at q1
  split at q1
  · obtain ⟨p, xs, rfl, s, r⟩ := d1.list_of
    exact ⟨p, xs, rfl, SqL.mono hp_same s, fun l hl => new_step f1 E1 q1 hl r.rev k⟩
  · exact q1.elim
/-! own lists changed by methods -/
theorem put_fr {as : Nat → Option Addr} {H H1 : Hp} {p : Addr} {i : Nat} {o : HO} (f : FrA (Own as) H H1) (e : as i = some p) : FrA (Own as) H (upd H1 p o) := fun b u nb h => by
  rw [upd_ne (fun z : b = p => nb (by rw [z]; exact ⟨i, e⟩))]
  exact f b u nb h
/-- own.pop(k), its value -/
def fPopAt (i : Nat) (a : FE) : FE := fun ρ P => ownF ρ i fun _ => a ρ fun x ρ1 => intF x fun k => ownF ρ1 i fun ds => -(2 ^ 63) ≤ k ∧ k < 2 ^ 63 ∧ ∃ j d, seqIndex? k ds.length = some j ∧ ds[j]? = some d ∧ P d (ρ1.set i (.own (ds.eraseIdx j)))
theorem DqAll.erase {G : Hp} : ∀ {v : List V} {d : List PyData} (m : Nat), DqAll K G v d → DqAll K G (v.eraseIdx m) (d.eraseIdx m)
  | _, _, _, .nil => .nil
  | _, _, 0, .cons _ b => b
  | _, _, m + 1, .cons a b => .cons a (DqAll.erase m b)
theorem re_popAt {i : Nat} {te : TE} {a : FE} (ha : RE K J te a) : RE K J (tBM K "list" rPopAt (tVar i) (tCons te tNil)) (fPopAt i a) := by
  intro O as σ H Q ρ P E q kk
  obtain ⟨ds0, h0, q⟩ := ownF_of q
  obtain ⟨p, xs0, e1, e2, e3, _⟩ := E.own_at h0
  refine ⟨_, e1, .inl ⟨rfl, _, SqL.of e3⟩, ?_⟩
  refine ha O as σ H _ ρ _ E q fun x ρ1 v H1 q1 f1 E1 d1 => ?_
  unfold intF at q1
  split at q1
  · cases d1
    obtain ⟨ds, hds, b1, b2, j, d, hj, hd, pr⟩ := ownF_of q1
    obtain ⟨p', xs, e1', e2', e3', e4'⟩ := E1.own_at hds
    rw [e2] at e2'
    cases e2'
    obtain ⟨y, hy, dy⟩ := e4'.got hd
    have E2 := E1.put (i := i) e2 (e4'.erase j)
    refine ⟨p, xs, _, j, y, rfl, rfl, e3', b1, b2, by rw [e4'.length]; exact hj, hy, kk _ _ _ _ pr (put_fr f1 e2) E2 (dy.mono ?_)⟩
    exact hp_fr (put_fr (FrA.refl _ _) e2) own_hid
  · exact q1.elim
/-- own.pop(), its value -/
def fPop (i : Nat) : FE := fun ρ P => ownF ρ i fun ds => ∃ d, ds[ds.length - 1]? = some d ∧ P d (ρ.set i (.own ds.dropLast))
theorem DqAll.last {G : Hp} {v : List V} {d : List PyData} (h : DqAll K G v d) : DqAll K G v.dropLast d.dropLast := by
  rw [List.dropLast_eq_take, List.dropLast_eq_take, h.length]
  exact h.take _
theorem re_pop {i : Nat} : RE K J (tBM0 K "list" rPop (tVar i)) (fPop i) := by
  intro O as σ H Q ρ P E q k
  obtain ⟨ds, h0, d, hd, q⟩ := ownF_of q
  obtain ⟨p, xs, e1, e2, e3, e4⟩ := E.own_at h0
  obtain ⟨y, hy, dy⟩ := e4.got hd
  refine ⟨_, e1, .inl ⟨rfl, _, SqL.of e3⟩, p, xs, y, rfl, rfl, e3, by rw [e4.length]; exact hy, k _ _ _ _ q (put_fr (FrA.refl _ _) e2) (E.put e2 e4.last) (dy.mono (hp_fr (put_fr (FrA.refl _ _) e2) own_hid))⟩
/-- own.insert(k, e) -/
def fInsert (i : Nat) (a b : FE) : FS := fun E ρ => ownF ρ i fun _ => a ρ fun x ρ1 => intF x fun k => b ρ1 fun d ρ2 => ownF ρ2 i fun ds => ds.length < sizeLine ∧ 0 ≤ k ∧ k < 2 ^ 63 ∧ E.nx (ρ2.set i (.own (ds.take k.toNat ++ [d] ++ ds.drop k.toNat)))
theorem rs_insert {i : Nat} {ta tb : TE} {a b : FE} (ha : RE K J ta a) (hb : RE K J tb b) : RS K J (tDrop (tBM K "list" (fun x vs H Q => ∃ (l : Addr) (xs : List V) (i : Int) (y : V), x = .ref l ∧ vs = [.int i, y] ∧ H l = some (.lst xs) ∧ xs.length < sizeLine ∧ 0 ≤ i ∧ i < 2 ^ 63 ∧ Q .non (upd H l (.lst (xs.take i.toNat ++ [y] ++ xs.drop i.toNat)))) (tVar i) (tCons ta (tCons tb tNil)))) (fInsert i a b) := by
  intro O as σ H D ρ E R f C
  obtain ⟨ds0, h0, f⟩ := ownF_of f
  obtain ⟨p, xs0, e1, e2, e3, _⟩ := R.own_at h0
  refine ⟨_, e1, .inl ⟨rfl, _, SqL.of e3⟩, ?_⟩
  refine ha O as σ H _ ρ _ R f fun x ρ1 v H1 q1 f1 E1 d1 => ?_
  unfold intF at q1
  split at q1
  · cases d1
    refine hb O as σ H1 _ ρ1 _ E1 q1 fun d ρ2 w H2 q2 f2 E2 d2 => ?_
    obtain ⟨ds, hds, hl, k0, k1, q2⟩ := ownF_of q2
    obtain ⟨p', xs, e1', e2', e3', e4'⟩ := E2.own_at hds
    rw [e2] at e2'
    cases e2'
    exact ⟨p, xs, _, w, rfl, rfl, e3', by rw [e4'.length]; exact hl, k0, k1, C.nx _ _ _ _ q2 (.of (put_fr (f1.trans f2) e2)) (E2.put e2 (((e4'.take _).append (.cons d2 .nil)).append (e4'.drop _)))⟩
  · exact q1.elim
/-- own.extend(e), e being a list that is made there -/
def fExtend (i : Nat) (a : FA) : FS := fun E ρ => ownF ρ i fun _ => a ρ fun es ρ1 => ownF ρ1 i fun ds => ds.length + es.length ≤ sizeLine ∧ E.nx (ρ1.set i (.own (ds ++ es)))
theorem rs_extend {i : Nat} {te : TE} {a : FA} (ha : RN K J te a) : RS K J (tDrop (tBM K "list" rExtend (tVar i) (tCons te tNil))) (fExtend i a) := by
  intro O as σ H D ρ E R f C
  obtain ⟨ds0, h0, f⟩ := ownF_of f
  obtain ⟨p, xs0, e1, e2, e3, _⟩ := R.own_at h0
  refine ⟨_, e1, .inl ⟨rfl, _, SqL.of e3⟩, ?_⟩
  refine ha O as σ H _ ρ _ R f fun es ρ1 b zs H1 q1 f1 hb0 E1' hb1 r => ?_
  have E1 := E1'.lessO R.inq
  obtain ⟨ds, hds, hl, q1⟩ := ownF_of q1
  obtain ⟨p', xs, e1', e2', e3', e4'⟩ := E1.own_at hds
  rw [e2] at e2'
  cases e2'
  exact ⟨p, b, xs, zs, rfl, rfl, e3', hb1, by rw [e4'.length, r.length]; exact hl, C.nx _ _ _ _ q1 (.of (put_fr f1 e2)) (E1.put e2 (e4'.append (r.mono (hp_less fun _ => hid_plus))))⟩
/-- own.reverse() -/
def fReverse (i : Nat) : FS := fun E ρ => ownF ρ i fun ds => E.nx (ρ.set i (.own ds.reverse))
theorem rs_reverse {i : Nat} : RS K J (tDrop (tBM0 K "list" rReverse (tVar i))) (fReverse i) := by
  intro O as σ H D ρ E R f C
  obtain ⟨ds, h0, f⟩ := ownF_of f
  obtain ⟨p, xs, e1, e2, e3, e4⟩ := R.own_at h0
  exact ⟨_, e1, .inl ⟨rfl, _, SqL.of e3⟩, p, xs, rfl, rfl, e3, C.nx _ _ _ _ f (.of (put_fr (FrA.refl _ _) e2)) (R.put e2 e4.rev)⟩
/-! isinstance(x, (list, tuple)) -/
def fIsiLT (a : FE) : FE := fun ρ P => a ρ fun d ρ1 => isObjD d = false ∧ ∃ b c, kitB (kindD d) "list" = some b ∧ kitB (kindD d) "tuple" = some c ∧ P (.bool (b || c)) ρ1
theorem re_isiLT {ta : TE} {a : FE} (ha : RE K J ta a) : RE K J (tCB (rIsiT K) (tCons ta (tCons (tTup (tCons (tC (.ty "list")) (tCons (tC (.ty "tuple")) tNil))) tNil))) (fIsiLT a) := by
  intro O as σ H Q ρ P E q k
  refine ha O as σ H _ ρ _ E q fun d ρ1 v H1 q1 f1 E1 d1 => ?_
  obtain ⟨ho, b, c, hb, hc, q1⟩ := q1
  refine ⟨by show 2 ≤ sizeLine; decide, fun T hT => ?_⟩
  have s := Same.new (o := .tup [.ty "list", .ty "tuple"]) hT
  exact ⟨v, T, _, _, _, _, rfl, upd_same, ltC, (d1.mono (hp_grow s)).ty ho, kitLT _ b c hb hc, k _ _ _ _ q1 (f1.trans (FrA.of s)) (E1.grow s) (.bl _)⟩
/-! the greatest of three -/
def bMax3 (ds : List PyData) (P : PyData → Prop) : Prop := match ds with
  | [.int i, .int j, .int k] => P (.int (max3 i j k))
  | _ => False
theorem rb_max3 : RB K (fun xs H Q => ∃ i j k, xs = [.int i, .int j, .int k] ∧ Q (.int (max3 i j k)) H) bMax3 := by
  intro A H Q xs ds P oc r g k
  unfold bMax3 at g
  split at g
  · cases r with
    | cons a r => cases r with
      | cons b r => cases r with
        | cons c r => cases r; cases a; cases b; cases c; exact ⟨_, _, _, rfl, k _ _ _ g (Same.refl _) (.int _)⟩
  · exact g.elim
/-! the law's own likeness -/
def F__law_same : FN := fun sls P => match sls with
  | [.fz a, .fz b] => a = b ∧ SeqAt.shaped a = true ∧ a.depth < 8 ∧ nodes a ≤ 1000000 ∧ ∀ sl, P (.bool true) sl
  | _ => False
def spSame (K : PySem.W.Frag) (n : Nat) : Sp := fun vs H Q _ => ∃ (v1 v2 : V) (d : PyData), vs = [v1, v2] ∧ Dp K H v1 d ∧ Dp K H v2 d ∧ SeqAt.shaped d = true ∧ d.depth < n ∧ nodes d ≤ 1000000 ∧ ∀ H', Same H H' → Q (.bl true) H'
theorem same_of {vs : List V} {H : Hp} {Q : VK} {E : XK} (h : spF K 2 F__law_same vs H Q E) : spSame K 8 vs H Q E := by
  obtain ⟨hv, O, as, ρ, P, R, hF, q⟩ := h
  match vs, hv with
  | [v0, v1], _ =>
    have hl : ρ.length = 2 := R.len
    match ρ, hl with
    | [s0, s1], _ =>
      unfold F__law_same at hF
      split at hF
      · next a b e =>
        injection e with e1 e2
        injection e2 with e2 _
        subst e1
        subst e2
        obtain ⟨rfl, sh, dp, nd, hP⟩ := hF
        obtain ⟨v, y1, y2, y3⟩ := R.fz_at (i := 0) rfl
        obtain ⟨w, z1, z2, z3⟩ := R.fz_at (i := 1) rfl
        cases y1
        cases z1
        have no : ∀ i a, as i = some a → False := fun i a ha => by
          have hi := R.bnd i a ha
          match i, hi, ha with
          | 0, _, ha => rw [y2] at ha; cases ha
          | 1, _, ha => rw [z2] at ha; cases ha
        refine ⟨_, _, a, rfl, Dp.mono hp_same (y3.dp (plain_of sh)), Dp.mono hp_same (z3.dp (plain_of sh)), sh, dp, nd, fun H' s => ?_⟩
        exact q _ _ _ _ (hP []) (FrA.of s) (fun i a ha => (no i a ha).elim) (.bl _)
      · exact hF.elim
end
end DL
/-! exceptions of own classes over any built-in one: made, raised, called for; those of __init__ -/
namespace DL
open PySem L2 Z PySem.Spec PyProof.Rows
section
open Builtin Builtin.ObjectAttr
variable {prog : Program} {w : World} {A : Around} {E : Value → Shared → Prop} {R : Result → Shared → Prop} {hh : Heap} {g : Array GenState} {d : Drawn} {t : Nat} {os : OsState}
/-- what is known of an own exception's class C over B -/
structure OxB (K : PySem.W.Frag) (C : Addr) (B nI iI : String) (bm : List Value) : Prop where
  fb : ExcBaseFacts B nI iI bm
  st : StoreFacts B bm "object.__setattr__" "object"
  ci : PySem.W.excInitIn K C bm nI = true
  co : PySem.W.excOver K C bm = true
  hd : PySem.W.hasDictIn K C = true
  sa : PySem.W.findIn K (.ref C) "__setattr__" = some (some (.builtin "object.__setattr__"))
  exC : PySem.W.subIn K (.ref C) (.type "BaseException") = some true
  tyC : PySem.W.typeIn K (.ref C) = some (.type "type")
  kC : PySem.W.keepIn K (.ref C) = true
  nw : PySem.W.findIn K (.ref C) "what" = some none
/-- the first field of an exception -/
theorem ox_set {K : PySem.W.Frag} {tk : Tok} {v : Value} {x C : Addr} {fv : Array Value} {B nI iI : String} {bm : List Value} (T : OxB K C B nI iI bm) (X : K.In hh) (hx : hh.get? x = some ({ cls := .ref C, data := .fields fv } : Obj))
    (hq : ∀ h' tk' dx, (∀ b o, b ≠ x → hh.get? b = some o → h'.get? b = some o) → hh.objs.size ≤ dx → dx ≠ x → h'.get? x = some ({ cls := .ref C, dict := some dx, data := .fields fv } : Obj) →
      h'.Ns1 dx (fun y => if y = "what" then some v else none) → R (.ok (.ret .none)) ⟨h', g, d, tk', os⟩) :
    codeAny (model prog w) A (.call (.builtin "object.__setattr__") ⟨[.ref x, .str "what" tk, v], []⟩) R ⟨hh, g, d, t, os⟩ := by
  have lx : x ≠ hh.objs.size := Nat.ne_of_lt (Heap.lt_size hx)
  refine PySem.W.osa_openX (od := none) T.st X ⟨hx, rfl, rfl, trivial⟩ T.co (by unfold PySem.W.takerIn; rw [T.nw]; rfl) fun b => ?_
  obtain ⟨cd, hcd, hdc⟩ := PySem.W.any_some T.hd
  have lk : PySem.W.Looks (model prog w) hh (classData C) cd := PySem.W.looks_clsIn X hcd
  obtain ⟨nm, bs, mro, ns, qn, hd, sn, sb, ab, col, del⟩ := cd
  have hdc' : hd = true := hdc
  subst hdc'
  unfold storeInOwnDict ownDictForStores
  repeat (first
    | with_reducible refine HandSPX.store_in_new ?_ ?_
    | with_reducible refine wpAny_loadPart_at hx ?_
    | with_reducible refine lk.at ?_
    | wp_step)
  · refine ⟨_, #[], _, (Heap.get?_update_ne _ _ _ _ lx.symm).trans (Heap.get?_push_at rfl rfl), rfl, fun e he => ?_, fun _ => rfl⟩
    simp at he
  · intro h' tk' hn' hs
    have e1 : (hh.push ({ cls := .type "dict", data := .dict #[] } : Obj)).get? x = some ({ cls := .ref C, data := .fields fv } : Obj) := Heap.get?_push_of_some _ hx
    refine hq h' tk' _ (fun b o nb ho => ?_) (Nat.le_refl _) lx.symm ?_ hn'
    · rw [hs.2 b (Nat.ne_of_lt (Heap.lt_size ho)), Heap.get?_update_ne _ _ _ _ nb]
      exact Heap.get?_push_of_some _ ho
    · rw [hs.2 x lx]
      exact Heap.get?_update_self _ e1 rfl
end
section
variable {X : Cx} {pins : List (Addr × Obj)} {σ : L2.St} {H : Hp} {s : Shared} {a C : Addr} {y : V} {u : Value} {E : Value → Shared → Prop} {A : Around} {B nI iI : String} {bm : List Value}
/-- self.what = y -/
theorem ox_put {Q : Unit → Shared → Prop} (T : OxB X.K C B nI iI bm) (I : Inv X pins σ H s) (e : H a = some (exo a C none)) (ry : RelV y u)
    (h : ∀ dx s', H dx = none → dx ≠ a → Inv X pins σ (upd (upd H dx (exd dx [("what", y)])) a (exo a C (some dx))) s' → Q () s') : wpAny (model X.prog X.w) A (setAttr (.ref a) "what" u) Q E s := by
  obtain ⟨t1, ho⟩ := exo_at I.hok e
  obtain ⟨hh, g, d, t, os⟩ := s
  refine PySem.W.set_plain I.kIn (ox := ({ cls := .ref C, data := .fields #[.ref t1, .none, .none, .none, .bool false, .none] } : Obj)) (od := none) ⟨ho, rfl, rfl, trivial⟩ T.sa (ox_set T I.kIn ho fun h' tk' dx k dn dne hx hn => ?_)
  have fresh : H dx = none := I.hok.fresh dn
  have old : ∀ {b : Addr} {o : Obj}, hh.get? b = some o → b ≠ dx := fun q => Nat.ne_of_lt (Nat.lt_of_lt_of_le (Heap.lt_size q) dn)
  have noa : ∀ {b : Addr}, H b = none → b ≠ a := fun n z => by rw [z, e] at n; cases n
  refine h dx _ fresh dne (I.un (t' := tk') ⟨fun b o q n _ _ => k b o (noa n) q, fun b o q n _ _ => ⟨o.slots, k b o (noa n) q⟩, fun b o q n _ => (upd_ne (noa n)).trans ((upd_ne (old q)).trans n), fun b o q _ => ?_,
    fun b xs q => (upd_ne (at_ne e q exo_tup)).trans ((upd_ne (ne_of_none q fresh)).trans q), fun b o v q => (upd_ne (at_ne e q exo_frz)).trans ((upd_ne (ne_of_none q fresh)).trans q),
    fun b ps q => ⟨#[], (upd_ne (at_ne e q exo_tbl)).trans ((upd_ne (ne_of_none q fresh)).trans (by rw [q, Array.append_empty]))⟩⟩ fun b o q => ?_)
  · by_cases hb : b = a
    · exact ⟨_, by rw [hb]; exact hx⟩
    · exact ⟨o, k b o hb q⟩
  · by_cases hb : b = a
    · subst hb
      rw [upd_same] at q
      cases q
      exact exo_ok hx
    · rw [upd_ne hb] at q
      by_cases hd : b = dx
      · subst hd
        rw [upd_same] at q
        cases q
        exact exd_ok hn (relO_put (fs := []) ry fun _ => True.intro)
      · rw [upd_ne hd] at q
        refine (I.hok b o q).stay (fun c v hc z => k c v ?_ z) (fun c hc => (upd_ne (at_ne e hc exo_own)).trans ((upd_ne (ne_of_none hc fresh)).trans hc)) fun c xs hc => (upd_ne (at_ne e hc exo_tup)).trans ((upd_ne (ne_of_none hc fresh)).trans hc)
        rcases hc with rfl | hc
        · exact hb
        · exact at_ne e hc exo_own
/-- B.__init__(self, ..): nothing of it is told -/
theorem ox_init {us : List Value} {Q : Value → Shared → Prop} (T : OxB X.K C B nI iI bm) (I : Inv X pins σ H s) (e : H a = some (exo a C none)) (hl : us.length ≤ sizeLine) (h : ∀ s', Inv X pins σ H s' → Q .none s') :
    wpAny (model X.prog X.w) A (call (.builtin iI) (.ref a :: us)) Q E s := by
  obtain ⟨nm, N, qn, bs, bm', hdct, sn, sub, ab, col, dd, k0, k1, k2, k3, k5, hC, hT⟩ := PySem.W.excInit_of I.kIn T.ci
  obtain ⟨t1, ho⟩ := exo_at I.hok e
  obtain ⟨hh, g, d, t, os⟩ := s
  refine wpAny_call (HandSPX.init_base T.fb hT hC ho hl fun h' t2 k hx => h _ ?_)
  have z : upd H a (exo a C none) = H := funext fun b => by
    by_cases q : b = a
    · rw [q, upd_same, e]
    · exact upd_ne q
  have W := I.write (t' := t) (x := a) (e := a) (o := exo a C none) (by rw [e]; trivial) (.inl rfl) k ⟨_, hx⟩ (exo_ok hx)
  rwa [z] at W
end
def tBi (K : PySem.W.Frag) (B nI iI : String) (bm : List Value) (ta : TA) : TE := fun σ H Q => ta σ H fun vs H1 => ∃ (a C : Addr) (ws : List V), vs = .ref a :: ws ∧ ws.length ≤ 1000 ∧ OxB K C B nI iI bm ∧ H1 a = some (exo a C none) ∧ Q .non H1
def tOw (K : PySem.W.Frag) (to te : TE) : TS := fun D σ H => te σ H fun y H1 => to σ H1 fun x H2 => ∃ (a C : Addr) (B nI iI : String) (bm : List Value), x = .ref a ∧ OxB K C B nI iI bm ∧ H2 a = some (exo a C none) ∧
  ∀ dx, H2 dx = none → dx ≠ a → D.nx σ (upd (upd H2 dx (exd dx [("what", y)])) a (exo a C (some dx)))
section
variable {X : Cx} {o e : Expr} {es : List Expr} {to te : TE} {ta : TA} {p p' p1 p2 pos : Pos} {B nI iI : String} {bm : List Value} {b : Str}
theorem pe_bi {pl : Sem Bool} (hg : Gl X b) (hm : X.mg b = none) (hv : bootBuiltins b = some (.type B)) (hty : typeOf (.type B) = pure (.type "type")) (hf : PySem.W.findCls X.K (.type B) (.type "type") "__init__" = some (.val (.builtin iI))) (ha : PA X (e :: es) ta)
    (z1 : b ≠ "__name__" := by decide) (z2 : (b == ("__debug__" : Str)) = false := by decide) (hB : Manifest.isStub B = false := by decide +kernel) (hi : PySem.W.handedIn (.builtin iI) = true := by decide +kernel)
    (hc : eval (.Call (.Attribute (.Name b p1) "__init__" p2) (e :: es) [] pos) X.env = (do
      let ov ← eval (.Name b p1) X.env
      standAt p2.atName
      let (f, first) ← holding [ov] (getMethod ov "__init__" pl)
      callWith pos f first (backTo pos (starEach (e :: es) X.env)) (backToKw pos (keywordEach [] X.env))) := by rfl)
    (he : starEach (e :: es) X.env = (false, eval e X.env) :: starEach es X.env := by rfl) (hpl : (backTo pos (starEach es X.env)).any (·.1) = false := by rfl) :
    PE X (.Call (.Attribute (.Name b p1) "__init__" p2) (e :: es) [] pos) (tBi X.K B nI iI bm ta) := by
  refine ⟨fun pins s σ H Q I h => ?_⟩
  refine PySem.W.methodCall_KW (ld_blt I hg hm hv ?_ z1 z2) hc
  obtain ⟨m, fr⟩ := I.fr
  refine PySem.W.method_type fr I.ok.mod.kin hty hB hf hi ?_
  refine PyProof.Rows.callWith_method1 (thn (ha.run pos pins _ σ H _ (I.tok _) h) fun us s1 hh => ?_) he hpl
  obtain ⟨vs, H1, J, rs, a, C, ws, rfl, hz, T, ea, q⟩ := hh
  cases rs with
  | @cons _ u _ ur ra rr =>
    have eu : u = Value.ref a := ra
    subst eu
    exact ox_init T J ea (by rw [← Paired.length rr, sizeLine_eq]; omega) fun s' J' => ⟨.non, H1, J', rfl, q⟩
theorem ps_ow (ho : PE X o to) (he : PE X e te) (hs : swapsWith e (some (.Attribute o "what" p')) pos.line X.env = pure false := by rfl) : PS X (.Assign [.Attribute o "what" p'] e pos) (tOw X.K to te) := by
  refine ⟨fun pins s σ H D I h => plainObj_wpAny_Assign_Attribute (thn (he.run pins s σ H _ I h) fun v s1 q1 => ?_) hs⟩
  obtain ⟨y, H1, I1, r1, q1⟩ := q1
  refine thn (ho.run pins s1 σ H1 _ I1 q1) fun u s2 q2 => ?_
  obtain ⟨x, H2, I2, r2, a, C, B, nI, iI, bm, rfl, T, ea, q⟩ := q2
  have eu : u = Value.ref a := r2
  subst eu
  exact ox_put T I2 ea r1 fun dx s' n ne J => ⟨σ, _, J, q dx n ne⟩
/-- C(e), its __init__ keeping what it is told -/
def tMkB (C : Addr) (te : TE) : L2.St → Hp → XK → Prop := fun σ H Q => te σ H fun y H1 => ∀ d, H1 d = none → Q (.ref C) (some d) (upd H1 d (.xd [("what", y)]))
/-- what __init__ of such a class does -/
def spIn (K : PySem.W.Frag) (C : Addr) : Sp := fun vs H Q _ => ∃ (a : Addr) (y : V), vs = [.ref a, y] ∧ H a = some (exo a C none) ∧ ∀ dx, H dx = none → dx ≠ a → Q .non (upd (upd H dx (exd dx [("what", y)])) a (exo a C (some dx)))
theorem ox_call {C fI : Addr} {k : Nat} {fd : FuncData} {ps : List Str} {pins : List (Addr × Obj)} {σ : L2.St} {H : Hp} {s : Shared} {Q : XK} {y : V} {u : Value} (T : OxB X.K C B nI iI bm) (iC : PySem.W.findIn X.K (.ref C) "__init__" = some (some (.ref fI))) (tI : PySem.W.typeIn X.K (.ref fI) = some (.type "function"))
    (F1 : FnOk X.prog X.w X.K X.mg X.base CX0 k fI fd ps (spIn X.K C)) (hr : Room (k + 1) X.A) (hb : Binds X.K fd ps []) (I : Inv X pins σ H s) (ry : RelV y u) (q1 : ∀ d, H d = none → Q (.ref C) (some d) (upd H d (.xd [("what", y)]))) :
    wpAny (model X.prog X.w) X.A (call (.ref C) [u]) (MkP X pins σ Q) X.xe s := by
  obtain ⟨nm, N, qn, bs, bm', hdct, sn, sub, ab, col, dd, k0, k1, k2, k3, k5, hC, hT⟩ := PySem.W.excInit_of I.kIn T.ci
  obtain ⟨g0, g1, g2, g3, g4⟩ := s
  obtain ⟨z, ez⟩ : ∃ z, z = g0.objs.size + 1 := ⟨_, rfl⟩
  obtain ⟨h1, eh⟩ : ∃ h1, h1 = (g0.push (PySem.W.kdv_tup [u])).push (HandSPX.excO C g0.objs.size) := ⟨_, rfl⟩
  have big : g0.objs.size ≤ z := by rw [ez]; exact Nat.le_succ _
  have fresh : H z = none := I.hok.fresh big
  have kk : ∀ b o, g0.get? b = some o → h1.get? b = some o := fun b o q => by rw [eh]; exact Heap.get?_push_of_some _ (Heap.get?_push_of_some _ q)
  have hx : h1.get? z = some (HandSPX.excO C g0.objs.size) := by rw [ez, eh]; heap_get
  have I2 : Inv X pins σ (upd H z (exo z C none)) ⟨h1, g1, g2, g3, g4⟩ := I.laid (t' := g3) (a := z) (o := exo z C none) (h' := h1) kk big (exo_ok hx)
  have r2 : Vals [V.ref z, y] [Value.ref z, u] := .cons rfl (.cons ry .nil)
  have sp : spIn X.K C [.ref z, y] (upd H z (exo z C none)) (fun v H2 => v = .non ∧ ∃ dx, H2 z = some (exo z C (some dx)) ∧ H2 dx = some (exd dx [("what", y)]) ∧ H dx = none ∧ Q (.ref C) (some dx) (upd (del H2 z) dx (.xd [("what", y)]))) (fun _ _ _ => False) := by
    refine ⟨_, y, rfl, upd_same, fun dx n ne => ⟨rfl, dx, upd_same, (upd_ne ne).trans upd_same, (upd_ne ne).symm.trans n, ?_⟩⟩
    have w := q1 dx ((upd_ne ne).symm.trans n)
    have eq : upd (del (upd (upd (upd H z (exo z C none)) dx (exd dx [("what", y)])) z (exo z C (some dx))) z) dx (.xd [("what", y)]) = upd H dx (.xd [("what", y)]) := funext fun b => by
      by_cases h1 : b = dx
      · rw [h1, upd_same, upd_same]
      · rw [upd_ne h1, upd_ne h1]
        by_cases h2 : b = z
        · rw [h2, del_same, fresh]
        · rw [del_ne h2, upd_ne h2, upd_ne h1, upd_ne h2]
    rw [eq]
    exact w
  have hl : ([Value.ref z, u] ++ []).length = ps.length := by
    rw [List.append_nil, ← r2.length]
    exact F1.len _ _ _ _ sp
  have bd := hb _ [Value.ref z, u] I2.kIn hl
  have run := F1.run _ X.stack _ _ ⟨[Value.ref z, u], []⟩ [Value.ref z, u] _ _ (fun _ _ _ => False) (hr.make C [u] []) (I2.env0.make C [u] []) bd r2 sp
  subst eh
  subst ez
  refine wpAny_call (HandSPX.call_own T.fb hT hC (PySem.W.looks_findIn I.kIn iC) (fun self => PySem.W.bind_fn I.kIn self tI) (by show 1 ≤ sizeLine; rw [sizeLine_eq]; omega) (codeAny_mono run fun r s' hq' => ?_))
  cases r with
  | error er => exact False.elim hq'
  | ok fl =>
    cases fl with
    | ret z =>
      obtain ⟨v, H2, os2, bare2, un2, hok2, rv, rfl, dx, ea, ed, hd1, q2⟩ := hq'
      obtain ⟨f0, f1, f2, f3, f4⟩ := s'
      exact ⟨rv, mk_end (raises_own T.exC T.tyC) I big kk un2 hok2 os2 bare2 ea ed hd1 q2⟩
    | _ => exact False.elim hq'
def one1 : List V → (V → Prop) → Prop
  | [y], k => k y
  | _, _ => False
theorem one1_of {vs : List V} {k : V → Prop} (h : one1 vs k) : ∃ y, vs = [y] ∧ k y := by
  unfold one1 at h
  split at h
  · exact ⟨_, rfl, h⟩
  · exact h.elim
theorem pmk_b {x : Str} {C fI : Addr} {k : Nat} {fd : FuncData} {ps : List Str} (T : OxB X.K C B nI iI bm) (iC : PySem.W.findIn X.K (.ref C) "__init__" = some (some (.ref fI))) (tI : PySem.W.typeIn X.K (.ref fI) = some (.type "function"))
    (F1 : FnOk X.prog X.w X.K X.mg X.base CX0 k fI fd ps (spIn X.K C)) (hr : Room (k + 1) X.A) (hb : Binds X.K fd ps []) (hg : Gl X x) (hm : X.mg x = some (.ref C)) (ha : PE X e te)
    (hdb : (x == ("__debug__" : Str)) = false := by decide) (he : starEach [e] X.env = (false, eval e X.env) :: starEach [] X.env := by rfl) :
    PMk X (.Call (.Name x p) [e] [] pos) (tMkB C te) := by
  intro pins s σ H Q I h
  refine wpAny_Call_Name_kw (ld_glob I hg hm ?_ hdb)
  have pa : PA X [e] (tCons te tNil) := pa_cons ha pa_nil he
  have h' : tCons te tNil σ H fun vs H1 => one1 vs fun y => ∀ d, H1 d = none → Q (.ref C) (some d) (upd H1 d (.xd [("what", y)])) := h
  refine PySem.W.callWith_K (h₀ := X.base) I.ok.mod.kin T.kC (thn (pa.run pos pins s σ H _ I h') fun us s1 hh => ?_) he
  obtain ⟨vs, H1, I1, r1, q1⟩ := hh
  obtain ⟨y, rfl, q1⟩ := one1_of q1
  cases r1 with
  | cons ry rr =>
    cases rr
    exact ⟨I1.kIn, ox_call T iC tI F1 hr hb I1 ry q1⟩
end
end DL
/-! try .. except (C, ..) as e: what is caught is kept -/
namespace DL
open PySem PySem.W
/-- a loop that looks at each and goes on -/
theorem loop_all {M : Model} {A : Around} {E : Value → Shared → Prop} {f : Value → PUnit → Sem (ForInStep PUnit)} {s : Shared} {Q : PUnit → Shared → Prop} : ∀ {cs : List Value}, (∀ c ∈ cs, ∀ Q' : ForInStep PUnit → Shared → Prop, Q' (.yield ⟨⟩) s → wpAny M A (f c ⟨⟩) Q' E s) → Q ⟨⟩ s → wpAny M A (forIn cs ⟨⟩ f) Q E s
  | [], _, q => by rw [List.forIn_nil]; exact wpAny_pure q
  | c :: r, h, q => by
    rw [List.forIn_cons]
    exact wpAny_bind (h c List.mem_cons_self _ (loop_all (fun x hx => h x (List.mem_cons_of_mem _ hx)) q))
/-- a loop that ends at the first one -/
theorem loop_any {M : Model} {A : Around} {E : Value → Shared → Prop} {K : Frag} {cls : Value} {f : Value → Option Bool × Unit → Sem (ForInStep (Option Bool × Unit))} {s : Shared} {Q : Option Bool × Unit → Shared → Prop}
    (hf : ∀ c b, exmOne K cls c = some b → ∀ Q' : ForInStep (Option Bool × Unit) → Shared → Prop, Q' (if b = true then .done (some true, ()) else .yield (none, ())) s → wpAny M A (f c (none, ())) Q' E s) : ∀ {cs : List Value} {b : Bool}, exmAny K cls cs = some b → Q (if b = true then some true else none, ()) s → wpAny M A (forIn cs (none, ()) f) Q E s
  | [], b, e, q => by
    cases (Option.some.inj (show some false = some b from e))
    rw [List.forIn_nil]; exact wpAny_pure q
  | c :: r, b, e, q => by
    obtain ⟨b1, d1, e1, e2, rfl⟩ := exmAny_cons e
    rw [List.forIn_cons]
    refine wpAny_bind (hf c b1 e1 _ ?_)
    cases b1
    · exact loop_any hf e2 (by simpa using q)
    · exact wpAny_pure (by simpa using q)
theorem exm_mem {K : Frag} {cls : Value} : ∀ {cs : List Value} {b : Bool}, exmAny K cls cs = some b → ∀ c ∈ cs, ∃ b1, exmOne K cls c = some b1
  | [], _, _, _, h => by cases h
  | c :: r, b, e, x, h => by
    obtain ⟨b1, d1, e1, e2, _⟩ := exmAny_cons e
    rcases List.mem_cons.mp h with rfl | h
    · exact ⟨b1, e1⟩
    · exact exm_mem e2 x h
theorem exm_all {K : Frag} {M : Model} {cls : Value} {tp e : Addr} {b : Bool} {h : Heap} {cs : List Value} (X : K.In h) (LT : Looks M h (typeOf (.ref e)) cls) (hp : h.get? tp = some { cls := .type "tuple", data := .seq cs.toArray }) (hx : exmAny K cls cs = some b) :
    Looks M h (excMatches (.ref e) (.ref tp)) b := by
  intro A Q E s kk q
  have L0 : Looks M h (isInstance (.ref tp) (.type "tuple")) true := ((Looks.ld hp).andThen .now).andThen (Looks.of_pure isSubtype_tuple_tuple)
  have hp' := kk _ _ hp
  unfold excMatches
  refine wpAny_bind ((L0.keeps kk).here ?_)
  dsimp only
  rw [if_pos rfl]
  refine wpAny_bind (wpAny_seqItems hp' rfl (wpAny_bind (wpAny_pure ?_)))
  dsimp only [Option.getD_some, Option.getD]
  refine wpAny_bind (loop_all (fun c hc Q' q' => ?_) ?_)
  · obtain ⟨b1, e1⟩ := exm_mem hx c hc
    refine wpAny_bind (((exm_cls (M := M) X e1).1.keeps kk).here ?_)
    rw [if_neg (by decide)]
    exact wpAny_pure q'
  · refine wpAny_bind ((LT.keeps kk).here ?_)
    refine wpAny_bind (loop_any (K := K) (cls := cls) (fun c b1 e1 Q' q' => ?_) hx ?_)
    · refine wpAny_bind (((exm_cls (M := M) X e1).2.keeps kk).here ?_)
      cases b1
      · exact wpAny_pure q'
      · exact wpAny_pure q'
    · cases b <;> exact wpAny_pure q
end DL
namespace DL
open PySem L2 Z PySem.Spec PyProof.Rows
/-- the classes that an except clause names -/
inductive ExT (X : Cx) : Expr → List Value → Prop
  | one {x : Str} {c : Value} {p : Pos} : Names X x c → ExT X (.Name x p) [c]
  | many {xs : List (Str × Pos × Value)} {k : Nat} {p : Pos} : (∀ q ∈ xs, Names X q.1 q.2.2) → xs.length ≤ 1000 → ExT X (.Tuple (xs.map fun q => .Name q.1 q.2.1) k p) (xs.map (·.2.2))
section
variable {X : Cx} {pins : List (Addr × Obj)} {σ : L2.St} {H : Hp} {s : Shared} {E : Value → Shared → Prop}
theorem name_run {x : Str} {c : Value} {p : Pos} {Q : Value → Shared → Prop} (I : Inv X pins σ H s) (n : Names X x c) (q : Q c s) : wpAny (model X.prog X.w) X.A (eval (.Name x p) X.env) Q E s := by
  obtain ⟨g, db, m | ⟨m, v, nn⟩⟩ := n
  · exact ld_glob I g m q db
  · exact ld_blt I g m v q nn db
theorem names_run {pos : Pos} (I : Inv X pins σ H s) : ∀ {xs : List (Str × Pos × Value)} {Q : List Value → Shared → Prop}, (∀ q ∈ xs, Names X q.1 q.2.2) → Q (xs.map (·.2.2)) s → wpAny (model X.prog X.w) X.A (spliced (backTo pos (starEach (xs.map fun q => Expr.Name q.1 q.2.1) X.env))) Q E s
  | [], Q, _, q => wpAny_items_nil q
  | z :: r, Q, h, q => wpAny_items_cons (name_run I (h z List.mem_cons_self) (names_run I (fun y hy => h y (List.mem_cons_of_mem _ hy)) q))
/-- the test of an except clause -/
theorem ExT.run {T : Expr} {cs : List Value} {a : Addr} {cls : Value} {b : Bool} {Q : Bool → Shared → Prop} (t : ExT X T cs) (I : Inv X pins σ H s) (LT : PySem.W.Looks (model X.prog X.w) s.heap (typeOf (.ref a)) cls) (e : PySem.W.exmAny X.K cls cs = some b)
    (q : ∀ h', (∀ b o, s.heap.get? b = some o → h'.get? b = some o) → Q b { s with heap := h' }) : wpAny (model X.prog X.w) X.A (eval T X.env) (fun c s₁ => wpAny (model X.prog X.w) X.A (excMatches (.ref a) c) Q E s₁) E s := by
  cases t with
  | one n =>
    obtain ⟨b1, d1, e1, e2, rfl⟩ := PySem.W.exmAny_cons e
    cases (Option.some.inj (show some false = some d1 from e2))
    rw [Bool.or_false] at q
    exact name_run I n ((PySem.W.exm_one I.kIn LT e1).here (q s.heap fun _ _ z => z))
  | @many xs kk pp n l =>
    refine wpAny_Tuple (names_run I n ⟨by rw [List.length_map, sizeLine_eq]; omega, ?_⟩)
    have kp : ∀ b o, s.heap.get? b = some o → (s.heap.push ({ cls := .type "tuple", data := .seq (xs.map (·.2.2)).toArray } : Obj)).get? b = some o := fun _ _ z => Heap.get?_push_of_some _ z
    exact (exm_all (I.kIn.keeps kp) (LT.keeps kp) (Heap.get?_push_size s.heap rfl) e).here (q _ kp)
theorem fly_keeps {B : Heap} {l : List Env} {a : Addr} {Z : Obj → Prop} {h h' : Heap} (f : HandSPX.FlyingZ B l a Z h) (k : ∀ b o, h.get? b = some o → h'.get? b = some o) : HandSPX.FlyingZ B l a Z h' := by
  obtain ⟨z1, z2, z3, oe, vs, T, oT, ts, y1, y2, y3, y4, y5, y6, y7, y8⟩ := f
  exact ⟨fun b o e => k b o (z1 b o e), z2, Heap.FunFrames.of_keeps (fun b o e _ => ⟨o, k b o e, rfl⟩) z3, oe, vs, T, oT, ts, k _ _ y1, y2, y3, y4, y5, y6, k _ _ y7, y8⟩
/-- the pinned exception, tracked from now on -/
theorem absorb {a C dx : Addr} {oe : Obj} {vs : Array Value} (I : Inv X ((a, oe) :: pins) σ H s) (ne : ∀ p ∈ X.pn ++ pins, p.1 ≠ a) (new : X.s_0.heap.get? a = none) (hz : Zc (.ref C) (some dx) oe) (hd : oe.data = .fields vs) : Inv X pins σ (upd H a (exk a C dx)) s := by
  obtain ⟨g, n, nL, nF, nc⟩ := I.pin (a, oe) (List.mem_append.mpr (.inr List.mem_cons_self))
  have na : ∀ {b : Addr} {u : HO}, H b = some u → b ≠ a := fun e => ne_of_none e n
  refine ⟨I.ok, I.os, I.bare, ⟨I.base.keep, I.base.slot, fun b o e n' x => ?_, I.base.there, fun b xs e => ?_, fun b o u e => ?_, fun b ps e => ?_⟩, I.loc, I.cell, ?_, fun x c e => ?_, fun p hp => ?_, fun b u e => ?_, I.len⟩
  · rw [upd_ne (fun z => by rw [z, new] at e; cases e)]
    exact I.base.free b o e n' x
  · have := I.base.tups b xs e
    rw [upd_ne (na this)]; exact this
  · have := I.base.frzs b o u e
    rw [upd_ne (na this)]; exact this
  · obtain ⟨more, this⟩ := I.base.tbls b ps e
    exact ⟨more, by rw [upd_ne (na this)]; exact this⟩
  · rw [upd_ne (Ne.symm nL)]; exact I.free
  · rw [upd_ne]
    · exact I.freeC x c e
    · rintro rfl
      obtain ⟨v, o, e1, e2⟩ := I.cell x _ e
      rw [g] at e1
      cases e1
      exact nc v e2
  · obtain ⟨z1, z2, z3⟩ := I.pin p (by
      rcases List.mem_append.mp hp with h | h
      · exact List.mem_append.mpr (.inl h)
      · exact List.mem_append.mpr (.inr (List.mem_cons_of_mem _ h)))
    exact ⟨z1, by rw [upd_ne (ne p hp)]; exact z2, z3⟩
  · by_cases hb : b = a
    · subst hb
      rw [upd_same] at e
      cases e
      exact ⟨⟨oe, vs, g, hz.1, hz.2, hd⟩, ⟨oe, g⟩, fun h1 h2 ⟨o, v, e1, e2⟩ k => ⟨o, v, k _ e1, e2⟩⟩
    · rw [upd_ne hb] at e
      exact (I.hok b u e).stay (fun c v _ z => z) (fun c z => by rw [upd_ne (na z)]; exact z) fun c xs z => by rw [upd_ne (na z)]; exact z
/-- what the clause 'except T as n' wishes of an exception of the body: what is caught stays -/
def wKeep (K : PySem.W.Frag) (cs : List Value) (i : Nat) (ts : Addr → TS) (Wout : WX) (D : Ends) : WX := fun cls d σ H =>
  ∃ b, PySem.W.exmAny K cls cs = some b ∧ (b = true → ∃ C dx, cls = .ref C ∧ d = some dx ∧ ∀ a, H a = none → ts a { nx := fun σ' H' => D.nx (σ'.set i none) (upd H' a (exk a C dx)), rt := fun v H' => D.rt v (upd H' a (exk a C dx)), bk := fun σ' H' => D.bk (σ'.set i none) (upd H' a (exk a C dx)), ct := fun σ' H' => D.ct (σ'.set i none) (upd H' a (exk a C dx)) } (σ.set i (some (.ref a))) H) ∧
    (b = false → Wout cls d σ H)
theorem keepSuite {a : Addr} {q : Addr × Obj} (I : Inv (X.suite a (q :: (X.pn ++ pins))) [] σ H s) (ok : X.Ok) : Inv X (q :: pins) σ H s :=
  ⟨ok, I.os, I.bare, I.base, I.loc, I.cell, I.free, I.freeC, fun p hp => I.pin p (by
    rw [List.append_nil]
    rcases List.mem_append.mp hp with h | h
    · exact List.mem_cons_of_mem _ (List.mem_append.mpr (.inl h))
    · rcases List.mem_cons.mp h with h | h
      · rw [h]; exact List.mem_cons_self
      · exact List.mem_cons_of_mem _ (List.mem_append.mpr (.inr h))), I.hok, I.len⟩
end
section
variable {X : Cx} {n : Str} {T : Expr} {cs : List Value} {i : Nat} {body suite : List Stmt} {b₀ : Stmt} {pos pos' : Pos} {tb : WX → TS} {ts : Addr → TS} {Wout : WX}
theorem ps_try_keep (hs : X.stack = X.env :: X.outer) (hf : X.env.frame = some X.env.locals) (hex : X.ex = []) (hN : X.N.Nodup) (hi : X.N[i]? = some n) (hln : X.env.kindOf n = some .local) (ht : ExT X T cs) (tk : Takes X Wout)
    (hb : ∀ (W : WX) (pn : List (Addr × Obj)) (xe : Value → Shared → Prop), Takes (X.tr pn xe) W → PassesOwn (model X.prog X.w) X.A X.env xe → PSs (X.tr pn xe) body (tb W))
    (hsu : ∀ (a : Addr) (pn : List (Addr × Obj)), PSs (X.suite a pn) (b₀ :: suite) (ts a)) :
    PS X (.Try body [.ExceptHandler (some T) (some n) (b₀ :: suite) pos'] [] [] pos) (fun D σ H => tb (wKeep X.K cs i ts Wout D) D σ H) := by
  refine ⟨fun pins s σ H D I h => wpAny_Try_except ?_⟩
  have ok := I.ok
  have hfr : X.A.frames = some (X.env :: X.outer) := hs ▸ ok.frames
  refine wpAny_mono ((hb _ (X.pn ++ pins) _ (fun u s' xx => ?_) PassesOwn.looking).run [] s σ H D (I.toTry _) h) (fun f s1 hsp => ?_) (fun e s1 he => he)
  · obtain ⟨a, B, sI, pins', σ', H', cls, d, rfl, J', nb, up, sky, na, os, ag, b, hb1, hyes, hno⟩ := xx
    have J : Inv X pins σ' H' sI := J'.ofTry ok
    rw [show (X.tr (X.pn ++ pins) _).stack = X.env :: X.outer from hs] at sky
    refine Sky.land Zc.steady hfr hf sky fun h3 fl3 up3 => ?_
    have J3 : Inv X pins σ' H' { s' with heap := h3 } := J.landed nb fl3.1 (up.trans up3) os ag
    obtain ⟨o3, v3, g3, z3, d3⟩ := fl3.there
    have out : a ∉ frs (X.env :: X.outer) := fun hm => by
      obtain ⟨_, o', e', hnf⟩ := fl3.2.2.1.mem hm
      rw [g3] at e'
      cases e'
      exact hnf _ d3
    have nL : a ≠ X.env.locals := fun z => out (List.mem_filterMap.mpr ⟨X.env, List.mem_cons_self, by rw [hf, z]⟩)
    have nF : a ∉ X.fs := fun hm => by
      obtain ⟨e, he, q⟩ := List.mem_filterMap.mp hm
      exact out (List.mem_filterMap.mpr ⟨e, List.mem_cons_of_mem _ he, q⟩)
    have inB : ∀ b o, sI.heap.get? b = some o → b ∉ frs (X.env :: X.outer) → b ≠ a := fun b o e hb z => by
      have y := nb b o e (by show b ∉ frs X.stack; rw [hs]; exact hb)
      rw [z, fl3.2.1] at y
      cases y
    have new : X.s_0.heap.get? a = none := by
      cases e : X.s_0.heap.get? a with
      | none => rfl
      | some o =>
        obtain ⟨o', e'⟩ := J.base.there a o e (by rw [hex]; exact List.not_mem_nil)
        exact absurd rfl (inB a o' e' out)
    have pne : ∀ p ∈ X.pn ++ pins, p.1 ≠ a := fun p hp => by
      obtain ⟨z1, _, z3, z4, _⟩ := J.pin p hp
      refine inB _ _ z1 fun hm => ?_
      obtain ⟨e, he, q⟩ := List.mem_filterMap.mp hm
      rcases List.mem_cons.mp he with he | he
      · rw [he, hf] at q
        exact z3 (Option.some.inj q).symm
      · exact z4 (List.mem_filterMap.mpr ⟨e, he, q⟩)
    have S3 := J3.suite g3 d3 na nL nF
    refine wpAny_handleBy_cons (codeAny_handlers_test ?_) (by intro q; cases q)
    refine ExT.run (X := X.suite a _) (by cases ht with | one n => exact .one n | many n l => exact .many n l) S3 (fun A Q E s k q => wpAny_typeOf_ref (k _ _ g3) (by rw [z3.1]; exact q)) hb1 fun h5 k5 => ?_
    have fl5 := fly_keeps fl3 k5
    have up5 : sI.heap.UpToSlots h5 := (up.trans up3).trans (Heap.UpToSlots.of_keeps k5)
    cases b with
    | true =>
      refine codeAny_handlers_suite_as (HandSPX.lands_againZ fl5 fun h4 fl4 up4 => ?_)
      obtain ⟨o4, v4, g4, z4, d4⟩ := fl4.there
      have J4 : Inv X pins σ' H' { s' with heap := h4 } := J.landed nb fl4.1 (up5.trans up4) os ag
      obtain ⟨C, dx, rfl, rfl, hy⟩ := hyes rfl
      refine store_ok (X := X.suite a ((a, o4) :: (X.pn ++ pins))) (v := .ref a) (J4.suite g4 d4 na nL nF) hN hi (.inl hln) rfl (fun s5 S5 => ?_) (.inr hln)
      refine wpAny_mono ((hsu a _).run [] s5 _ H' _ S5 (hy a na)) (fun f s6 hsp => ?_) (fun _ _ z => False.elim z)
      have fin : ∀ {σ6 : L2.St} {H6 : Hp} {Q : Shared → Prop}, Inv (X.suite a ((a, o4) :: (X.pn ++ pins))) [] σ6 H6 s6 → (∀ s7, Inv X pins (σ6.set i none) (upd H6 a (exk a C dx)) s7 → Q s7) →
          wpAny (model X.prog X.w) X.A (do bindName X.env n .none; unbindBehindTheSuite X.env n pos') (fun _ s7 => Q s7) X.xe s6 := fun S6 hq => gone_ok (keepSuite S6 ok) hN hi hln fun s7 J7 => hq s7 (absorb J7 pne new z4 d4)
      cases f with
      | ret u =>
        obtain ⟨v6, σ6, H6, S6, r6, q6⟩ := hsp
        exact fin S6 fun s7 J7 => ⟨_, _, _, J7, r6, q6⟩
      | _ =>
        obtain ⟨σ6, H6, S6, q6⟩ := hsp
        exact fin S6 fun s7 J7 => ⟨_, _, J7, q6⟩
    | false =>
      refine wpAny_handleBy_nil ?_
      obtain ⟨_, _, _, oe, vs, T0, oT, ts', he, hz, hd, h1, _⟩ := id fl5
      unfold PySem.passOn
      refine wpAny_bind (wpAny_field he hd h1 ?_)
      rw [if_neg (show ¬ ((Value.ref T0 == Value.none) = true) from by simp)]
      refine wpAny_bind ?_
      rw [hf]
      refine HandSPX.setFlight_upZ fl5 fun h4 hh4 up4 => wpAny_throw (tk _ _ ⟨a, B, sI, pins, σ', H', cls, d, rfl, J, nb, up5.trans up4, .inr (.inr ?_), na, os, ag, hno rfl⟩)
      rw [hs]
      exact hh4
  · cases f with
    | next =>
      obtain ⟨σ', H', J', q⟩ := hsp
      exact wpAny_execs_nil ⟨σ', H', J'.ofTry ok, q⟩
    | ret u =>
      obtain ⟨v, σ', H', J', r, q⟩ := hsp
      exact ⟨v, σ', H', J'.ofTry ok, r, q⟩
    | _ =>
      obtain ⟨σ', H', J', q⟩ := hsp
      exact ⟨σ', H', J'.ofTry ok, q⟩
end
end DL
/-! kept exceptions asked; what is raised, over data -/
namespace DL
open PySem L2 Z PySem.Spec PyProof.Rows
/-- what is known of the class of a kept exception -/
structure ExK (K : PySem.W.Frag) (C : Addr) : Prop where
  cl : (PySem.W.clsIn K C).isSome = true
  ga : PySem.W.findIn K (.ref C) "__getattribute__" = some (some (.builtin "BaseException.__getattribute__"))
  gt : PySem.W.findIn K (.ref C) "__getattr__" = some none
  ex : PySem.W.subIn K (.ref C) (.type "BaseException") = some true
  ca : PySem.W.findIn K (.ref C) "__class__" = some (some (.builtin "object.__class__"))
  dg : PySem.W.specialIn K (.builtin "object.__class__") "__get__" = some (some (.builtin "getset_descriptor.__get__"))
  tk : PySem.W.takesIn K (.builtin "object.__class__") = some true
  ob : PySem.W.mroIn K C (.type "object") = some true
  hd : PySem.W.hasDictIn K C = true
  nw : PySem.W.findIn K (.ref C) "what" = some none
section
variable {X : Cx} {pins : List (Addr × Obj)} {σ : L2.St} {H : Hp} {s : Shared} {a C dx : Addr} {fv : List (Str × V)}
theorem exk_at (I : Inv X pins σ H s) (ea : H a = some (exk a C dx)) (ed : H dx = some (.xd fv)) : ∃ ox od mA, PySem.W.InstAt s.heap a ox C (some od) ∧ s.heap.Ns1 dx mA ∧ (∀ f, RelO (fv.lookup f) (mA f)) ∧ s.heap.get? dx = some od := by
  obtain ⟨⟨o, vs, e1, e2, e3, e4⟩, _⟩ := (show ObjOk X.prog X.w H s.heap a (exk a C dx) from I.hok a _ ea)
  obtain ⟨mA, hn, hr⟩ := (show ObjOk X.prog X.w H s.heap dx (.xd fv) from I.hok dx _ ed)
  obtain ⟨od, es, ep, e5, e6⟩ := id hn
  refine ⟨o, od, mA, ⟨e1, e2, ?_, ?_⟩, hn, hr, e5⟩
  · unfold PySem.W.notCls
    rw [e4] <;> rfl
  · rw [e3]
    exact e5
/-- isinstance(e, c) of a kept exception -/
def rIsX (K : PySem.W.Frag) : List V → Hp → VK → Prop := fun xs H Q => ∃ (a C dx : Addr) (fv : List (Str × V)) (c : V) (u : Value) (b : Bool), xs = [.ref a, c] ∧ ClsV c u ∧ ExK K C ∧ H a = some (exk a C dx) ∧ H dx = some (.xd fv) ∧ PySem.W.kitOne K (.ref C) u = some b ∧ Q (.bl b) H
theorem call_isX : CallR X (.builtin "isinstance") (rIsX X.K) := by
  intro pins s σ H xs us Q I r h
  obtain ⟨a, C, dx, fv, c, u, b, rfl, k, T, ea, ed, e, q⟩ := h
  obtain ⟨u1, u2, rfl, r1, r2⟩ := vals2 r
  have := k.eq r2
  subst this
  cases (show u1 = Value.ref a from r1)
  obtain ⟨ox, od, mA, J, _⟩ := exk_at I ea ed
  exact PySem.W.kia_one (PySem.W.kitx_exc T.cl T.ga T.gt T.ex T.ca T.dg T.tk T.ob) I.kIn J e (fun z => nomatch z) fun tk => ⟨.bl b, H, I.tok tk, rfl, q⟩
def rIsXT (K : PySem.W.Frag) : List V → Hp → VK → Prop := fun xs H Q => ∃ (a C dx tp : Addr) (fv : List (Str × V)) (cs : List V) (us : List Value) (b : Bool), xs = [.ref a, .ref tp] ∧ H tp = some (.tup cs) ∧ Paired ClsV cs us ∧ ExK K C ∧ H a = some (exk a C dx) ∧ H dx = some (.xd fv) ∧ PySem.W.kitAny K (.ref C) us = some b ∧ Q (.bl b) H
theorem call_isXT : CallR X (.builtin "isinstance") (rIsXT X.K) := by
  intro pins s σ H xs us Q I r h
  obtain ⟨a, C, dx, tp, fv, cs, ws, b, rfl, hT, k, T, ea, ed, e, q⟩ := h
  obtain ⟨u1, u2, rfl, r1, r2⟩ := vals2 r
  cases (show u1 = Value.ref a from r1)
  cases (show u2 = Value.ref tp from r2)
  obtain ⟨ox, od, mA, J, _⟩ := exk_at I ea ed
  obtain ⟨_, its, rv, o, h1, h2, n, h3⟩ := (show ObjOk X.prog X.w H s.heap tp (.tup cs) from I.hok tp _ hT)
  have := ClsV.all k rv
  subst this
  obtain ⟨oc, od', dt, sl⟩ := o
  cases h2
  cases h3
  exact PySem.W.kia_tup (PySem.W.kitx_exc T.cl T.ga T.gt T.ex T.ca T.dg T.tk T.ob) I.kIn J h1 e (fun z => nomatch z) fun tk => ⟨.bl b, H, I.tok tk, rfl, q⟩
/-- e.what -/
def tWhat (K : PySem.W.Frag) (te : TE) : TE := fun σ H Q => te σ H fun x H1 => ∃ (a C dx : Addr) (fv : List (Str × V)) (v : V), x = .ref a ∧ ExK K C ∧ H1 a = some (exk a C dx) ∧ H1 dx = some (.xd fv) ∧ fv.lookup ("what" : Str) = some v ∧ Q v H1
theorem pe_what {e : Expr} {te : TE} {pos : Pos} (he : PE X e te) (hb : attributeBase e "what" X.env (eval e X.env) = eval e X.env := by rfl) : PE X (.Attribute e "what" pos) (tWhat X.K te) := by
  refine ⟨fun pins s σ H Q I h => attr_of hb (thn (he.run pins s σ H _ I h) fun u s1 hh => ?_)⟩
  obtain ⟨x, H1, I1, rx, a, C, dx, fv, v, rfl, T, ea, ed, l, q⟩ := hh
  cases (show u = Value.ref a from rx)
  obtain ⟨ox, od, mA, J, hn, hr, e5⟩ := exk_at I1 ea ed
  obtain ⟨od', e6, hl⟩ := lookIn_ns hn
  rw [e5] at e6
  cases e6
  obtain ⟨w, hw, rw'⟩ := RelO.some_of (v := v) (o := mA "what") (by rw [← l]; exact hr "what")
  exact HandSPX.exc_get I1.kIn J T.ga T.gt T.ex (PySem.W.findObj_own T.hd T.nw rfl (by rw [hl, hw])) (handed_of rw') ⟨v, H1, I1.tok _, rw', q⟩
end
/-! over data -/
section
variable {K : PySem.W.Frag} {n : Nat} {J : Jv n}
def excF (d : PyData) (k : Str → List (PyData × PyData) → Prop) : Prop := match d with
  | .dict ((.str c, .bool true) :: fs) => k c fs
  | _ => False
theorem excF_of {G : Hp} {v : V} {d : PyData} {k : Str → List (PyData × PyData) → Prop} (q : Dq K G v d) (h : excF d k) : ∃ a C dx c fv fs, v = .ref a ∧ PySem.W.nsIn K mainGlobals c = some (some (.ref C)) ∧ G a = some (exk a C dx) ∧ G dx = some (.xd fv) ∧ DqFs K G fv fs ∧ k c fs := by
  unfold excF at h
  split at h
  · cases q with
    | exc c h1 h2 r => exact ⟨_, _, _, _, _, _, rfl, c, h1, h2, r, h⟩
  · exact h.elim
def fIsX (tab : Str → Option Bool) (a : FE) : FE := fun ρ P => a ρ fun d ρ1 => excF d fun c _ => ∃ b, tab c = some b ∧ P (.bool b) ρ1
theorem re_isX {tab : Str → Option Bool} {cv : V} {u : Value} {ta : TE} {a : FE} (hc : ClsV cv u) (ht : ∀ c C b, tab c = some b → PySem.W.nsIn K mainGlobals c = some (some (.ref C)) → ExK K C ∧ PySem.W.kitOne K (.ref C) u = some b) (ha : RE K J ta a) :
    RE K J (tCB (rIsX K) (tCons ta (tCons (tC cv) tNil))) (fIsX tab a) := by
  intro O as σ H Q ρ P E q k
  refine ha O as σ H _ ρ _ E q fun d ρ1 v H1 q1 f1 E1 d1 => ?_
  obtain ⟨p, C, dx, c, fv, fs, rfl, hn, h1, h2, _, b, e, q1⟩ := excF_of d1 q1
  obtain ⟨T, e'⟩ := ht c C b e hn
  exact ⟨p, C, dx, fv, cv, u, b, rfl, hc, T, (hp_some h1).2, (hp_some h2).2, e', k _ _ _ _ q1 f1 E1 (.bl _)⟩
@[reducible] def taC : List V → TA
  | [] => tNil
  | c :: r => tCons (tC c) (taC r)
theorem taC_run {σ : L2.St} {H : Hp} : ∀ {cs : List V} {Q : List V → Hp → Prop}, Q cs H → taC cs σ H Q
  | [], _, q => q
  | _ :: r, Q, q => taC_run (cs := r) (Q := fun xs H2 => Q (_ :: xs) H2) q
theorem re_isXT {tab : Str → Option Bool} {cs : List V} {us : List Value} {ta : TE} {a : FE} (hc : Paired ClsV cs us) (hl : cs.length ≤ sizeLine) (ht : ∀ c C b, tab c = some b → PySem.W.nsIn K mainGlobals c = some (some (.ref C)) → ExK K C ∧ PySem.W.kitAny K (.ref C) us = some b) (ha : RE K J ta a) :
    RE K J (tCB (rIsXT K) (tCons ta (tCons (tTup (taC cs)) tNil))) (fIsX tab a) := by
  intro O as σ H Q ρ P E q k
  refine ha O as σ H _ ρ _ E q fun d ρ1 v H1 q1 f1 E1 d1 => ?_
  refine taC_run ⟨hl, fun T hT => ?_⟩
  have s := Same.new (o := .tup cs) hT
  obtain ⟨p, C, dx, c, fv, fs, rfl, hn, h1, h2, _, b, e, q1⟩ := excF_of (d1.mono (hp_grow s)) q1
  obtain ⟨T', e'⟩ := ht c C b e hn
  exact ⟨p, C, dx, T, fv, cs, us, b, rfl, upd_same, hc, T', (hp_some h1).2, (hp_some h2).2, e', k _ _ _ _ q1 (f1.trans (FrA.of s)) (E1.grow s) (.bl _)⟩
def fWhat (L : List Str) (a : FE) : FE := fun ρ P => a ρ fun d ρ1 => excF d fun c fs => c ∈ L ∧ ∃ w, fldD "what" fs = some w ∧ P w ρ1
theorem re_what {L : List Str} {ta : TE} {a : FE} (ht : ∀ c C, c ∈ L → PySem.W.nsIn K mainGlobals c = some (some (.ref C)) → ExK K C) (ha : RE K J ta a) : RE K J (tWhat K ta) (fWhat L a) := by
  intro O as σ H Q ρ P E q k
  refine ha O as σ H _ ρ _ E q fun d ρ1 v H1 q1 f1 E1 d1 => ?_
  obtain ⟨p, C, dx, c, fv, fs, rfl, hn, h1, h2, r, hL, w, e, q1⟩ := excF_of d1 q1
  obtain ⟨x, hx, dq⟩ := r.get e
  exact ⟨p, C, dx, fv, x, rfl, ht c C hL hn, (hp_some h1).2, (hp_some h2).2, hx, k _ _ _ _ q1 f1 E1 dq⟩
/-- an exception, raised: its class, its dict, as data -/
def XcAt (K : PySem.W.Frag) (G : Hp) (cls : Value) (dd : Option Addr) (d : PyData) : Prop := ∃ (c : Str) (C dx : Addr) (fv : List (Str × V)) (fs : List (PyData × PyData)), d = .dict ((.str c, .bool true) :: fs) ∧ cls = .ref C ∧ dd = some dx ∧ PySem.W.nsIn K mainGlobals c = some (some (.ref C)) ∧ G dx = some (.xd fv) ∧ DqFs K G fv fs
theorem XcAt.mono {G G' : Hp} {cls : Value} {dd : Option Addr} {d : PyData} (x : XcAt K G cls dd d) (s : Same G G') : XcAt K G' cls dd d := by
  obtain ⟨c, C, dx, fv, fs, e1, e2, e3, e4, e5, r⟩ := x
  exact ⟨c, C, dx, fv, fs, e1, e2, e3, e4, s _ _ e5, DqFs.mono s r⟩
/-- a wish over data carries the wish -/
def Lk (K : PySem.W.Frag) {n : Nat} (J : Jv n) (X : PyData → En → Prop) (W : WX) : Prop := ∀ (O : Addr → Prop) (as : Nat → Option Addr) (σ : L2.St) (H : Hp) (ρ : En) (cls : Value) (dd : Option Addr) (d : PyData), EnR K J O as H ρ σ → XcAt K (hp (Hid O as) H) cls dd d → X d ρ → W cls dd σ H
theorem Lk.le {J' : Jv n} {X : PyData → En → Prop} {W : WX} (l : Lk K J X W) (h : J'.le J) : Lk K J' X W := fun O as σ H ρ cls dd d E => l O as σ H ρ cls dd d (E.reJ (h.1 _ _ E.inv) (h.2 _ E.inq))
def excD (c : Str) (w : PyData) : PyData := .dict [(.str c, .bool true), (.str "what", w)]
def fRaise (c : Str) (a : FE) (X : PyData → En → Prop) : FS := fun _ ρ => a ρ fun d ρ1 => X (excD c d) ρ1
theorem rs_raise {c : Str} {C : Addr} {te : TE} {a : FE} {X : PyData → En → Prop} {W : WX} (hn : PySem.W.nsIn K mainGlobals c = some (some (.ref C))) (l : Lk K J X W) (ha : RE K J te a) : RS K J (fun _ σ H => tMkB C te σ H fun cls d H' => W cls d σ H') (fRaise c a X) := by
  intro O as σ H D ρ E R q C'
  refine ha O as σ H _ ρ _ R q fun d ρ1 v H1 q1 f1 E1 d1 => fun dx hdx => ?_
  have s := Same.new (o := .xd [("what", v)]) hdx
  exact l O as σ _ ρ1 _ _ _ (E1.grow s) ⟨c, C, dx, _, _, rfl, rfl, rfl, hn, hp_mk (E1.fresh hdx) upd_same, .cons (d1.mono (hp_grow s)) .nil⟩ q1
end
end DL
/-! defs that raise, over data; try -/
namespace DL
open PySem L2 Z PySem.Spec PyProof.Rows
abbrev FX := List Sl → (PyData → List Sl → Prop) → (PyData → List Sl → Prop) → Prop
def spX (K : PySem.W.Frag) (n : Nat) (F : FX) : Sp := fun vs H Q E => vs.length = n ∧ ∃ (O : Addr → Prop) (as : Nat → Option Addr) (ρ : En) (P X : PyData → List Sl → Prop), EnR K (J0 : Jv 0) O as H ρ (vs.map some) ∧ F ρ P X ∧
  (∀ d out v H', P d out → FrA (Own as) H H' → (∀ i a, as i = some a → ∃ ds xs, out[i]? = some (.own ds) ∧ H' a = some (.lst xs) ∧ DqAll K (hp (Hid O as) H') xs ds) → Dq K (hp (Hid O as) H') v d → Q v H') ∧
  ∀ d out cls dd H', X d out → FrA (Own as) H H' → (∀ i a, as i = some a → ∃ ds xs, out[i]? = some (.own ds) ∧ H' a = some (.lst xs) ∧ DqAll K (hp (Hid O as) H') xs ds) → XcAt K (hp (Hid O as) H') cls dd d → E cls dd H'
def fnX (n m : Nat) (b : (PyData → En → Prop) → FS) : FX := fun sls P X => b (fun d ρ' => X d (ρ'.take n)) { nx := fun ρ' => P .none (ρ'.take n), rt := fun d ρ' => P d (ρ'.take n) } (sls ++ List.replicate (m - n) .no)
section
variable {K : PySem.W.Frag} {n : Nat} {J : Jv n}
theorem EnR.sub {O O2 : Addr → Prop} {as : Nat → Option Addr} {H : Hp} {ρ : En} {σ : L2.St} (E : EnR K J O2 as H ρ σ) (h : ∀ a, O a → O2 a) (hq : J.Q O) : EnR K J O as H ρ σ :=
  ⟨E.len, fun i sl o h1 h2 => (E.at_ i sl o h1 h2).mono (hp_less fun a z => z.imp (h a) id) fun _ _ => rfl, E.inj, fun i a e q => E.out i a e (h a q), E.bnd, fun a q => E.occ a (h a q), E.inv, hq⟩
theorem Car.le {J' : Jv n} {O : Addr → Prop} {as : Nat → Option Addr} {H : Hp} {E : FEnds} {D : Ends} (C : Car K J O as H E D) (h : J'.le J) : Car K J' O as H E D :=
  ⟨fun ρ' as' σ' H' p x R => C.nx ρ' as' σ' H' p x (R.reJ (h.1 _ _ R.inv) (h.2 _ R.inq)), fun d ρ' v as' σ' H' p x R => C.rt d ρ' v as' σ' H' p x (R.reJ (h.1 _ _ R.inv) (h.2 _ R.inq)), fun ρ' as' σ' H' p x R => C.bk ρ' as' σ' H' p x (R.reJ (h.1 _ _ R.inv) (h.2 _ R.inq)),
    fun ρ' as' σ' H' p x R => C.ct ρ' as' σ' H' p x (R.reJ (h.1 _ _ R.inv) (h.2 _ R.inq)), fun ds ρ' p xs as' σ' H' q x o R => C.ro ds ρ' p xs as' σ' H' q x o (R.reJ (h.1 _ _ R.inv) (h.2 _ R.inq))⟩
theorem lkF {W : WX} : Lk K J (fun _ _ => False) W := fun _ _ _ _ _ _ _ _ _ _ h => h.elim
/-- the body of a def that raises -/
theorem fn_coreX {ps : List Str} {N : List Str} {b : (PyData → En → Prop) → FS} {t : WX → TS} (rs : ∀ (J : Jv ps.length) (X : PyData → En → Prop) (W : WX), Lk K J X W → RS K J (t W) (b X)) {vs : List V} {H : Hp} {Q : VK} {E : XK} (h : spX K ps.length (fnX ps.length N.length b) vs H Q E) :
    t (fun cls d _ H => E cls d H) { nx := fun _ H' => Q .non H', rt := Q } (L2.start N vs) H := by
  obtain ⟨hv, O, as, ρ, P, X, R, hF, q, qx⟩ := h
  have few : ∀ i a, as i = some a → i < ps.length := fun i a h => by have := R.bnd i a h; have := R.len; rw [List.length_map] at this; omega
  have less : ∀ {O' : Addr → Prop} {as' : Nat → Option Addr} {H' : Hp}, (∀ a, O a → O' a) → Ext ps.length as as' H H' → Same (hp (Hid O' as') H') (hp (Hid O as) H') := fun hO x => hp_less fun c hc => by
    rcases hc with hc | ⟨j, hc⟩
    · exact .inl (hO c hc)
    · exact .inr ⟨j, by rw [x.fix j (few j c hc)]; exact hc⟩
  have own : ∀ {O' : Addr → Prop} {ρ' : En} {as' : Nat → Option Addr} {σ' : L2.St} {H' : Hp}, (∀ a, O a → O' a) → Ext ps.length as as' H H' → EnR K (Jst ps.length O as H) O' as' H' ρ' σ' → ∀ i a, as i = some a → ∃ ds xs, (ρ'.take ps.length)[i]? = some (.own ds) ∧ H' a = some (.lst xs) ∧ DqAll K (hp (Hid O as) H') xs ds := by
    intro O' ρ' as' σ' H' hO x R' i a h
    have h' : as' i = some a := by rw [x.fix i (few i a h)]; exact h
    obtain ⟨ds, xs, e1, _, e3, e4⟩ := R'.is_own h'
    exact ⟨ds, xs, by rw [List.getElem?_take, if_pos (few i a h)]; exact e1, e3, e4.mono (less hO x)⟩
  refine rs (Jst ps.length O as H) (fun d ρ' => X d (ρ'.take ps.length)) _ (fun O' as' σ' H' ρ' cls dd d R' xc hx => ?_) O as _ H _ _ _ ((R.start N hv).reJ Ext.refl fun _ h => h) hF ⟨fun ρ' as' σ' H' p x R' => ?_, fun d ρ' v as' σ' H' p x R' dv => ?_, fun _ _ _ _ p => p.elim, fun _ _ _ _ p => p.elim, fun _ _ _ _ _ _ _ p => p.elim⟩
  · exact qx d _ cls dd H' hx R'.inv.fr (own R'.inq R'.inv R') (xc.mono (less R'.inq R'.inv))
  · exact q _ _ _ _ p x.fr (own (fun _ h => h) x R') .non
  · exact q _ _ _ _ p x.fr (own (fun _ h => h) x R') (dv.mono (less (fun _ h => h) x))
/-- a call that may raise -/
theorem call_coreX {O : Addr → Prop} {as : Nat → Option Addr} {H : Hp} {ρ : En} {σ : L2.St} {xs : List Ar} {r : List Sl} {vs : List V} {m : Nat} {F : FX} {P X : PyData → En → Prop} {Q : VK} {W : WX} (E : EnR K J O as H ρ σ) (fit : Fits ρ xs r) (ar : ArsR K (hp (Hid O as) H) as vs xs) (hm : xs.length = m) (nd : (ownIx xs).Nodup)
    (f : F r (fun d out => P d (wb ρ xs out)) fun d out => X d (wb ρ xs out)) (l : Lk K J X W) (k : ∀ d ρ' v H', P d ρ' → FrA (Own as) H H' → EnR K J O as H' ρ' σ → Dq K (hp (Hid O as) H') v d → Q v H') : spX K m F vs H Q (WE W σ) := by
  have sub : ∀ a, Own (adrs as xs) a → Own as a := fun a ⟨j, h⟩ => by
    obtain ⟨i, _, h⟩ := adrs_own h
    exact ⟨i, h⟩
  have hid : ∀ a, Hid (fun a => Hid O as a ∧ ¬ Own (adrs as xs) a) (adrs as xs) a ↔ Hid O as a := fun a => by
    constructor
    · rintro (h | h)
      · exact h.1
      · exact .inr (sub a h)
    · intro h
      by_cases q : Own (adrs as xs) a
      · exact .inr q
      · exact .inl ⟨h, q⟩
  have s1 : ∀ H', Same (hp (Hid O as) H') (hp (Hid (fun a => Hid O as a ∧ ¬ Own (adrs as xs) a) (adrs as xs)) H') := fun H' => hp_less fun a h => (hid a).mp h
  have s2 : ∀ H', Same (hp (Hid (fun a => Hid O as a ∧ ¬ Own (adrs as xs) a) (adrs as xs)) H') (hp (Hid O as) H') := fun H' => hp_less fun a h => (hid a).mpr h
  have back : ∀ {out : List Sl} {H' : Hp}, FrA (Own (adrs as xs)) H H' → (∀ i a, adrs as xs i = some a → ∃ ds ys, out[i]? = some (.own ds) ∧ H' a = some (.lst ys) ∧ DqAll K (hp (Hid (fun a => Hid O as a ∧ ¬ Own (adrs as xs) a) (adrs as xs)) H') ys ds) → EnR K J O as H' (wb ρ xs out) σ := by
    intro out H' fr ow
    have fr' : FrA (Own as) H H' := fr.up sub
    refine ⟨by rw [wb_len]; exact E.len, fun i sl o h1 h2 => ?_, E.inj, E.out, fun i a h => by rw [wb_len]; exact E.bnd i a h, fun a h => ?_, J.fr E.inv fr', E.inq⟩
    · by_cases q : i ∈ ownIx xs
      · obtain ⟨j, e⟩ := ownIx_mem q
        have hi : i < ρ.length := by
          have := (List.getElem?_eq_some_iff.mp h1).1
          rw [wb_len] at this
          exact this
        obtain ⟨a, ha⟩ := ar.own_at e
        have hadr : adrs as xs j = some a := by unfold adrs; rw [e]; exact ha
        obtain ⟨ds, ys, e1, e2, e3⟩ := ow j a hadr
        rw [wb_own ρ hi nd e e1] at h1
        cases h1
        obtain ⟨_, _, _, e4, _⟩ := E.is_own ha
        rw [e4] at h2
        cases h2
        rw [ha]
        exact .own e2 (e3.mono (s2 H'))
      · rw [wb_other ρ xs out q] at h1
        refine (E.at_ i sl o h1 h2).mono (hp_fr fr' own_hid) fun b hb => ?_
        obtain ⟨_, _, _, _, e, _⟩ := E.is_own hb
        rw [e]
        refine fr _ _ (fun z => ?_) e
        obtain ⟨j, z⟩ := z
        obtain ⟨i', e', h'⟩ := adrs_own z
        rw [E.inj i' i b h' hb] at e'
        exact q (mem_ownIx e')
    · obtain ⟨o, e⟩ := Option.ne_none_iff_exists'.mp (E.occ a h)
      rw [fr' a o (fun ⟨i, z⟩ => E.out i a z h) e]
      exact Option.some_ne_none _
  refine ⟨by rw [ar.len, hm], fun a => Hid O as a ∧ ¬ Own (adrs as xs) a, adrs as xs, r, _, _, ⟨by rw [List.length_map, fit.len, ar.len], fun j sl o h1 h2 => fits_at E (s1 H) fit ar h1 h2, fun j1 j2 a h1 h2 => ?_, fun j a h q => q.2 ⟨j, h⟩, fun j a h => ?_, fun a h => E.full h.1, trivial, trivial⟩, f, fun d out v H' p fr ow dv => ?_, fun d out cls dd H' p fr ow xc => ?_⟩
  · obtain ⟨i1, e1, h1⟩ := adrs_own h1
    obtain ⟨i2, e2, h2⟩ := adrs_own h2
    rw [E.inj i1 i2 a h1 h2] at e1
    exact ownIx_inj nd e1 e2
  · obtain ⟨i, e, _⟩ := adrs_own h
    rw [fit.len]
    exact (List.getElem?_eq_some_iff.mp e).1
  · exact k d _ v H' p (fr.up sub) (back fr ow) (dv.mono (s2 H'))
  · exact l O as σ H' _ cls dd d (back fr ow) (xc.mono (s2 H')) p
def fCallX (m : Nat) (F : FX) (dv : List PyData) (X : PyData → En → Prop) (a : FC) : FE := fun ρ P => a ρ fun xs ρ1 => xs.length + dv.length = m ∧ (ownIx xs).Nodup ∧ argF ρ1 xs fun r => F (r ++ dv.map .fz) (fun d out => P d (wb ρ1 xs out)) fun d out => X d (wb ρ1 xs out)
theorem re_callX {m : Nat} {F : FX} {dvs : List V} {dv : List PyData} {X : PyData → En → Prop} {W : WX} {t : TA} {f : FC} (l : Lk K J X W) (hd : ∀ H, DqAll K H dvs dv) (ha : RC K J t f) : RE K J (tCallSD (spX K m F) dvs (WE W) t) (fCallX m F dv X f) := by
  intro O as σ H Q ρ P E q k
  refine ha O as σ H _ ρ _ E q fun xs ρ1 vs H1 q1 f1 E1 d1 => ?_
  obtain ⟨hm, nd, q1⟩ := q1
  obtain ⟨r, fit, q1⟩ := argF_of q1
  refine call_coreX (xs := xs ++ dv.map .dat) E1 (fit.app (fits_dat dv)) (d1.app (dat_ars (hd _))) (by rw [List.length_append, List.length_map]; exact hm) (by rw [ownIx_app]; exact nd) ?_ l fun d ρ' v H' p fr E' q' => k d ρ' v H' p (f1.trans fr) E' q'
  simp only [wb_app]
  exact q1
/-- try: body except T as i: j = i -/
def fTryK (i j : Nat) (tab : Str → Option Bool) (X : PyData → En → Prop) (b : (PyData → En → Prop) → FS) : FS := fun E ρ => b (fun d ρ' => excF d fun c _ => ∃ k, tab c = some k ∧ if k = true then slotF ρ' i = true ∧ slotF (ρ'.set i .no) j = true ∧ E.nx ((ρ'.set i .no).set j (.fz d)) else X d ρ') E ρ
theorem rs_tryK {i j : Nat} {tab : Str → Option Bool} {cs : List Value} {X : PyData → En → Prop} {Wout : WX} {tb : WX → TS} {b : (PyData → En → Prop) → FS} (hij : i ≠ j) (l : Lk K J X Wout) (ht : ∀ c C k, tab c = some k → PySem.W.nsIn K mainGlobals c = some (some (.ref C)) → PySem.W.exmAny K (.ref C) cs = some k)
    (hb : ∀ (J' : Jv n) (X' : PyData → En → Prop) (W' : WX), J'.le J → Lk K J' X' W' → RS K J' (tb W') (b X')) : RS K J (fun D σ H => tb (wKeep K cs i (fun _ => tAsg (tVar i) (gName j)) Wout D) D σ H) (fTryK i j tab X b) := by
  intro O as σ H D ρ E R f C
  have le : (J.and (Jst n O as H)).le J := ⟨fun _ _ h => h.1, fun _ h => h.1⟩
  refine hb (J.and (Jst n O as H)) _ _ le (fun O2 as2 σ2 H2 ρ2 cls dd d E2 xc x2 => ?_) O as σ H D ρ E (R.reJ ⟨R.inv, Ext.refl⟩ ⟨R.inq, fun _ h => h⟩) f (C.le le)
  obtain ⟨c, Cc, dx, fv, fs, rfl, rfl, rfl, hn, hd, r⟩ := xc
  obtain ⟨k, ek, x2⟩ := x2
  refine ⟨k, ht c Cc k ek hn, fun hk => ?_, fun hk => ?_⟩
  · rw [if_pos hk] at x2
    obtain ⟨s1, s2, nx⟩ := x2
    refine ⟨Cc, dx, rfl, rfl, fun a ha => ?_⟩
    have s := Same.new (o := exk a Cc dx) ha
    have E3 : EnR K J O as2 H2 ρ2 σ2 := (E2.reJ (E2.inv.1) (E2.inq.1)).sub E2.inq.2 R.inq
    have nh := E3.fresh ha
    have gs : Same (hp (Hid O2 as2) H2) (hp (Hid O as2) (upd H2 a (exk a Cc dx))) := fun b o e => hp_mk (fun z => (hp_some e).1 (z.imp (E2.inq.2 b) id)) (s _ _ (hp_some e).2)
    have dq : Dq K (hp (Hid O as2) (upd H2 a (exk a Cc dx))) (.ref a) (.dict ((.str c, .bool true) :: fs)) := .exc hn (hp_mk nh upd_same) (gs _ _ hd) (DqFs.mono gs r)
    have E4 := ((E3.grow s).setNo s1 none).setFz s2 dq
    have hi : i < σ2.length := by
      obtain ⟨sl, e, _⟩ := slotF_of s1
      rw [← E3.len]
      exact (List.getElem?_eq_some_iff.mp e).1
    refine ⟨.ref a, by rw [List.getElem?_set_self hi], ?_⟩
    show D.nx (((σ2.set i (some (.ref a))).set j (some (.ref a))).set i none) _
    rw [List.set_comm _ _ (Ne.symm hij), List.set_set]
    exact C.nx _ _ _ _ nx (E2.inv.2.trans (.of (FrA.of s))) E4
  · rw [hk, if_neg (by decide)] at x2
    exact l O2 as2 σ2 H2 ρ2 _ _ _ (E2.reJ E2.inv.1 E2.inq.1) ⟨c, Cc, dx, fv, fs, rfl, rfl, rfl, hn, hd, r⟩ x2
end
end DL
/-! defs that raise: the promise; calls by keywords -/
namespace DL
open PySem L2 Z PySem.Spec PyProof.Rows
section
variable {P : Program} {w : World} {K : PySem.W.Frag} {mg : Str → Option Value} {base : Heap} {k : Nat} {f : Addr} {fd : FuncData} {ps : List Str} {x qual : Str} {st : Stmt} {N : List Str} {b : (PyData → En → Prop) → FS}
theorem okX0 (F : Fun K x qual st f fd) (S : FnScope N ps (defScope st))
    (body : ∀ (cdv : Value) (A : Around) (outer : List Env) (s : Shared) (H : Hp) (E : XK), Room k (A.deeper (envOfC qual (defScope st) s.heap.objs.size f cdv)) →
      ∃ t : WX → TS, (∀ W, Takes (cxOf (L2.CX P w) P w K mg base N qual (defScope st) f cdv A outer s H E) W → PSs (cxOf (L2.CX P w) P w K mg base N qual (defScope st) f cdv A outer s H E) (defBody st) (t W)) ∧ ∀ (J : Jv ps.length) (X : PyData → En → Prop) (W : WX), Lk K J X W → RS K J (t W) (b X)) :
    FnOk P w K mg base (L2.CX P w) (k + 1) f fd ps (spX K ps.length (fnX ps.length N.length b)) := by
  refine F.okX S (fun vs H Q E h => h.1) (fun cdv A outer s H vs Q E hr h => ?_)
  obtain ⟨t, pt, rs⟩ := body cdv A outer s H E hr
  exact ⟨_, pt _ (takes_of (E := E) rfl rfl rfl rfl), fn_coreX rs h⟩
theorem okXD {params : Arguments} {bd : List Stmt} {scope : Scope} {dvs : List V} {kws : List (Str × V)} (F : FunD K x qual params bd scope dvs kws f fd) (S : FnScope N ps scope)
    (body : ∀ (cdv : Value) (A : Around) (outer : List Env) (s : Shared) (H : Hp) (E : XK), Room k (A.deeper (envOfC qual scope s.heap.objs.size f cdv)) →
      ∃ t : WX → TS, (∀ W, Takes (cxOf (L2.CX P w) P w K mg base N qual scope f cdv A outer s H E) W → PSs (cxOf (L2.CX P w) P w K mg base N qual scope f cdv A outer s H E) bd (t W)) ∧ ∀ (J : Jv ps.length) (X : PyData → En → Prop) (W : WX), Lk K J X W → RS K J (t W) (b X)) :
    FnOk P w K mg base (L2.CX P w) (k + 1) f fd ps (spX K ps.length (fnX ps.length N.length b)) := by
  refine F.ok S (fun vs H Q E h => h.1) (fun cdv A outer s H vs Q E hr h => ?_)
  obtain ⟨t, pt, rs⟩ := body cdv A outer s H E hr
  exact ⟨_, pt _ (takes_of (E := E) rfl rfl rfl rfl), fn_coreX rs h⟩
/-- a def that raises is passed by its own context -/
theorem passX {cdv : Value} {A : Around} {outer : List Env} {s : Shared} {H : Hp} {E : XK} {scope : Scope} : PassesOwn (model P w) (cxOf (L2.CX P w) P w K mg base N qual scope f cdv A outer s H E).A (cxOf (L2.CX P w) P w K mg base N qual scope f cdv A outer s H E).env (cxOf (L2.CX P w) P w K mg base N qual scope f cdv A outer s H E).xe :=
  passes_of (X := cxOf (L2.CX P w) P w K mg base N qual scope f cdv A outer s H E) rfl
end
/-! the call with keywords, where it may raise -/
def tCallNS (n m : Nat) (sp : Sp) (gV : List V → List V → List V) (E : L2.St → XK) (t tk : TA) : TE := fun σ H Q => t σ H fun vs H1 => tk σ H1 fun zs H2 => vs.length = n ∧ zs.length = m ∧ sp (gV vs zs) H2 Q (E σ)
section
variable {X : Cx} {CX : CXT} {k n : Nat} {f : Addr} {fd : FuncData} {ps ks : List Str} {sp : Sp} {E : L2.St → XK} {x : Str} {p pos : Pos} {e : Expr} {es : List Expr} {kws : List Keyword} {t tk : TA} {g : List Value → List Value → List Value} {gV : List V → List V → List V}
theorem pe_callNS (F : FnOk X.prog X.w X.K X.mg X.base CX k f fd ps sp) (hr : Room k X.A) (hg : Gl X x) (hm : X.mg x = some (.ref f)) (hk : PySem.W.keepIn X.K (.ref f) = true) (hb : KBn X.K fd ps n ks g gV) (hx : ∀ σ, PassesAt CX X σ (E σ))
    (ha : PA X (e :: es) t) (hkw : PK X kws tk) (hall : (backToKw pos (keywordEach kws X.env)).all (·.1.isSome) = true := by rfl) (hks : (backToKw pos (keywordEach kws X.env)).filterMap (·.1) = ks := by rfl)
    (hdb : (x == ("__debug__" : Str)) = false := by decide) (he : starEach (e :: es) X.env = (false, eval e X.env) :: starEach es X.env := by rfl)
    (hpl : ((backTo pos (starEach (e :: es) X.env)).any (·.1) || (backToKw pos (keywordEach kws X.env)).any (·.1.isNone)) = false := by rfl) :
    PE X (.Call (.Name x p) (e :: es) kws pos) (tCallNS n ks.length sp gV E t tk) := by
  refine ⟨fun pins s σ H Q I h => wpAny_Call_Name_kw (ld_glob I hg hm ?_ hdb)⟩
  refine PySem.W.callWith_KW (h₀ := X.base) I.ok.mod.kin hk hall (thn (ha.run pos pins s σ H _ I h) fun us s1 hh => ?_) hpl he
  obtain ⟨vs, H1, I1, r, q⟩ := hh
  refine thn (hkw.run pos pins s1 σ H1 _ I1 q) fun ws s2 hh => ?_
  obtain ⟨zs, H2, I2, rz, l1, l2, q2⟩ := hh
  rw [hks]
  refine ⟨I2.kIn, wpAny_call (codeAny_mono (F.run X.A X.stack s2 H2 ⟨us, ks.zip ws⟩ (g us ws) (gV vs zs) Q (E σ) hr I2.env0 (hb.to s2 us ws I2.kIn (r.length.symm.trans l1) (rz.length.symm.trans l2)) (hb.rel r rz) q2) fun y s' hq => ?_)⟩
  cases y with
  | error er => exact hx σ pins H2 s2 er s' I2 hq
  | ok fl =>
    cases fl with
    | ret u => exact I2.after hq
    | _ => exact False.elim hq
end
section
variable {K : PySem.W.Frag} {n : Nat} {J : Jv n}
def fCallNX (F : FX) (n m : Nat) (gD : List PyData → List PyData → List PyData) (X : PyData → En → Prop) (f fk : FA) : FE := fun ρ P => f ρ fun ds ρ1 => fk ρ1 fun es ρ2 => ds.length = n ∧ es.length = m ∧ F ((gD ds es).map .fz) (fun d _ => P d ρ2) fun d _ => X d ρ2
theorem re_callNX {l n m : Nat} {F : FX} {gV : List V → List V → List V} {gD : List PyData → List PyData → List PyData} {X : PyData → En → Prop} {W : WX} {t tk : TA} {f fk : FA} (lk : Lk K J X W)
    (hl : ∀ ds es : List PyData, ds.length = n → es.length = m → (gD ds es).length = l)
    (hg : ∀ (vs zs : List V) (ds es : List PyData) (H : Hp), DqAll K H vs ds → DqAll K H zs es → DqAll K H (gV vs zs) (gD ds es)) (ha : RA K J t f) (hk : RA K J tk fk) : RE K J (tCallNS n m (spX K l F) gV (WE W) t tk) (fCallNX F n m gD X f fk) := by
  intro O as σ H Q ρ P E q k
  refine ha O as σ H _ ρ _ E q fun ds ρ1 vs H1 q1 f1 E1 d1 => ?_
  refine hk O as σ H1 _ ρ1 _ E1 q1 fun es ρ2 zs H2 q2 f2 E2 d2 => ?_
  obtain ⟨l1, l2, q2⟩ := q2
  refine ⟨by rw [d1.length]; exact l1, by rw [d2.length]; exact l2, ?_⟩
  refine call_coreX (xs := (gD ds es).map .dat) E2 (fits_dat _) (dat_ars (hg _ _ _ _ _ (d1.fr f2) d2)) (by rw [List.length_map]; exact hl _ _ l1 l2) (by rw [ownIx_dat]; exact .nil) ?_ lk fun d ρ' v H' p fr E' q' => k d ρ' v H' p ((f1.trans f2).trans fr) E' q'
  simp only [wb_dat]
  exact q2
/-- a def that raises, where it doesn't -/
def noX (F : FX) : FN := fun ss P => F ss P fun _ _ => False
theorem noX_of {m : Nat} {F : FX} {vs : List V} {H : Hp} {Q : VK} {E : XK} (h : spF K m (noX F) vs H Q E) : spX K m F vs H Q E := by
  obtain ⟨hv, O, as, ρ, P, R, hF, q⟩ := h
  exact ⟨hv, O, as, ρ, P, _, R, hF, q, fun _ _ _ _ _ z => z.elim⟩
end
/-! is True, is False -/
theorem op_isB {X : Cx} : OpR X (compareOp .Is) (fun x y H Q => ∃ b, y = .bl b ∧ (∀ n, x ≠ .ty n) ∧ Q (.bl (decide (x = .bl b))) H) := by
  intro pins s σ H x y v u Q I rx ry h
  obtain ⟨b, rfl, nt, q⟩ := h
  cases ry
  have key : ∀ c : Bool, decide (x = V.bl b) = c → wpAny (model X.prog X.w) X.A (pure (.bool c)) (EP X pins σ Q) X.xe s := fun c e => wpAny_pure ⟨.bl c, H, I, rfl, by rw [← e]; exact q⟩
  cases x with
  | non => cases rx; exact key false rfl
  | bl c => cases rx; cases c <;> cases b <;> first | exact key true rfl | exact key false rfl
  | int i => obtain ⟨t, rfl⟩ := rx; exact key false rfl
  | str i => obtain ⟨t, rfl⟩ := rx; exact key false rfl
  | byt i => obtain ⟨t, rfl⟩ := rx; exact key false rfl
  | flt i => obtain ⟨t, rfl⟩ := rx; exact key false rfl
  | ref a => cases rx; exact key false rfl
  | ty n => exact absurd rfl (nt n)
def isBool (b : Bool) : PyData → Bool
  | .bool c => c == b
  | _ => false
def oIsT : G2 := fun a d P => match d with
  | .bool b => P (.bool (isBool b a))
  | _ => False
section
variable {K : PySem.W.Frag}
theorem rr_isB : RR K (fun x y H Q => ∃ b, y = .bl b ∧ (∀ n, x ≠ .ty n) ∧ Q (.bl (decide (x = .bl b))) H) oIsT := by
  intro A H Q x y a c P oc da db g k
  unfold oIsT at g
  split at g
  · next b =>
    cases db
    refine ⟨b, rfl, fun n => ?_, ?_⟩
    · cases da <;> exact fun z => nomatch z
    · have e : decide (x = V.bl b) = isBool b a := by
        cases da <;> first | rfl | (next z => cases z <;> cases b <;> rfl)
      rw [e]
      exact k _ _ _ g (Same.refl _) (.bl _)
  · exact g.elim
end
/-! what the printed texts use -/
theorem names_nil {X : Cx} : ∀ q ∈ ([] : List (Str × Pos × Value)), Names X q.1 q.2.2 := fun _ h => by cases h
theorem names_cons {X : Cx} {x : Str} {p : Pos} {c : Value} {r : List (Str × Pos × Value)} (h : Names X x c) (t : ∀ q ∈ r, Names X q.1 q.2.2) : ∀ q ∈ (x, p, c) :: r, Names X q.1 q.2.2 := fun q hq => by
  rcases List.mem_cons.mp hq with rfl | hq
  · exact h
  · exact t q hq
def tabL : List (Str × Bool) → Str → Option Bool
  | [], _ => none
  | (x, b) :: r, c => if c = x then some b else tabL r c
section
variable {K : PySem.W.Frag} {p : Addr → Bool → Prop}
theorem tab_nil : ∀ c C b, tabL [] c = some b → PySem.W.nsIn K mainGlobals c = some (some (.ref C)) → p C b := fun _ _ _ h => by cases h
theorem tab_cons {x : Str} {C0 : Addr} {b0 : Bool} {l : List (Str × Bool)} (q : PySem.W.nsIn K mainGlobals x = some (some (.ref C0))) (h : p C0 b0) (r : ∀ c C b, tabL l c = some b → PySem.W.nsIn K mainGlobals c = some (some (.ref C)) → p C b) :
    ∀ c C b, tabL ((x, b0) :: l) c = some b → PySem.W.nsIn K mainGlobals c = some (some (.ref C)) → p C b := fun c C b e n => by
  unfold tabL at e
  split at e
  · next z =>
    subst z
    cases e
    rw [q] at n
    cases n
    exact h
  · exact r c C b e n
theorem cls_nil {q : Addr → Prop} : ∀ c C, c ∈ ([] : List Str) → PySem.W.nsIn K mainGlobals c = some (some (.ref C)) → q C := fun _ _ h => by cases h
theorem cls_cons {q : Addr → Prop} {x : Str} {C0 : Addr} {l : List Str} (n0 : PySem.W.nsIn K mainGlobals x = some (some (.ref C0))) (h : q C0) (r : ∀ c C, c ∈ l → PySem.W.nsIn K mainGlobals c = some (some (.ref C)) → q C) : ∀ c C, c ∈ x :: l → PySem.W.nsIn K mainGlobals c = some (some (.ref C)) → q C := fun c C hc n => by
  rcases List.mem_cons.mp hc with rfl | hc
  · rw [n0] at n
    cases n
    exact h
  · exact r c C hc n
end
end DL
/-! the law's def over data; functions as data -/
namespace DL
open PySem L2 Z PySem.Spec PyProof.Rows
section
variable {P : Program} {w : World} {K : PySem.W.Frag} {mg : Str → Option Value} {base : Heap} {k : Nat} {f : Addr} {fd : FuncData} {ps : List Str} {sp sp' : Sp}
theorem _root_.Z.FnG.imp (F : FnG P w K mg base k f fd ps sp) (h : ∀ vs H Q E, sp' vs H Q E → sp vs H Q E) : FnG P w K mg base k f fd ps sp' :=
  ⟨fun vs H Q E q => F.size vs H Q E (h vs H Q E q), fun A outer s H args us vs Q E hr c e b v q => F.goes A outer s H args us vs Q E hr c e b v (h vs H Q E q)⟩
def spLaw (K : PySem.W.Frag) : Sp := fun vs H Q _ => ∃ (a : Addr) (ns : List Int), vs = [.ref a] ∧ SqL K H a (ns.map V.int) ∧ ns.length ≤ 63 ∧ ∀ H', Q (.bl true) H'
theorem hp_emp {H : Hp} : hp (Hid (fun _ => False) fun _ => none) H = H := by
  funext a
  exact hp_of fun q => q.elim id fun ⟨_, h⟩ => by cases h
/-- the law's def -/
theorem law_of {F : FN} (hF : ∀ ns : List Int, ns.length ≤ 63 → F [.fz (.list (ns.map .int))] fun d _ => d = .bool true) {vs : List V} {H : Hp} {Q : VK} {E : XK} (h : spLaw K vs H Q E) : spF K 1 F vs H Q E := by
  obtain ⟨a, ns, rfl, hS, hl, q⟩ := h
  refine ⟨rfl, fun _ => False, fun _ => none, [.fz (.list (ns.map .int))], _, ⟨rfl, fun i sl o e1 e2 => ?_, fun i j a h1 h2 => ?_, fun _ _ h _ => (by cases h), fun i a h => ?_, fun a z => z.elim, trivial, trivial⟩, hF ns hl, fun d out v H' hd fr _ dv => ?_⟩
  · match i, e1, e2 with
    | 0, e1, e2 =>
      cases e1
      cases e2
      exact .fz (by rw [hp_emp]; exact .lst hS (DqAll.ints _))
  · cases h1
  · cases h
  · subst hd
    cases dv
    exact q _
end
/-! a local name that holds a def which may raise -/
structure HeldX (P : Program) (w : World) (K : PySem.W.Frag) (mg : Str → Option Value) (base : Heap) (k : Nat) (f : Addr) (sp : Sp) : Prop where
  ex : ∃ (fd : FuncData) (ps : List Str), FnOk P w K mg base (L2.CX P w) k f fd ps sp ∧ PySem.W.keepIn K (.ref f) = true ∧ Binds K fd ps []
def tCallV (i : Nat) (S : Addr → Sp → Prop) (E : L2.St → XK) (t : TA) : TE := fun σ H Q => ∃ f sp, σ[i]? = some (some (.ref f)) ∧ S f sp ∧ t σ H fun vs H1 => sp vs H1 Q (E σ)
section
variable {X : Cx} {k i : Nat} {E : L2.St → XK} {x : Str} {p pos : Pos} {e : Expr} {es : List Expr} {t : TA}
theorem pe_callV {S : Addr → Sp → Prop} (A : ∀ f sp, S f sp → HeldX X.prog X.w X.K X.mg X.base k f sp) (hr : Room k X.A) (hN : X.N[i]? = some x) (hv : Vis X.env.scope x) (hx : ∀ σ, PassesAt (L2.CX X.prog X.w) X σ (E σ)) (ha : PA X (e :: es) t)
    (hdb : (x == ("__debug__" : Str)) = false := by decide) (hcd : (x == ("__classdict__" : Str)) = false := by decide)
    (he : starEach (e :: es) X.env = (false, eval e X.env) :: starEach es X.env := by rfl) (hpl : (backTo pos (starEach es X.env)).any (·.1) = false := by rfl) : PE X (.Call (.Name x p) (e :: es) [] pos) (tCallV i S E t) := by
  refine ⟨fun pins s σ H Q I h => ?_⟩
  obtain ⟨f, sp, hs, hS, ht⟩ := h
  obtain ⟨fd, ps, F, hk, hb⟩ := (A f sp hS).ex
  refine wpAny_Call_Name_kw (thn ((pe_var (pos := p) hN hv hdb hcd).run pins s σ H (fun v H1 => v = .ref f ∧ H1 = H) I ⟨.ref f, hs, rfl, rfl⟩) fun u s1 ⟨v, H1, I1, r1, q1⟩ => ?_)
  obtain ⟨rfl, rfl⟩ := q1
  cases r1
  refine PySem.W.callWith_K (h₀ := X.base) I.ok.mod.kin hk (thn (ha.run pos pins s1 σ _ _ I1 ht) fun us s2 ⟨vs, H2, I2, r, q⟩ => ⟨I2.kIn, ?_⟩) he hpl
  exact run_fnSD F hr hb .nil (hx σ) I2 r (by rw [List.append_nil]; exact q)
end
section
variable {K : PySem.W.Frag} {n : Nat} {J : Jv n}
def fnD (x : Str) : PyData := .dict [(.str x, .int 0)]
def funF (ρ : En) (i : Nat) (k : Str → Prop) : Prop := match ρ[i]? with
  | some (.fz (.dict [(.str x, .int 0)])) => k x
  | _ => False
theorem funF_of {ρ : En} {i : Nat} {k : Str → Prop} (h : funF ρ i k) : ∃ x, ρ[i]? = some (.fz (fnD x)) ∧ k x := by
  unfold funF at h
  split at h
  · next x e => exact ⟨x, e, h⟩
  · exact h.elim
def tabF : List (Str × Nat × FX) → Str → (Nat → FX → Prop) → Prop
  | [], _, _ => False
  | (y, m, F) :: l, x, k => if y = x then k m F else tabF l x k
theorem tabF_of {x : Str} {k : Nat → FX → Prop} : ∀ {l : List (Str × Nat × FX)}, tabF l x k → ∃ m F, (x, m, F) ∈ l ∧ k m F
  | [], h => h.elim
  | (y, m, F) :: l, h => by
    unfold tabF at h
    split at h
    · next e => subst e; exact ⟨m, F, List.mem_cons_self, h⟩
    · obtain ⟨m', F', hm, hk⟩ := tabF_of h
      exact ⟨m', F', List.mem_cons_of_mem _ hm, hk⟩
theorem Dq.fn_of {G : Hp} {v : V} {x : Str} (q : Dq K G v (fnD x)) : ∃ f, v = .ref f ∧ PySem.W.nsIn K mainGlobals x = some (some (.ref f)) := by
  unfold fnD at q
  cases q with
  | fnc h => exact ⟨_, rfl, h⟩
/-- the def that a slot holds, called -/
def fCallV (i : Nat) (tab : List (Str × Nat × FX)) (X : PyData → En → Prop) (a : FC) : FE := fun ρ P => funF ρ i fun x => tabF tab x fun m F => a ρ fun xs ρ1 => xs.length = m ∧ (ownIx xs).Nodup ∧ argF ρ1 xs fun r => F r (fun d out => P d (wb ρ1 xs out)) fun d out => X d (wb ρ1 xs out)
theorem re_callV {i : Nat} {S : Addr → Sp → Prop} {tab : List (Str × Nat × FX)} {X : PyData → En → Prop} {W : WX} {t : TA} {f : FC} (l : Lk K J X W) (hS : ∀ x m F a, (x, m, F) ∈ tab → PySem.W.nsIn K mainGlobals x = some (some (.ref a)) → S a (spX K m F)) (ha : RC K J t f) : RE K J (tCallV i S (WE W) t) (fCallV i tab X f) := by
  intro O as σ H Q ρ P E q k
  obtain ⟨x, hx, q⟩ := funF_of q
  obtain ⟨m, F, hm, q⟩ := tabF_of q
  obtain ⟨v, e1, _, d0⟩ := E.fz_at hx
  obtain ⟨a, rfl, hn⟩ := Dq.fn_of d0
  refine ⟨a, _, e1, hS x m F a hm hn, ?_⟩
  refine ha O as σ H _ ρ _ E q fun xs ρ1 vs H1 q1 f1 E1 d1 => ?_
  obtain ⟨hm, nd, q1⟩ := q1
  obtain ⟨r, fit, q1⟩ := argF_of q1
  exact call_coreX E1 fit d1 hm nd q1 l fun d ρ' v H' p fr E' q' => k d ρ' v H' p (f1.trans fr) E' q'
theorem held_nil {S : Addr → Sp → Prop} : ∀ x m F a, (x, m, F) ∈ ([] : List (Str × Nat × FX)) → PySem.W.nsIn K mainGlobals x = some (some (.ref a)) → S a (spX K m F) := fun _ _ _ _ h => by cases h
theorem held_cons {S : Addr → Sp → Prop} {x0 : Str} {m0 : Nat} {F0 : FX} {a0 : Addr} {l : List (Str × Nat × FX)} (q : PySem.W.nsIn K mainGlobals x0 = some (some (.ref a0))) (h : S a0 (spX K m0 F0)) (r : ∀ x m F a, (x, m, F) ∈ l → PySem.W.nsIn K mainGlobals x = some (some (.ref a)) → S a (spX K m F)) :
    ∀ x m F a, (x, m, F) ∈ (x0, m0, F0) :: l → PySem.W.nsIn K mainGlobals x = some (some (.ref a)) → S a (spX K m F) := fun x m F a hm hn => by
  rcases List.mem_cons.mp hm with e | e
  · cases e
    rw [q] at hn
    cases hn
    exact h
  · exact r x m F a e hn
end
/-! a list or a tuple, walked -/
def iAny (K : PySem.W.Frag) (tl : TE) : TI := fun σ H R => tl σ H fun x H1 => ∃ a, x = .ref a ∧ (((∃ xs, SqL K H1 a xs) ∧ R (Itl K a) H1) ∨ ((∃ xs, SqT K H1 a xs) ∧ R (Itt K a) H1))
theorem pi_any {X : Cx} {tg l : Expr} {tl : TE} (hl : PE X l tl) : PI X tg l (iAny X.K tl) := by
  refine ⟨fun pins s σ H R I h => ?_⟩
  refine thn (hl.run pins s σ H _ I h) fun v s1 ⟨x, H1, I1, r1, q1⟩ => ?_
  obtain ⟨a, e, q1⟩ := q1
  subst e
  cases r1
  rcases q1 with ⟨⟨xs, hq⟩, q⟩ | ⟨⟨xs, hq⟩, q⟩
  · obtain ⟨its, rv, p, hz⟩ := I1.list hq
    refine wpAny_pyIter_list p.isList ?_
    refine ⟨s1.heap.objs.size, [s1.heap.objs.size], _, _, H1, rfl, I1.kept (t' := s1.toks) fun b o e => Heap.get?_push_of_some _ e, turn_list a _, ⟨_, Heap.get?_push_size _ rfl, rfl, rfl⟩, fun b hb => ?_, q⟩
    have e : b = s1.heap.objs.size := by simpa using hb
    subst e
    exact I1.fpOk (Nat.le_refl _) (I1.hok.fresh (Nat.le_refl _))
  · obtain ⟨its, rv, p, hz⟩ := I1.tuple hq
    refine wpAny_pyIter_tuple (show s1.heap.IsTuple a its.toArray from p) ?_
    refine ⟨s1.heap.objs.size, [s1.heap.objs.size], _, _, H1, rfl, I1.kept (t' := s1.toks) fun b o e => Heap.get?_push_of_some _ e, turn_tuple a _, ⟨_, Heap.get?_push_size _ rfl, rfl, rfl⟩, fun b hb => ?_, q⟩
    have e : b = s1.heap.objs.size := by simpa using hb
    subst e
    exact I1.fpOk (Nat.le_refl _) (I1.hok.fresh (Nat.le_refl _))
section
variable {K : PySem.W.Frag} {n : Nat} {J : Jv n}
def iA (f : FE) : FA := fun ρ P => f ρ fun d ρ1 => seqF d fun ds => P ds ρ1
theorem ri_any {tl : TE} {f : FE} (h : RE K J tl f) : RI K J (iAny K tl) (iA f) := by
  intro O as σ H R ρ P E q k
  refine h O as σ H _ ρ _ E q fun d ρ1 v H1 q1 f1 E1 d1 => ?_
  unfold seqF at q1
  split at q1
  · next ds =>
    obtain ⟨a, xs, rfl, s, r⟩ := d1.list_of
    refine ⟨a, rfl, .inl ⟨⟨_, SqL.mono hp_same s⟩, k _ _ _ _ q1 f1 E1 ?_⟩⟩
    refine ⟨_, _, by rw [← r.length]; exact walk_list (xs := xs), fun A' H2 s2 => SqL.mono hp_same (SqL.mono s2 s), fun i d A' H2 x H3 hd s2 oc y => ?_⟩
    obtain ⟨rfl, hx⟩ := y
    obtain ⟨d', e, q⟩ := r.get hx
    rw [hd] at e
    cases e
    exact ⟨Same.refl _, q.mono s2⟩
  · next ds =>
    obtain ⟨a, xs, rfl, s, r⟩ := d1.tuple_of
    refine ⟨a, rfl, .inr ⟨⟨_, SqT.mono hp_same s⟩, k _ _ _ _ q1 f1 E1 ?_⟩⟩
    refine ⟨_, _, by rw [← r.length]; exact walk_tup (xs := xs), fun A' H2 s2 => SqT.mono hp_same (SqT.mono s2 s), fun i d A' H2 x H3 hd s2 oc y => ?_⟩
    obtain ⟨rfl, hx⟩ := y
    obtain ⟨d', e, q⟩ := r.get hx
    rw [hd] at e
    cases e
    exact ⟨Same.refl _, q.mono s2⟩
  · exact q1.elim
end
end DL
/-! texts and tuples turned about -/
namespace DL
open PySem L2 Z PySem.Spec PyProof.Rows
section
variable {X : Cx}
def revS (z : Str) : Str := ⟨z.cps.toList.reverse.toArray⟩
theorem rev_picked (z : Str) : ((Builtin.Str.strSliceIndices none none (-1) z.length).filterMap (z.cps[·]?)) = z.cps.toList.reverse := by
  show ((sliceRange ((z.length : Int) - 1) (-1) (-1)).filterMap (z.cps[·]?)) = _
  rw [PySem.W.krv_sliceRange, PySem.W.krv_range, List.filterMap_reverse]
  exact congrArg List.reverse (PySem.W.krv_all z.cps)
def tRevS (te : TE) : TE := fun σ H Q => te σ H fun x H1 => ∃ z, x = .str z ∧ z.length ≤ sizeLine ∧ Q (.str (revS z)) H1
theorem pe_revS {e : Expr} {te : TE} {k : Nat} {p1 p2 p3 pos : Pos} (he : PE X e te) : PE X (.Subscript e (.Slice none none (some (.UnaryOp .USub (.Constant (.int 1) k p1) p2)) p3) pos) (tRevS te) := by
  refine ⟨fun pins s σ H Q I h => ?_⟩
  refine Subscript_ (thn (he.run pins s σ H _ I h) fun v s1 ⟨x, H1, I1, r1, q1⟩ => ?_)
  obtain ⟨z, ex, hz, q⟩ := q1
  subst ex
  obtain ⟨t, rfl⟩ := r1
  have hst : PO X (some (.UnaryOp .USub (.Constant (.int 1) k p1) p2)) (tPart (tUn (rU fun i => .int (-i)) (tC (.int 1)))) := po_some (pe_un un_neg pe_int)
  refine wpAny_Slice (thn (po_none.run pins s1 σ H1 (fun o H2 => o = none ∧ H2 = H1) I1 ⟨rfl, rfl⟩) fun vl s2 ⟨l, H2, I2, pl, el, e2⟩ => ?_)
  subst el e2
  refine thn (po_none.run pins s2 σ H2 (fun o H3 => o = none ∧ H3 = H2) I2 ⟨rfl, rfl⟩) fun vu s3 ⟨u, H3, I3, pu, eu, e3⟩ => ?_
  subst eu e3
  refine thn (hst.run pins s3 σ H3 (fun o H4 => o = some (-1) ∧ H4 = H3) I3 ⟨1, rfl, -1, rfl, rfl, rfl⟩) fun vs s4 ⟨o, H4, I4, ps, eo, e4⟩ => ?_
  subst eo e4
  have I5 : Inv X pins σ H4 { s4 with heap := s4.heap.push { cls := .type "slice", data := .fields #[vl, vu, vs] } } := I4.kept (t' := s4.toks) fun b ob q => Heap.get?_push_of_some _ q
  obtain ⟨l, rfl, hl⟩ := IsPart.raw pl
  obtain ⟨u, rfl, hu⟩ := IsPart.raw pu
  obtain ⟨st, rfl, hs⟩ := IsPart.raw ps
  cases l with
  | some _ => cases hl
  | none =>
  cases u with
  | some _ => cases hu
  | none =>
  cases st with
  | none => cases hs
  | some st =>
  obtain ⟨i, tk⟩ := st
  cases hs
  show wpAny (model X.prog X.w) X.A (subscriptTail e (.Slice none none (some (.UnaryOp .USub (.Constant (.int 1) k p1) p2)) p3) (.str z t) (.ref s4.heap.objs.size)) (EP X pins σ Q) X.xe _
  refine tail_any (ops := [.str z t, .ref s4.heap.objs.size]) (typeIs_str _ _ _) F.slot_str_getitem.lookup ?_ (by with_unfolding_all rfl)
  refine wpAny_getItem_str_slice (l := none) (u := none) (st := some (-1, tk)) ⟨_, Heap.get?_push_size _ rfl, rfl, rfl⟩ rfl ?_
  show Made.post (Made.str ⟨((Builtin.Str.strSliceIndices none none (-1) z.length).filterMap (z.cps[·]?)).toArray⟩) (EP X pins σ Q) _
  rw [rev_picked]
  exact ⟨by show z.cps.toList.reverse.toArray.size ≤ _; rw [List.size_toArray, List.length_reverse]; exact hz, .str _, H4, I5.tok _, ⟨_, rfl⟩, q⟩
end
section
variable {K : PySem.W.Frag} {n : Nat} {J : Jv n}
def fRevS (a : FE) : FE := fun ρ P => a ρ fun d ρ1 => strF d fun z => z.length ≤ sizeLine ∧ P (.str (revS z)) ρ1
theorem re_revS {te : TE} {a : FE} (ha : RE K J te a) : RE K J (tRevS te) (fRevS a) := by
  intro O as σ H Q ρ P E q k
  refine ha O as σ H _ ρ _ E q fun d ρ1 v H1 q1 f1 E1 d1 => ?_
  unfold strF at q1
  split at q1
  · cases d1
    exact ⟨_, rfl, q1.1, k _ _ _ _ q1.2 f1 E1 (.str _)⟩
  · exact q1.elim
end
end DL
/-! numbers and truths; repr and str of any data; tuples turned about -/
namespace DL
open PySem L2 Z PySem.Spec PyProof.Rows
section
variable {X : Cx}
def numV : V → Option Int
  | .int i => some i
  | .bl b => some (b2i b)
  | _ => none
def rNum (f : Int → Int → Int) : R2 := fun x y H Q => ∃ i j, numV x = some i ∧ numV y = some j ∧ Q (.int (f i j)) H
theorem op_addN : OpR X (binaryOp .Add) (rNum (· + ·)) := by
  intro pins s σ H x y v u Q I rx ry h
  obtain ⟨i, j, h1, h2, q⟩ := h
  cases x with
  | bl b =>
    cases h1
    cases rx
    cases y with
    | bl c => cases h2; cases ry; exact add_bool ⟨.int _, H, I.tok _, ⟨_, rfl⟩, q⟩
    | int c => cases h2; obtain ⟨t, rfl⟩ := ry; exact PySem.IntBool.add_bool_int ⟨.int _, H, I.tok _, ⟨_, rfl⟩, q⟩
    | _ => cases h2
  | int b =>
    cases h1
    cases y with
    | bl c => cases h2; obtain ⟨t, rfl⟩ := rx; cases ry; exact add_int_bool ⟨.int _, H, I.tok _, ⟨_, rfl⟩, q⟩
    | int c => cases h2; exact op_add pins s σ H _ _ v u Q I rx ry ⟨_, _, rfl, rfl, q⟩
    | _ => cases h2
  | _ => cases h1
theorem op_subN : OpR X (binaryOp .Sub) (rNum (· - ·)) := by
  intro pins s σ H x y v u Q I rx ry h
  obtain ⟨i, j, h1, h2, q⟩ := h
  cases x with
  | bl b =>
    cases h1
    cases rx
    cases y with
    | bl c => cases h2; cases ry; exact sub_bool ⟨.int _, H, I.tok _, ⟨_, rfl⟩, q⟩
    | int c => cases h2; obtain ⟨t, rfl⟩ := ry; exact PySem.IntBool.sub_bool_int ⟨.int _, H, I.tok _, ⟨_, rfl⟩, q⟩
    | _ => cases h2
  | int b =>
    cases h1
    cases y with
    | bl c => cases h2; obtain ⟨t, rfl⟩ := rx; cases ry; exact PySem.IntBool.sub_int_bool ⟨.int _, H, I.tok _, ⟨_, rfl⟩, q⟩
    | int c => cases h2; exact op_sub pins s σ H _ _ v u Q I rx ry ⟨_, _, rfl, rfl, q⟩
    | _ => cases h2
  | _ => cases h1
/-- repr(x), x any data -/
theorem call_reprV (calm : X.A.guards = some []) (hu : X.A.units + 64 < cLine) : CallR X (.builtin "repr") (fun xs H Q => ∃ (v : V) (d : PyData), xs = [v] ∧ Dp X.K H v d ∧
    d.showable = true ∧ d.depth ≤ 60 ∧ d.shown.length ≤ sizeLine ∧ Q (.str d.shown) H) := by
  intro pins s σ H xs us Q I r h
  obtain ⟨v, d, rfl, hd, sh, dp, sz, q⟩ := h
  obtain ⟨u, rfl, rx⟩ := vals1 r
  clear r
  cases hd with
  | non => cases rx; exact PySem.P.repr_of_none ⟨.str _, H, I.tok _, ⟨_, rfl⟩, q⟩
  | bl b => cases rx; exact PySem.P.repr_of_bool ⟨.str _, H, I.tok _, ⟨_, rfl⟩, q⟩
  | int i => obtain ⟨t, rfl⟩ := rx; exact PySem.P.repr_of_int (of_decide_eq_true sh) ⟨.str _, H, I.tok _, ⟨_, rfl⟩, q⟩
  | str z => obtain ⟨t, rfl⟩ := rx; exact PySem.P.repr_of_str ⟨.str _, H, I.tok _, ⟨_, rfl⟩, q⟩ sz
  | lst h r =>
    obtain ⟨as, rd⟩ := Dp.reads I (.list _) _ u (.lst h r) rx
    cases rx
    exact repr_of_reads' rd sh (PyData.noDict_hsm (Dp.plain (.lst h r))) calm (by omega) (fun _ _ e => e) (fun h' u tk hk => ⟨.str _, H, I.kept (t' := tk) hk, ⟨u, rfl⟩, q⟩) sz
  | tup h r =>
    obtain ⟨as, rd⟩ := Dp.reads I (.tuple _) _ u (.tup h r) rx
    cases rx
    exact repr_of_reads' rd sh (PyData.noDict_hsm (Dp.plain (.tup h r))) calm (by omega) (fun _ _ e => e) (fun h' u tk hk => ⟨.str _, H, I.kept (t' := tk) hk, ⟨u, rfl⟩, q⟩) sz
/-- str(x) of what stands by itself -/
def strV : V → Option Str
  | .non => some "None"
  | .bl b => some (if b then "True" else "False")
  | .int i => if i.natAbs.log2 < 1920 then some (toString i) else none
  | .str z => some z
  | _ => none
theorem call_strV : CallR X (.type "str") (fun xs H Q => ∃ v z, xs = [v] ∧ strV v = some z ∧ Q (.str z) H) := by
  intro pins s σ H xs us Q I r h
  obtain ⟨v, z, rfl, hz, q⟩ := h
  obtain ⟨u, rfl, rx⟩ := vals1 r
  cases v with
  | non => cases hz; cases rx; exact PySem.P.str_of_none ⟨.str _, H, I.tok _, ⟨_, rfl⟩, q⟩
  | bl b => cases hz; cases rx; exact PySem.P.str_of_bool ⟨.str _, H, I.tok _, ⟨_, rfl⟩, q⟩
  | int i =>
    obtain ⟨t, rfl⟩ := rx
    have hz' : (if i.natAbs.log2 < 1920 then some (Str.ofString (toString i)) else none) = some z := hz
    split at hz'
    · next hl => cases hz'; exact PySem.P.str_of_int hl ⟨.str _, H, I.tok _, ⟨_, rfl⟩, q⟩
    · cases hz'
  | str x => cases hz; obtain ⟨t, rfl⟩ := rx; exact PySem.P.str_of_str ⟨.str _, H, I, ⟨_, rfl⟩, q⟩
  | _ => cases hz
/-! ### t[::-1] -/
theorem places_rev (n : Nat) : Builtin.Slice.sliceAdjust none none (-1) (n : Int) = ((n : Int) - 1, -1) ∧ Builtin.Slice.slicePlaces ((n : Int) - 1) (-1) (-1) = n := by
  refine ⟨rfl, ?_⟩
  unfold Builtin.Slice.slicePlaces
  have h1 : ¬ ((-1 : Int) > 0) := by decide
  rw [if_neg h1]
  split
  · rw [show (- -1 : Int) = 1 from rfl, Int.ediv_one]
    omega
  · omega
theorem pick_rev (xs : Array Value) : ((List.range xs.size).filterMap fun (m : Nat) => xs[(((xs.size : Int) - 1) + (m : Int) * (-1)).toNat]?) = xs.toList.reverse := by
  have e : ((List.range xs.size).filterMap fun (m : Nat) => xs[(((xs.size : Int) - 1) + (m : Int) * (-1)).toNat]?) = ((List.range xs.size).map fun m => xs.size - 1 - m).filterMap (xs[·]?) := by
    rw [List.filterMap_map]
    have gen : ∀ l : List Nat, (∀ m ∈ l, m < xs.size) → (l.filterMap fun (m : Nat) => xs[(((xs.size : Int) - 1) + (m : Int) * (-1)).toNat]?) = l.filterMap ((fun x => xs[x]?) ∘ fun m => xs.size - 1 - m) := by
      intro l
      induction l with
      | nil => intro _; rfl
      | cons m l ih =>
        intro h
        have hm := h m List.mem_cons_self
        have e : (((xs.size : Int) - 1) + (m : Int) * (-1)).toNat = xs.size - 1 - m := by omega
        rw [List.filterMap_cons, List.filterMap_cons, ih fun k hk => h k (List.mem_cons_of_mem _ hk), e]
        rfl
    exact gen _ fun m hm => List.mem_range.mp hm
  rw [e, PySem.W.krv_range, List.filterMap_reverse, PySem.W.krv_all]
theorem getItem_tuple_rev {prog : Program} {w : World} {A : Around} {E : Value → Shared → Prop} {s : Shared} {t sl : Addr} {items : Array Value} {vl vu vs : Value} {Q : Value → Shared → Prop} (ht : IsTup s.heap t items) (hs : s.heap.IsSliceOf sl vl vu vs) (pl : IsPart vl none) (pu : IsPart vu none) (ps : IsPart vs (some (-1)))
    (h : Q (.ref s.heap.objs.size) { s with heap := s.heap.push { cls := .type "tuple", data := .seq items.toList.reverse.toArray } })
    (hsz : items.size ≤ sizeLine) : wpAny (model prog w) A (getItem (.ref t) (.ref sl)) Q E s := by
  have htake : sizeOk (.seq items.toList.reverse.toArray) := by
    show items.toList.reverse.toArray.size ≤ sizeLine
    rw [List.size_toArray, List.length_reverse, Array.length_toList]
    exact hsz
  obtain ⟨os, hos, hcs, hds⟩ := id hs
  have hTs : s.TypeIs (.ref sl) "slice" := ⟨os, hos, hcs⟩
  unfold getItem
  try with_reducible refine wpAny_holding ?_
  first | refine wpAny_bind (wpAny_pure ?_) | skip
  refine wpAny_bind (wpAny_sequenceKey ht.typeIs (by decide) ?_)
  refine wpAny_bind (wpAny_callSpecial?_slot (name := Str.ofString "__getitem__") ht.typeIs PyProof.Rows.slot_tuple_getitem
    (wpAny_call_entry PyProof.Rows.slot_tuple_getitem ht.typeIs entry_tuple_getitem ?_ (args_tuple_getitem _ _)))
  show wpAny _ _ (Builtin.Tuple.tupleItemsOf (.ref t) >>= _) _ _ s
  refine wpAny_bind (tupleItemsOf_ ht ?_)
  refine wpAny_bind (wpAny_typeOf hTs ?_)
  rw [if_pos (by decide)]
  refine wpAny_bind ?_
  unfold Builtin.Slice.sliceApplied Builtin.Slice.sliceFields
  refine wpAny_bind (wpAny_bind (wpAny_field hos hds (x := vl) rfl (wpAny_bind (wpAny_field hos hds (x := vu) rfl (wpAny_bind (wpAny_field hos hds (x := vs) rfl (wpAny_pure ?_)))))))
  refine wpAny_bind (HT.slicePart_ ps ?_)
  show wpAny _ _ (if ((-1 : Int) == 0) = true then _ else _) _ _ s
  rw [if_neg (by decide)]
  refine wpAny_bind (HT.slicePart_ pl (wpAny_bind (HT.slicePart_ pu (wpAny_bind (wpAny_pure ?_)))))
  show wpAny _ _ (match Builtin.Slice.sliceAdjust none none (-1) (items.size : Int) with | (lo, hi) => pure (lo, (-1 : Int), Builtin.Slice.slicePlaces lo hi (-1))) _ _ s
  rw [(places_rev _).1]
  show wpAny _ _ (pure (((items.size : Int) - 1), (-1 : Int), Builtin.Slice.slicePlaces ((items.size : Int) - 1) (-1) (-1))) _ _ s
  rw [(places_rev _).2]
  refine wpAny_pure ?_
  show wpAny _ _ (if (((items.size : Int) - 1) == 0 && (-1 : Int) == 1 && items.size == items.size) = true then _ else _) _ _ s
  rw [if_neg (by rw [show ((-1 : Int) == 1) = false from rfl, Bool.and_false, Bool.false_and]; decide), pick_rev]
  first
    | exact wpAny_bind (m := Builtin.Tuple.tupleExact _) (wpAny_newObj_type (wpAny_pure ⟨_, rfl, wpAny_pure h⟩) htake)
    | exact wpAny_bind (m := Builtin.Tuple.tupleExact _) (wpAny_newObj_type (wpAny_bind (wpAny_pure (wpAny_pure ⟨_, rfl, wpAny_pure h⟩))) htake)
    | exact wpAny_bind (wpAny_bind (m := Builtin.Tuple.tupleExact _) (wpAny_newObj_type (wpAny_pure (wpAny_pure ⟨_, rfl, wpAny_pure h⟩)) htake))
    | exact wpAny_bind (wpAny_bind (m := Builtin.Tuple.tupleExact _) (wpAny_newObj_type (wpAny_pure ⟨_, rfl, wpAny_pure h⟩) htake))
def tRevT (K : PySem.W.Frag) (te : TE) : TE := fun σ H Q => te σ H fun x H1 => ∃ a xs, x = .ref a ∧ SqT K H1 a xs ∧ ∀ p, H1 p = none → Q (.ref p) (upd H1 p (.tup xs.reverse))
theorem pe_revT {e : Expr} {te : TE} {k : Nat} {p1 p2 p3 pos : Pos} (he : PE X e te) : PE X (.Subscript e (.Slice none none (some (.UnaryOp .USub (.Constant (.int 1) k p1) p2)) p3) pos) (tRevT X.K te) := by
  refine ⟨fun pins s σ H Q I h => ?_⟩
  refine Subscript_ (thn (he.run pins s σ H _ I h) fun v s1 ⟨x, H1, I1, r1, q1⟩ => ?_)
  obtain ⟨a, xs, ex, hx, q⟩ := q1
  subst ex
  cases r1
  have hst : PO X (some (.UnaryOp .USub (.Constant (.int 1) k p1) p2)) (tPart (tUn (rU fun i => .int (-i)) (tC (.int 1)))) := po_some (pe_un un_neg pe_int)
  refine wpAny_Slice (thn (po_none.run pins s1 σ H1 (fun o H2 => o = none ∧ H2 = H1) I1 ⟨rfl, rfl⟩) fun vl s2 ⟨l, H2, I2, pl, el, e2⟩ => ?_)
  subst el e2
  refine thn (po_none.run pins s2 σ H2 (fun o H3 => o = none ∧ H3 = H2) I2 ⟨rfl, rfl⟩) fun vu s3 ⟨u, H3, I3, pu, eu, e3⟩ => ?_
  subst eu e3
  refine thn (hst.run pins s3 σ H3 (fun o H4 => o = some (-1) ∧ H4 = H3) I3 ⟨1, rfl, -1, rfl, rfl, rfl⟩) fun vs s4 ⟨o, H4, I4, ps, eo, e4⟩ => ?_
  subst eo e4
  have I5 : Inv X pins σ H4 { s4 with heap := s4.heap.push { cls := .type "slice", data := .fields #[vl, vu, vs] } } := I4.kept (t' := s4.toks) fun b ob q => Heap.get?_push_of_some _ q
  obtain ⟨its, r, ht, hz⟩ := I5.tuple hx
  have hlen := r.length
  show wpAny (model X.prog X.w) X.A (subscriptTail e (.Slice none none (some (.UnaryOp .USub (.Constant (.int 1) k p1) p2)) p3) (.ref a) (.ref s4.heap.objs.size)) (EP X pins σ Q) X.xe { s4 with heap := s4.heap.push { cls := .type "slice", data := .fields #[vl, vu, vs] } }
  refine tail_any (ops := [.ref a, .ref s4.heap.objs.size]) ht.typeIs (PyProof.Rows.slot_tuple_getitem.lookup) ?_ (by with_unfolding_all rfl)
  refine getItem_tuple_rev ht (Heap.IsSliceOf.new _ vl vu vs) pl pu ps ?_ (by rw [List.size_toArray]; omega)
  refine ⟨.ref _, _, I5.laid (t' := s4.toks) (o := .tup xs.reverse) (fun b ob q => Heap.get?_push_of_some _ q) (Nat.le_refl _) ?_, rfl, q _ (I5.hok.fresh (Nat.le_refl _))⟩
  exact ⟨by rw [List.length_reverse]; exact hz, _, r.reverse, IsTup.new _ _⟩
end
section
variable {K : PySem.W.Frag} {n : Nat} {J : Jv n}
def fRevT (a : FE) : FE := fun ρ P => a ρ fun d ρ1 => tupleF d fun ds => P (.tuple ds.reverse) ρ1
theorem re_revT {te : TE} {a : FE} (ha : RE K J te a) : RE K J (tRevT K te) (fRevT a) := by
  intro O as σ H Q ρ P E q k
  refine ha O as σ H _ ρ _ E q fun d ρ1 v H1 q1 f1 E1 d1 => ?_
  unfold tupleF at q1
  split at q1
  · obtain ⟨a, xs, rfl, s, r⟩ := d1.tuple_of
    refine ⟨a, xs, rfl, SqT.mono hp_same s, fun p hp1 => ?_⟩
    have sm := Same.new (o := .tup xs.reverse) hp1
    exact k _ _ _ _ q1 (f1.trans (FrA.of sm)) (E1.grow sm) (.tup (SqT.of (hp_mk (E1.fresh hp1) upd_same)) ((r.mono (hp_grow sm)).rev))
  · exact q1.elim
def numD : PyData → Option Int
  | .int i => some i
  | .bool b => some (if b then 1 else 0)
  | _ => none
def oNumD (f : Int → Int → Int) : G2 := fun a b P => match numD a, numD b with
  | some i, some j => P (.int (f i j))
  | _, _ => False
theorem numD_of {H : Hp} {x : V} {a : PyData} (d : Dq K H x a) {i : Int} (h : numD a = some i) : numV x = some i := by
  cases d <;> first | cases h; rfl | cases h
theorem rr_num {f : Int → Int → Int} : RR K (rNum f) (oNumD f) := by
  intro A H Q x y a b P oc da db g k
  unfold oNumD at g
  split at g
  · next i j h1 h2 => exact ⟨i, j, numD_of da h1, numD_of db h2, k _ _ _ g (Same.refl _) (.int _)⟩
  · exact g.elim
abbrev oAddN : G2 := oNumD (· + ·)
abbrev oSubN : G2 := oNumD (· - ·)
def bReprV (ds : List PyData) (P : PyData → Prop) : Prop := one ds fun d => d.hasDict = false ∧ d.showable = true ∧ d.depth ≤ 60 ∧ d.shown.length ≤ sizeLine ∧ P (.str d.shown)
theorem rb_reprV : RB K (fun xs H Q => ∃ (v : V) (d : PyData), xs = [v] ∧ Dp K H v d ∧ d.showable = true ∧ d.depth ≤ 60 ∧ d.shown.length ≤ sizeLine ∧ Q (.str d.shown) H) bReprV := by
  intro A H Q xs ds P oc r g k
  obtain ⟨v, d, rfl, q, g⟩ := one_of r g
  exact ⟨v, d, rfl, Dp.mono hp_same (q.dp g.1), g.2.1, g.2.2.1, g.2.2.2.1, k _ _ _ g.2.2.2.2 (Same.refl _) (.str _)⟩
def strD : PyData → Option Str
  | .none => some "None"
  | .bool b => some (if b then "True" else "False")
  | .int i => if i.natAbs.log2 < 1920 then some (toString i) else none
  | .str z => some z
  | _ => none
def bStrV (ds : List PyData) (P : PyData → Prop) : Prop := one ds fun d => ∃ z, strD d = some z ∧ P (.str z)
theorem rb_strV : RB K (fun xs H Q => ∃ v z, xs = [v] ∧ strV v = some z ∧ Q (.str z) H) bStrV := by
  intro A H Q xs ds P oc r g k
  obtain ⟨v, d, rfl, q, z, hz, g⟩ := one_of r g
  refine ⟨v, z, rfl, ?_, k _ _ _ g (Same.refl _) (.str _)⟩
  cases q <;> first | exact hz | cases hz
end
end DL
/-! how long data's text may be -/
namespace Z
open PySem L2 TL
mutual
def szD : PyData → Nat
  | .none => 4
  | .bool _ => 5
  | .int i => (Str.ofString (toString i)).length
  | .str x => 10 * x.length + 2
  | .list xs => szAll xs + 2
  | .tuple xs => szAll xs + 3
  | .dict _ => 0
def szAll : List PyData → Nat
  | [] => 0
  | x :: r => szD x + 2 + szAll r
end
theorem slen_append (x y : Str) : (x ++ y).length = x.length + y.length := by rw [len_tl, len_tl x, len_tl y, tl_append, List.length_append]
theorem textFrom_le : ∀ (ts : List Str) (k : Nat) (acc : Str), (textFrom k acc ts).length ≤ acc.length + piled ts
  | [], _, acc => Nat.le_add_right _ _
  | t :: ts, k, acc => by
    have ih := textFrom_le ts (k + 1) (acc ++ Str.ofString (if k > 0 then ", " else "" : String) ++ t)
    rw [slen_append, slen_append] at ih
    have e : (Str.ofString (if k > 0 then ", " else "" : String)).length ≤ 2 := by
      split
      · exact (by decide +kernel : (Str.ofString ", ").length ≤ 2)
      · exact (by decide +kernel : (Str.ofString "").length ≤ 2)
    have p : piled (t :: ts) = t.length + 2 + piled ts := by simp [piled]
    show (textFrom (k + 1) (acc ++ Str.ofString (if k > 0 then ", " else "" : String) ++ t) ts).length ≤ _
    rw [p]
    omega
theorem listText_le (ts : List Str) : (listText ts).length ≤ piled ts + 2 := by
  have h := textFrom_le ts 0 (Str.ofString "[")
  have e1 : (Str.ofString "[").length = 1 := by decide +kernel
  have e2 : (Str.ofString "]").length = 1 := by decide +kernel
  show (textFrom 0 (Str.ofString "[") ts ++ Str.ofString "]").length ≤ _
  rw [slen_append]
  omega
theorem join_le : ∀ ts : List Str, (Str.join (Str.ofString ", ") ts).length ≤ piled ts
  | [] => Nat.zero_le _
  | t :: ts => by
    have h := join_length_add (t :: ts) (by simp)
    have h' : (Str.join (Str.ofString ", ") (t :: ts)).length + 2 = piled (t :: ts) := h
    omega
theorem tupleText_le (ts : List Str) : (tupleText ts).length ≤ piled ts + 3 := by
  have h := join_le ts
  have e1 : (Str.ofString "(").length = 1 := by decide +kernel
  have e2 : (Str.ofString (if (ts.length == 1) = true then ",)" else ")" : String)).length ≤ 2 := by
    split
    · exact (by decide +kernel : (Str.ofString ",)").length ≤ 2)
    · exact (by decide +kernel : (Str.ofString ")").length ≤ 2)
  show (Str.ofString "(" ++ Str.join (Str.ofString ", ") ts ++ Str.ofString (if (ts.length == 1) = true then ",)" else ")" : String)).length ≤ _
  rw [slen_append, slen_append]
  omega
mutual
theorem shown_le : ∀ d : PyData, d.canLay0 = true → d.shown.length ≤ szD d
  | .none, _ => (by decide +kernel : (Str.ofString "None").length ≤ 4)
  | .bool true, _ => (by decide +kernel : (Str.ofString "True").length ≤ 5)
  | .bool false, _ => (by decide +kernel : (Str.ofString "False").length ≤ 5)
  | .int i, _ => Nat.le_refl _
  | .str x, h => by
    refine StrLaws.reprText_len x fun c hc => ?_
    have h' : (x.cps.all (· < 0x110000)) = true := h
    have := (Array.all_eq_true_iff_forall_mem.mp h') c (Array.mem_toList_iff.mp hc)
    have := of_decide_eq_true this
    omega
  | .list xs, h => by
    have ih := shownAll_le xs h
    have := listText_le (PyData.shownAll xs)
    show (listText (PyData.shownAll xs)).length ≤ szAll xs + 2
    omega
  | .tuple xs, h => by
    have ih := shownAll_le xs h
    have := tupleText_le (PyData.shownAll xs)
    show (tupleText (PyData.shownAll xs)).length ≤ szAll xs + 3
    omega
  | .dict _, h => by cases h
theorem shownAll_le : ∀ ds : List PyData, PyData.canLayAll0 ds = true → piled (PyData.shownAll ds) ≤ szAll ds
  | [], _ => Nat.zero_le _
  | x :: r, h => by
    have h' : (x.canLay0 && PyData.canLayAll0 r) = true := h
    rw [Bool.and_eq_true] at h'
    have h1 := shown_le x h'.1
    have h2 := shownAll_le r h'.2
    have e : piled (PyData.shownAll (x :: r)) = x.shown.length + 2 + piled (PyData.shownAll r) := by
      show piled (x.shown :: PyData.shownAll r) = _
      simp [piled]
    rw [e]
    show _ ≤ szD x + 2 + szAll r
    omega
end
theorem szInt {i : Int} (h0 : 0 ≤ i) (h : i < 10 ^ 10) : szD (.int i) ≤ 10 := PyProof.Rows.toString_length_le h0 (by decide) h
end Z
/-! rules: plain -/
namespace Z
open PySem L2
def ruleD (r : List (Int × Int)) : PyData := .tuple (r.map fun p => .tuple [.int p.1, .int p.2])
def partAt (r : List (Int × Int)) (age : Int) : Int := r.foldl (fun f p => if p.1 ≤ age then p.2 else f) 100
def priceBy (r : List (Int × Int)) (p age : Int) : Int := if p * partAt r age / 100 > 1 then p * partAt r age / 100 else 1
theorem ruleD_get {K : PySem.W.Frag} {H : Hp} {xs : List V} {r : List (Int × Int)} {i : Nat} {x : V} (h : DpAll K H xs (r.map fun p => .tuple [.int p.1, .int p.2])) (hx : xs[i]? = some x) :
    ∃ p : Int × Int, r[i]? = some p ∧ ∃ t : Addr, SqT K H t [.int p.1, .int p.2] ∧ x = .ref t := by
  obtain ⟨d, hd, dx⟩ := DpAll.get h hx
  rw [List.getElem?_map] at hd
  cases e : r[i]? with
  | none => rw [e] at hd; cases hd
  | some p =>
    rw [e] at hd
    have hd := Option.some.inj hd
    subst hd
    obtain ⟨t, ys, rfl, sq, dy⟩ := Dp.tuple_of dx
    refine ⟨p, rfl, t, ?_, rfl⟩
    cases dy with
    | cons a b =>
      cases a
      cases b with
      | cons a b =>
        cases a
        cases b
        exact sq
theorem partAt_take {r : List (Int × Int)} {i : Nat} {age : Int} {p : Int × Int} (h : r[i]? = some p) : partAt (r.take (i + 1)) age = if p.1 ≤ age then p.2 else partAt (r.take i) age := by
  unfold partAt
  rw [List.take_add_one, h, List.foldl_append]
  rfl
end Z
namespace K
open PySem L2 Z TL DL
local macro_rules | `(tactic| walk_at "z1") => `(tactic| first | with_reducible refine iteT ?_ | with_reducible refine iteF ?_ | with_reducible refine iteDS rfl ?_ | with_reducible refine iteNS rfl ?_ | ((with_reducible refine iteDN ?hN ?_); (case hN => (intro h; cases h; done))) | ((with_reducible refine iteNDN ?hN ?_); (case hN => (intro h; cases h; done))) | ((fail_if_success (with_reducible refine iteD (fun _ => ?_) (fun _ => ?_))); (fail_if_success (with_reducible refine iteND (fun _ => ?_) (fun _ => ?_))); first
  | refine ⟨_, rfl, ?_⟩
  | refine ⟨_, _, rfl, rfl, ?_⟩
  | refine ⟨rfl, ?_⟩
  | refine ⟨(by show (0 : Int) < _; first | decide | omega), ?_⟩
  | refine ⟨⟨by decide, by decide⟩, ?_⟩
  | refine ⟨⟨(by show (0 : Int) < _; omega), (by show _ < (1073741824 : Int); omega)⟩, ?_⟩
  | refine ⟨⟨by decide, by decide, by decide⟩, ?_⟩
  | refine ⟨.inl ⟨by omega, by omega⟩, ?_⟩
  | refine ⟨.inr ⟨by omega, by omega⟩, ?_⟩
  | refine .inl ⟨_, rfl, ?_⟩
  | refine .inr ⟨_, rfl, ?_⟩
  | refine ⟨_, _, _, _, rfl, rfl, SqL.of (by assumption), rfl, ?_⟩
  | refine ⟨_, _, _, _, rfl, rfl, SqL.of upd_same, rfl, ?_⟩
  | refine ⟨_, _, _, _, rfl, rfl, (by assumption), rfl, ?_⟩
  | refine ⟨_, _, _, _, rfl, rfl, upd_same, rfl, ?_⟩
  | refine ⟨_, _, rfl, SqT.of upd_same, rfl, ?_⟩
  | refine ⟨_, _, rfl, ?_⟩
  | refine ⟨Nat.le_of_ble_eq_true rfl, ?_⟩
  | refine ⟨_, _, _, _, true, rfl, .ty _, .base (.str _), kit_ty (by decide +kernel), ?_⟩
  | refine ⟨_, _, _, _, false, rfl, .ty _, .base (.str _), kit_ty (by decide +kernel), ?_⟩
  | refine ⟨_, _, _, _, true, rfl, .ty _, .base (.int _), kit_ty (by decide +kernel), ?_⟩
  | refine ⟨_, _, _, _, false, rfl, .ty _, .base (.int _), kit_ty (by decide +kernel), ?_⟩))
local macro_rules | `(tactic| walk_at "z") => `(tactic| repeat walk_at "z1")
def pairD (p : Int × Int) : PyData := .tuple [.int p.1, .int p.2]
/-- pairs whose ages rise and parts fall, within bounds -/
structure RuleW (r : List (Int × Int)) : Prop where
  few : r.length ≤ 6
  age : ∀ p ∈ r, 1 ≤ p.1 ∧ p.1 ≤ 999
  part : ∀ p ∈ r, 1 ≤ p.2 ∧ p.2 ≤ 99
  fall : r.Pairwise fun p q => q.2 < p.2
  rise : r.Pairwise fun p q => p.1 < q.1
structure RuleG (r : List (Int × Int)) (n : Nat) (age part : Int) : Prop where
  few : r.length = n
  age0 : 0 ≤ age
  age1 : age ≤ 160 * n
  part1 : part ≤ 100
  bnd : ∀ p ∈ r, 1 ≤ p.1 ∧ p.1 ≤ age ∧ part ≤ p.2 ∧ p.2 ≤ 99
  fall : r.Pairwise fun p q => q.2 < p.2 ∧ p.1 < q.1 ∧ p.1 ≤ 800
theorem noL_pairs (r : List (Int × Int)) : noLists (r.map pairD) = true := by
  induction r with
  | nil => rfl
  | cons p r ih => exact ih
theorem lay_pairs (r : List (Int × Int)) : PyData.canLayAll0 (r.map pairD) = true ∧ PyData.depthAll (r.map pairD) ≤ 1 ∧ nodesAll (r.map pairD) = 3 * r.length := by
  induction r with
  | nil => exact ⟨rfl, Nat.zero_le _, rfl⟩
  | cons p r ih =>
    refine ⟨ih.1, ?_, ?_⟩
    · show max 1 (PyData.depthAll (r.map pairD)) ≤ 1
      have := ih.2.1
      omega
    · show 3 + nodesAll (r.map pairD) = 3 * (r.length + 1)
      rw [ih.2.2]
      omega
theorem shaped_pairs (r : List (Int × Int)) : SeqAt.shaped (.list (r.map pairD)) = true ∧ SeqAt.shaped (ruleD r) = true := by
  obtain ⟨h1, h2, _⟩ := lay_pairs r
  have h3 : decide (PyData.depthAll (r.map pairD) + 1 ≤ 64) = true := decide_eq_true (by omega)
  constructor
  · show (PyData.canLayAll0 (r.map pairD) && decide (PyData.depthAll (r.map pairD) + 1 ≤ 64)) = true
    rw [h1, h3]
    rfl
  · show (PyData.canLayAll0 (r.map pairD) && decide (PyData.depthAll (r.map pairD) + 1 ≤ 64)) = true
    rw [h1, h3]
    rfl
theorem noL_rule (r : List (Int × Int)) : noList (ruleD r) = true := noL_pairs r
theorem RuleG.next {r : List (Int × Int)} {n : Nat} {age part a b : Int} (g : RuleG r n age part) (ha : 0 ≤ a) (ha2 : a < 160) (hn : n ≤ 5) (hb : 0 ≤ b) : RuleG (r ++ [(age + 1 + a, part - 1 - b)]) (n + 1) (age + 1 + a) (part - 1 - b) := by
  have h1 := g.age0
  have h2 := g.part1
  have h3 := g.age1
  refine ⟨by rw [List.length_append, g.few]; rfl, by omega, by omega, by omega, fun p hp => ?_, ?_⟩
  · rcases List.mem_append.mp hp with hp | hp
    · have := g.bnd p hp
      omega
    · rw [List.mem_singleton.mp hp]
      dsimp only
      omega
  · refine List.pairwise_append.mpr ⟨g.fall, List.pairwise_singleton _ _, fun p hp q hq => ?_⟩
    rw [List.mem_singleton.mp hq]
    have := g.bnd p hp
    dsimp only
    omega
def keepP (p : Int × Int) : Bool := decide (p.1 < 1000) && decide (0 < p.2)
/-- and all but the last one at most 800 old -/
structure RuleV (r : List (Int × Int)) : Prop extends RuleW r where
  early : r.Pairwise fun p _ => p.1 ≤ 800
theorem RuleG.cut {r : List (Int × Int)} {n : Nat} {age part : Int} (g : RuleG r n age part) (hn : n ≤ 6) : RuleV (r.filter keepP) := by
  refine ⟨⟨Nat.le_trans (List.length_filter_le _ _) (by rw [g.few]; exact hn), fun p hp => ?_, fun p hp => ?_, (g.fall.filter _).imp fun h => h.1, (g.fall.filter _).imp fun h => h.2.1⟩, (g.fall.filter _).imp fun h => h.2.2⟩
  · obtain ⟨h1, h2⟩ := List.mem_filter.mp hp
    have := g.bnd p h1
    simp [keepP] at h2
    omega
  · obtain ⟨h1, h2⟩ := List.mem_filter.mp hp
    have := g.bnd p h1
    simp [keepP] at h2
    omega
theorem set_last {α : Type} {r : List α} {p q : α} (h : r[r.length - 1]? = some p) : ∃ s, r = s ++ [p] ∧ r.set (r.length - 1) q = s ++ [q] := by
  have hl : r.length - 1 < r.length := (List.getElem?_eq_some_iff.mp h).1
  have hr : r ≠ [] := fun e => by rw [e] at hl; simp at hl
  refine ⟨r.dropLast, ?_, ?_⟩
  · have := List.dropLast_concat_getLast hr
    rw [List.getLast_eq_getElem] at this
    rw [← (List.getElem?_eq_some_iff.mp h).2]
    exact this.symm
  · have e : r = r.dropLast ++ [r.getLast hr] := (List.dropLast_concat_getLast hr).symm
    have el : r.length - 1 = r.dropLast.length := by rw [List.length_dropLast]
    rw [el]
    conv => lhs; rw [e]
    rw [List.length_dropLast]
    have el2 : (r.dropLast ++ [r.getLast hr]).length - 1 = r.dropLast.length := by simp
    rw [List.set_append_right _ _ (by simp)]
    simp
theorem RuleV.last {r : List (Int × Int)} {a : Int} {p : Int × Int} (g : RuleV r) (hp : r[r.length - 1]? = some p) (h1 : 801 ≤ a) (h2 : a ≤ 999) : RuleW (r.set (r.length - 1) (a, p.2)) := by
  obtain ⟨s, e1, e2⟩ := set_last (q := (a, p.2)) hp
  rw [e2]
  have few := g.few
  have age := g.age
  have part := g.part
  have fall := g.fall
  have rise := g.rise
  have early := g.early
  rw [e1] at few age part fall rise early
  rw [List.pairwise_append] at fall rise early
  refine ⟨by simpa using few, fun q hq => ?_, fun q hq => ?_, ?_, ?_⟩
  · rcases List.mem_append.mp hq with h | h
    · exact age q (List.mem_append_left _ h)
    · rw [List.mem_singleton.mp h]
      dsimp only
      omega
  · rcases List.mem_append.mp hq with h | h
    · exact part q (List.mem_append_left _ h)
    · rw [List.mem_singleton.mp h]
      exact part p (List.mem_append_right _ (List.mem_singleton.mpr rfl))
  · refine List.pairwise_append.mpr ⟨fall.1, List.pairwise_singleton _ _, fun x hx y hy => ?_⟩
    rw [List.mem_singleton.mp hy]
    exact fall.2.2 x hx p (List.mem_singleton.mpr rfl)
  · refine List.pairwise_append.mpr ⟨rise.1, List.pairwise_singleton _ _, fun x hx y hy => ?_⟩
    rw [List.mem_singleton.mp hy]
    have := early.2.2 x hx p (List.mem_singleton.mpr rfl)
    dsimp only
    omega
theorem pairD_eq (p : Int × Int) : pairD p = .tuple [.int p.1, .int p.2] := rfl
/-! ### any things: plain data within bounds -/
theorem int_len {i : Int} (h : i.natAbs ≤ 1000000000) : (Str.ofString (toString i)).length ≤ 11 := by
  by_cases h0 : 0 ≤ i
  · exact Nat.le_trans (PyProof.Rows.toString_length_le h0 (k := 10) (by decide) (by omega)) (by decide)
  · rw [PyProof.Rows.len_text_neg (by omega)]
    have := PyProof.Rows.toString_length_le (v := 0 - i) (by omega) (k := 10) (by decide) (by omega)
    omega
theorem ofString_ok (s : String) : (Str.ofString s).cps.all (· < 0x110000) = true := by
  refine Array.all_eq_true_iff_forall_mem.mpr fun c hc => ?_
  rw [Str.ofString_eq_toList] at hc
  have hm : c ∈ s.toList.map Char.toNat := List.mem_toArray.mp hc
  obtain ⟨ch, _, rfl⟩ := List.mem_map.mp hm
  have v := ch.valid
  have e : ch.toNat = ch.val.toNat := rfl
  refine decide_eq_true ?_
  rw [e]
  rcases v with v | v
  · omega
  · exact v.2
mutual
def okD (B : Nat) : PyData → Bool
  | .none => true
  | .bool _ => true
  | .int i => decide (i.natAbs ≤ B)
  | .str z => decide (z.length ≤ 20) && z.cps.all (· < 0x110000)
  | .list xs => okAll B xs
  | .tuple xs => okAll B xs
  | .dict _ => false
def okAll (B : Nat) : List PyData → Bool
  | [] => true
  | x :: r => okD B x && okAll B r
end
theorem okI {B : Nat} {i : Int} (h : i.natAbs ≤ B) : okD B (.int i) = true := by
  unfold okD
  exact decide_eq_true h
theorem okAll_iff {B : Nat} {ds : List PyData} : okAll B ds = true ↔ ∀ d ∈ ds, okD B d = true := by
  induction ds with
  | nil => simp [okAll]
  | cons x r ih => simp [okAll, ih]
mutual
theorem okD.mono {B C : Nat} (h : B ≤ C) : ∀ {d : PyData}, okD B d = true → okD C d = true
  | .none, _ => rfl
  | .bool _, _ => rfl
  | .int i, q => decide_eq_true (Nat.le_trans (of_decide_eq_true q) h)
  | .str z, q => q
  | .list xs, q => okAll.mono h (ds := xs) q
  | .tuple xs, q => okAll.mono h (ds := xs) q
  | .dict _, q => by cases q
theorem okAll.mono {B C : Nat} (h : B ≤ C) : ∀ {ds : List PyData}, okAll B ds = true → okAll C ds = true
  | [], _ => rfl
  | x :: r, q => by
    have q' : (okD B x && okAll B r) = true := q
    rw [Bool.and_eq_true] at q'
    show (okD C x && okAll C r) = true
    rw [okD.mono h q'.1, okAll.mono h q'.2]
    rfl
end
mutual
theorem okD.facts {B : Nat} (hB : B ≤ 1000000000) : ∀ {d : PyData}, okD B d = true → d.canLay0 = true ∧ d.showable = true ∧ d.hasDict = false ∧ szD d + 3 ≤ 300 * nodes d
  | .none, _ => ⟨rfl, rfl, rfl, by show 4 + 3 ≤ 300 * 1; decide⟩
  | .bool _, _ => ⟨rfl, rfl, rfl, by show 5 + 3 ≤ 300 * 1; decide⟩
  | .int i, q => by
    have hi : i.natAbs ≤ B := of_decide_eq_true q
    refine ⟨rfl, decide_eq_true (log2_ok18 (by omega)), rfl, ?_⟩
    show (Str.ofString (toString i)).length + 3 ≤ 300 * 1
    have := int_len (i := i) (by omega)
    omega
  | .str z, q => by
    have q' : (decide (z.length ≤ 20) && z.cps.all (· < 0x110000)) = true := q
    rw [Bool.and_eq_true, decide_eq_true_eq] at q'
    exact ⟨q'.2, rfl, rfl, by show 10 * z.length + 2 + 3 ≤ 300 * 1; omega⟩
  | .list xs, q => by
    obtain ⟨h1, h2, h3, h4⟩ := okAll.facts hB (ds := xs) q
    exact ⟨h1, h2, h3, by show szAll xs + 2 + 3 ≤ 300 * (nodesAll xs + 1); omega⟩
  | .tuple xs, q => by
    obtain ⟨h1, h2, h3, h4⟩ := okAll.facts hB (ds := xs) q
    exact ⟨h1, h2, h3, by show szAll xs + 3 + 3 ≤ 300 * (nodesAll xs + 1); omega⟩
  | .dict _, q => by cases q
theorem okAll.facts {B : Nat} (hB : B ≤ 1000000000) : ∀ {ds : List PyData}, okAll B ds = true → PyData.canLayAll0 ds = true ∧ PyData.showableAll ds = true ∧ PyData.hasDictAll ds = false ∧ szAll ds ≤ 300 * nodesAll ds
  | [], _ => ⟨rfl, rfl, rfl, Nat.zero_le _⟩
  | x :: r, q => by
    have q' : (okD B x && okAll B r) = true := q
    rw [Bool.and_eq_true] at q'
    obtain ⟨a1, a2, a3, a4⟩ := okD.facts hB q'.1
    obtain ⟨b1, b2, b3, b4⟩ := okAll.facts hB q'.2
    have np := nodes_pos x
    refine ⟨?_, ?_, ?_, ?_⟩
    · show (x.canLay0 && PyData.canLayAll0 r) = true
      rw [a1, b1]; rfl
    · show (x.showable && PyData.showableAll r) = true
      rw [a2, b2]; rfl
    · show (x.hasDict || PyData.hasDictAll r) = false
      rw [a3, b3]; rfl
    · show szD x + 2 + szAll r ≤ 300 * (nodes x + nodesAll r)
      omega
end
/-- its text can be told -/
theorem repr_th {B : Nat} (hB : B ≤ 1000000000) {d : PyData} (h : okD B d = true) (hd : d.depth ≤ 50) (hn : nodes d ≤ 10000) {P : PyData → Prop} (q : P (.str d.shown)) : DL.bReprV [d] P := by
  obtain ⟨h1, h2, h3, h4⟩ := okD.facts hB h
  have lin : sizeLine = 16777216 := by decide +kernel
  exact ⟨h3, h2, by omega, Nat.le_trans (shown_le d h1) (by omega), q⟩
theorem okAll_app {B : Nat} {xs ys : List PyData} : okAll B (xs ++ ys) = (okAll B xs && okAll B ys) := by
  induction xs with
  | nil => rfl
  | cons x r ih =>
    show (okD B x && okAll B (r ++ ys)) = ((okD B x && okAll B r) && okAll B ys)
    rw [ih, Bool.and_assoc]
theorem nodesAll_app {xs ys : List PyData} : nodesAll (xs ++ ys) = nodesAll xs + nodesAll ys := by
  induction xs with
  | nil => show nodesAll ys = 0 + nodesAll ys; omega
  | cons x r ih =>
    show nodes x + nodesAll (r ++ ys) = nodes x + nodesAll r + nodesAll ys
    rw [ih]; omega
theorem depthAll_app {xs ys : List PyData} : PyData.depthAll (xs ++ ys) = max (PyData.depthAll xs) (PyData.depthAll ys) := by
  induction xs with
  | nil => show PyData.depthAll ys = max 0 (PyData.depthAll ys); omega
  | cons x r ih =>
    show max x.depth (PyData.depthAll (r ++ ys)) = max (max x.depth (PyData.depthAll r)) (PyData.depthAll ys)
    rw [ih]; omega
/-- a list of things within bounds: numbers, depth, how many -/
structure Th (B D N : Nat) (ds : List PyData) : Prop where
  ok : okAll B ds = true
  dp : PyData.depthAll ds ≤ D
  nd : nodesAll ds ≤ N
theorem Th.app {B D N M : Nat} {xs ys : List PyData} (a : Th B D N xs) (b : Th B D M ys) : Th B D (N + M) (xs ++ ys) :=
  ⟨by rw [okAll_app, a.ok, b.ok]; rfl, by rw [depthAll_app]; have := a.dp; have := b.dp; omega, by rw [nodesAll_app]; have := a.nd; have := b.nd; omega⟩
theorem Th.mono {B D N B' D' N' : Nat} {xs : List PyData} (a : Th B D N xs) (h1 : B ≤ B') (h2 : D ≤ D') (h3 : N ≤ N') : Th B' D' N' xs := ⟨okAll.mono h1 a.ok, Nat.le_trans a.dp h2, Nat.le_trans a.nd h3⟩
theorem Th.left {B D N : Nat} {xs ys : List PyData} (a : Th B D N (xs ++ ys)) : Th B D N xs := by
  obtain ⟨h1, h2, h3⟩ := a
  rw [okAll_app, Bool.and_eq_true] at h1
  rw [depthAll_app] at h2
  rw [nodesAll_app] at h3
  exact ⟨h1.1, by omega, by omega⟩
theorem Th.right {B D N : Nat} {xs ys : List PyData} (a : Th B D N (xs ++ ys)) : Th B D N ys := by
  obtain ⟨h1, h2, h3⟩ := a
  rw [okAll_app, Bool.and_eq_true] at h1
  rw [depthAll_app] at h2
  rw [nodesAll_app] at h3
  exact ⟨h1.2, by omega, by omega⟩
theorem Th.take {B D N : Nat} {xs : List PyData} (a : Th B D N xs) (k : Nat) : Th B D N (xs.take k) := by
  rw [← List.take_append_drop k xs] at a
  exact a.left
theorem Th.drop {B D N : Nat} {xs : List PyData} (a : Th B D N xs) (k : Nat) : Th B D N (xs.drop k) := by
  rw [← List.take_append_drop k xs] at a
  exact a.right
theorem Th.cut {B D N : Nat} {xs : List PyData} (a : Th B D N xs) (lo hi : Option Int) : Th B D N (DL.cutD xs lo hi) := (a.drop _).take _
theorem Th.one {B D N : Nat} {d : PyData} (h1 : okD B d = true) (h2 : d.depth ≤ D) (h3 : nodes d ≤ N) : Th B D N [d] :=
  ⟨by show (okD B d && true) = true; rw [h1]; rfl, by show max d.depth 0 ≤ D; omega, by show nodes d + 0 ≤ N; omega⟩
theorem Th.get {B D N : Nat} {xs : List PyData} (a : Th B D N xs) {d : PyData} (h : d ∈ xs) : okD B d = true ∧ d.depth ≤ D ∧ nodes d ≤ N := by
  obtain ⟨l, r, rfl⟩ := List.append_of_mem h
  have b := a.right
  have c : Th B D N [d] := Th.left (ys := r) b
  obtain ⟨c1, c2, c3⟩ := c
  have c1' : (okD B d && true) = true := c1
  rw [Bool.and_true] at c1'
  exact ⟨c1', by have : max d.depth 0 ≤ D := c2; omega, by have : nodes d + 0 ≤ N := c3; omega⟩
theorem Th.rev {B D N : Nat} {xs : List PyData} (a : Th B D N xs) : Th B D N xs.reverse := by
  induction xs generalizing N with
  | nil => exact a
  | cons x r ih =>
    obtain ⟨h1, h2, h3⟩ := a
    have h1' : (okD B x && okAll B r) = true := h1
    rw [Bool.and_eq_true] at h1'
    have h2' : max x.depth (PyData.depthAll r) ≤ D := h2
    have h3' : nodes x + nodesAll r ≤ N := h3
    rw [List.reverse_cons]
    exact ((ih (N := nodesAll r) ⟨h1'.2, by omega, Nat.le_refl _⟩).app (Th.one (N := nodes x) h1'.1 (by omega) (Nat.le_refl _))).mono (Nat.le_refl _) (Nat.le_refl _) (by omega)
theorem cutD_len (xs : List PyData) (lo hi : Option Int) : (DL.cutD xs lo hi).length ≤ xs.length := by
  unfold DL.cutD
  rw [List.length_take, List.length_drop]
  omega
/-! functions over data -/
def F_is_whole : FN := fnF 3 3 (fRet (fAndV (fIsi "int" (fV 0)) (fAndV (fNotV (fIsi "bool" (fV 0))) (fChain oLe oLe (fV 1) (fV 0) (fV 2)))))
def F_is_rule_pair_1 : FS := (fRet (fAndV (fCall 3 F_is_whole [] (cDat (fOp oIx (fV 0) (fC (.int 0))) (cDat (fC (.int 1)) (cDat (fC (.int 999)) cNil)))) (fCall 3 F_is_whole [] (cDat (fOp oIx (fV 0) (fC (.int 1))) (cDat (fC (.int 1)) (cDat (fC (.int 99)) cNil))))))
def F_is_rule_pair : FN := fnF 1 1 (fSeq (fIfS (fOr (fNot (fB (fIsi "tuple" (fV 0)))) (fB (fOp oNe (fCB bLen (fCons (fV 0) fNil)) (fC (.int 2))))) (fRet (fC (.bool false))) fNext)
    F_is_rule_pair_1)
def F_is_rule_1 : FE := (fAndV (fOp oLt (fOp oIx (fV 2) (fC (.int 0))) (fOp oIx (fV 3) (fC (.int 0)))) (fOp oGt (fOp oIx (fV 2) (fC (.int 1))) (fOp oIx (fV 3) (fC (.int 1)))))
def F_is_rule_2 : FS := (fRet (fCB bAll (fCons (fNew (fLc (iZ (fCons (fV 0) (fCons (fSl sT (fV 0) (pSo (fC (.int 1))) pNo) fNil))) (gT 2 (gsCons (gN 2) (gsCons (gN 3) gsNil))) fYes F_is_rule_1 [2, 3])) fNil)))
def F_is_rule_3 : FE := (fCall 1 F_is_rule_pair [] (cDat (fV 1) cNil))
def F_is_rule : FN := fnF 1 4 (fSeq (fIfS (fOr (fNot (fB (fIsi "tuple" (fV 0)))) (fOr (fB (fOp oGt (fCB bLen (fCons (fV 0) fNil)) (fC (.int 6)))) (fNot (fB (fCB bAll (fCons (fNew (fLc (iT (fV 0)) (gN 1) fYes F_is_rule_3 [1])) fNil)))))) (fRet (fC (.bool false))) fNext)
    F_is_rule_2)
def F__law_rule_1 : FT := (fAnd (fB (fOp oLt (fOp oIxT (fV 5) (fC (.int 0))) (fC (.int 1000)))) (fB (fOp oGt (fOp oIxT (fV 5) (fC (.int 1))) (fC (.int 0)))))
def F__law_rule_2 : FS := (fFreeze 3 (fRet (fCB bTuple (fCons (fNew (fLc (iL (fV 3)) (gN 5) F__law_rule_1 (fV 5) [5])) fNil))))
def F__law_rule_3 : FS := (fSeq (fPar 1 2 (fCons (fOp oAdd (fOp oAdd (fV 1) (fC (.int 1))) (fCall 2 F__law_take [] (cOwn 0 (cDat (fOp oIxL (fNew (fLst (fCons (fC (.int 3)) (fCons (fC (.int 30)) (fCons (fC (.int 160)) fNil))))) (fCall 2 F__law_take [] (cOwn 0 (cDat (fC (.int 3)) cNil)))) cNil)))) (fCons (fOp oSub (fOp oSub (fV 2) (fC (.int 1))) (fCall 2 F__law_take [] (cOwn 0 (cDat (fC (.int 14)) cNil)))) fNil)))
    (fAppend 3 (fTup (fCons (fV 1) (fCons (fV 2) fNil)))))
def F__law_rule : FN := fnF 1 6 (fSeq (fPar3O3 1 2 3 (fC (.int 0)) (fC (.int 100)) (fLst fNil))
    (fSeq (fFor [4] (iR1 (fCons (fCall 2 F__law_take [] (cOwn 0 (cDat (fC (.int 7)) cNil))) fNil)) (gN 4) F__law_rule_3)
    F__law_rule_2))
def F__law_leaf : FN := fnF 2 3 (fSeq (fAsg (fNew (fLst (fCons (fOp oAddN (fV 1) (fC (.int 1))) (fCons (fOp oSubN (fV 1) (fC (.int 1))) (fCons (fC (.int 0)) (fCons (fC (.int 1)) (fCons (fC (.int 99)) (fCons (fC (.int 100)) (fCons (fC (.int 999)) (fCons (fC (.int 1000)) (fCons (fC (.bool true)) (fCons (fC .none) (fCons (fCB bStrV (fCons (fV 1) fNil)) (fCons (fTup (fCons (fV 1) fNil)) fNil)))))))))))))) (gN 2))
    (fRet (fOp oIxL (fV 2) (fCall 2 F__law_take [] (cOwn 0 (cDat (fC (.int 12)) cNil))))))
def F__law_bent_1 : FS := (fRet (fOp oCatT (fOp oCatT (fSl sT (fV 1) pNo (pSo (fV 3))) (fTup (fCons (fOp oIxL (fNew (fLst (fCons (fTup (fCons (fC (.int 5)) (fCons (fC (.int 5)) fNil))) (fCons (fTup (fCons (fC (.int 1)) (fCons (fC (.int 99)) fNil))) (fCons (fTup (fCons (fC (.int 999)) (fCons (fC (.int 1)) fNil))) (fCons (fTup fNil) (fCons (fC (.int 7)) fNil))))))) (fCall 2 F__law_take [] (cOwn 0 (cDat (fC (.int 5)) cNil)))) fNil))) (fSl sT (fV 1) (pSo (fV 3)) pNo)))
def F__law_bent_2 : FS := (fSeq (fIfS (fB (fOp oEq (fV 2) (fC (.int 6)))) (fRet (fOp oCatT (fOp oCatT (fSl sT (fV 1) pNo (pSo (fV 3))) (fRevT (fSl sT (fV 1) (pSo (fV 3)) (pSo (fOp oAdd (fV 3) (fC (.int 2))))))) (fSl sT (fV 1) (pSo (fOp oAdd (fV 3) (fC (.int 2)))) pNo))) fNext)
    F__law_bent_1)
def F__law_bent_3 : FS := (fSeq (fIfS (fB (fOp oEq (fV 2) (fC (.int 5)))) (fRet (fOp oCatT (fOp oCatT (fSl sT (fV 1) pNo (pSo (fV 3))) (fSl sT (fV 1) (pSo (fV 3)) (pSo (fOp oAdd (fV 3) (fC (.int 1)))))) (fSl sT (fV 1) (pSo (fV 3)) pNo))) fNext)
    F__law_bent_2)
def F__law_bent_4 : FS := (fSeq (fIfS (fB (fOp oEq (fV 2) (fC (.int 4)))) (fRet (fOp oCatT (fSl sT (fV 1) pNo (pSo (fV 3))) (fSl sT (fV 1) (pSo (fOp oAdd (fV 3) (fC (.int 1)))) pNo))) fNext)
    F__law_bent_3)
def F__law_bent_5 : FS := (fSeq (fAsg (fOp oIxL (fNew (fLst (fCons (fIxO 7 (fC (.int 0))) (fCons (fIxO 7 (fC (.int 1))) (fCons (fNew (fLst (fCons (fV 5) (fCons (fV 6) fNil)))) (fCons (fTup (fCons (fV 5) (fCons (fV 6) (fCons (fC (.int 1)) fNil)))) fNil)))))) (fV 2)) (gN 8))
    (fRet (fOp oCatT (fOp oCatT (fSl sT (fV 1) pNo (pSo (fV 3))) (fTup (fCons (fV 8) fNil))) (fSl sT (fV 1) (pSo (fOp oAdd (fV 3) (fC (.int 1)))) pNo))))
def F__law_bent_6 : FS := (fSeq (fAppend 7 (fTup (fCons (fV 5) (fCons (fIf (fB (fIsi "int" (fV 6))) (fCall 2 F__law_leaf [] (cOwn 0 (cDat (fV 6) cNil))) (fV 6)) fNil))))
    F__law_bent_5)
def F__law_bent_7 : FS := (fSeq (fIfS (fAnd (fB (fOp oLt (fV 2) (fC (.int 4)))) (fAnd (fB (fIsi "tuple" (fV 4))) (fB (fOp oEq (fCB bLen (fCons (fV 4) fNil)) (fC (.int 2)))))) (fSeq (fAsg (fV 4) (gT 2 (gsCons (gN 5) (gsCons (gN 6) gsNil))))
    (fSeq (fOwn 7 (fLst (fCons (fTup (fCons (fIf (fB (fIsi "int" (fV 5))) (fCall 2 F__law_leaf [] (cOwn 0 (cDat (fV 5) cNil))) (fV 5)) (fCons (fV 6) fNil))) fNil)))
    F__law_bent_6)) fNext)
    F__law_bent_4)
def F__law_bent : FN := fnF 2 9 (fSeq (fPar 2 3 (fCons (fCall 2 F__law_take [] (cOwn 0 (cDat (fC (.int 8)) cNil))) (fCons (fCall 2 F__law_take [] (cOwn 0 (cDat (fOp oAdd (fCB bLen (fCons (fV 1) fNil)) (fC (.int 1))) cNil))) fNil)))
    (fSeq (fAsg (fIf (fB (fOp oLt (fV 3) (fCB bLen (fCons (fV 1) fNil)))) (fOp oIxT (fV 1) (fV 3)) (fC .none)) (gN 4))
    F__law_bent_7))
def F__law_whole : FN := fnF 3 3 (fRet (fAndV (fIsi "int" (fV 0)) (fAndV (fNotV (fIsi "bool" (fV 0))) (fChain oLe oLe (fV 1) (fV 0) (fV 2)))))
def F__law_is_pair_1 : FS := (fRet (fAndV (fCall 3 F__law_whole [] (cDat (fOp oIx (fV 0) (fC (.int 0))) (cDat (fC (.int 1)) (cDat (fC (.int 999)) cNil)))) (fCall 3 F__law_whole [] (cDat (fOp oIx (fV 0) (fC (.int 1))) (cDat (fC (.int 1)) (cDat (fC (.int 99)) cNil))))))
def F__law_is_pair : FN := fnF 1 1 (fSeq (fIfS (fOr (fNot (fB (fIsi "tuple" (fV 0)))) (fB (fOp oNe (fCB bLen (fCons (fV 0) fNil)) (fC (.int 2))))) (fRet (fC (.bool false))) fNext)
    F__law_is_pair_1)
def F__law_is_rule_1 : FS := (fRet (fC (.bool true)))
def F__law_is_rule_2 : FS := (fIfS (fOr (fB (fOp oLe (fOp oIx (fV 3) (fC (.int 0))) (fOp oIx (fV 2) (fC (.int 0))))) (fB (fOp oGe (fOp oIx (fV 3) (fC (.int 1))) (fOp oIx (fV 2) (fC (.int 1)))))) (fRet (fC (.bool false))) fNext)
def F__law_is_rule_3 : FS := (fSeq (fFor [2, 3] (iZ (fCons (fV 0) (fCons (fSl sT (fV 0) (pSo (fC (.int 1))) pNo) fNil))) (gT 2 (gsCons (gN 2) (gsCons (gN 3) gsNil))) F__law_is_rule_2)
    F__law_is_rule_1)
def F__law_is_rule_4 : FE := (fCall 1 F__law_is_pair [] (cDat (fV 1) cNil))
def F__law_is_rule : FN := fnF 1 4 (fSeq (fIfS (fOr (fNot (fB (fIsi "tuple" (fV 0)))) (fOr (fB (fOp oGt (fCB bLen (fCons (fV 0) fNil)) (fC (.int 6)))) (fNot (fB (fCB bAll (fCons (fNew (fLc (iT (fV 0)) (gN 1) fYes F__law_is_rule_4 [1])) fNil)))))) (fRet (fC (.bool false))) fNext)
    F__law_is_rule_3)
def F__law_right_1 : FS := (fRet (fCall 1 F_is_rule [] (cDat (fV 1) cNil)))
def F__law_right_2 : FS := (fSeq (fPar 8 9 (fCons (fCB bReprV (fCons (fV 7) fNil)) (fCons (fCall 1 F_is_rule [] (cDat (fV 7) cNil)) fNil)))
    (fIfS (fOr (fNot (fB (fIsi "bool" (fV 9)))) (fOr (fB (fOp oNe (fV 9) (fCall 1 F__law_is_rule [] (cDat (fV 7) cNil)))) (fB (fOp oNe (fCB bReprV (fCons (fV 7) fNil)) (fV 8))))) (fRet (fC (.bool false))) fNext))
def F__law_right_3 : FS := (fSeq (fFreeze 4 (fFor [7, 8, 9] (iL (fV 4)) (gN 7) F__law_right_2))
    F__law_right_1)
def F__law_right_4 : FS := (fSeq (fAsg (fCall 2 F__law_bent [] (cOwn 0 (cDat (fV 1) cNil))) (gN 6))
    (fAppend 4 (fIf (fB (fOp oEq (fCall 2 F__law_take [] (cOwn 0 (cDat (fC (.int 3)) cNil))) (fC (.int 0)))) (fCall 2 F__law_bent [] (cOwn 0 (cDat (fV 6) cNil))) (fV 6))))
def F__law_right_5 : FE := (fTup (fCons (fOp oMul (fC (.int 10)) (fOp oAdd (fV 3) (fC (.int 1)))) (fCons (fOp oSub (fC (.int 90)) (fV 3)) fNil)))
def F__law_right : FN := fnF 1 10 (fSeq (fPar 1 2 (fCons (fCall 1 F__law_rule [] (cOwn 0 cNil)) (fCons (fCB bTuple (fCons (fNew (fLc (iR1 (fCons (fC (.int 6)) fNil)) (gN 3) fYes F__law_right_5 [3])) fNil)) fNil)))
    (fSeq (fOwn 4 (fLst (fCons (fV 1) (fCons (fCB bList (fCons (fV 1) fNil)) (fCons (fTup fNil) (fCons (fNew (fLst fNil)) (fCons (fC .none) (fCons (fC (.int 5)) (fCons (fC (.str (Str.ofString ""))) (fCons (fV 2) (fCons (fOp oCatT (fV 2) (fTup (fCons (fTup (fCons (fC (.int 61)) (fCons (fC (.int 5)) fNil))) fNil))) (fCons (fOp oCatT (fSl sT (fV 2) pNo (pSo (fC (.int 5)))) (fTup (fCons (fTup (fCons (fC (.int 999)) (fCons (fC (.int 1)) fNil))) fNil))) fNil))))))))))))
    (fSeq (fFreeze 4 (fOwn 4 (fOpN nCat (fV 4) (fNew (fLst (fCons (fTup (fCons (fTup (fCons (fC (.int 1)) (fCons (fC (.int 99)) fNil))) fNil)) (fCons (fTup (fCons (fTup (fCons (fC (.int 0)) (fCons (fC (.int 9)) fNil))) fNil)) fNil)))))))
    (fSeq (fFreeze 4 (fOwn 4 (fOpN nCat (fV 4) (fNew (fLst (fCons (fTup (fCons (fTup (fCons (fC (.int 1)) (fCons (fC (.int 99)) fNil))) (fCons (fTup (fCons (fC (.int 2)) (fCons (fC (.int 98)) fNil))) (fCons (fTup (fCons (fC (.int 3)) (fCons (fC (.int 97)) fNil))) (fCons (fTup (fCons (fC (.int 4)) (fCons (fC (.int 96)) fNil))) (fCons (fTup (fCons (fC (.int 5)) (fCons (fC (.int 95)) fNil))) (fCons (fTup (fCons (fC (.int 6)) (fCons (fC (.int 94)) fNil))) fNil))))))) (fCons (fTup (fCons (fTup (fCons (fC (.int 5)) (fCons (fC (.int 50)) fNil))) (fCons (fTup (fCons (fC (.int 5)) (fCons (fC (.int 40)) fNil))) fNil))) (fCons (fTup (fCons (fTup (fCons (fC (.int 5)) (fCons (fC (.int 50)) fNil))) (fCons (fTup (fCons (fC (.int 6)) (fCons (fC (.int 50)) fNil))) fNil))) fNil))))))))
    (fSeq (fFreeze 4 (fOwn 4 (fOpN nCat (fV 4) (fNew (fLst (fCons (fTup (fCons (fC (.int 5)) (fCons (fC (.int 50)) fNil))) (fCons (fOp oCatT (fTup (fCons (fTup (fCons (fC (.int 5)) (fCons (fC (.int 50)) fNil))) fNil)) (fTup (fCons (fNew (fLst (fCons (fC (.int 6)) (fCons (fC (.int 40)) fNil)))) fNil))) (fCons (fTup (fCons (fC (.str (Str.ofString "rule"))) fNil)) (fCons (fTup (fCons (fTup (fCons (fC (.bool true)) (fCons (fC (.int 5)) fNil))) fNil)) (fCons (fTup (fCons (fTup (fCons (fC (.int 5)) (fCons (fC (.bool true)) fNil))) fNil)) fNil))))))))))
    (fSeq (fFor [5, 6] (iR1 (fCons (fC (.int 12)) fNil)) (gN 5) F__law_right_4)
    F__law_right_3))))))
local macro_rules | `(tactic| walk_at "f") => `(tactic| simp only [fnF, fSeq, fNext, fRet, fRetN, fAsg, fDrop, fIfS, fAnd, fOr, fNot, fAndV, fOrV, fNotV, fB, fTru, truF, boolF, fOp, fUn, fV, fC, fCons, fNil, fCB, fBM, fCall, cNil, cDat, cOwn, argF, wb, ownIx, fTup, fNew, fLst, fIf, fChain, o2, o2c, oStr, oEqB, oEqD, oNeD, oIsB, isNone, oInSB, oIn, seqF, oIxL, oIxT, oIxS, oIx, fSl, pNo, pSo, sL, sT, sS, listF, tupleF, strF, intF, ownF, fIxO, fLenO, fInO, fAppend, gSubO, gN, gT, gsCons, gsNil, fPar, fPar3, fAug, fFreeze, fOwn, slotF, sz0, sz1, sz2, sz3, sz4, sz5, sz6, sz7, sz8, sz9, sz10, sz11, sz12, sz13, sz14, sz15, sz16, sz17, sz18, sz19, sz20, Nat.reduceLT, Nat.reduceLeDiff, isObjD, fParO1, fParO2, fPar3O3, fAugO, fEqO, fFld, fMk, fMkN, fCallN, List.drop_zero, List.drop_succ_cons, Int.reduceToNat, Int.reducePow, Int.reduceNeg, Int.reduceLE, Int.reduceLT, Int.cast_ofNat_Int, F__law_take, fgt, List.tail_cons, List.headD_cons, at0, at1, at2, at3, at4, Int.zero_add, Int.not_lt, Int.not_le, Nat.not_lt, Nat.not_le, ite_not, fYes, fIsi, oCatL, oCatT, fRep, uNeg, bLenS, bLen, bAbs, bMin, bMax, bDivmod, bAll, bAny, bSum, bInt, bBool, bList, bTuple, one, two, iL, iT, iS, iR1, iR2, iR3, iE, iZ, fBreak, fCont, fNever, fnM, fRetO, fRetW, fCallW, fCallNW, fCBN, nList, nSortI, nSortS, fOpN, nCat, fSlN, fRev, fPopAt, fPop, fInsert, fExtend, fReverse, fIsiLT, bMax3, F__law_same, fParOO, fnX, fCallX, fCallNX, fRaise, fTryK, fIsX, fWhat, excF, excD, tabL, fldD, noX, oIsT, isBool, fCallV, funF, tabF, fnD, iA, fRevS, fRevT, oNumD, numD, bStrV, strD,
  List.getElem?_cons_zero, List.getElem?_cons_succ, List.getElem?_nil, List.cons_append, List.nil_append, List.append_nil, List.set_cons_zero, List.set_cons_succ, List.map_cons, List.map_nil, List.length_cons, List.length_nil, List.nodup_nil, List.nodup_cons, List.not_mem_nil, not_false_eq_true, and_self, and_true, true_and, List.replicate_succ, List.replicate_zero, List.take_succ_cons, List.take_zero, Nat.reduceSub, Nat.reduceAdd, Nat.zero_add, decide_eq_true_eq, Bool.not_eq_true', decide_eq_false_iff_not, if_true, if_false, Bool.not_true, Bool.not_false, Bool.false_eq_true, reduceIte, id, not_true_eq_false, reduceCtorEq, fFor, fLc, fWhile, wipeF, kit_none_int, kit_none_bool, kit_none_str, kit_none_list, kit_none_tuple, kit_bool_int, kit_bool_bool, kit_bool_str, kit_bool_list, kit_bool_tuple, kit_int_int, kit_int_bool, kit_int_str, kit_int_list, kit_int_tuple, kit_str_int, kit_str_bool, kit_str_str, kit_str_list, kit_str_tuple, kit_list_int, kit_list_bool, kit_list_str, kit_list_list, kit_list_tuple, kit_tuple_int, kit_tuple_bool, kit_tuple_str, kit_tuple_list, kit_tuple_tuple, Option.some.injEq, exists_eq_left', exists_eq_left, List.all_cons, List.all_nil, Bool.and_true, Bool.and_self, List.cons.injEq, Nat.reduceMul ])

local macro_rules | `(tactic| walk_at "w") => `(tactic| try walk_at "f")
def wholeD (d : PyData) (lo hi : Int) : Bool := match d with
  | .int i => decide (lo ≤ i) && decide (i ≤ hi)
  | _ => false
theorem f_whole {B : Nat} {d : PyData} {lo hi : Int} (h : okD B d = true) {P : PyData → List Sl → Prop} (q : ∀ sl, P (.bool (wholeD d lo hi)) sl) : F_is_whole [.fz d, .fz (.int lo), .fz (.int hi)] P := by
  unfold F_is_whole
  cases d with
  | dict _ => cases h
  | int i =>
    walk_at "w"
    have q : ∀ sl, P (.bool (decide (lo ≤ i) && decide (i ≤ hi))) sl := q
    by_cases c : lo ≤ i
    · rw [decide_eq_true c, Bool.true_and] at q
      rw [if_pos c]
      exact q _
    · rw [decide_eq_false c, Bool.false_and] at q
      rw [if_neg c]
      exact q _
  | bool b =>
    walk_at "w"
    exact q _
  | none => walk_at "w"; exact q _
  | str _ => walk_at "w"; exact q _
  | list _ => walk_at "w"; exact q _
  | tuple _ => walk_at "w"; exact q _
theorem whole_eq : F__law_whole = F_is_whole := rfl
theorem pair_eq : F__law_is_pair = F_is_rule_pair := rfl
def toPair : PyData → Option (Int × Int)
  | .tuple [a, b] => if (wholeD a 1 999 && wholeD b 1 99) = true then (match a, b with | .int i, .int j => some (i, j) | _, _ => none) else none
  | _ => none
theorem toPair_some {d : PyData} {p : Int × Int} (h : toPair d = some p) : d = pairD p := by
  unfold toPair at h
  split at h
  · split at h
    · split at h
      · cases h; rfl
      · cases h
    · cases h
  · cases h
theorem f_pair {B : Nat} {d : PyData} (h : okD B d = true) {P : PyData → List Sl → Prop} (q : ∀ sl, P (.bool (toPair d).isSome) sl) : F_is_rule_pair [.fz d] P := by
  unfold F_is_rule_pair
  cases d with
  | dict _ => cases h
  | tuple ds =>
    match ds, h, q with
    | [], h, q => walk_at "w"; exact q _
    | [a], h, q => walk_at "w"; exact q _
    | [a, b], h, q =>
      have h' : (okD B a && (okD B b && true)) = true := h
      rw [Bool.and_true, Bool.and_eq_true] at h'
      walk_at "w"
      unfold F_is_rule_pair_1
      walk_at "w"
      refine f_whole h'.1 fun _ => ?_
      walk_at "w"
      have e : (toPair (.tuple [a, b])).isSome = (wholeD a 1 999 && wholeD b 1 99) := by
        cases a <;> cases b <;> simp [toPair, wholeD]
        split <;> simp_all
      rw [e] at q
      cases hw : wholeD a 1 999 with
      | false =>
        rw [hw, Bool.false_and] at q
        exact q _
      | true =>
        rw [hw, Bool.true_and] at q
        exact f_whole h'.2 fun _ => q _
    | a :: b :: c :: r, h, q =>
      walk_at "w"
      rw [if_neg (by omega)]
      exact q _
  | int _ => walk_at "w"; exact q _
  | bool _ => walk_at "w"; exact q _
  | none => walk_at "w"; exact q _
  | str _ => walk_at "w"; exact q _
  | list _ => walk_at "w"; exact q _
/-- all pairs, or none -/
def pairsOf : List PyData → Option (List (Int × Int))
  | [] => some []
  | d :: r => match toPair d, pairsOf r with
    | some p, some q => some (p :: q)
    | _, _ => none
theorem pairsOf_some : ∀ {ds : List PyData} {r : List (Int × Int)}, pairsOf ds = some r → ds = r.map pairD
  | [], r, h => by cases h; rfl
  | d :: ds, r, h => by
    unfold pairsOf at h
    split at h
    · next p q h1 h2 =>
      cases h
      rw [toPair_some h1, pairsOf_some h2]
      rfl
    · cases h
theorem pairsOf_all (ds : List PyData) : (ds.map fun d => (toPair d).isSome).all id = (pairsOf ds).isSome := by
  induction ds with
  | nil => rfl
  | cons d r ih =>
    rw [List.map_cons, List.all_cons, ih]
    show (id (toPair d).isSome && (pairsOf r).isSome) = (match toPair d, pairsOf r with | some p, some q => some (p :: q) | _, _ => none).isSome
    generalize toPair d = x
    generalize pairsOf r = y
    cases x <;> cases y <;> rfl
def fallsB (r : List (Int × Int)) : Bool := (r.zip r.tail).all fun z => decide (z.1.1 < z.2.1) && decide (z.2.2 < z.1.2)
def isRuleB : PyData → Bool
  | .tuple ds => decide (ds.length ≤ 6) && (match pairsOf ds with | some r => fallsB r | none => false)
  | _ => false
theorem zipD_pairs (r : List (Int × Int)) : zipD (r.map pairD) (r.tail.map pairD) = (r.zip r.tail).map fun z => .tuple [pairD z.1, pairD z.2] := by
  unfold zipD
  rw [List.zip_map, List.map_map]
  rfl
theorem f_is_rule {B : Nat} {d : PyData} (h : okD B d = true) (hl : nodes d ≤ 1000000) {P : PyData → List Sl → Prop} (q : ∀ sl, P (.bool (isRuleB d)) sl) : F_is_rule [.fz d] P := by
  have lin : sizeLine = 16777216 := by decide +kernel
  unfold F_is_rule
  cases d with
  | dict _ => cases h
  | tuple ds =>
    have hl' : nodesAll ds + 1 ≤ 1000000 := hl
    have ln := len_nodes ds
    have hd := okAll_iff.mp (show okAll B ds = true from h)
    walk_at "w"
    have e0 : isRuleB (.tuple ds) = (decide (ds.length ≤ 6) && (match pairsOf ds with | some r => fallsB r | none => false)) := rfl
    rw [e0] at q
    by_cases c1 : 6 < ds.length
    · rw [decide_eq_false (by omega), Bool.false_and] at q
      rw [if_pos (by omega)]
      exact q _
    rw [decide_eq_true (by omega), Bool.true_and] at q
    rw [if_neg (by omega)]
    refine lc_map ds id (fun d => some (.bool (toPair d).isSome)) (by simp) rfl (by omega) (fun d R acc hm hacc hR => ?_) ?_
    · unfold F_is_rule_3
      walk_at "w"
      exact f_pair (hd d hm) fun _ => ⟨hacc, hR⟩
    rw [filterMap_some, show (ds.map fun d => PyData.bool (toPair d).isSome) = (ds.map fun d => (toPair d).isSome).map PyData.bool from by rw [List.map_map]; rfl]
    refine boolsF_map ?_
    rw [pairsOf_all]
    cases hp : pairsOf ds with
    | none =>
      rw [hp] at q
      exact q _
    | some r =>
      rw [hp] at q
      have er := pairsOf_some hp
      subst er
      rw [List.length_map] at ln c1
      refine ite2 (fun z => by cases z) fun _ => ?_
      unfold F_is_rule_2
      walk_at "w"
      rw [cutD_tail, zipD_pairs]
      refine lc_map (r.zip r.tail) (fun z => .tuple [pairD z.1, pairD z.2]) (fun z => some (.bool (decide (z.1.1 < z.2.1) && decide (z.2.2 < z.1.2)))) rfl rfl (by rw [List.length_zip]; omega) (fun z R acc hm hacc hR => ?_) ?_
      · unfold F_is_rule_1 pairD
        walk_at "w"
        by_cases c : z.1.1 < z.2.1
        · rw [if_pos c]
          rw [decide_eq_true c, Bool.true_and] at hR
          exact ⟨hacc, hR⟩
        · rw [if_neg c]
          rw [decide_eq_false c, Bool.false_and] at hR
          exact ⟨hacc, hR⟩
      rw [filterMap_some, show ((r.zip r.tail).map fun z => PyData.bool (decide (z.1.1 < z.2.1) && decide (z.2.2 < z.1.2))) = ((r.zip r.tail).map fun z => decide (z.1.1 < z.2.1) && decide (z.2.2 < z.1.2)).map PyData.bool from by rw [List.map_map]; rfl]
      refine boolsF_map ?_
      rw [List.all_map]
      exact q _
  | int _ => walk_at "w"; exact q _
  | bool _ => walk_at "w"; exact q _
  | none => walk_at "w"; exact q _
  | str _ => walk_at "w"; exact q _
  | list _ => walk_at "w"; exact q _
theorem f_lis_rule {B : Nat} {d : PyData} (h : okD B d = true) (hl : nodes d ≤ 1000000) {P : PyData → List Sl → Prop} (q : ∀ sl, P (.bool (isRuleB d)) sl) : F__law_is_rule [.fz d] P := by
  have lin : sizeLine = 16777216 := by decide +kernel
  unfold F__law_is_rule
  cases d with
  | dict _ => cases h
  | tuple ds =>
    have hl' : nodesAll ds + 1 ≤ 1000000 := hl
    have ln := len_nodes ds
    have hd := okAll_iff.mp (show okAll B ds = true from h)
    walk_at "w"
    have e0 : isRuleB (.tuple ds) = (decide (ds.length ≤ 6) && (match pairsOf ds with | some r => fallsB r | none => false)) := rfl
    rw [e0] at q
    by_cases c1 : 6 < ds.length
    · rw [decide_eq_false (by omega), Bool.false_and] at q
      rw [if_pos (by omega)]
      exact q _
    rw [decide_eq_true (by omega), Bool.true_and] at q
    rw [if_neg (by omega)]
    refine lc_map ds id (fun d => some (.bool (toPair d).isSome)) (by simp) rfl (by omega) (fun d R acc hm hacc hR => ?_) ?_
    · unfold F__law_is_rule_4
      walk_at "w"
      rw [pair_eq]
      exact f_pair (hd d hm) fun _ => ⟨hacc, hR⟩
    rw [filterMap_some, show (ds.map fun d => PyData.bool (toPair d).isSome) = (ds.map fun d => (toPair d).isSome).map PyData.bool from by rw [List.map_map]; rfl]
    refine boolsF_map ?_
    rw [pairsOf_all]
    cases hp : pairsOf ds with
    | none =>
      rw [hp] at q
      exact q _
    | some r =>
      rw [hp] at q
      have q : ∀ sl, P (.bool (fallsB r)) sl := q
      have er := pairsOf_some hp
      subst er
      refine ite2 (fun z => by cases z) fun _ => ?_
      unfold F__law_is_rule_3
      walk_at "w"
      rw [cutD_tail, zipD_pairs]
      refine for_map (r.zip r.tail) (fun z => .tuple [pairD z.1, pairD z.2]) (fun i ρ => ρ = [.fz (.tuple (r.map pairD)), .no, .no, .no] ∧ ∀ z ∈ (r.zip r.tail).take i, (decide (z.1.1 < z.2.1) && decide (z.2.2 < z.1.2)) = true) rfl ⟨rfl, by simp⟩ ?_ ?_
      · rintro i z ρ hz hi ⟨rfl, ha⟩
        have hm := List.mem_of_getElem? hz
        have bad : (decide (z.1.1 < z.2.1) && decide (z.2.2 < z.1.2)) = false → fallsB r = false := fun hb => by
          unfold fallsB
          rw [List.all_eq_false]
          exact ⟨z, hm, by rw [hb]; decide⟩
        unfold F__law_is_rule_2 pairD
        walk_at "w"
        by_cases c : z.2.1 ≤ z.1.1
        · rw [if_pos c]
          rw [bad (by rw [decide_eq_false (by omega), Bool.false_and])] at q
          exact q _
        · rw [if_neg c]
          by_cases c' : z.1.2 ≤ z.2.2
          · rw [if_pos c']
            rw [bad (by rw [decide_eq_false (p := z.2.2 < z.1.2) (by omega), Bool.and_false])] at q
            exact q _
          · rw [if_neg c']
            refine fun y hy => ?_
            rw [List.take_add_one, hz] at hy
            rcases List.mem_append.mp hy with hy | hy
            · exact ha y hy
            · rw [List.mem_singleton.mp hy, decide_eq_true (by omega), decide_eq_true (by omega)]
              rfl
      · rintro ρ ⟨rfl, ha⟩
        rw [List.take_length] at ha
        unfold F__law_is_rule_1
        walk_at "w"
        rw [show fallsB r = true from List.all_eq_true.mpr ha] at q
        exact q _
  | int _ => walk_at "w"; exact q _
  | bool _ => walk_at "w"; exact q _
  | none => walk_at "w"; exact q _
  | str _ => walk_at "w"; exact q _
  | list _ => walk_at "w"; exact q _
/-- what stands in the place of a number -/
theorem f_leaf {ds : List PyData} {n : Nat} {B : Nat} {d : PyData} (hb : BoxD ds n) (hn : n < 1000000) (h : okD B d = true) (hB : 1000 ≤ B) (hB2 : B ≤ 100000) (hi : d = .bool true ∨ d = .bool false ∨ ∃ i, d = .int i) {P : PyData → List Sl → Prop} (q : ∀ v ds' sl, okD (B + 1) v = true → v.depth ≤ d.depth + 1 → nodes v ≤ 2 → BoxD ds' (n + 1) → P v (.own ds' :: sl)) : F__law_leaf [.own ds, .fz d] P := by
  have lin : sizeLine = 16777216 := by decide +kernel
  have fin : ∀ (i j : Int) (z : Str) (d : PyData), (i.natAbs ≤ B + 1) → (j.natAbs ≤ B + 1) → (z.length ≤ 20) → (z.cps.all (· < 0x110000) = true) → okD B d = true → d.depth = 0 → nodes d = 1 →
      ∀ v ∈ [PyData.int i, PyData.int j, PyData.int 0, PyData.int 1, PyData.int 99, PyData.int 100, PyData.int 999, PyData.int 1000, PyData.bool true, PyData.none, PyData.str z, PyData.tuple [d]], okD (B + 1) v = true ∧ v.depth ≤ 1 ∧ nodes v ≤ 2 := by
    intro i j z d h1 h2 h3 h4 h5 h6 h7 v hv
    simp only [List.mem_cons, List.not_mem_nil, or_false] at hv
    rcases hv with rfl | rfl | rfl | rfl | rfl | rfl | rfl | rfl | rfl | rfl | rfl | rfl
    · exact ⟨okI h1, Nat.zero_le _, Nat.le_succ 1⟩
    · exact ⟨okI h2, Nat.zero_le _, Nat.le_succ 1⟩
    · exact ⟨okI (by omega), Nat.zero_le _, Nat.le_succ 1⟩
    · exact ⟨okI (by omega), Nat.zero_le _, Nat.le_succ 1⟩
    · exact ⟨okI (by omega), Nat.zero_le _, Nat.le_succ 1⟩
    · exact ⟨okI (by omega), Nat.zero_le _, Nat.le_succ 1⟩
    · exact ⟨okI (by omega), Nat.zero_le _, Nat.le_succ 1⟩
    · exact ⟨okI (by omega), Nat.zero_le _, Nat.le_succ 1⟩
    · exact ⟨rfl, Nat.zero_le _, by show 1 ≤ 2; decide⟩
    · exact ⟨rfl, Nat.zero_le _, by show 1 ≤ 2; decide⟩
    · refine ⟨?_, Nat.zero_le _, by show 1 ≤ 2; decide⟩
      show (decide (z.length ≤ 20) && z.cps.all (· < 0x110000)) = true
      rw [decide_eq_true h3, h4]
      rfl
    · refine ⟨?_, by show max d.depth 0 + 1 ≤ 1; omega, by show nodes d + 0 + 1 ≤ 2; omega⟩
      show (okD (B + 1) d && true) = true
      rw [okD.mono (Nat.le_succ B) h5]
      rfl
  unfold F__law_leaf
  rcases hi with rfl | rfl | ⟨i, rfl⟩
  · walk_at "w"
    refine take_step hb (by decide) (by decide) (by omega) fun r1 d1 x1 c1 b1 => ?_
    obtain ⟨v, e, mm⟩ := at_mem (xs := [PyData.int (1 + 1), PyData.int (1 - 1), PyData.int 0, PyData.int 1, PyData.int 99, PyData.int 100, PyData.int 999, PyData.int 1000, PyData.bool true, PyData.none, PyData.str (Str.ofString "True"), PyData.tuple [.bool true]]) x1 c1
    obtain ⟨q1, q2, q3⟩ := fin (1 + 1) (1 - 1) (Str.ofString "True") (.bool true) (by show 2 ≤ B + 1; omega) (by show 0 ≤ B + 1; omega) (by decide +kernel) (by decide +kernel) rfl rfl rfl v mm
    exact ⟨v, e, q v _ _ q1 q2 q3 b1⟩
  · walk_at "w"
    refine take_step hb (by decide) (by decide) (by omega) fun r1 d1 x1 c1 b1 => ?_
    obtain ⟨v, e, mm⟩ := at_mem (xs := [PyData.int 1, PyData.int (0 - 1), PyData.int 0, PyData.int 1, PyData.int 99, PyData.int 100, PyData.int 999, PyData.int 1000, PyData.bool true, PyData.none, PyData.str (Str.ofString "False"), PyData.tuple [.bool false]]) x1 c1
    obtain ⟨q1, q2, q3⟩ := fin 1 (0 - 1) (Str.ofString "False") (.bool false) (by show 1 ≤ B + 1; omega) (by show 1 ≤ B + 1; omega) (by decide +kernel) (by decide +kernel) rfl rfl rfl v mm
    exact ⟨v, e, q v _ _ q1 q2 q3 b1⟩
  · have hb' : i.natAbs ≤ B := of_decide_eq_true h
    walk_at "w"
    refine ⟨Str.ofString (toString i), if_pos (log2_ok18 (by omega)), ?_⟩
    refine take_step hb (by decide) (by decide) (by omega) fun r1 d1 x1 c1 b1 => ?_
    obtain ⟨v, e, mm⟩ := at_mem (xs := [PyData.int (i + 1), PyData.int (i - 1), PyData.int 0, PyData.int 1, PyData.int 99, PyData.int 100, PyData.int 999, PyData.int 1000, PyData.bool true, PyData.none, PyData.str (Str.ofString (toString i)), PyData.tuple [.int i]]) x1 c1
    obtain ⟨q1, q2, q3⟩ := fin (i + 1) (i - 1) (Str.ofString (toString i)) (.int i) (by omega) (by omega) (Nat.le_trans (int_len (by omega)) (by decide)) (ofString_ok _) h rfl rfl v mm
    exact ⟨v, e, q v _ _ q1 q2 q3 b1⟩
theorem Th.pair {B D N : Nat} {xs : List PyData} (a : Th B D N xs) {u v : PyData} (h : PyData.tuple [u, v] ∈ xs) : (okD B u = true ∧ u.depth + 1 ≤ D ∧ nodes u ≤ N) ∧ (okD B v = true ∧ v.depth + 1 ≤ D ∧ nodes v ≤ N) ∧ nodes u + nodes v + 1 ≤ N := by
  obtain ⟨h1, h2, h3⟩ := a.get h
  have h1' : (okD B u && (okD B v && true)) = true := h1
  rw [Bool.and_true, Bool.and_eq_true] at h1'
  have h2' : max u.depth (max v.depth 0) + 1 ≤ D := h2
  have h3' : nodes u + (nodes v + 0) + 1 ≤ N := h3
  exact ⟨⟨h1'.1, by omega, by omega⟩, ⟨h1'.2, by omega, by omega⟩, by omega⟩
theorem kind_int {B : Nat} {d : PyData} (h : okD B d = true) : isObjD d = false ∧ ∃ c, kitB (kindD d) "int" = some c ∧ (c = true → d = .bool true ∨ d = .bool false ∨ ∃ i, d = .int i) := by
  cases d with
  | dict _ => cases h
  | int i => exact ⟨rfl, true, rfl, fun _ => .inr (.inr ⟨i, rfl⟩)⟩
  | bool b => exact ⟨rfl, true, rfl, fun _ => by cases b; exact .inr (.inl rfl); exact .inl rfl⟩
  | none => exact ⟨rfl, false, rfl, fun z => by cases z⟩
  | str _ => exact ⟨rfl, false, rfl, fun z => by cases z⟩
  | list _ => exact ⟨rfl, false, rfl, fun z => by cases z⟩
  | tuple _ => exact ⟨rfl, false, rfl, fun z => by cases z⟩
theorem f_bent4 {E : FEnds} {ds dd : List PyData} {n B D N : Nat} {r1 r2 : Int} {a4 a5 a6 a7 a8 : Sl} (hb : BoxD dd n) (hn : n < 1000000) (th : Th B D N ds) (hB : 1000 ≤ B) (hB2 : B ≤ 100000) (hD : 1 ≤ D) (hN : N ≤ 100000) (r10 : 0 ≤ r1) (r18 : r1 < 8)
    (h : ∀ ds' d' , Th (B + 1) (D + 2) (4 * N + 20) ds' → BoxD d' (n + 3) → E.rt (.tuple ds') [.own d', .fz (.tuple ds), .fz (.int r1), .fz (.int r2), a4, a5, a6, a7, a8]) :
    F__law_bent_4 E [.own dd, .fz (.tuple ds), .fz (.int r1), .fz (.int r2), a4, a5, a6, a7, a8] := by
  have lin : sizeLine = 16777216 := by decide +kernel
  have ln := len_nodes ds
  have nd := th.nd
  have L := cutD_len ds
  have up : ∀ {xs : List PyData} {M : Nat}, Th B D M xs → M ≤ 4 * N + 20 → Th (B + 1) (D + 2) (4 * N + 20) xs := fun t hm => t.mono (by omega) (by omega) hm
  unfold F__law_bent_4
  walk_at "w"
  refine ite2 (fun _ => ?_) fun _ => ?_
  · have l1 := L none (some r2)
    have l2 := L (some (r2 + 1)) none
    exact ⟨by omega, h _ _ (up ((th.cut _ _).app (th.cut _ _)) (by omega)) (hb.mono (by omega))⟩
  unfold F__law_bent_3
  walk_at "w"
  refine ite2 (fun _ => ?_) fun _ => ?_
  · have l1 := L none (some r2)
    have l2 := L (some r2) (some (r2 + 1))
    have l3 := L (some r2) none
    exact ⟨by omega, by rw [List.length_append]; omega, h _ _ (up (((th.cut _ _).app (th.cut _ _)).app (th.cut _ _)) (by omega)) (hb.mono (by omega))⟩
  unfold F__law_bent_2
  walk_at "w"
  refine ite2 (fun _ => ?_) fun _ => ?_
  · have l1 := L none (some r2)
    have l2 := L (some r2) (some (r2 + 2))
    have l3 := L (some (r2 + 2)) none
    exact ⟨by rw [List.length_reverse]; omega, by rw [List.length_append, List.length_reverse]; omega, h _ _ (up (((th.cut _ _).app (th.cut _ _).rev).app (th.cut _ _)) (by omega)) (hb.mono (by omega))⟩
  unfold F__law_bent_1
  walk_at "w"
  refine take_step hb (by decide) (by decide) (by omega) fun r3 d3 x3 c3 b3 => ?_
  obtain ⟨v, e, mm⟩ := at_mem (xs := [PyData.tuple [.int 5, .int 5], PyData.tuple [.int 1, .int 99], PyData.tuple [.int 999, .int 1], PyData.tuple [], PyData.int 7]) x3 c3
  have hv : Th B D 5 [v] := by
    have h2 : ∀ i j : Int, i.natAbs ≤ B → j.natAbs ≤ B → Th B D 5 [PyData.tuple [.int i, .int j]] := fun i j h1 h2 => Th.one (by show (okD B (.int i) && (okD B (.int j) && true)) = true; rw [okI h1, okI h2]; rfl) (by show max 0 (max 0 0) + 1 ≤ D; omega) (by show 1 + (1 + 0) + 1 ≤ 5; decide)
    simp only [List.mem_cons, List.not_mem_nil, or_false] at mm
    rcases mm with rfl | rfl | rfl | rfl | rfl
    · exact h2 5 5 (by omega) (by omega)
    · exact h2 1 99 (by omega) (by omega)
    · exact h2 999 1 (by omega) (by omega)
    · exact Th.one rfl (by show 0 + 1 ≤ D; omega) (by show 0 + 1 ≤ 5; decide)
    · exact Th.one (okI (by omega)) (Nat.zero_le _) (by show 1 ≤ 5; decide)
  have l1 := L none (some r2)
  have l3 := L (some r2) none
  refine ⟨v, e, by omega, by rw [List.length_append]; show _ + 1 + _ ≤ _; omega, ?_⟩
  exact h _ _ (up (((th.cut _ _).app hv).app (th.cut _ _)) (by omega)) (b3.mono (by omega))
theorem f_bent {ds dd : List PyData} {n B D N : Nat} (hb : BoxD dd n) (hn : n < 900000) (th : Th B D N ds) (hB : 1000 ≤ B) (hB2 : B ≤ 100000) (hD : 1 ≤ D) (hN : N ≤ 100000) {P : PyData → List Sl → Prop}
    (h : ∀ ds' d' sl, Th (B + 1) (D + 2) (4 * N + 20) ds' → BoxD d' (n + 5) → P (.tuple ds') (.own d' :: sl)) : F__law_bent [.own dd, .fz (.tuple ds)] P := by
  have lin : sizeLine = 16777216 := by decide +kernel
  have ln := len_nodes ds
  have nd := th.nd
  unfold F__law_bent
  walk_at "w"
  refine take_step hb (by decide) (by decide) (by omega) fun r1 d1 x1 c1 b1 => ?_
  refine take_step b1 (by omega) (by omega) (by omega) fun r2 d2 x2 c2 b2 => ?_
  have rest : ∀ (d : PyData) (a5 a6 a7 a8 : Sl), F__law_bent_4 { nx := fun ρ' => P .none (ρ'.take 2), rt := fun d ρ' => P d (ρ'.take 2) } [.own d2, .fz (.tuple ds), .fz (.int r1), .fz (.int r2), .fz d, a5, a6, a7, a8] := fun d a5 a6 a7 a8 =>
    f_bent4 b2 (by omega) th hB hB2 hD hN x1 c1 fun ds' d' t b => h _ _ _ t (b.mono (by omega))
  have L := cutD_len ds
  refine ite2 (fun c => ?_) fun c => ?_
  · obtain ⟨d, ed, hm⟩ := at_mem (xs := ds) x2 c
    refine ⟨d, ed, ?_⟩
    obtain ⟨ok, dp, nn⟩ := th.get hm
    unfold F__law_bent_7
    walk_at "w"
    refine ite2 (fun c4 => ?_) fun _ => rest _ _ _ _ _
    cases d with
    | dict _ => cases ok
    | int _ => walk_at "w"; exact rest _ _ _ _ _
    | bool _ => walk_at "w"; exact rest _ _ _ _ _
    | none => walk_at "w"; exact rest _ _ _ _ _
    | str _ => walk_at "w"; exact rest _ _ _ _ _
    | list _ => walk_at "w"; exact rest _ _ _ _ _
    | tuple es =>
      walk_at "w"
      match es, ok, dp, nn, hm with
      | [], _, _, _, _ => exact rest _ _ _ _ _
      | [_], _, _, _, _ => exact rest _ _ _ _ _
      | a :: b :: c :: r, _, _, _, _ =>
        rw [if_neg (by rw [List.length_cons, List.length_cons, List.length_cons]; omega)]
        exact rest _ _ _ _ _
      | [u, v], _, _, _, hm =>
        obtain ⟨⟨u1, u2, u3⟩, ⟨v1, v2, v3⟩, uv⟩ := th.pair hm
        walk_at "w"
        have l1 := L none (some r2)
        have l2 := L (some (r2 + 1)) none
        -- the two numbers, each otherwise
        have b5 : ∀ (x y : PyData) (d' : List PyData), okD (B + 1) x = true → x.depth ≤ D → nodes x ≤ N → okD (B + 1) y = true → y.depth ≤ D → nodes y ≤ N → BoxD d' (n + 4) → F__law_bent_5 { nx := F__law_bent_4 { nx := fun ρ' => P .none (ρ'.take 2), rt := fun d ρ' => P d (ρ'.take 2) }, rt := fun d ρ' => P d (ρ'.take 2) } [.own d', .fz (.tuple ds), .fz (.int r1), .fz (.int r2), .fz (.tuple [u, v]), .fz u, .fz v, .own [.tuple [x, v], .tuple [u, y]], .no] := by
          intro x y d' x1' x2' x3' y1 y2 y3 bb
          unfold F__law_bent_5
          walk_at "w"
          obtain ⟨w, ew, mw⟩ := at_mem (xs := [PyData.tuple [x, v], PyData.tuple [u, y], PyData.list [u, v], PyData.tuple [u, v, .int 1]]) x1 (by show r1 < (4 : Int); omega)
          have ou := okD.mono (Nat.le_succ B) u1
          have ov := okD.mono (Nat.le_succ B) v1
          have hw : Th (B + 1) (D + 2) (2 * N + 5) [w] := by
            simp only [List.mem_cons, List.not_mem_nil, or_false] at mw
            rcases mw with rfl | rfl | rfl | rfl
            · exact Th.one (by show (okD (B + 1) x && (okD (B + 1) v && true)) = true; rw [x1', ov]; rfl) (by show max x.depth (max v.depth 0) + 1 ≤ D + 2; omega) (by show nodes x + (nodes v + 0) + 1 ≤ _; omega)
            · exact Th.one (by show (okD (B + 1) u && (okD (B + 1) y && true)) = true; rw [y1, ou]; rfl) (by show max u.depth (max y.depth 0) + 1 ≤ D + 2; omega) (by show nodes u + (nodes y + 0) + 1 ≤ _; omega)
            · exact Th.one (by show (okD (B + 1) u && (okD (B + 1) v && true)) = true; rw [ou, ov]; rfl) (by show max u.depth (max v.depth 0) + 1 ≤ D + 2; omega) (by show nodes u + (nodes v + 0) + 1 ≤ _; omega)
            · exact Th.one (by show (okD (B + 1) u && (okD (B + 1) v && (okD (B + 1) (.int 1) && true))) = true; rw [ou, ov, okI (by omega)]; rfl) (by show max u.depth (max v.depth (max 0 0)) + 1 ≤ D + 2; omega) (by show nodes u + (nodes v + (1 + 0)) + 1 ≤ _; omega)
          refine ⟨w, ew, ?_⟩
          walk_at "w"
          refine ⟨by omega, by rw [List.length_append]; show _ + 1 + _ ≤ _; omega, ?_⟩
          refine h _ _ _ ?_ (bb.mono (by omega))
          have c1' : Th (B + 1) (D + 2) N (cutD ds none (some r2)) := (th.cut _ _).mono (by omega) (by omega) (Nat.le_refl _)
          have c2' : Th (B + 1) (D + 2) N (cutD ds (some (r2 + 1)) none) := (th.cut _ _).mono (by omega) (by omega) (Nat.le_refl _)
          exact ((c1'.app hw).app c2').mono (Nat.le_refl _) (Nat.le_refl _) (by omega)
        have b6 : ∀ (x : PyData) (d' : List PyData), okD (B + 1) x = true → x.depth ≤ D → nodes x ≤ N → BoxD d' (n + 3) → F__law_bent_6 { nx := F__law_bent_4 { nx := fun ρ' => P .none (ρ'.take 2), rt := fun d ρ' => P d (ρ'.take 2) }, rt := fun d ρ' => P d (ρ'.take 2) } [.own d', .fz (.tuple ds), .fz (.int r1), .fz (.int r2), .fz (.tuple [u, v]), .fz u, .fz v, .own [.tuple [x, v]], .no] := by
          intro x d' x1' x2' x3' bb
          obtain ⟨kv1, kc, kv2, kv3⟩ := kind_int v1
          unfold F__law_bent_6
          walk_at "w"
          refine ⟨kv1, kc, kv2, ?_⟩
          refine ite2 (fun ck => ?_) fun _ => ?_
          · refine f_leaf bb (by omega) v1 hB hB2 (kv3 ck) fun y d'' _ y1 y2 y3 b' => ?_
            walk_at "w"
            exact ⟨by omega, b5 x y d'' x1' x2' x3' y1 (by omega) (by have := nodes_pos u; have := nodes_pos v; omega) b'⟩
          · exact ⟨by omega, b5 x v d' x1' x2' x3' (okD.mono (Nat.le_succ B) v1) (by omega) v3 (bb.mono (by omega))⟩
        obtain ⟨ku1, kc, ku2, ku3⟩ := kind_int u1
        refine ⟨ku1, kc, ku2, ?_⟩
        refine ite2 (fun ck => ?_) fun _ => ?_
        · refine f_leaf b2 (by omega) u1 hB hB2 (ku3 ck) fun x d' _ x1' x2' x3' b' => ?_
          walk_at "w"
          exact b6 x d' x1' (by omega) (by have := nodes_pos u; have := nodes_pos v; omega) b'
        · exact b6 u d2 (okD.mono (Nat.le_succ B) u1) (by omega) u3 (b2.mono (by omega))
  · unfold F__law_bent_7
    walk_at "w"
    refine ite2 (fun _ => rest _ _ _ _ _) fun _ => rest _ _ _ _ _
theorem th_pairs {r : List (Int × Int)} (h : ∀ p ∈ r, p.1.natAbs ≤ 1000 ∧ p.2.natAbs ≤ 1000) : Th 1000 1 (3 * r.length) (r.map pairD) := by
  induction r with
  | nil => exact ⟨rfl, Nat.zero_le _, Nat.le_refl _⟩
  | cons p r ih =>
    obtain ⟨h1, h2, h3⟩ := ih fun q hq => h q (List.mem_cons_of_mem _ hq)
    obtain ⟨p1, p2⟩ := h p List.mem_cons_self
    refine ⟨?_, ?_, ?_⟩
    · show ((okD 1000 (.int p.1) && (okD 1000 (.int p.2) && true)) && okAll 1000 (r.map pairD)) = true
      rw [okI p1, okI p2, h1]
      rfl
    · show max (max 0 (max 0 0) + 1) (PyData.depthAll (r.map pairD)) ≤ 1
      omega
    · show 1 + (1 + 0) + 1 + nodesAll (r.map pairD) ≤ 3 * (r.length + 1)
      omega
theorem pairsOf_map {r : List (Int × Int)} (h : ∀ p ∈ r, (1 ≤ p.1 ∧ p.1 ≤ 999) ∧ 1 ≤ p.2 ∧ p.2 ≤ 99) : pairsOf (r.map pairD) = some r := by
  induction r with
  | nil => rfl
  | cons p r ih =>
    have ih' := ih fun q hq => h q (List.mem_cons_of_mem _ hq)
    obtain ⟨⟨h1, h2⟩, h3, h4⟩ := h p List.mem_cons_self
    have e : toPair (pairD p) = some p := by
      show (if ((decide (1 ≤ p.1) && decide (p.1 ≤ 999)) && (decide (1 ≤ p.2) && decide (p.2 ≤ 99))) = true then some (p.1, p.2) else none) = some p
      rw [decide_eq_true h1, decide_eq_true h2, decide_eq_true h3, decide_eq_true h4]
      rfl
    show (match toPair (pairD p), pairsOf (r.map pairD) with | some p, some q => some (p :: q) | _, _ => none) = some (p :: r)
    rw [e, ih']
theorem falls_of {r : List (Int × Int)} (h1 : r.Pairwise fun p q => q.2 < p.2) (h2 : r.Pairwise fun p q => p.1 < q.1) : fallsB r = true := by
  unfold fallsB
  induction r with
  | nil => rfl
  | cons p r ih =>
    cases r with
    | nil => rfl
    | cons q r =>
      have a1 := List.pairwise_cons.mp h1
      have a2 := List.pairwise_cons.mp h2
      show ((decide (p.1 < q.1) && decide (q.2 < p.2)) && ((q :: r).zip r).all _) = true
      rw [decide_eq_true (a2.1 q List.mem_cons_self), decide_eq_true (a1.1 q List.mem_cons_self)]
      exact ih a1.2 a2.2
theorem rule_ok {r : List (Int × Int)} (g : RuleW r) : isRuleB (.tuple (r.map pairD)) = true := by
  show (decide ((r.map pairD).length ≤ 6) && (match pairsOf (r.map pairD) with | some r => fallsB r | none => false)) = true
  rw [pairsOf_map fun p hp => ⟨g.age p hp, g.part p hp⟩, List.length_map, decide_eq_true g.few]
  exact falls_of g.fall g.rise
theorem f_rule {ds : List PyData} {n : Nat} (hb : BoxD ds n) (hn : n < 100000) {P : PyData → List Sl → Prop} (h : ∀ (r : List (Int × Int)) ds' sl, RuleW r → BoxD ds' (n + 30) → P (.tuple (r.map pairD)) (.own ds' :: sl)) : F__law_rule [.own ds] P := by
  have lin : sizeLine = 16777216 := by decide +kernel
  unfold F__law_rule
  walk_at "w"
  refine take_step hb (by decide) (by decide) (by omega) fun r1 d1 a1 c1 b1 => ⟨by omega, by omega, ?_⟩
  refine for_range (fun i ρ => ∃ r age part ds', RuleG r i age part ∧ BoxD ds' (n + 1 + 3 * i) ∧ ρ = [.own ds', .fz (.int age), .fz (.int part), .own (r.map pairD), .no, .no]) ?_ ?_ ?_
  · exact ⟨[], 0, 100, d1, ⟨rfl, by decide, by decide, by decide, by simp, .nil⟩, b1, rfl⟩
  · rintro i ρ hi ⟨r, age, part, d2, g, b2, rfl⟩
    have few := g.few
    unfold F__law_rule_3
    walk_at "w"
    refine take_step b2 (by decide) (by decide) (by omega) fun r2 d3 a2 c2 b3 => ?_
    obtain ⟨v, e, m⟩ := at_mem (xs := [PyData.int 3, PyData.int 30, PyData.int 160]) a2 c2
    obtain ⟨s, rfl, s0, s1⟩ : ∃ a, v = .int a ∧ 1 ≤ a ∧ a ≤ 160 := by
      simp only [List.mem_cons, List.not_mem_nil, or_false] at m
      rcases m with rfl | rfl | rfl <;> exact ⟨_, rfl, by omega, by omega⟩
    refine ⟨_, e, ?_⟩
    walk_at "w"
    refine take_step b3 (by omega) (by omega) (by omega) fun r3 d4 a3 c3 b4 => ?_
    refine take_step b4 (by decide) (by decide) (by omega) fun r4 d5 a4 c4 b5 => ⟨by rw [List.length_map]; omega, ?_⟩
    exact ⟨r ++ [(age + 1 + r3, part - 1 - r4)], _, _, d5, g.next a3 (by omega) (by omega) a4, b5.mono (by omega), rfl, rfl, rfl, by rw [List.map_append]; rfl⟩
  · rintro ρ ⟨r, age, part, d2, g, b2, rfl⟩
    have few := g.few
    unfold F__law_rule_2
    walk_at "w"
    refine lc_map r pairD (fun p => if keepP p = true then some (pairD p) else none) rfl rfl (by omega) (fun p R acc _ hacc hR => ?_) ?_
    · unfold F__law_rule_1 pairD
      walk_at "w"
      have hR' : R (acc ++ (if keepP p = true then some (pairD p) else none).toList) [.own d2, .fz (.int age), .fz (.int part), .fz (.list (r.map pairD)), .no, .no] := hR
      unfold keepP at hR'
      by_cases h1 : p.1 < 1000
      · rw [if_pos h1]
        rw [decide_eq_true h1, Bool.true_and] at hR'
        by_cases h2 : 0 < p.2
        · rw [if_pos h2]
          rw [decide_eq_true h2, if_pos rfl] at hR'
          exact ⟨hacc, hR'⟩
        · rw [if_neg h2]
          rw [decide_eq_false h2, if_neg (by decide)] at hR'
          rw [Option.toList_none, List.append_nil] at hR'
          exact hR'
      · rw [if_neg h1]
        rw [decide_eq_false h1, Bool.false_and, if_neg (by decide)] at hR'
        rw [Option.toList_none, List.append_nil] at hR'
        exact hR'
    · rw [filterMap_if]
      have gv := g.cut (by omega)
      exact h _ _ _ gv.toRuleW (b2.mono (by omega))
theorem f_r2 {E : FEnds} {a0 a1 a2 a3 a4 a5 a6 : Sl} {B : Nat} {d : PyData} (hB : B ≤ 100000) (ok : okD B d = true) (dp : d.depth ≤ 40) (nd : nodes d ≤ 9000) (h : ∀ a8 a9, E.nx [a0, a1, a2, a3, a4, a5, a6, .fz d, .fz a8, .fz a9]) : F__law_right_2 E [a0, a1, a2, a3, a4, a5, a6, .fz d, .no, .no] := by
  unfold F__law_right_2
  walk_at "w"
  refine repr_th (B := B) (by omega) ok (by omega) (by omega) ?_
  walk_at "w"
  refine f_is_rule ok (by omega) fun _ => ?_
  walk_at "w"
  refine f_lis_rule ok (by omega) fun _ => ?_
  walk_at "w"
  refine repr_th (B := B) (by omega) ok (by omega) (by omega) ?_
  walk_at "w"
  exact h _ _
theorem th_rule {r : List (Int × Int)} (g : RuleW r) : Th 1000 1 18 (r.map pairD) := by
  have few := g.few
  exact (th_pairs fun p hp => by have := g.age p hp; have := g.part p hp; omega).mono (Nat.le_refl _) (Nat.le_refl _) (by omega)
def OkT (d : PyData) : Prop := okD 2000 d = true ∧ d.depth ≤ 40 ∧ nodes d ≤ 9000
theorem OkT.tup {B D N : Nat} {ds : List PyData} (t : Th B D N ds) (hB : B ≤ 2000) (hD : D ≤ 30) (hN : N ≤ 8000) : OkT (.tuple ds) := by
  obtain ⟨h1, h2, h3⟩ := t
  exact ⟨okAll.mono hB h1, by show PyData.depthAll ds + 1 ≤ 40; omega, by show nodesAll ds + 1 ≤ 9000; omega⟩
theorem OkT.lst {B D N : Nat} {ds : List PyData} (t : Th B D N ds) (hB : B ≤ 2000) (hD : D ≤ 30) (hN : N ≤ 8000) : OkT (.list ds) := by
  obtain ⟨h1, h2, h3⟩ := t
  exact ⟨okAll.mono hB h1, by show PyData.depthAll ds + 1 ≤ 40; omega, by show nodesAll ds + 1 ≤ 9000; omega⟩
def sixD : List (Int × Int) := [(10, 90), (20, 89), (30, 88), (40, 87), (50, 86), (60, 85)]
theorem f_law_right {ds : List PyData} (hb : BoxD ds 0) : F__law_right [.own ds] fun d _ => d = .bool true := by
  have lin : sizeLine = 16777216 := by decide +kernel
  unfold F__law_right
  walk_at "w"
  refine f_rule hb (by decide) fun r d1 _ g b1 => ?_
  have few := g.few
  walk_at "w"
  refine lc_map (List.range 6) (fun k : Nat => .int (0 + (k : Int))) (fun k => some (pairD (10 * ((k : Int) + 1), 90 - (k : Int)))) rfl rfl (by rw [List.length_range]; omega) (fun k R acc hk hacc hR => ?_) ?_
  · unfold F__law_right_5
    walk_at "w"
    exact ⟨.inl ⟨by decide, by decide⟩, hacc, hR⟩
  rw [show (List.range 6).filterMap (fun k : Nat => some (pairD (10 * ((k : Int) + 1), 90 - (k : Int)))) = sixD.map pairD from rfl]
  walk_at "w"
  have six : Th 1000 1 18 (sixD.map pairD) := th_pairs (r := sixD) (by decide)
  have rth := th_rule g
  refine ⟨by show 7 ≤ _; omega, by show 6 ≤ _; omega, ?_⟩
  have okc : ∀ d : PyData, (okD 2000 d && (decide (d.depth ≤ 40) && decide (nodes d ≤ 9000))) = true → OkT d := fun d h => by
    rw [Bool.and_eq_true, Bool.and_eq_true, decide_eq_true_eq, decide_eq_true_eq] at h
    exact h
  have one : ∀ i j : Int, i.natAbs ≤ 1000 → j.natAbs ≤ 1000 → Th 1000 1 3 [PyData.tuple [.int i, .int j]] := fun i j h1 h2 => th_pairs (r := [(i, j)]) (by intro p hp; rw [List.mem_singleton.mp hp]; exact ⟨h1, h2⟩)
  have all0 : ∀ t ∈ [PyData.tuple (List.map pairD r), PyData.list (List.map pairD r), PyData.tuple [], PyData.list [], PyData.none, PyData.int 5, PyData.str (Str.ofString ""), PyData.tuple (List.map pairD sixD),
      PyData.tuple (List.map pairD sixD ++ [PyData.tuple [PyData.int 61, PyData.int 5]]), PyData.tuple (cutD (List.map pairD sixD) none (some 5) ++ [PyData.tuple [PyData.int 999, PyData.int 1]]),
      PyData.tuple [PyData.tuple [PyData.int 1, PyData.int 99]], PyData.tuple [PyData.tuple [PyData.int 0, PyData.int 9]],
      PyData.tuple [PyData.tuple [PyData.int 1, PyData.int 99], PyData.tuple [PyData.int 2, PyData.int 98], PyData.tuple [PyData.int 3, PyData.int 97], PyData.tuple [PyData.int 4, PyData.int 96], PyData.tuple [PyData.int 5, PyData.int 95], PyData.tuple [PyData.int 6, PyData.int 94]],
      PyData.tuple [PyData.tuple [PyData.int 5, PyData.int 50], PyData.tuple [PyData.int 5, PyData.int 40]], PyData.tuple [PyData.tuple [PyData.int 5, PyData.int 50], PyData.tuple [PyData.int 6, PyData.int 50]],
      PyData.tuple [PyData.int 5, PyData.int 50], PyData.tuple [PyData.tuple [PyData.int 5, PyData.int 50], PyData.list [PyData.int 6, PyData.int 40]], PyData.tuple [PyData.str (Str.ofString "rule")],
      PyData.tuple [PyData.tuple [PyData.bool true, PyData.int 5]], PyData.tuple [PyData.tuple [PyData.int 5, PyData.bool true]]], OkT t := by
    intro t ht
    simp only [List.mem_cons, List.not_mem_nil, or_false] at ht
    rcases ht with rfl | rfl | rfl | rfl | rfl | rfl | rfl | rfl | rfl | rfl | rfl | rfl | rfl | rfl | rfl | rfl | rfl | rfl | rfl | rfl
    · exact OkT.tup rth (by decide) (by decide) (by decide)
    · exact OkT.lst rth (by decide) (by decide) (by decide)
    all_goals first
      | exact okc _ (by decide +kernel)
      | exact OkT.tup six (by decide) (by decide) (by decide)
      | exact OkT.tup (six.app (one _ _ (by decide) (by decide))) (by decide) (by decide) (by decide)
      | exact OkT.tup ((six.cut _ _).app (one _ _ (by decide) (by decide))) (by decide) (by decide) (by decide)
  refine for_range (fun i ρ => ∃ ds' ts, BoxD ds' (30 + 20 * i) ∧ (∀ t ∈ ts, OkT t) ∧ ts.length = 20 + i ∧ ρ = [.own ds', .fz (.tuple (r.map pairD)), .fz (.tuple (sixD.map pairD)), .no, .own ts, .no, .no, .no, .no, .no]) ⟨d1, _, b1, all0, rfl, rfl⟩ ?_ ?_
  · rintro i ρ hi ⟨d2, ts, b2, tok, tl, rfl⟩
    unfold F__law_right_4
    walk_at "w"
    refine f_bent b2 (by omega) rth (by decide) (by decide) (by decide) (by decide) fun es d3 _ th3 b3 => ?_
    walk_at "w"
    refine take_step b3 (by decide) (by decide) (by omega) fun r3 d4 x4 c4 b4 => ?_
    have add : ∀ (t : PyData) (d' : List PyData), OkT t → BoxD d' (30 + 20 * (i + 1)) → ts.length < sizeLine ∧ ∃ ds' ts', BoxD ds' (30 + 20 * (i + 1)) ∧ (∀ t ∈ ts', OkT t) ∧ ts'.length = 20 + (i + 1) ∧ Sl.own d' = Sl.own ds' ∧ Sl.own (ts ++ [t]) = Sl.own ts' := fun t d' ht hb' =>
      ⟨by omega, d', ts ++ [t], hb', fun u hu => by
        rcases List.mem_append.mp hu with h | h
        · exact tok u h
        · rw [List.mem_singleton.mp h]; exact ht, by rw [List.length_append, tl]; rfl, rfl, rfl⟩
    refine ite2 (fun _ => ?_) fun _ => ?_
    · refine f_bent b4 (by omega) th3 (by decide) (by decide) (by decide) (by decide) fun es' d5 _ th5 b5 => ?_
      walk_at "w"
      exact add _ _ (OkT.tup th5 (by decide) (by decide) (by decide)) (b5.mono (by omega))
    · exact add _ _ (OkT.tup th3 (by decide) (by decide) (by decide)) (b4.mono (by omega))
  · rintro ρ ⟨d2, ts, b2, tok, tl, rfl⟩
    unfold F__law_right_3
    walk_at "w"
    refine for_map ts id (fun i ρ => ρ = [.own d2, .fz (.tuple (r.map pairD)), .fz (.tuple (sixD.map pairD)), .no, .fz (.list ts), .no, .no, .no, .no, .no]) (by simp) rfl ?_ ?_
    · rintro i t ρ ht hi rfl
      obtain ⟨o1, o2, o3⟩ := tok t (List.mem_of_getElem? ht)
      walk_at "w"
      exact f_r2 (B := 2000) (by decide) o1 o2 o3 fun _ _ => rfl
    · rintro ρ rfl
      unfold F__law_right_1
      walk_at "w"
      refine f_is_rule (B := 1000) (d := .tuple (r.map pairD)) rth.ok (by show nodesAll _ + 1 ≤ _; have := rth.nd; omega) fun _ => ?_
      rw [rule_ok g]
def top (i : Nat) : Stmt := PySem.Challenge.pw_stallshares_k15_rules_or_not.main.body.getD i (.Pass ⟨0, 0, 0, 0⟩)
abbrev s__law_folded : Stmt := top 11
abbrev N__law_folded : List Str := ["_law_script", "_law_size", "_law_cells", "_law_k", "_law_cell"]
theorem sc__law_folded : FnScope N__law_folded ["_law_script", "_law_size"] (defScope s__law_folded) := ⟨rfl, rfl, rfl, by decide +kernel, rfl, by decide +kernel, by decide +kernel⟩
abbrev s_is_whole : Stmt := top 1
abbrev N_is_whole : List Str := ["thing", "least", "most"]
theorem sc_is_whole : FnScope N_is_whole ["thing", "least", "most"] (defScope s_is_whole) := ⟨rfl, rfl, rfl, by decide +kernel, rfl, by decide +kernel, by decide +kernel⟩
abbrev s_is_rule_pair : Stmt := top 6
abbrev N_is_rule_pair : List Str := ["thing"]
theorem sc_is_rule_pair : FnScope N_is_rule_pair ["thing"] (defScope s_is_rule_pair) := ⟨rfl, rfl, rfl, by decide +kernel, rfl, by decide +kernel, by decide +kernel⟩
abbrev s_is_rule : Stmt := top 7
abbrev N_is_rule : List Str := ["thing", "pair", "one", "other"]
theorem sc_is_rule : FnScope N_is_rule ["thing"] (defScope s_is_rule) := ⟨rfl, rfl, rfl, by decide +kernel, rfl, by decide +kernel, by decide +kernel⟩
abbrev s__law_take : Stmt := top 10
abbrev N__law_take : List Str := ["_law_box_here", "_law_size", "_law_found", "_law_step", "_law_once", "_law_twice"]
theorem sc__law_take : FnScope N__law_take ["_law_box_here", "_law_size"] (defScope s__law_take) := ⟨rfl, rfl, rfl, by decide +kernel, rfl, by decide +kernel, by decide +kernel⟩
abbrev s__law_rule : Stmt := top 12
abbrev N__law_rule : List Str := ["_law_box_here", "_law_age", "_law_part", "_law_found", "_law_turn", "_law_pair"]
theorem sc__law_rule : FnScope N__law_rule ["_law_box_here"] (defScope s__law_rule) := ⟨rfl, rfl, rfl, by decide +kernel, rfl, by decide +kernel, by decide +kernel⟩
abbrev s__law_leaf : Stmt := top 16
abbrev N__law_leaf : List Str := ["_law_box_here", "_law_thing", "_law_some"]
theorem sc__law_leaf : FnScope N__law_leaf ["_law_box_here", "_law_thing"] (defScope s__law_leaf) := ⟨rfl, rfl, rfl, by decide +kernel, rfl, by decide +kernel, by decide +kernel⟩
abbrev s__law_bent : Stmt := top 17
abbrev N__law_bent : List Str := ["_law_box_here", "_law_rule_here", "_law_way", "_law_at", "_law_pair", "_law_age", "_law_part", "_law_some", "_law_new"]
theorem sc__law_bent : FnScope N__law_bent ["_law_box_here", "_law_rule_here"] (defScope s__law_bent) := ⟨rfl, rfl, rfl, by decide +kernel, rfl, by decide +kernel, by decide +kernel⟩
abbrev s__law_whole : Stmt := top 13
abbrev N__law_whole : List Str := ["_law_thing", "_law_least", "_law_most"]
theorem sc__law_whole : FnScope N__law_whole ["_law_thing", "_law_least", "_law_most"] (defScope s__law_whole) := ⟨rfl, rfl, rfl, by decide +kernel, rfl, by decide +kernel, by decide +kernel⟩
abbrev s__law_is_pair : Stmt := top 14
abbrev N__law_is_pair : List Str := ["_law_thing"]
theorem sc__law_is_pair : FnScope N__law_is_pair ["_law_thing"] (defScope s__law_is_pair) := ⟨rfl, rfl, rfl, by decide +kernel, rfl, by decide +kernel, by decide +kernel⟩
abbrev s__law_is_rule : Stmt := top 15
abbrev N__law_is_rule : List Str := ["_law_thing", "_law_pair", "_law_one", "_law_other"]
theorem sc__law_is_rule : FnScope N__law_is_rule ["_law_thing"] (defScope s__law_is_rule) := ⟨rfl, rfl, rfl, by decide +kernel, rfl, by decide +kernel, by decide +kernel⟩
abbrev s__law_right : Stmt := top 18
abbrev N__law_right : List Str := ["_law_box_here", "_law_rule_here", "_law_six", "_law_k", "_law_things", "_law_turn", "_law_other", "_law_thing", "_law_kept", "_law_found"]
theorem sc__law_right : FnScope N__law_right ["_law_box_here"] (defScope s__law_right) := ⟨rfl, rfl, rfl, by decide +kernel, rfl, by decide +kernel, by decide +kernel⟩
abbrev s__law_box : Stmt := top 9
abbrev N__law_box : List Str := ["_law_script", "_law_k", "_law_cell"]
theorem sc__law_box : FnScope N__law_box ["_law_script", "_law_k"] (defScope s__law_box) := ⟨rfl, rfl, rfl, by decide +kernel, rfl, by decide +kernel, by decide +kernel⟩
abbrev s_law : Stmt := top 19
abbrev N_law : List Str := ["_law_script", "_law_cells", "_law_k"]
theorem sc_law : FnScope N_law ["_law_script"] (defScope s_law) := ⟨rfl, rfl, rfl, by decide +kernel, rfl, by decide +kernel, by decide +kernel⟩
structure Ad where
  f__law_folded : Addr
  d__law_folded : FuncData
  f_is_whole : Addr
  d_is_whole : FuncData
  f_is_rule_pair : Addr
  d_is_rule_pair : FuncData
  f_is_rule : Addr
  d_is_rule : FuncData
  f__law_take : Addr
  d__law_take : FuncData
  f__law_rule : Addr
  d__law_rule : FuncData
  f__law_leaf : Addr
  d__law_leaf : FuncData
  f__law_bent : Addr
  d__law_bent : FuncData
  f__law_whole : Addr
  d__law_whole : FuncData
  f__law_is_pair : Addr
  d__law_is_pair : FuncData
  f__law_is_rule : Addr
  d__law_is_rule : FuncData
  f__law_right : Addr
  d__law_right : FuncData
  f__law_box : Addr
  d__law_box : FuncData
  f_law : Addr
  d_law : FuncData
structure Txt (K : PySem.W.Frag) (mg : Str → Option Value) (a : Ad) : Prop where
  n_list : mg "list" = none
  n_enumerate : mg "enumerate" = none
  n_isinstance : mg "isinstance" = none
  n_int : mg "int" = none
  n_bool : mg "bool" = none
  n_tuple : mg "tuple" = none
  n_len : mg "len" = none
  n_all : mg "all" = none
  n_zip : mg "zip" = none
  n_divmod : mg "divmod" = none
  n_range : mg "range" = none
  n_str : mg "str" = none
  n_repr : mg "repr" = none
  n_abs : mg "abs" = none
  n_max : mg "max" = none
  c_MOST_PAIRS : ∃ u, mg "MOST_PAIRS" = some u ∧ RelV (.int 6) u
  c_MOST_AGE : ∃ u, mg "MOST_AGE" = some u ∧ RelV (.int 999) u
  c_MOST_PART : ∃ u, mg "MOST_PART" = some u ∧ RelV (.int 99) u
  F__law_folded : Fun K "_law_folded" "_law_folded" s__law_folded a.f__law_folded a.d__law_folded
  g__law_folded : mg "_law_folded" = some (.ref a.f__law_folded)
  b__law_folded : Binds K a.d__law_folded ["_law_script", "_law_size"] []
  F_is_whole : Fun K "is_whole" "is_whole" s_is_whole a.f_is_whole a.d_is_whole
  g_is_whole : mg "is_whole" = some (.ref a.f_is_whole)
  b_is_whole : Binds K a.d_is_whole ["thing", "least", "most"] []
  F_is_rule_pair : Fun K "is_rule_pair" "is_rule_pair" s_is_rule_pair a.f_is_rule_pair a.d_is_rule_pair
  g_is_rule_pair : mg "is_rule_pair" = some (.ref a.f_is_rule_pair)
  b_is_rule_pair : Binds K a.d_is_rule_pair ["thing"] []
  F_is_rule : Fun K "is_rule" "is_rule" s_is_rule a.f_is_rule a.d_is_rule
  g_is_rule : mg "is_rule" = some (.ref a.f_is_rule)
  b_is_rule : Binds K a.d_is_rule ["thing"] []
  F__law_take : Fun K "_law_take" "_law_take" s__law_take a.f__law_take a.d__law_take
  g__law_take : mg "_law_take" = some (.ref a.f__law_take)
  b__law_take : Binds K a.d__law_take ["_law_box_here", "_law_size"] []
  F__law_rule : Fun K "_law_rule" "_law_rule" s__law_rule a.f__law_rule a.d__law_rule
  g__law_rule : mg "_law_rule" = some (.ref a.f__law_rule)
  b__law_rule : Binds K a.d__law_rule ["_law_box_here"] []
  F__law_leaf : Fun K "_law_leaf" "_law_leaf" s__law_leaf a.f__law_leaf a.d__law_leaf
  g__law_leaf : mg "_law_leaf" = some (.ref a.f__law_leaf)
  b__law_leaf : Binds K a.d__law_leaf ["_law_box_here", "_law_thing"] []
  F__law_bent : Fun K "_law_bent" "_law_bent" s__law_bent a.f__law_bent a.d__law_bent
  g__law_bent : mg "_law_bent" = some (.ref a.f__law_bent)
  b__law_bent : Binds K a.d__law_bent ["_law_box_here", "_law_rule_here"] []
  F__law_whole : Fun K "_law_whole" "_law_whole" s__law_whole a.f__law_whole a.d__law_whole
  g__law_whole : mg "_law_whole" = some (.ref a.f__law_whole)
  b__law_whole : Binds K a.d__law_whole ["_law_thing", "_law_least", "_law_most"] []
  F__law_is_pair : Fun K "_law_is_pair" "_law_is_pair" s__law_is_pair a.f__law_is_pair a.d__law_is_pair
  g__law_is_pair : mg "_law_is_pair" = some (.ref a.f__law_is_pair)
  b__law_is_pair : Binds K a.d__law_is_pair ["_law_thing"] []
  F__law_is_rule : Fun K "_law_is_rule" "_law_is_rule" s__law_is_rule a.f__law_is_rule a.d__law_is_rule
  g__law_is_rule : mg "_law_is_rule" = some (.ref a.f__law_is_rule)
  b__law_is_rule : Binds K a.d__law_is_rule ["_law_thing"] []
  F__law_right : Fun K "_law_right" "_law_right" s__law_right a.f__law_right a.d__law_right
  g__law_right : mg "_law_right" = some (.ref a.f__law_right)
  b__law_right : Binds K a.d__law_right ["_law_box_here"] []
  F__law_box : Fun K "_law_box" "_law_box" s__law_box a.f__law_box a.d__law_box
  g__law_box : mg "_law_box" = some (.ref a.f__law_box)
  b__law_box : Binds K a.d__law_box ["_law_script", "_law_k"] []
  F_law : Fun K "law" "law" s_law a.f_law a.d_law
/-! ### the box and its draws -/
def sp__law_box (K : PySem.W.Frag) : Sp := fun vs H Q _ => ∃ (a : Addr) (ns : List Int) (k : Nat), vs = [.ref a, .int k] ∧ SqL K H a (ns.map V.int) ∧ k < 1000 ∧
  ∀ p H', H p = none → Same H H' → Box H' p 0 → Q (.ref p) H'
def sp__law_take : Sp := fun vs H Q _ => ∃ (B : Addr) (m : Int) (n : Nat), vs = [.ref B, .int m] ∧ Box H B n ∧ 0 < m ∧ m < 1073741824 ∧ n < 1000000000 ∧
  ∀ r H', 0 ≤ r → r < m → Fr [B] H H' → Box H' B (n + 1) → Q (.int r) H'
theorem ok__law_box {P : Program} {w : World} {K : PySem.W.Frag} {mg : Str → Option Value} {base : Heap} {ad : Ad} (T : Txt K mg ad) : FnOk P w K mg base CX0 1 ad.f__law_box ad.d__law_box ["_law_script", "_law_k"] (sp__law_box K) := by
  refine T.F__law_box.ok sc__law_box (fun vs H Q E h => ?_) (fun cdv A outer s H vs Q E hr h => ?_)
  · obtain ⟨a, ns, k, rfl, _⟩ := h
    rfl
  · obtain ⟨a, ns, k, rfl, hS, hk, q⟩ := h
    refine ⟨_, (pss_cons (ps_set (i := 2) sc__law_box.nd rfl (Or.inl rfl) (pe_ifExp (pt_cmpR op_lt (pv 1) (pe_callB call_len_seq (by rfl) T.n_len PySem.boot_len (pa_cons (pv 0) pa_nil)) (nomark _)) (pe_ix ix_list (pv 0) (pv 1) (fun _ _ => rfl)) pe_int))
    (pss_one (ps_ret (pe_lst (pa_cons (pe_op op_mul (pe_callB call_abs (by rfl) T.n_abs (by decide +kernel) (pa_cons (pv 2) pa_nil)) (pe_callTy call_int1 (by rfl) T.n_int (by decide +kernel) (pa_cons (pe_cmpR op_ge (pe_callB call_abs (by rfl) T.n_abs (by decide +kernel) (pa_cons (pv 2) pa_nil)) (pe_op op_pow pe_int pe_int) (nomark _)) pa_nil))) (pa_cons (pe_op op_mod (pe_op op_mul (pe_op op_add (pe_op op_add (pe_op op_mod (pv 2) pe_int) (pe_op op_mul pe_int (pv 1))) pe_int) pe_int) pe_int) (pa_cons pe_int pa_nil))))))), ?_⟩
    refine ⟨_, rfl, _, rfl, a, _, rfl, .inl hS, _, _, rfl, rfl, _, rfl, ?_⟩
    refine ite2 (fun h => ?_) (fun h => ?_)
    · have hkl : k < ns.length := by simpa using h
      have e : (ns.map V.int)[k]? = some (V.int ns[k]) := by rw [List.getElem?_map, List.getElem?_eq_getElem hkl]; rfl
      refine ⟨_, rfl, _, rfl, a, _, _, _, rfl, rfl, hS, atI_nat e, ?_⟩
      generalize ns[k] = c
      walk_at "z"
      refine fun p hp => ?_
      refine q p _ hp (Same.new hp) ⟨_, _, _, upd_same, ?_, Int.emod_nonneg _ (by decide), Int.emod_lt_of_pos _ (by decide), by decide, by decide⟩
      refine Int.mul_nonneg (by split <;> omega) (ite01 _)
    · walk_at "z"
      refine fun p hp => ?_
      refine q p _ hp (Same.new hp) ⟨_, _, _, upd_same, by decide, Int.emod_nonneg _ (by decide), Int.emod_lt_of_pos _ (by decide), by decide, by decide⟩
theorem ok__law_take {P : Program} {w : World} {K : PySem.W.Frag} {mg : Str → Option Value} {base : Heap} {ad : Ad} (T : Txt K mg ad) : FnOk P w K mg base CX0 1 ad.f__law_take ad.d__law_take ["_law_box_here", "_law_size"] sp__law_take := by
  refine T.F__law_take.ok sc__law_take (fun vs H Q E h => ?_) (fun cdv A outer s H vs Q E hr h => ?_)
  · obtain ⟨a, ns, k, rfl, _⟩ := h
    rfl
  · obtain ⟨B, m, n, rfl, ⟨b0, b1, b2, hB, h0, h1, h2, h3, h4⟩, m0, m1, hn, q⟩ := h
    refine ⟨_, (pss_cons (ps_if (pt_cmpR op_gt (pe_ix ix_list (pv 0) pe_int (fun _ _ => rfl)) pe_int (nomark _)) (pss_cons (ps_asg (pe_callB call_divmod (by rfl) T.n_divmod (by decide +kernel) (pa_cons (pe_ix ix_list (pv 0) pe_int (fun _ _ => rfl)) (pa_cons (pv 1) pa_nil))) (pg_tup (by rfl) (pgs_cons (pg_sub (pv 0) pe_int set_list) (pgs_cons (pg_name (i := 2) sc__law_take.nd rfl (Or.inl rfl)) pgs_nil))))
    (pss_one (ps_ret (pv 2)))) pss_nil)
    (pss_cons (ps_asg (pe_op op_add (pe_ix ix_list (pv 0) pe_int (fun _ _ => rfl)) pe_int) (pg_sub (pv 0) pe_int set_list))
    (pss_cons (ps_set (i := 3) sc__law_take.nd rfl (Or.inl rfl) (pe_op op_add pe_int (pe_op op_mul (pe_ix ix_list (pv 0) pe_int (fun _ _ => rfl)) (pe_ix ix_list (pv 0) pe_int (fun _ _ => rfl)))))
    (pss_cons (ps_set (i := 4) sc__law_take.nd rfl (Or.inl rfl) (pe_op op_mod (pe_op op_mul (pe_op op_add (pe_ix ix_list (pv 0) pe_int (fun _ _ => rfl)) (pe_op op_mul pe_int (pe_ix ix_list (pv 0) pe_int (fun _ _ => rfl)))) (pv 3)) pe_int))
    (pss_cons (ps_set (i := 5) sc__law_take.nd rfl (Or.inl rfl) (pe_op op_mod (pe_op op_add (pe_op op_mul (pv 4) (pe_op op_add (pe_op op_mod (pv 4) pe_int) pe_int)) (pe_ix ix_list (pv 0) pe_int (fun _ _ => rfl))) pe_int))
    (pss_one (ps_ret (pe_op op_mod (pe_op op_fdiv (pe_op op_mod (pe_op op_mul (pv 5) (pe_op op_add (pe_op op_mod (pv 5) pe_int) pe_int)) pe_int) pe_int) (pv 1))))))))), ?_⟩
    walk_at "z"
    refine ite2 (fun h => ?_) (fun h => ?_)
    · walk_at "z"
      refine fun p hp => ?_
      have hBp : B ≠ p := ne_of_none hB hp
      have hB' : upd H p (.tup [.int (b0 / m), .int (b0 % m)]) B = some (.lst [.int b0, .int b1, .int b2]) := by rw [upd_ne hBp]; exact hB
      walk_at "z"
      refine q _ _ (Int.emod_nonneg _ (by omega)) (Int.emod_lt_of_pos _ m0) ?_ ?_
      · exact (Fr.new hp).put (by simp)
      · exact ⟨_, _, _, upd_same, Int.ediv_nonneg h0 (by omega), h1, h2, h3, by omega⟩
    · walk_at "z"
      refine q _ _ (Int.emod_nonneg _ (by omega)) (Int.emod_lt_of_pos _ m0) ((Fr.refl _ _).put (by simp)) ⟨_, _, _, upd_same, h0, h1, h2, by omega, by omega⟩

theorem okD__law_take {P : Program} {w : World} {K : PySem.W.Frag} {mg : Str → Option Value} {base : Heap} {ad : Ad} (T : Txt K mg ad) : FnOk P w K mg base CX0 1 ad.f__law_take ad.d__law_take ["_law_box_here", "_law_size"] (spF K 2 F__law_take) :=
  (ok__law_take T).imp fun _ _ _ _ h => take_of h

/-! ### the script's numbers, those behind added on -/
def sp__law_folded (K : PySem.W.Frag) : Sp := fun vs H Q _ => ∃ (a : Addr) (ns : List Int) (m : Nat), vs = [.ref a, .int (m : Int)] ∧ SqL K H a (ns.map V.int) ∧ ns.length ≤ 63 ∧ 0 < m ∧ m ≤ 63 ∧
  ∀ (p : Addr) (ms : List Int) (H' : Hp), H p = none → Same H H' → H' p = some (.lst (ms.map V.int)) → ms.length ≤ m → Q (.ref p) H'
theorem ok__law_folded {P : Program} {w : World} {K : PySem.W.Frag} {mg : Str → Option Value} {base : Heap} {ad : Ad} (T : Txt K mg ad) : FnOk P w K mg base CX0 1 ad.f__law_folded ad.d__law_folded ["_law_script", "_law_size"] (sp__law_folded K) := by
  refine T.F__law_folded.ok sc__law_folded (fun vs H Q E h => ?_) (fun cdv A outer s H vs Q E hr h => ?_)
  · obtain ⟨a, ns, m, rfl, _⟩ := h
    rfl
  · obtain ⟨a, ns, m, rfl, hS, hl, m0, m1, q⟩ := h
    refine ⟨_, (pss_cons (ps_set (i := 2) sc__law_folded.nd rfl (Or.inl rfl) (pe_callTy call_list_of (by rfl) T.n_list (by decide +kernel) (pa_cons (pe_slice sl_list (pv 0) po_none (po_some (pv 1))) pa_nil)))
    (pss_cons (ps_for PassesOwn.never rfl (pi_enum (by rfl) T.n_enumerate (pa_cons (pe_slice sl_list (pv 0) (po_some (pv 1)) (po_some pe_int)) pa_nil)) (pg_tup (by rfl) (pgs_cons (pg_name (i := 3) sc__law_folded.nd rfl (Or.inl rfl)) (pgs_cons (pg_name (i := 4) sc__law_folded.nd rfl (Or.inl rfl)) pgs_nil)))
    (pss_one (ps_asg (pe_op op_add (pe_ix ix_list (pv 2) (pe_op op_mod (pv 3) (pv 1)) (fun _ _ => rfl)) (pe_op op_mul (pv 4) (pe_op op_add (pv 3) pe_int))) (pg_sub (pv 2) (pe_op op_mod (pv 3) (pv 1)) set_list))))
    (pss_one (ps_ret (pv 2))))), ?_⟩
    refine ⟨_, rfl, _, rfl, _, rfl, a, _, rfl, hS, fun p hp => ?_⟩
    refine ⟨p, _, rfl, .inl (SqL.of upd_same), fun c hc => ?_⟩
    have e1 : cutV (ns.map V.int) none (some (m : Int)) = (ns.take m).map V.int := by
      unfold cutV
      rw [HT.sIx_none, HT.sIx_nat, List.length_map]
      simp
    have hcp : c ≠ p := (ne_of_none upd_same hc).symm
    have s1 : Same H (upd (upd H p (.lst (cutV (ns.map V.int) none (some (m : Int))))) c (.lst (cutV (ns.map V.int) none (some (m : Int))))) := (Same.new hp).trans (Same.new hc)
    refine ⟨_, rfl, _, rfl, _, rfl, _, rfl, a, _, rfl, s1.seq hS, fun p2 hp2 => ?_⟩
    have e2 : cutV (ns.map V.int) (some (m : Int)) (some 63) = (ns.drop m).map V.int := by
      unfold cutV
      have e63 : (63 : Int) = ((63 : Nat) : Int) := rfl
      rw [e63, HT.sIx_nat, HT.sIx_nat, List.length_map, ← List.map_drop, ← List.map_take]
      congr 1
      rw [List.take_of_length_le (by rw [List.length_drop]; omega)]
      by_cases h : m ≤ ns.length
      · rw [Nat.min_eq_left h]
      · rw [Nat.min_eq_right (by omega), List.drop_length, List.drop_eq_nil_of_le (by omega)]
    rw [e1] at s1 hp2 ⊢
    rw [e2]
    have hcp2 : c ≠ p2 := ne_of_none upd_same hp2
    refine ⟨p2, _, rfl, SqL.of upd_same, ?_⟩
    have c0 : H c = none := by rw [upd_ne hcp] at hc; exact hc
    refine for_it (walk_enum (xs := (ns.drop m).map V.int)) (fun i σ H' => Same H H' ∧ H' p2 = some (.lst ((ns.drop m).map V.int)) ∧ (∃ ms : List Int, H' c = some (.lst (ms.map V.int)) ∧ ms.length = min m ns.length) ∧ ∃ v3 v4, σ = [some (.ref a), some (.int (m : Int)), some (.ref c), v3, v4])
      ⟨s1.trans (Same.new hp2), upd_same, ⟨ns.take m, by rw [upd_ne hcp2, upd_same], by rw [List.length_take]⟩, none, none, rfl⟩ (fun i σ H' _ h => SqL.of h.2.1) ?_ ?_
    · rintro i x σ H' _ hi ⟨sm, hp2', ⟨ms, hms, lms⟩, v3, v4, rfl⟩ ⟨t, x, y, rfl, ht, rfl, hx, hy⟩
      have hx' : x = V.int (i : Int) := (Option.some.inj hx).symm
      subst hx'
      obtain ⟨u, rfl⟩ : ∃ u : Int, y = V.int u := by
        dsimp only at hy
        rw [List.getElem?_map] at hy
        cases e : (ns.drop m)[i]? with
        | none => rw [e] at hy; cases hy
        | some u => rw [e] at hy; exact ⟨u, (Option.some.inj hy).symm⟩
      have hi' : i < ns.length - m := by simpa using hi
      have ct : c ≠ t := ne_of_none hms ht
      have p2t : p2 ≠ t := ne_of_none hp2' ht
      have pc : p2 ≠ c := hcp2.symm
      have hms' : upd H' t (.tup [.int (i : Int), .int u]) c = some (.lst (ms.map V.int)) := by rw [upd_ne ct]; exact hms
      have em : ((i : Int) % (m : Int)) = ((i % m : Nat) : Int) := by omega
      have hmod : i % m < m := Nat.mod_lt _ m0
      have him : i % m < ms.length := by omega
      have at1 : atI (ms.map V.int) ((i : Int) % (m : Int)) = some (V.int ms[i % m]) := by
        rw [em]
        exact atI_nat (by rw [List.getElem?_map, List.getElem?_eq_getElem him]; rfl)
      walk_at "z"
      refine ⟨c, _, _, _, rfl, rfl, SqL.of hms', at1, ?_⟩
      walk_at "z"
      refine ⟨c, _, _, i % m, rfl, rfl, hms', ?_, ?_⟩
      · rw [em]
        exact ixN_nat (by rw [List.length_map]; exact him)
      refine ⟨?_, ?_, ⟨ms.set (i % m) (ms[i % m] + u * ((i : Int) + 2)), ?_, ?_⟩, _, _, rfl⟩
      · intro b o e
        rw [upd_ne (ne_of_none e c0), upd_ne (ne_of_none (sm _ _ e) ht)]
        exact sm _ _ e
      · rw [upd_ne pc, upd_ne p2t]
        exact hp2'
      · rw [upd_same, List.map_set]
      · rw [List.length_set]
        exact lms
    · rintro σ H' ⟨sm, hp2', ⟨ms, hms, lms⟩, v3, v4, rfl⟩
      refine ⟨_, rfl, ?_⟩
      exact q c ms H' c0 sm hms (by omega)

theorem okD_is_whole {P : Program} {w : World} {K : PySem.W.Frag} {mg : Str → Option Value} {base : Heap} {ad : Ad} (T : Txt K mg ad) : FnOk P w K mg base CX0 1 ad.f_is_whole ad.d_is_whole ["thing", "least", "most"] (spF K 3 F_is_whole) := by
  refine okF0 T.F_is_whole sc_is_whole fun cdv A outer s H E hr => ⟨_, (pss_one (ps_ret (pe_and (pe_callB call_isi (by rfl) T.n_isinstance (by decide +kernel) (pa_cons (pv 0) (pa_cons (pe_bltn (v := .ty "int") (by rfl) T.n_int (by decide +kernel) rfl) pa_nil))) (pe_and (pe_not (pe_callB call_isi (by rfl) T.n_isinstance (by decide +kernel) (pa_cons (pv 0) (pa_cons (pe_bltn (v := .ty "bool") (by rfl) T.n_bool (by decide +kernel) rfl) pa_nil)))) (pe_one (pe_chain op_le op_le (pv 1) (pv 0) (pv 2))))))), ?_⟩
  intro J
  exact (rs_ret (re_and (re_isi re_v) (re_and (re_not (re_isi re_v)) (re_chain rr_le rr_le re_v re_v re_v))))
theorem okD_is_rule_pair {P : Program} {w : World} {K : PySem.W.Frag} {mg : Str → Option Value} {base : Heap} {ad : Ad} (T : Txt K mg ad) : FnOk P w K mg base CX0 2 ad.f_is_rule_pair ad.d_is_rule_pair ["thing"] (spF K 1 F_is_rule_pair) := by
  have G_is_whole := okD_is_whole (P := P) (w := w) (base := base) T
  refine okF0 T.F_is_rule_pair sc_is_rule_pair fun cdv A outer s H E hr => ⟨_, (pss_cons (ps_if (PW.pt (pw_or (pt_not (pt_val (pe_callB call_isi (by rfl) T.n_isinstance (by decide +kernel) (pa_cons (pv 0) (pa_cons (pe_bltn (v := .ty "tuple") (by rfl) T.n_tuple (by decide +kernel) rfl) pa_nil))))) (pw_or1 (pt_cmpR op_ne (pe_callB call_len_seq (by rfl) T.n_len PySem.boot_len (pa_cons (pv 0) pa_nil)) pe_int (nomark _))))) (pss_one (ps_ret pe_bl)) pss_nil)
    (pss_one (ps_ret (pe_and (pe_call G_is_whole (hr.mono (by decide)) rfl T.g_is_whole T.F_is_whole.kp T.b_is_whole .nil pass0 (pa_cons (pe_ix ix_seq (pv 0) pe_int (fun _ _ => rfl)) (pa_cons pe_int (pa_cons (pe_globE rfl T.c_MOST_AGE) pa_nil)))) (pe_one (pe_call G_is_whole (hr.mono (by decide)) rfl T.g_is_whole T.F_is_whole.kp T.b_is_whole .nil pass0 (pa_cons (pe_ix ix_seq (pv 0) pe_int (fun _ _ => rfl)) (pa_cons pe_int (pa_cons (pe_globE rfl T.c_MOST_PART) pa_nil))))))))), ?_⟩
  intro J
  exact (rs_seq (rs_if (rt_or (rt_not (rt_b (re_isi re_v))) (rt_test (re_op rr_ne (re_cb rb_len (ra_cons re_v ra_nil)) (re_c fun _ => .int _)))) (rs_ret (re_c fun _ => .bl _)) rs_next)
    (rs_ret (re_and (re_call (fun _ => .nil) (rc_dat (re_op rr_ix re_v (re_c fun _ => .int _)) (rc_dat (re_c fun _ => .int _) (rc_dat (re_c fun _ => .int _) rc_nil)))) (re_call (fun _ => .nil) (rc_dat (re_op rr_ix re_v (re_c fun _ => .int _)) (rc_dat (re_c fun _ => .int _) (rc_dat (re_c fun _ => .int _) rc_nil)))))))
theorem okD_is_rule {P : Program} {w : World} {K : PySem.W.Frag} {mg : Str → Option Value} {base : Heap} {ad : Ad} (T : Txt K mg ad) : FnOk P w K mg base CX0 3 ad.f_is_rule ad.d_is_rule ["thing"] (spF K 1 F_is_rule) := by
  have G_is_rule_pair := okD_is_rule_pair (P := P) (w := w) (base := base) T
  refine okF0 T.F_is_rule sc_is_rule fun cdv A outer s H E hr => ⟨_, (pss_cons (ps_if (PW.pt (pw_or (pt_not (pt_val (pe_callB call_isi (by rfl) T.n_isinstance (by decide +kernel) (pa_cons (pv 0) (pa_cons (pe_bltn (v := .ty "tuple") (by rfl) T.n_tuple (by decide +kernel) rfl) pa_nil))))) (pw_or (pt_cmpR op_gt (pe_callB call_len_seq (by rfl) T.n_len PySem.boot_len (pa_cons (pv 0) pa_nil)) (pe_globE rfl T.c_MOST_PAIRS) (nomark _)) (pw_or1 (pt_not (pt_val (pe_callB (cr_all rfl) (by rfl) T.n_all (by decide +kernel) (pa_cons (pe_lc (own := [("pair", 1)]) (g := gName 1) (by rfl) sc_is_rule.nd (pi_tup (pv 0)) (blkOk_by (own := [("pair", 1)]) (N := N_is_rule) (sc := defScope s_is_rule) (by decide +kernel)) (fun _ _ _ _ _ => (pg_name (i := 1) sc_is_rule.nd rfl (Or.inl rfl))) (fun _ _ _ _ _ => pts_nil) (fun _ _ _ _ _ => (pe_call G_is_rule_pair (hr.mono (by decide)) rfl T.g_is_rule_pair T.F_is_rule_pair.kp T.b_is_rule_pair .nil pass0 (pa_cons (pv 1) pa_nil)))) pa_nil)))))))) (pss_one (ps_ret pe_bl)) pss_nil)
    (pss_one (ps_ret (pe_callB (cr_all rfl) (by rfl) T.n_all (by decide +kernel) (pa_cons (pe_lc (own := [("one", 2), ("other", 3)]) (g := gTup K 2 (gCons (gName 2) (gCons (gName 3) gNil))) (by rfl) sc_is_rule.nd (RZ.pi_zipA (by rfl) T.n_zip (pa_cons (pv 0) (pa_cons (pe_slice sl_tupA (pv 0) (po_some pe_int) po_none) pa_nil))) (blkOk_by (own := [("one", 2), ("other", 3)]) (N := N_is_rule) (sc := defScope s_is_rule) (by decide +kernel)) (fun _ _ _ _ _ => (pg_tup (by rfl) (pgs_cons (pg_name (i := 2) sc_is_rule.nd rfl (Or.inl rfl)) (pgs_cons (pg_name (i := 3) sc_is_rule.nd rfl (Or.inl rfl)) pgs_nil)))) (fun _ _ _ _ _ => pts_nil) (fun _ _ _ _ _ => (pe_and (pe_cmpR op_lt (pe_ix (r := rIx K) ix_seq (pv 2) pe_int (fun _ _ => rfl)) (pe_ix (r := rIx K) ix_seq (pv 3) pe_int (fun _ _ => rfl)) (nomark _)) (pe_one (pe_cmpR op_gt (pe_ix (r := rIx K) ix_seq (pv 2) pe_int (fun _ _ => rfl)) (pe_ix (r := rIx K) ix_seq (pv 3) pe_int (fun _ _ => rfl)) (nomark _)))))) pa_nil))))), ?_⟩
  intro J
  exact (rs_seq (rs_if (rt_or (rt_not (rt_b (re_isi re_v))) (rt_or (rt_test (re_op rr_gt (re_cb rb_len (ra_cons re_v ra_nil)) (re_c fun _ => .int _))) (rt_not (rt_b (re_cb rb_all (ra_cons (RN.re (rn_lc (by decide) (ri_tup re_v) (fun _ le => rg_name) (fun _ le => rt_yes) (fun _ le => (re_call (fun _ => .nil) (rc_dat re_v rc_nil))))) ra_nil)))))) (rs_ret (re_c fun _ => .bl _)) rs_next)
    (rs_ret (re_cb rb_all (ra_cons (RN.re (rn_lc (by decide) (ri_zip (ra_cons re_v (ra_cons (re_sl rl_tupA re_v (ro_so (re_c fun _ => .int _)) ro_no) ra_nil))) (fun _ le => (rg_tup (rgs_cons rg_name (rgs_cons rg_name rgs_nil)))) (fun _ le => rt_yes) (fun _ le => (re_and (re_op rr_lt (re_op rr_ix re_v (re_c fun _ => .int _)) (re_op rr_ix re_v (re_c fun _ => .int _))) (re_op rr_gt (re_op rr_ix re_v (re_c fun _ => .int _)) (re_op rr_ix re_v (re_c fun _ => .int _))))))) ra_nil))))
theorem okD__law_rule {P : Program} {w : World} {K : PySem.W.Frag} {mg : Str → Option Value} {base : Heap} {ad : Ad} (T : Txt K mg ad) : FnOk P w K mg base CX0 2 ad.f__law_rule ad.d__law_rule ["_law_box_here"] (spF K 1 F__law_rule) := by
  have G__law_take := okD__law_take (P := P) (w := w) (base := base) T
  refine okF0 T.F__law_rule sc__law_rule fun cdv A outer s H E hr => ⟨_, (pss_cons (ps_par3 (i := 1) (j := 2) (l := 3) (by rfl) sc__law_rule.nd rfl rfl rfl (by decide) (by decide) (by decide) rfl rfl rfl (pa_cons pe_int (pa_cons pe_int (pa_cons (pe_lst pa_nil) pa_nil))) (by rfl))
    (pss_cons (ps_for PassesOwn.never rfl (pi_range1 rfl T.n_range (pa_cons (pe_call G__law_take (hr.mono (by decide)) rfl T.g__law_take T.F__law_take.kp T.b__law_take .nil pass0 (pa_cons (pv 0) (pa_cons pe_int pa_nil))) pa_nil)) (pg_name (i := 4) sc__law_rule.nd rfl (Or.inl rfl)) (pss_cons (ps_par (i := 1) (j := 2) (by rfl) sc__law_rule.nd rfl rfl (by decide) rfl rfl (pa_cons (pe_op op_add (pe_op op_add (pv 1) pe_int) (pe_call G__law_take (hr.mono (by decide)) rfl T.g__law_take T.F__law_take.kp T.b__law_take .nil pass0 (pa_cons (pv 0) (pa_cons (pe_ix ix_list (pe_lst (pa_cons pe_int (pa_cons pe_int (pa_cons pe_int pa_nil)))) (pe_call G__law_take (hr.mono (by decide)) rfl T.g__law_take T.F__law_take.kp T.b__law_take .nil pass0 (pa_cons (pv 0) (pa_cons pe_int pa_nil))) (fun _ _ => rfl)) pa_nil)))) (pa_cons (pe_op op_sub (pe_op op_sub (pv 2) pe_int) (pe_call G__law_take (hr.mono (by decide)) rfl T.g__law_take T.F__law_take.kp T.b__law_take .nil pass0 (pa_cons (pv 0) (pa_cons pe_int pa_nil)))) pa_nil)) (by rfl))
    (pss_one (ps_expr (pe_bm PySem.F.plainAttrs_list PySem.F.slot_list_append PySem.F.type_list_append mt_append (pv 3) (pa_cons (pe_tup (pa_cons (pv 1) (pa_cons (pv 2) pa_nil))) pa_nil))))))
    (pss_one (ps_ret (pe_callTy call_tuple_of (by rfl) T.n_tuple (by decide +kernel) (pa_cons (pe_lc (own := [("_law_pair", 5)]) (g := gName 5) (by rfl) sc__law_rule.nd (pi_list (pv 3)) (blkOk_by (own := [("_law_pair", 5)]) (N := N__law_rule) (sc := defScope s__law_rule) (by decide +kernel)) (fun _ _ _ _ _ => (pg_name (i := 5) sc__law_rule.nd rfl (Or.inl rfl))) (fun _ _ _ _ _ => (pts_one (PW.pt (pw_and (pt_cmpR op_lt (pe_ix (r := rIxT K) ix_tup (pv 5) pe_int (fun _ _ => rfl)) pe_int (nomark _)) (pw_and1 (pt_cmpR op_gt (pe_ix (r := rIxT K) ix_tup (pv 5) pe_int (fun _ _ => rfl)) pe_int (nomark _))))))) (fun _ _ _ _ _ => (pv 5))) pa_nil)))))), ?_⟩
  intro J
  exact (rs_seq (rs_par3O3 (by decide) (re_c fun _ => .int _) (re_c fun _ => .int _) (rn_lst ra_nil))
    (rs_seq (rs_for (by decide) (ri_rng1 (ra_cons (re_call (fun _ => .nil) (rc_own (rc_dat (re_c fun _ => .int _) rc_nil))) ra_nil)) rg_name (rs_seq (rs_par (ra_cons (re_op rr_add (re_op rr_add re_v (re_c fun _ => .int _)) (re_call (fun _ => .nil) (rc_own (rc_dat (re_op rr_ixL (RN.re (rn_lst (ra_cons (re_c fun _ => .int _) (ra_cons (re_c fun _ => .int _) (ra_cons (re_c fun _ => .int _) ra_nil))))) (re_call (fun _ => .nil) (rc_own (rc_dat (re_c fun _ => .int _) rc_nil)))) rc_nil)))) (ra_cons (re_op rr_sub (re_op rr_sub re_v (re_c fun _ => .int _)) (re_call (fun _ => .nil) (rc_own (rc_dat (re_c fun _ => .int _) rc_nil)))) ra_nil)))
    (rs_append (re_tup (ra_cons re_v (ra_cons re_v ra_nil))))))
    (rs_freeze (by decide) (rs_ret (re_cb rb_tuple (ra_cons (RN.re (rn_lc (by decide) (ri_list re_v) (fun _ le => rg_name) (fun _ le => (rt_and (rt_test (re_op rr_lt (re_op rr_ixT re_v (re_c fun _ => .int _)) (re_c fun _ => .int _))) (rt_test (re_op rr_gt (re_op rr_ixT re_v (re_c fun _ => .int _)) (re_c fun _ => .int _))))) (fun _ le => re_v))) ra_nil))))))
theorem okD__law_leaf {P : Program} {w : World} {K : PySem.W.Frag} {mg : Str → Option Value} {base : Heap} {ad : Ad} (T : Txt K mg ad) : FnOk P w K mg base CX0 2 ad.f__law_leaf ad.d__law_leaf ["_law_box_here", "_law_thing"] (spF K 2 F__law_leaf) := by
  have G__law_take := okD__law_take (P := P) (w := w) (base := base) T
  refine okF0 T.F__law_leaf sc__law_leaf fun cdv A outer s H E hr => ⟨_, (pss_cons (ps_set (i := 2) sc__law_leaf.nd rfl (Or.inl rfl) (pe_lst (pa_cons (pe_op op_addN (pv 1) pe_int) (pa_cons (pe_op op_subN (pv 1) pe_int) (pa_cons pe_int (pa_cons pe_int (pa_cons pe_int (pa_cons pe_int (pa_cons pe_int (pa_cons pe_int (pa_cons pe_bl (pa_cons pe_non (pa_cons (pe_callTy call_strV (by rfl) T.n_str (by decide +kernel) (pa_cons (pv 1) pa_nil)) (pa_cons (pe_tup (pa_cons (pv 1) pa_nil)) pa_nil))))))))))))))
    (pss_one (ps_ret (pe_ix ix_list (pv 2) (pe_call G__law_take (hr.mono (by decide)) rfl T.g__law_take T.F__law_take.kp T.b__law_take .nil pass0 (pa_cons (pv 0) (pa_cons pe_int pa_nil))) (fun _ _ => rfl))))), ?_⟩
  intro J
  exact (rs_seq (rs_asg (RN.re (rn_lst (ra_cons (re_op rr_num re_v (re_c fun _ => .int _)) (ra_cons (re_op rr_num re_v (re_c fun _ => .int _)) (ra_cons (re_c fun _ => .int _) (ra_cons (re_c fun _ => .int _) (ra_cons (re_c fun _ => .int _) (ra_cons (re_c fun _ => .int _) (ra_cons (re_c fun _ => .int _) (ra_cons (re_c fun _ => .int _) (ra_cons (re_c fun _ => .bl _) (ra_cons (re_c fun _ => .non) (ra_cons (re_cb rb_strV (ra_cons re_v ra_nil)) (ra_cons (re_tup (ra_cons re_v ra_nil)) ra_nil)))))))))))))) rg_name)
    (rs_ret (re_op rr_ixL re_v (re_call (fun _ => .nil) (rc_own (rc_dat (re_c fun _ => .int _) rc_nil))))))
theorem okD__law_bent {P : Program} {w : World} {K : PySem.W.Frag} {mg : Str → Option Value} {base : Heap} {ad : Ad} (T : Txt K mg ad) : FnOk P w K mg base CX0 3 ad.f__law_bent ad.d__law_bent ["_law_box_here", "_law_rule_here"] (spF K 2 F__law_bent) := by
  have G__law_take := okD__law_take (P := P) (w := w) (base := base) T
  have G__law_leaf := okD__law_leaf (P := P) (w := w) (base := base) T
  refine okF0 T.F__law_bent sc__law_bent fun cdv A outer s H E hr => ⟨_, (pss_cons (ps_par (i := 2) (j := 3) (by rfl) sc__law_bent.nd rfl rfl (by decide) rfl rfl (pa_cons (pe_call G__law_take (hr.mono (by decide)) rfl T.g__law_take T.F__law_take.kp T.b__law_take .nil pass0 (pa_cons (pv 0) (pa_cons pe_int pa_nil))) (pa_cons (pe_call G__law_take (hr.mono (by decide)) rfl T.g__law_take T.F__law_take.kp T.b__law_take .nil pass0 (pa_cons (pv 0) (pa_cons (pe_op op_add (pe_callB call_len_seq (by rfl) T.n_len PySem.boot_len (pa_cons (pv 1) pa_nil)) pe_int) pa_nil))) pa_nil)) (by rfl))
    (pss_cons (ps_set (i := 4) sc__law_bent.nd rfl (Or.inl rfl) (pe_ifExp (pt_cmpR op_lt (pv 3) (pe_callB call_len_seq (by rfl) T.n_len PySem.boot_len (pa_cons (pv 1) pa_nil)) (nomark _)) (pe_ix ix_tup (pv 1) (pv 3) (fun _ _ => rfl)) pe_non))
    (pss_cons (ps_if (PW.pt (pw_and (pt_cmpR op_lt (pv 2) pe_int (nomark _)) (pw_and (pt_val (pe_callB call_isi (by rfl) T.n_isinstance (by decide +kernel) (pa_cons (pv 4) (pa_cons (pe_bltn (v := .ty "tuple") (by rfl) T.n_tuple (by decide +kernel) rfl) pa_nil)))) (pw_and1 (pt_cmpR op_eq (pe_callB call_len_seq (by rfl) T.n_len PySem.boot_len (pa_cons (pv 4) pa_nil)) pe_int (nomark _)))))) (pss_cons (ps_asg (pv 4) (pg_tup (by rfl) (pgs_cons (pg_name (i := 5) sc__law_bent.nd rfl (Or.inl rfl)) (pgs_cons (pg_name (i := 6) sc__law_bent.nd rfl (Or.inl rfl)) pgs_nil))))
    (pss_cons (ps_set (i := 7) sc__law_bent.nd rfl (Or.inl rfl) (pe_lst (pa_cons (pe_tup (pa_cons (pe_ifExp (pt_val (pe_callB call_isi (by rfl) T.n_isinstance (by decide +kernel) (pa_cons (pv 5) (pa_cons (pe_bltn (v := .ty "int") (by rfl) T.n_int (by decide +kernel) rfl) pa_nil)))) (pe_call G__law_leaf (hr.mono (by decide)) rfl T.g__law_leaf T.F__law_leaf.kp T.b__law_leaf .nil pass0 (pa_cons (pv 0) (pa_cons (pv 5) pa_nil))) (pv 5)) (pa_cons (pv 6) pa_nil))) pa_nil)))
    (pss_cons (ps_expr (pe_bm PySem.F.plainAttrs_list PySem.F.slot_list_append PySem.F.type_list_append mt_append (pv 7) (pa_cons (pe_tup (pa_cons (pv 5) (pa_cons (pe_ifExp (pt_val (pe_callB call_isi (by rfl) T.n_isinstance (by decide +kernel) (pa_cons (pv 6) (pa_cons (pe_bltn (v := .ty "int") (by rfl) T.n_int (by decide +kernel) rfl) pa_nil)))) (pe_call G__law_leaf (hr.mono (by decide)) rfl T.g__law_leaf T.F__law_leaf.kp T.b__law_leaf .nil pass0 (pa_cons (pv 0) (pa_cons (pv 6) pa_nil))) (pv 6)) pa_nil))) pa_nil)))
    (pss_cons (ps_set (i := 8) sc__law_bent.nd rfl (Or.inl rfl) (pe_ix ix_list (pe_lst (pa_cons (pe_ix ix_list (pv 7) pe_int (fun _ _ => rfl)) (pa_cons (pe_ix ix_list (pv 7) pe_int (fun _ _ => rfl)) (pa_cons (pe_lst (pa_cons (pv 5) (pa_cons (pv 6) pa_nil))) (pa_cons (pe_tup (pa_cons (pv 5) (pa_cons (pv 6) (pa_cons pe_int pa_nil)))) pa_nil))))) (pv 2) (fun _ _ => rfl)))
    (pss_one (ps_ret (pe_op op_catA (pe_op op_catA (pe_slice sl_tupA (pv 1) po_none (po_some (pv 3))) (pe_tup (pa_cons (pv 8) pa_nil))) (pe_slice sl_tupA (pv 1) (po_some (pe_op op_add (pv 3) pe_int)) po_none)))))))) pss_nil)
    (pss_cons (ps_if (pt_cmpR op_eq (pv 2) pe_int (nomark _)) (pss_one (ps_ret (pe_op op_catA (pe_slice sl_tupA (pv 1) po_none (po_some (pv 3))) (pe_slice sl_tupA (pv 1) (po_some (pe_op op_add (pv 3) pe_int)) po_none)))) pss_nil)
    (pss_cons (ps_if (pt_cmpR op_eq (pv 2) pe_int (nomark _)) (pss_one (ps_ret (pe_op op_catA (pe_op op_catA (pe_slice sl_tupA (pv 1) po_none (po_some (pv 3))) (pe_slice sl_tupA (pv 1) (po_some (pv 3)) (po_some (pe_op op_add (pv 3) pe_int)))) (pe_slice sl_tupA (pv 1) (po_some (pv 3)) po_none)))) pss_nil)
    (pss_cons (ps_if (pt_cmpR op_eq (pv 2) pe_int (nomark _)) (pss_one (ps_ret (pe_op op_catA (pe_op op_catA (pe_slice sl_tupA (pv 1) po_none (po_some (pv 3))) (pe_revT (pe_slice sl_tupA (pv 1) (po_some (pv 3)) (po_some (pe_op op_add (pv 3) pe_int))))) (pe_slice sl_tupA (pv 1) (po_some (pe_op op_add (pv 3) pe_int)) po_none)))) pss_nil)
    (pss_one (ps_ret (pe_op op_catA (pe_op op_catA (pe_slice sl_tupA (pv 1) po_none (po_some (pv 3))) (pe_tup (pa_cons (pe_ix ix_list (pe_lst (pa_cons (pe_tup (pa_cons pe_int (pa_cons pe_int pa_nil))) (pa_cons (pe_tup (pa_cons pe_int (pa_cons pe_int pa_nil))) (pa_cons (pe_tup (pa_cons pe_int (pa_cons pe_int pa_nil))) (pa_cons (pe_tup pa_nil) (pa_cons pe_int pa_nil)))))) (pe_call G__law_take (hr.mono (by decide)) rfl T.g__law_take T.F__law_take.kp T.b__law_take .nil pass0 (pa_cons (pv 0) (pa_cons pe_int pa_nil))) (fun _ _ => rfl)) pa_nil))) (pe_slice sl_tupA (pv 1) (po_some (pv 3)) po_none)))))))))), ?_⟩
  intro J
  exact (rs_seq (rs_par (ra_cons (re_call (fun _ => .nil) (rc_own (rc_dat (re_c fun _ => .int _) rc_nil))) (ra_cons (re_call (fun _ => .nil) (rc_own (rc_dat (re_op rr_add (re_cb rb_len (ra_cons re_v ra_nil)) (re_c fun _ => .int _)) rc_nil))) ra_nil)))
    (rs_seq (rs_asg (re_if (rt_test (re_op rr_lt re_v (re_cb rb_len (ra_cons re_v ra_nil)))) (re_op rr_ixT re_v re_v) (re_c fun _ => .non)) rg_name)
    (rs_seq (rs_if (rt_and (rt_test (re_op rr_lt re_v (re_c fun _ => .int _))) (rt_and (rt_b (re_isi re_v)) (rt_test (re_op rr_eq (re_cb rb_len (ra_cons re_v ra_nil)) (re_c fun _ => .int _))))) (rs_seq (rs_asg re_v (rg_tup (rgs_cons rg_name (rgs_cons rg_name rgs_nil))))
    (rs_seq (rs_own (by decide) (rn_lst (ra_cons (re_tup (ra_cons (re_if (rt_b (re_isi re_v)) (re_call (fun _ => .nil) (rc_own (rc_dat re_v rc_nil))) re_v) (ra_cons re_v ra_nil))) ra_nil)))
    (rs_seq (rs_append (re_tup (ra_cons re_v (ra_cons (re_if (rt_b (re_isi re_v)) (re_call (fun _ => .nil) (rc_own (rc_dat re_v rc_nil))) re_v) ra_nil))))
    (rs_seq (rs_asg (re_op rr_ixL (RN.re (rn_lst (ra_cons (re_ixO (re_c fun _ => .int _)) (ra_cons (re_ixO (re_c fun _ => .int _)) (ra_cons (RN.re (rn_lst (ra_cons re_v (ra_cons re_v ra_nil)))) (ra_cons (re_tup (ra_cons re_v (ra_cons re_v (ra_cons (re_c fun _ => .int _) ra_nil)))) ra_nil)))))) re_v) rg_name)
    (rs_ret (re_op rr_catA (re_op rr_catA (re_sl rl_tupA re_v ro_no (ro_so re_v)) (re_tup (ra_cons re_v ra_nil))) (re_sl rl_tupA re_v (ro_so (re_op rr_add re_v (re_c fun _ => .int _))) ro_no))))))) rs_next)
    (rs_seq (rs_if (rt_test (re_op rr_eq re_v (re_c fun _ => .int _))) (rs_ret (re_op rr_catA (re_sl rl_tupA re_v ro_no (ro_so re_v)) (re_sl rl_tupA re_v (ro_so (re_op rr_add re_v (re_c fun _ => .int _))) ro_no))) rs_next)
    (rs_seq (rs_if (rt_test (re_op rr_eq re_v (re_c fun _ => .int _))) (rs_ret (re_op rr_catA (re_op rr_catA (re_sl rl_tupA re_v ro_no (ro_so re_v)) (re_sl rl_tupA re_v (ro_so re_v) (ro_so (re_op rr_add re_v (re_c fun _ => .int _))))) (re_sl rl_tupA re_v (ro_so re_v) ro_no))) rs_next)
    (rs_seq (rs_if (rt_test (re_op rr_eq re_v (re_c fun _ => .int _))) (rs_ret (re_op rr_catA (re_op rr_catA (re_sl rl_tupA re_v ro_no (ro_so re_v)) (re_revT (re_sl rl_tupA re_v (ro_so re_v) (ro_so (re_op rr_add re_v (re_c fun _ => .int _)))))) (re_sl rl_tupA re_v (ro_so (re_op rr_add re_v (re_c fun _ => .int _))) ro_no))) rs_next)
    (rs_ret (re_op rr_catA (re_op rr_catA (re_sl rl_tupA re_v ro_no (ro_so re_v)) (re_tup (ra_cons (re_op rr_ixL (RN.re (rn_lst (ra_cons (re_tup (ra_cons (re_c fun _ => .int _) (ra_cons (re_c fun _ => .int _) ra_nil))) (ra_cons (re_tup (ra_cons (re_c fun _ => .int _) (ra_cons (re_c fun _ => .int _) ra_nil))) (ra_cons (re_tup (ra_cons (re_c fun _ => .int _) (ra_cons (re_c fun _ => .int _) ra_nil))) (ra_cons (re_tup ra_nil) (ra_cons (re_c fun _ => .int _) ra_nil))))))) (re_call (fun _ => .nil) (rc_own (rc_dat (re_c fun _ => .int _) rc_nil)))) ra_nil))) (re_sl rl_tupA re_v (ro_so re_v) ro_no)))))))))
theorem okD__law_whole {P : Program} {w : World} {K : PySem.W.Frag} {mg : Str → Option Value} {base : Heap} {ad : Ad} (T : Txt K mg ad) : FnOk P w K mg base CX0 1 ad.f__law_whole ad.d__law_whole ["_law_thing", "_law_least", "_law_most"] (spF K 3 F__law_whole) := by
  refine okF0 T.F__law_whole sc__law_whole fun cdv A outer s H E hr => ⟨_, (pss_one (ps_ret (pe_and (pe_callB call_isi (by rfl) T.n_isinstance (by decide +kernel) (pa_cons (pv 0) (pa_cons (pe_bltn (v := .ty "int") (by rfl) T.n_int (by decide +kernel) rfl) pa_nil))) (pe_and (pe_not (pe_callB call_isi (by rfl) T.n_isinstance (by decide +kernel) (pa_cons (pv 0) (pa_cons (pe_bltn (v := .ty "bool") (by rfl) T.n_bool (by decide +kernel) rfl) pa_nil)))) (pe_one (pe_chain op_le op_le (pv 1) (pv 0) (pv 2))))))), ?_⟩
  intro J
  exact (rs_ret (re_and (re_isi re_v) (re_and (re_not (re_isi re_v)) (re_chain rr_le rr_le re_v re_v re_v))))
theorem okD__law_is_pair {P : Program} {w : World} {K : PySem.W.Frag} {mg : Str → Option Value} {base : Heap} {ad : Ad} (T : Txt K mg ad) : FnOk P w K mg base CX0 2 ad.f__law_is_pair ad.d__law_is_pair ["_law_thing"] (spF K 1 F__law_is_pair) := by
  have G__law_whole := okD__law_whole (P := P) (w := w) (base := base) T
  refine okF0 T.F__law_is_pair sc__law_is_pair fun cdv A outer s H E hr => ⟨_, (pss_cons (ps_if (PW.pt (pw_or (pt_not (pt_val (pe_callB call_isi (by rfl) T.n_isinstance (by decide +kernel) (pa_cons (pv 0) (pa_cons (pe_bltn (v := .ty "tuple") (by rfl) T.n_tuple (by decide +kernel) rfl) pa_nil))))) (pw_or1 (pt_cmpR op_ne (pe_callB call_len_seq (by rfl) T.n_len PySem.boot_len (pa_cons (pv 0) pa_nil)) pe_int (nomark _))))) (pss_one (ps_ret pe_bl)) pss_nil)
    (pss_one (ps_ret (pe_and (pe_call G__law_whole (hr.mono (by decide)) rfl T.g__law_whole T.F__law_whole.kp T.b__law_whole .nil pass0 (pa_cons (pe_ix ix_seq (pv 0) pe_int (fun _ _ => rfl)) (pa_cons pe_int (pa_cons pe_int pa_nil)))) (pe_one (pe_call G__law_whole (hr.mono (by decide)) rfl T.g__law_whole T.F__law_whole.kp T.b__law_whole .nil pass0 (pa_cons (pe_ix ix_seq (pv 0) pe_int (fun _ _ => rfl)) (pa_cons pe_int (pa_cons pe_int pa_nil))))))))), ?_⟩
  intro J
  exact (rs_seq (rs_if (rt_or (rt_not (rt_b (re_isi re_v))) (rt_test (re_op rr_ne (re_cb rb_len (ra_cons re_v ra_nil)) (re_c fun _ => .int _)))) (rs_ret (re_c fun _ => .bl _)) rs_next)
    (rs_ret (re_and (re_call (fun _ => .nil) (rc_dat (re_op rr_ix re_v (re_c fun _ => .int _)) (rc_dat (re_c fun _ => .int _) (rc_dat (re_c fun _ => .int _) rc_nil)))) (re_call (fun _ => .nil) (rc_dat (re_op rr_ix re_v (re_c fun _ => .int _)) (rc_dat (re_c fun _ => .int _) (rc_dat (re_c fun _ => .int _) rc_nil)))))))
theorem okD__law_is_rule {P : Program} {w : World} {K : PySem.W.Frag} {mg : Str → Option Value} {base : Heap} {ad : Ad} (T : Txt K mg ad) : FnOk P w K mg base CX0 3 ad.f__law_is_rule ad.d__law_is_rule ["_law_thing"] (spF K 1 F__law_is_rule) := by
  have G__law_is_pair := okD__law_is_pair (P := P) (w := w) (base := base) T
  refine okF0 T.F__law_is_rule sc__law_is_rule fun cdv A outer s H E hr => ⟨_, (pss_cons (ps_if (PW.pt (pw_or (pt_not (pt_val (pe_callB call_isi (by rfl) T.n_isinstance (by decide +kernel) (pa_cons (pv 0) (pa_cons (pe_bltn (v := .ty "tuple") (by rfl) T.n_tuple (by decide +kernel) rfl) pa_nil))))) (pw_or (pt_cmpR op_gt (pe_callB call_len_seq (by rfl) T.n_len PySem.boot_len (pa_cons (pv 0) pa_nil)) pe_int (nomark _)) (pw_or1 (pt_not (pt_val (pe_callB (cr_all rfl) (by rfl) T.n_all (by decide +kernel) (pa_cons (pe_lc (own := [("_law_pair", 1)]) (g := gName 1) (by rfl) sc__law_is_rule.nd (pi_tup (pv 0)) (blkOk_by (own := [("_law_pair", 1)]) (N := N__law_is_rule) (sc := defScope s__law_is_rule) (by decide +kernel)) (fun _ _ _ _ _ => (pg_name (i := 1) sc__law_is_rule.nd rfl (Or.inl rfl))) (fun _ _ _ _ _ => pts_nil) (fun _ _ _ _ _ => (pe_call G__law_is_pair (hr.mono (by decide)) rfl T.g__law_is_pair T.F__law_is_pair.kp T.b__law_is_pair .nil pass0 (pa_cons (pv 1) pa_nil)))) pa_nil)))))))) (pss_one (ps_ret pe_bl)) pss_nil)
    (pss_cons (ps_for PassesOwn.never rfl (RZ.pi_zipA (by rfl) T.n_zip (pa_cons (pv 0) (pa_cons (pe_slice sl_tupA (pv 0) (po_some pe_int) po_none) pa_nil))) (pg_tup (by rfl) (pgs_cons (pg_name (i := 2) sc__law_is_rule.nd rfl (Or.inl rfl)) (pgs_cons (pg_name (i := 3) sc__law_is_rule.nd rfl (Or.inl rfl)) pgs_nil))) (pss_one (ps_if (PW.pt (pw_or (pt_cmpR op_le (pe_ix ix_seq (pv 3) pe_int (fun _ _ => rfl)) (pe_ix ix_seq (pv 2) pe_int (fun _ _ => rfl)) (nomark _)) (pw_or1 (pt_cmpR op_ge (pe_ix ix_seq (pv 3) pe_int (fun _ _ => rfl)) (pe_ix ix_seq (pv 2) pe_int (fun _ _ => rfl)) (nomark _))))) (pss_one (ps_ret pe_bl)) pss_nil)))
    (pss_one (ps_ret pe_bl)))), ?_⟩
  intro J
  exact (rs_seq (rs_if (rt_or (rt_not (rt_b (re_isi re_v))) (rt_or (rt_test (re_op rr_gt (re_cb rb_len (ra_cons re_v ra_nil)) (re_c fun _ => .int _))) (rt_not (rt_b (re_cb rb_all (ra_cons (RN.re (rn_lc (by decide) (ri_tup re_v) (fun _ le => rg_name) (fun _ le => rt_yes) (fun _ le => (re_call (fun _ => .nil) (rc_dat re_v rc_nil))))) ra_nil)))))) (rs_ret (re_c fun _ => .bl _)) rs_next)
    (rs_seq (rs_for (by decide) (ri_zip (ra_cons re_v (ra_cons (re_sl rl_tupA re_v (ro_so (re_c fun _ => .int _)) ro_no) ra_nil))) (rg_tup (rgs_cons rg_name (rgs_cons rg_name rgs_nil))) (rs_if (rt_or (rt_test (re_op rr_le (re_op rr_ix re_v (re_c fun _ => .int _)) (re_op rr_ix re_v (re_c fun _ => .int _)))) (rt_test (re_op rr_ge (re_op rr_ix re_v (re_c fun _ => .int _)) (re_op rr_ix re_v (re_c fun _ => .int _))))) (rs_ret (re_c fun _ => .bl _)) rs_next))
    (rs_ret (re_c fun _ => .bl _))))
theorem okD__law_right {P : Program} {w : World} {K : PySem.W.Frag} {mg : Str → Option Value} {base : Heap} {ad : Ad} (T : Txt K mg ad) : FnG P w K mg base 4 ad.f__law_right ad.d__law_right ["_law_box_here"] (spF K 1 F__law_right) := by
  have G_is_rule := okD_is_rule (P := P) (w := w) (base := base) T
  have G__law_rule := okD__law_rule (P := P) (w := w) (base := base) T
  have G__law_bent := okD__law_bent (P := P) (w := w) (base := base) T
  have G__law_is_rule := okD__law_is_rule (P := P) (w := w) (base := base) T
  have G__law_take := okD__law_take (P := P) (w := w) (base := base) T
  refine okF T.F__law_right sc__law_right fun cdv A outer s H E hr hg => ⟨_, (pss_cons (ps_par (i := 1) (j := 2) (by rfl) sc__law_right.nd rfl rfl (by decide) rfl rfl (pa_cons (pe_call G__law_rule (hr.mono (by decide)) rfl T.g__law_rule T.F__law_rule.kp T.b__law_rule .nil pass0 (pa_cons (pv 0) pa_nil)) (pa_cons (pe_callTy call_tuple_of (by rfl) T.n_tuple (by decide +kernel) (pa_cons (pe_lc (own := [("_law_k", 3)]) (g := gName 3) (by rfl) sc__law_right.nd (pi_range1 rfl T.n_range (pa_cons pe_int pa_nil)) (blkOk_by (own := [("_law_k", 3)]) (N := N__law_right) (sc := defScope s__law_right) (by decide +kernel)) (fun _ _ _ _ _ => (pg_name (i := 3) sc__law_right.nd rfl (Or.inl rfl))) (fun _ _ _ _ _ => pts_nil) (fun _ _ _ _ _ => (pe_tup (pa_cons (pe_op op_mul pe_int (pe_op op_add (pv 3) pe_int)) (pa_cons (pe_op op_sub pe_int (pv 3)) pa_nil))))) pa_nil)) pa_nil)) (by rfl))
    (pss_cons (ps_set (i := 4) sc__law_right.nd rfl (Or.inl rfl) (pe_lst (pa_cons (pv 1) (pa_cons (pe_callTy call_list_of (by rfl) T.n_list (by decide +kernel) (pa_cons (pv 1) pa_nil)) (pa_cons (pe_tup pa_nil) (pa_cons (pe_lst pa_nil) (pa_cons pe_non (pa_cons pe_int (pa_cons pe_str (pa_cons (pv 2) (pa_cons (pe_op op_catA (pv 2) (pe_tup (pa_cons (pe_tup (pa_cons pe_int (pa_cons pe_int pa_nil))) pa_nil))) (pa_cons (pe_op op_catA (pe_slice sl_tupA (pv 2) po_none (po_some pe_int)) (pe_tup (pa_cons (pe_tup (pa_cons pe_int (pa_cons pe_int pa_nil))) pa_nil))) pa_nil))))))))))))
    (pss_cons (ps_set (i := 4) sc__law_right.nd rfl (Or.inl rfl) (pe_op op_catK (pv 4) (pe_lst (pa_cons (pe_tup (pa_cons (pe_tup (pa_cons pe_int (pa_cons pe_int pa_nil))) pa_nil)) (pa_cons (pe_tup (pa_cons (pe_tup (pa_cons pe_int (pa_cons pe_int pa_nil))) pa_nil)) pa_nil)))))
    (pss_cons (ps_set (i := 4) sc__law_right.nd rfl (Or.inl rfl) (pe_op op_catK (pv 4) (pe_lst (pa_cons (pe_tup (pa_cons (pe_tup (pa_cons pe_int (pa_cons pe_int pa_nil))) (pa_cons (pe_tup (pa_cons pe_int (pa_cons pe_int pa_nil))) (pa_cons (pe_tup (pa_cons pe_int (pa_cons pe_int pa_nil))) (pa_cons (pe_tup (pa_cons pe_int (pa_cons pe_int pa_nil))) (pa_cons (pe_tup (pa_cons pe_int (pa_cons pe_int pa_nil))) (pa_cons (pe_tup (pa_cons pe_int (pa_cons pe_int pa_nil))) pa_nil))))))) (pa_cons (pe_tup (pa_cons (pe_tup (pa_cons pe_int (pa_cons pe_int pa_nil))) (pa_cons (pe_tup (pa_cons pe_int (pa_cons pe_int pa_nil))) pa_nil))) (pa_cons (pe_tup (pa_cons (pe_tup (pa_cons pe_int (pa_cons pe_int pa_nil))) (pa_cons (pe_tup (pa_cons pe_int (pa_cons pe_int pa_nil))) pa_nil))) pa_nil))))))
    (pss_cons (ps_set (i := 4) sc__law_right.nd rfl (Or.inl rfl) (pe_op op_catK (pv 4) (pe_lst (pa_cons (pe_tup (pa_cons pe_int (pa_cons pe_int pa_nil))) (pa_cons (pe_op op_catA (pe_tup (pa_cons (pe_tup (pa_cons pe_int (pa_cons pe_int pa_nil))) pa_nil)) (pe_tup (pa_cons (pe_lst (pa_cons pe_int (pa_cons pe_int pa_nil))) pa_nil))) (pa_cons (pe_tup (pa_cons pe_str pa_nil)) (pa_cons (pe_tup (pa_cons (pe_tup (pa_cons pe_bl (pa_cons pe_int pa_nil))) pa_nil)) (pa_cons (pe_tup (pa_cons (pe_tup (pa_cons pe_int (pa_cons pe_bl pa_nil))) pa_nil)) pa_nil))))))))
    (pss_cons (ps_for PassesOwn.never rfl (pi_range1 rfl T.n_range (pa_cons pe_int pa_nil)) (pg_name (i := 5) sc__law_right.nd rfl (Or.inl rfl)) (pss_cons (ps_set (i := 6) sc__law_right.nd rfl (Or.inl rfl) (pe_call G__law_bent (hr.mono (by decide)) rfl T.g__law_bent T.F__law_bent.kp T.b__law_bent .nil pass0 (pa_cons (pv 0) (pa_cons (pv 1) pa_nil))))
    (pss_one (ps_expr (pe_bm PySem.F.plainAttrs_list PySem.F.slot_list_append PySem.F.type_list_append mt_append (pv 4) (pa_cons (pe_ifExp (pt_cmpR op_eq (pe_call G__law_take (hr.mono (by decide)) rfl T.g__law_take T.F__law_take.kp T.b__law_take .nil pass0 (pa_cons (pv 0) (pa_cons pe_int pa_nil))) pe_int (nomark _)) (pe_call G__law_bent (hr.mono (by decide)) rfl T.g__law_bent T.F__law_bent.kp T.b__law_bent .nil pass0 (pa_cons (pv 0) (pa_cons (pv 6) pa_nil))) (pv 6)) pa_nil))))))
    (pss_cons (ps_for PassesOwn.never rfl (pi_list (pv 4)) (pg_name (i := 7) sc__law_right.nd rfl (Or.inl rfl)) (pss_cons (ps_par (i := 8) (j := 9) (by rfl) sc__law_right.nd rfl rfl (by decide) rfl rfl (pa_cons (pe_callB (call_reprV hg hr.units) (by rfl) T.n_repr (by decide +kernel) (pa_cons (pv 7) pa_nil)) (pa_cons (pe_call G_is_rule (hr.mono (by decide)) rfl T.g_is_rule T.F_is_rule.kp T.b_is_rule .nil pass0 (pa_cons (pv 7) pa_nil)) pa_nil)) (by rfl))
    (pss_one (ps_if (PW.pt (pw_or (pt_not (pt_val (pe_callB call_isi (by rfl) T.n_isinstance (by decide +kernel) (pa_cons (pv 9) (pa_cons (pe_bltn (v := .ty "bool") (by rfl) T.n_bool (by decide +kernel) rfl) pa_nil))))) (pw_or (pt_cmpR op_ne (pv 9) (pe_call G__law_is_rule (hr.mono (by decide)) rfl T.g__law_is_rule T.F__law_is_rule.kp T.b__law_is_rule .nil pass0 (pa_cons (pv 7) pa_nil)) (nomark _)) (pw_or1 (pt_cmpR op_ne (pe_callB (call_reprV hg hr.units) (by rfl) T.n_repr (by decide +kernel) (pa_cons (pv 7) pa_nil)) (pv 8) (nomark _)))))) (pss_one (ps_ret pe_bl)) pss_nil))))
    (pss_one (ps_ret (pe_call G_is_rule (hr.mono (by decide)) rfl T.g_is_rule T.F_is_rule.kp T.b_is_rule .nil pass0 (pa_cons (pv 1) pa_nil))))))))))), ?_⟩
  intro J
  exact (rs_seq (rs_par (ra_cons (re_call (fun _ => .nil) (rc_own rc_nil)) (ra_cons (re_cb rb_tuple (ra_cons (RN.re (rn_lc (by decide) (ri_rng1 (ra_cons (re_c fun _ => .int _) ra_nil)) (fun _ le => rg_name) (fun _ le => rt_yes) (fun _ le => (re_tup (ra_cons (re_op rr_mul (re_c fun _ => .int _) (re_op rr_add re_v (re_c fun _ => .int _))) (ra_cons (re_op rr_sub (re_c fun _ => .int _) re_v) ra_nil)))))) ra_nil)) ra_nil)))
    (rs_seq (rs_own (by decide) (rn_lst (ra_cons re_v (ra_cons (re_cb rb_list (ra_cons re_v ra_nil)) (ra_cons (re_tup ra_nil) (ra_cons (RN.re (rn_lst ra_nil)) (ra_cons (re_c fun _ => .non) (ra_cons (re_c fun _ => .int _) (ra_cons (re_c fun _ => .str _) (ra_cons re_v (ra_cons (re_op rr_catA re_v (re_tup (ra_cons (re_tup (ra_cons (re_c fun _ => .int _) (ra_cons (re_c fun _ => .int _) ra_nil))) ra_nil))) (ra_cons (re_op rr_catA (re_sl rl_tupA re_v ro_no (ro_so (re_c fun _ => .int _))) (re_tup (ra_cons (re_tup (ra_cons (re_c fun _ => .int _) (ra_cons (re_c fun _ => .int _) ra_nil))) ra_nil))) ra_nil))))))))))))
    (rs_seq (rs_freeze (by decide) (rs_own (by decide) (rn_op rrn_cat re_v (RN.re (rn_lst (ra_cons (re_tup (ra_cons (re_tup (ra_cons (re_c fun _ => .int _) (ra_cons (re_c fun _ => .int _) ra_nil))) ra_nil)) (ra_cons (re_tup (ra_cons (re_tup (ra_cons (re_c fun _ => .int _) (ra_cons (re_c fun _ => .int _) ra_nil))) ra_nil)) ra_nil)))))))
    (rs_seq (rs_freeze (by decide) (rs_own (by decide) (rn_op rrn_cat re_v (RN.re (rn_lst (ra_cons (re_tup (ra_cons (re_tup (ra_cons (re_c fun _ => .int _) (ra_cons (re_c fun _ => .int _) ra_nil))) (ra_cons (re_tup (ra_cons (re_c fun _ => .int _) (ra_cons (re_c fun _ => .int _) ra_nil))) (ra_cons (re_tup (ra_cons (re_c fun _ => .int _) (ra_cons (re_c fun _ => .int _) ra_nil))) (ra_cons (re_tup (ra_cons (re_c fun _ => .int _) (ra_cons (re_c fun _ => .int _) ra_nil))) (ra_cons (re_tup (ra_cons (re_c fun _ => .int _) (ra_cons (re_c fun _ => .int _) ra_nil))) (ra_cons (re_tup (ra_cons (re_c fun _ => .int _) (ra_cons (re_c fun _ => .int _) ra_nil))) ra_nil))))))) (ra_cons (re_tup (ra_cons (re_tup (ra_cons (re_c fun _ => .int _) (ra_cons (re_c fun _ => .int _) ra_nil))) (ra_cons (re_tup (ra_cons (re_c fun _ => .int _) (ra_cons (re_c fun _ => .int _) ra_nil))) ra_nil))) (ra_cons (re_tup (ra_cons (re_tup (ra_cons (re_c fun _ => .int _) (ra_cons (re_c fun _ => .int _) ra_nil))) (ra_cons (re_tup (ra_cons (re_c fun _ => .int _) (ra_cons (re_c fun _ => .int _) ra_nil))) ra_nil))) ra_nil))))))))
    (rs_seq (rs_freeze (by decide) (rs_own (by decide) (rn_op rrn_cat re_v (RN.re (rn_lst (ra_cons (re_tup (ra_cons (re_c fun _ => .int _) (ra_cons (re_c fun _ => .int _) ra_nil))) (ra_cons (re_op rr_catA (re_tup (ra_cons (re_tup (ra_cons (re_c fun _ => .int _) (ra_cons (re_c fun _ => .int _) ra_nil))) ra_nil)) (re_tup (ra_cons (RN.re (rn_lst (ra_cons (re_c fun _ => .int _) (ra_cons (re_c fun _ => .int _) ra_nil)))) ra_nil))) (ra_cons (re_tup (ra_cons (re_c fun _ => .str _) ra_nil)) (ra_cons (re_tup (ra_cons (re_tup (ra_cons (re_c fun _ => .bl _) (ra_cons (re_c fun _ => .int _) ra_nil))) ra_nil)) (ra_cons (re_tup (ra_cons (re_tup (ra_cons (re_c fun _ => .int _) (ra_cons (re_c fun _ => .bl _) ra_nil))) ra_nil)) ra_nil))))))))))
    (rs_seq (rs_for (by decide) (ri_rng1 (ra_cons (re_c fun _ => .int _) ra_nil)) rg_name (rs_seq (rs_asg (re_call (fun _ => .nil) (rc_own (rc_dat re_v rc_nil))) rg_name)
    (rs_append (re_if (rt_test (re_op rr_eq (re_call (fun _ => .nil) (rc_own (rc_dat (re_c fun _ => .int _) rc_nil))) (re_c fun _ => .int _))) (re_call (fun _ => .nil) (rc_own (rc_dat re_v rc_nil))) re_v))))
    (rs_seq (rs_freeze (by decide) (rs_for (by decide) (ri_list re_v) rg_name (rs_seq (rs_par (ra_cons (re_cb rb_reprV (ra_cons re_v ra_nil)) (ra_cons (re_call (fun _ => .nil) (rc_dat re_v rc_nil)) ra_nil)))
    (rs_if (rt_or (rt_not (rt_b (re_isi re_v))) (rt_or (rt_test (re_op rr_ne re_v (re_call (fun _ => .nil) (rc_dat re_v rc_nil)))) (rt_test (re_op rr_ne (re_cb rb_reprV (ra_cons re_v ra_nil)) re_v)))) (rs_ret (re_c fun _ => .bl _)) rs_next))))
    (rs_ret (re_call (fun _ => .nil) (rc_dat re_v rc_nil))))))))))
theorem ok__law_right {P : Program} {w : World} {K : PySem.W.Frag} {mg : Str → Option Value} {base : Heap} {ad : Ad} (T : Txt K mg ad) : FnG P w K mg base 4 ad.f__law_right ad.d__law_right ["_law_box_here"] spBox :=
  (okD__law_right T).imp fun _ _ _ _ h => box_of (fun _ hb => f_law_right hb) h
def sp_law (K : PySem.W.Frag) : Sp := fun vs H Q _ => ∃ (a : Addr) (ns : List Int), vs = [.ref a] ∧ SqL K H a (ns.map V.int) ∧ ns.length ≤ 63 ∧ ∀ H', Q (.bl true) H'
theorem ok_law {P : Program} {w : World} {K : PySem.W.Frag} {mg : Str → Option Value} {base : Heap} {ad : Ad} (T : Txt K mg ad) : FnG P w K mg base 5 ad.f_law ad.d_law ["_law_script"] (sp_law K) := by
  have G__law_folded := ok__law_folded (P := P) (w := w) (base := base) T
  have G__law_right := ok__law_right (P := P) (w := w) (base := base) T
  have G__law_box := ok__law_box (P := P) (w := w) (base := base) T
  refine okG T.F_law sc_law (fun vs H Q E h => ?_) (fun cdv A outer s H vs Q E hr hg h => ?_)
  · obtain ⟨a, ns, rfl, _⟩ := h
    rfl
  · obtain ⟨a, ns, rfl, hS, hl, q⟩ := h
    refine ⟨_, (pss_cons (ps_set (i := 1) sc_law.nd rfl (Or.inr rfl) (pe_call G__law_folded (hr.mono (by decide)) rfl T.g__law_folded T.F__law_folded.kp T.b__law_folded .nil pass0 (pa_cons (pv 0) (pa_cons pe_int pa_nil))))
    (pss_one (ps_ret (pe_callB (cr_all rfl) (by rfl) T.n_all (by decide +kernel) (pa_cons (pe_lc (own := [("_law_k", 2)]) (g := gName 2) (by rfl) sc_law.nd (pi_range1 rfl T.n_range (pa_cons (pe_callB (call_max2 rfl) (by rfl) T.n_max (by decide +kernel) (pa_cons pe_int (pa_cons (pe_callB call_len_seq (by rfl) T.n_len PySem.boot_len (pa_cons (pv 1) pa_nil)) pa_nil))) pa_nil)) (blkOk_by (own := [("_law_k", 2)]) (N := N_law) (sc := defScope s_law) (by decide +kernel)) (fun _ _ _ _ _ => (pg_name (i := 2) sc_law.nd rfl (Or.inl rfl))) (fun _ _ _ _ _ => pts_nil) (fun _ _ _ _ _ => (pe_callG G__law_right (hr.mono (by decide)) hg rfl T.g__law_right T.F__law_right.kp T.b__law_right .nil (pa_cons (pe_call G__law_box (hr.mono (by decide)) rfl T.g__law_box T.F__law_box.kp T.b__law_box .nil pass0 (pa_cons (pv 1) (pa_cons (pv 2) pa_nil))) pa_nil)))) pa_nil))))), ?_⟩
    refine ⟨_, rfl, a, ns, 8, rfl, hS, hl, by decide, by decide, fun c ms H1 hc s1 hc1 lm => ?_⟩
    refine ⟨_, rfl, c, _, rfl, .inl (SqL.of hc1), _, _, rfl, _, rfl, ?_, ?_, fun D hD => ?_⟩
    · split <;> simp <;> omega
    · split <;> simp <;> omega
    refine lc_it walk_range0 (fun i H' => Same H1 H' ∧ ∃ bs : List Bool, bs.length = i ∧ (∀ b ∈ bs, b = true) ∧ H' D = some (.lst (bs.map V.bl))) ⟨Same.new hD, [], rfl, (by simp), upd_same⟩ (fun _ _ _ _ => trivial) ?_ ?_
    · rintro i x _ H2 hi ⟨s2, bs, lb, hb, hD2⟩ ⟨rfl, rfl⟩
      have hi7 : i < 64 := by
        have : (if ((ms.map V.int).length : Int) > 1 then ((ms.map V.int).length : Int) else 1) ≤ 63 := by rw [List.length_map]; split <;> omega
        omega
      refine ⟨rfl, ?_⟩
      refine ⟨_, rfl, _, rfl, c, ms, i, rfl, SqL.of (s2 _ _ hc1), by omega, fun B H3 nB s3 bB => ?_⟩
      refine ⟨B, rfl, bB, fun H4 f4 => ?_⟩
      have s24 : Same H2 H4 := f4.out s3 (by simp [nB])
      have hD4 := s24 _ _ hD2
      refine ⟨_, hD4, by rw [List.length_map, lb]; exact Nat.lt_of_lt_of_le hi7 (by decide), ?_, bs ++ [true], by rw [List.length_append, lb]; rfl, ?_, by rw [upd_same, List.map_append]; rfl⟩
      · intro b o e
        rw [upd_ne (ne_of_none e hD)]
        exact s24 _ _ (s2 _ _ e)
      · intro b hb'
        rcases List.mem_append.mp hb' with h | h
        · exact hb b h
        · exact List.mem_singleton.mp h
    · rintro H2 ⟨s2, bs, lb, hb, hD2⟩
      refine ⟨D, bs, rfl, SqL.of hD2, ?_⟩
      have e : bs.all id = true := List.all_eq_true.mpr fun b h => hb b h
      rw [e]
      exact q _

theorem all_mk {l : PySem.W.OpenLaw} {w : World} {K : PySem.W.Frag} {h : Heap} {mg : Str → Option Value} {fa : Addr} (X : K.In h) (G : h.Ns mainGlobals mg) (hfa : mg "law" = some (.ref fa))
    {f__law_folded : Addr} {od__law_folded an__law_folded : Option Addr} {sl__law_folded : Array (Option Value)} {oc__law_folded kV__law_folded dc__law_folded pm__law_folded cd__law_folded ct__law_folded : Value}
    {f_is_whole : Addr} {od_is_whole an_is_whole : Option Addr} {sl_is_whole : Array (Option Value)} {oc_is_whole kV_is_whole dc_is_whole pm_is_whole cd_is_whole ct_is_whole : Value}
    {f_is_rule_pair : Addr} {od_is_rule_pair an_is_rule_pair : Option Addr} {sl_is_rule_pair : Array (Option Value)} {oc_is_rule_pair kV_is_rule_pair dc_is_rule_pair pm_is_rule_pair cd_is_rule_pair ct_is_rule_pair : Value}
    {f_is_rule : Addr} {od_is_rule an_is_rule : Option Addr} {sl_is_rule : Array (Option Value)} {oc_is_rule kV_is_rule dc_is_rule pm_is_rule cd_is_rule ct_is_rule : Value}
    {f__law_take : Addr} {od__law_take an__law_take : Option Addr} {sl__law_take : Array (Option Value)} {oc__law_take kV__law_take dc__law_take pm__law_take cd__law_take ct__law_take : Value}
    {f__law_rule : Addr} {od__law_rule an__law_rule : Option Addr} {sl__law_rule : Array (Option Value)} {oc__law_rule kV__law_rule dc__law_rule pm__law_rule cd__law_rule ct__law_rule : Value}
    {f__law_leaf : Addr} {od__law_leaf an__law_leaf : Option Addr} {sl__law_leaf : Array (Option Value)} {oc__law_leaf kV__law_leaf dc__law_leaf pm__law_leaf cd__law_leaf ct__law_leaf : Value}
    {f__law_bent : Addr} {od__law_bent an__law_bent : Option Addr} {sl__law_bent : Array (Option Value)} {oc__law_bent kV__law_bent dc__law_bent pm__law_bent cd__law_bent ct__law_bent : Value}
    {f__law_whole : Addr} {od__law_whole an__law_whole : Option Addr} {sl__law_whole : Array (Option Value)} {oc__law_whole kV__law_whole dc__law_whole pm__law_whole cd__law_whole ct__law_whole : Value}
    {f__law_is_pair : Addr} {od__law_is_pair an__law_is_pair : Option Addr} {sl__law_is_pair : Array (Option Value)} {oc__law_is_pair kV__law_is_pair dc__law_is_pair pm__law_is_pair cd__law_is_pair ct__law_is_pair : Value}
    {f__law_is_rule : Addr} {od__law_is_rule an__law_is_rule : Option Addr} {sl__law_is_rule : Array (Option Value)} {oc__law_is_rule kV__law_is_rule dc__law_is_rule pm__law_is_rule cd__law_is_rule ct__law_is_rule : Value}
    {f__law_right : Addr} {od__law_right an__law_right : Option Addr} {sl__law_right : Array (Option Value)} {oc__law_right kV__law_right dc__law_right pm__law_right cd__law_right ct__law_right : Value}
    {f__law_box : Addr} {od__law_box an__law_box : Option Addr} {sl__law_box : Array (Option Value)} {oc__law_box kV__law_box dc__law_box pm__law_box cd__law_box ct__law_box : Value}
    {f_law : Addr} {od_law an_law : Option Addr} {sl_law : Array (Option Value)} {oc_law kV_law dc_law pm_law cd_law ct_law : Value}
    {t_MOST_PAIRS : Tok}
    {t_MOST_AGE : Tok}
    {t_MOST_PART : Tok}
    (a__law_folded : PySem.W.nsIn K mainGlobals "_law_folded" = some (some (.ref f__law_folded)))
    (l__law_folded : K.lookup f__law_folded = some ⟨oc__law_folded, od__law_folded, .func (PySem.W.fnOf "_law_folded" "_law_folded" (defArgs s__law_folded) (defBody s__law_folded) (defScope s__law_folded) .none kV__law_folded dc__law_folded pm__law_folded an__law_folded cd__law_folded ct__law_folded), sl__law_folded⟩)
    (e__law_folded : PySem.W.codeIn K cd__law_folded "_law_folded" = true)
    (k__law_folded : PySem.W.keepIn K (.ref f__law_folded) = true)
    (a_is_whole : PySem.W.nsIn K mainGlobals "is_whole" = some (some (.ref f_is_whole)))
    (l_is_whole : K.lookup f_is_whole = some ⟨oc_is_whole, od_is_whole, .func (PySem.W.fnOf "is_whole" "is_whole" (defArgs s_is_whole) (defBody s_is_whole) (defScope s_is_whole) .none kV_is_whole dc_is_whole pm_is_whole an_is_whole cd_is_whole ct_is_whole), sl_is_whole⟩)
    (e_is_whole : PySem.W.codeIn K cd_is_whole "is_whole" = true)
    (k_is_whole : PySem.W.keepIn K (.ref f_is_whole) = true)
    (a_is_rule_pair : PySem.W.nsIn K mainGlobals "is_rule_pair" = some (some (.ref f_is_rule_pair)))
    (l_is_rule_pair : K.lookup f_is_rule_pair = some ⟨oc_is_rule_pair, od_is_rule_pair, .func (PySem.W.fnOf "is_rule_pair" "is_rule_pair" (defArgs s_is_rule_pair) (defBody s_is_rule_pair) (defScope s_is_rule_pair) .none kV_is_rule_pair dc_is_rule_pair pm_is_rule_pair an_is_rule_pair cd_is_rule_pair ct_is_rule_pair), sl_is_rule_pair⟩)
    (e_is_rule_pair : PySem.W.codeIn K cd_is_rule_pair "is_rule_pair" = true)
    (k_is_rule_pair : PySem.W.keepIn K (.ref f_is_rule_pair) = true)
    (a_is_rule : PySem.W.nsIn K mainGlobals "is_rule" = some (some (.ref f_is_rule)))
    (l_is_rule : K.lookup f_is_rule = some ⟨oc_is_rule, od_is_rule, .func (PySem.W.fnOf "is_rule" "is_rule" (defArgs s_is_rule) (defBody s_is_rule) (defScope s_is_rule) .none kV_is_rule dc_is_rule pm_is_rule an_is_rule cd_is_rule ct_is_rule), sl_is_rule⟩)
    (e_is_rule : PySem.W.codeIn K cd_is_rule "is_rule" = true)
    (k_is_rule : PySem.W.keepIn K (.ref f_is_rule) = true)
    (a__law_take : PySem.W.nsIn K mainGlobals "_law_take" = some (some (.ref f__law_take)))
    (l__law_take : K.lookup f__law_take = some ⟨oc__law_take, od__law_take, .func (PySem.W.fnOf "_law_take" "_law_take" (defArgs s__law_take) (defBody s__law_take) (defScope s__law_take) .none kV__law_take dc__law_take pm__law_take an__law_take cd__law_take ct__law_take), sl__law_take⟩)
    (e__law_take : PySem.W.codeIn K cd__law_take "_law_take" = true)
    (k__law_take : PySem.W.keepIn K (.ref f__law_take) = true)
    (a__law_rule : PySem.W.nsIn K mainGlobals "_law_rule" = some (some (.ref f__law_rule)))
    (l__law_rule : K.lookup f__law_rule = some ⟨oc__law_rule, od__law_rule, .func (PySem.W.fnOf "_law_rule" "_law_rule" (defArgs s__law_rule) (defBody s__law_rule) (defScope s__law_rule) .none kV__law_rule dc__law_rule pm__law_rule an__law_rule cd__law_rule ct__law_rule), sl__law_rule⟩)
    (e__law_rule : PySem.W.codeIn K cd__law_rule "_law_rule" = true)
    (k__law_rule : PySem.W.keepIn K (.ref f__law_rule) = true)
    (a__law_leaf : PySem.W.nsIn K mainGlobals "_law_leaf" = some (some (.ref f__law_leaf)))
    (l__law_leaf : K.lookup f__law_leaf = some ⟨oc__law_leaf, od__law_leaf, .func (PySem.W.fnOf "_law_leaf" "_law_leaf" (defArgs s__law_leaf) (defBody s__law_leaf) (defScope s__law_leaf) .none kV__law_leaf dc__law_leaf pm__law_leaf an__law_leaf cd__law_leaf ct__law_leaf), sl__law_leaf⟩)
    (e__law_leaf : PySem.W.codeIn K cd__law_leaf "_law_leaf" = true)
    (k__law_leaf : PySem.W.keepIn K (.ref f__law_leaf) = true)
    (a__law_bent : PySem.W.nsIn K mainGlobals "_law_bent" = some (some (.ref f__law_bent)))
    (l__law_bent : K.lookup f__law_bent = some ⟨oc__law_bent, od__law_bent, .func (PySem.W.fnOf "_law_bent" "_law_bent" (defArgs s__law_bent) (defBody s__law_bent) (defScope s__law_bent) .none kV__law_bent dc__law_bent pm__law_bent an__law_bent cd__law_bent ct__law_bent), sl__law_bent⟩)
    (e__law_bent : PySem.W.codeIn K cd__law_bent "_law_bent" = true)
    (k__law_bent : PySem.W.keepIn K (.ref f__law_bent) = true)
    (a__law_whole : PySem.W.nsIn K mainGlobals "_law_whole" = some (some (.ref f__law_whole)))
    (l__law_whole : K.lookup f__law_whole = some ⟨oc__law_whole, od__law_whole, .func (PySem.W.fnOf "_law_whole" "_law_whole" (defArgs s__law_whole) (defBody s__law_whole) (defScope s__law_whole) .none kV__law_whole dc__law_whole pm__law_whole an__law_whole cd__law_whole ct__law_whole), sl__law_whole⟩)
    (e__law_whole : PySem.W.codeIn K cd__law_whole "_law_whole" = true)
    (k__law_whole : PySem.W.keepIn K (.ref f__law_whole) = true)
    (a__law_is_pair : PySem.W.nsIn K mainGlobals "_law_is_pair" = some (some (.ref f__law_is_pair)))
    (l__law_is_pair : K.lookup f__law_is_pair = some ⟨oc__law_is_pair, od__law_is_pair, .func (PySem.W.fnOf "_law_is_pair" "_law_is_pair" (defArgs s__law_is_pair) (defBody s__law_is_pair) (defScope s__law_is_pair) .none kV__law_is_pair dc__law_is_pair pm__law_is_pair an__law_is_pair cd__law_is_pair ct__law_is_pair), sl__law_is_pair⟩)
    (e__law_is_pair : PySem.W.codeIn K cd__law_is_pair "_law_is_pair" = true)
    (k__law_is_pair : PySem.W.keepIn K (.ref f__law_is_pair) = true)
    (a__law_is_rule : PySem.W.nsIn K mainGlobals "_law_is_rule" = some (some (.ref f__law_is_rule)))
    (l__law_is_rule : K.lookup f__law_is_rule = some ⟨oc__law_is_rule, od__law_is_rule, .func (PySem.W.fnOf "_law_is_rule" "_law_is_rule" (defArgs s__law_is_rule) (defBody s__law_is_rule) (defScope s__law_is_rule) .none kV__law_is_rule dc__law_is_rule pm__law_is_rule an__law_is_rule cd__law_is_rule ct__law_is_rule), sl__law_is_rule⟩)
    (e__law_is_rule : PySem.W.codeIn K cd__law_is_rule "_law_is_rule" = true)
    (k__law_is_rule : PySem.W.keepIn K (.ref f__law_is_rule) = true)
    (a__law_right : PySem.W.nsIn K mainGlobals "_law_right" = some (some (.ref f__law_right)))
    (l__law_right : K.lookup f__law_right = some ⟨oc__law_right, od__law_right, .func (PySem.W.fnOf "_law_right" "_law_right" (defArgs s__law_right) (defBody s__law_right) (defScope s__law_right) .none kV__law_right dc__law_right pm__law_right an__law_right cd__law_right ct__law_right), sl__law_right⟩)
    (e__law_right : PySem.W.codeIn K cd__law_right "_law_right" = true)
    (k__law_right : PySem.W.keepIn K (.ref f__law_right) = true)
    (a__law_box : PySem.W.nsIn K mainGlobals "_law_box" = some (some (.ref f__law_box)))
    (l__law_box : K.lookup f__law_box = some ⟨oc__law_box, od__law_box, .func (PySem.W.fnOf "_law_box" "_law_box" (defArgs s__law_box) (defBody s__law_box) (defScope s__law_box) .none kV__law_box dc__law_box pm__law_box an__law_box cd__law_box ct__law_box), sl__law_box⟩)
    (e__law_box : PySem.W.codeIn K cd__law_box "_law_box" = true)
    (k__law_box : PySem.W.keepIn K (.ref f__law_box) = true)
    (a_law : PySem.W.nsIn K mainGlobals "law" = some (some (.ref f_law)))
    (l_law : K.lookup f_law = some ⟨oc_law, od_law, .func (PySem.W.fnOf "law" "law" (defArgs s_law) (defBody s_law) (defScope s_law) .none kV_law dc_law pm_law an_law cd_law ct_law), sl_law⟩)
    (e_law : PySem.W.codeIn K cd_law "law" = true)
    (k_law : PySem.W.keepIn K (.ref f_law) = true)
    (z_list : PySem.W.nsIn K mainGlobals "list" = some none)
    (z_enumerate : PySem.W.nsIn K mainGlobals "enumerate" = some none)
    (z_isinstance : PySem.W.nsIn K mainGlobals "isinstance" = some none)
    (z_int : PySem.W.nsIn K mainGlobals "int" = some none)
    (z_bool : PySem.W.nsIn K mainGlobals "bool" = some none)
    (z_tuple : PySem.W.nsIn K mainGlobals "tuple" = some none)
    (z_len : PySem.W.nsIn K mainGlobals "len" = some none)
    (z_all : PySem.W.nsIn K mainGlobals "all" = some none)
    (z_zip : PySem.W.nsIn K mainGlobals "zip" = some none)
    (z_divmod : PySem.W.nsIn K mainGlobals "divmod" = some none)
    (z_range : PySem.W.nsIn K mainGlobals "range" = some none)
    (z_str : PySem.W.nsIn K mainGlobals "str" = some none)
    (z_repr : PySem.W.nsIn K mainGlobals "repr" = some none)
    (z_abs : PySem.W.nsIn K mainGlobals "abs" = some none)
    (z_max : PySem.W.nsIn K mainGlobals "max" = some none)
    (y_MOST_PAIRS : PySem.W.nsIn K mainGlobals "MOST_PAIRS" = some (some (.int 6 t_MOST_PAIRS)))
    (y_MOST_AGE : PySem.W.nsIn K mainGlobals "MOST_AGE" = some (some (.int 999 t_MOST_AGE)))
    (y_MOST_PART : PySem.W.nsIn K mainGlobals "MOST_PART" = some (some (.int 99 t_MOST_PART)))
    : ∃ fd : FuncData, (∀ (s : Shared) (v : Value), BindsTo s fd ⟨[v], []⟩ [("_law_script", v)]) ∧ ∀ base : Heap, K.In base → base.Ns mainGlobals mg → FnG l.prog w K mg base 5 fa fd ["_law_script"] (sp_law K) := by
  have e := hfa.symm.trans (PySem.W.mg_of X G a_law)
  cases e
  have F__law_folded := fun_mk (st := s__law_folded) l__law_folded e__law_folded k__law_folded
  have b__law_folded := F__law_folded.binds (ps := ["_law_script", "_law_size"]) fun _ _ _ _ _ _ us hl => match us, hl with | [_, _], _ => rfl
  have F_is_whole := fun_mk (st := s_is_whole) l_is_whole e_is_whole k_is_whole
  have b_is_whole := F_is_whole.binds (ps := ["thing", "least", "most"]) fun _ _ _ _ _ _ us hl => match us, hl with | [_, _, _], _ => rfl
  have F_is_rule_pair := fun_mk (st := s_is_rule_pair) l_is_rule_pair e_is_rule_pair k_is_rule_pair
  have b_is_rule_pair := F_is_rule_pair.binds (ps := ["thing"]) fun _ _ _ _ _ _ us hl => match us, hl with | [_], _ => rfl
  have F_is_rule := fun_mk (st := s_is_rule) l_is_rule e_is_rule k_is_rule
  have b_is_rule := F_is_rule.binds (ps := ["thing"]) fun _ _ _ _ _ _ us hl => match us, hl with | [_], _ => rfl
  have F__law_take := fun_mk (st := s__law_take) l__law_take e__law_take k__law_take
  have b__law_take := F__law_take.binds (ps := ["_law_box_here", "_law_size"]) fun _ _ _ _ _ _ us hl => match us, hl with | [_, _], _ => rfl
  have F__law_rule := fun_mk (st := s__law_rule) l__law_rule e__law_rule k__law_rule
  have b__law_rule := F__law_rule.binds (ps := ["_law_box_here"]) fun _ _ _ _ _ _ us hl => match us, hl with | [_], _ => rfl
  have F__law_leaf := fun_mk (st := s__law_leaf) l__law_leaf e__law_leaf k__law_leaf
  have b__law_leaf := F__law_leaf.binds (ps := ["_law_box_here", "_law_thing"]) fun _ _ _ _ _ _ us hl => match us, hl with | [_, _], _ => rfl
  have F__law_bent := fun_mk (st := s__law_bent) l__law_bent e__law_bent k__law_bent
  have b__law_bent := F__law_bent.binds (ps := ["_law_box_here", "_law_rule_here"]) fun _ _ _ _ _ _ us hl => match us, hl with | [_, _], _ => rfl
  have F__law_whole := fun_mk (st := s__law_whole) l__law_whole e__law_whole k__law_whole
  have b__law_whole := F__law_whole.binds (ps := ["_law_thing", "_law_least", "_law_most"]) fun _ _ _ _ _ _ us hl => match us, hl with | [_, _, _], _ => rfl
  have F__law_is_pair := fun_mk (st := s__law_is_pair) l__law_is_pair e__law_is_pair k__law_is_pair
  have b__law_is_pair := F__law_is_pair.binds (ps := ["_law_thing"]) fun _ _ _ _ _ _ us hl => match us, hl with | [_], _ => rfl
  have F__law_is_rule := fun_mk (st := s__law_is_rule) l__law_is_rule e__law_is_rule k__law_is_rule
  have b__law_is_rule := F__law_is_rule.binds (ps := ["_law_thing"]) fun _ _ _ _ _ _ us hl => match us, hl with | [_], _ => rfl
  have F__law_right := fun_mk (st := s__law_right) l__law_right e__law_right k__law_right
  have b__law_right := F__law_right.binds (ps := ["_law_box_here"]) fun _ _ _ _ _ _ us hl => match us, hl with | [_], _ => rfl
  have F__law_box := fun_mk (st := s__law_box) l__law_box e__law_box k__law_box
  have b__law_box := F__law_box.binds (ps := ["_law_script", "_law_k"]) fun _ _ _ _ _ _ us hl => match us, hl with | [_, _], _ => rfl
  have F_law := fun_mk (st := s_law) l_law e_law k_law
  have T : Txt K mg ⟨f__law_folded, PySem.W.fnOf "_law_folded" "_law_folded" (defArgs s__law_folded) (defBody s__law_folded) (defScope s__law_folded) .none kV__law_folded dc__law_folded pm__law_folded an__law_folded cd__law_folded ct__law_folded, f_is_whole, PySem.W.fnOf "is_whole" "is_whole" (defArgs s_is_whole) (defBody s_is_whole) (defScope s_is_whole) .none kV_is_whole dc_is_whole pm_is_whole an_is_whole cd_is_whole ct_is_whole, f_is_rule_pair, PySem.W.fnOf "is_rule_pair" "is_rule_pair" (defArgs s_is_rule_pair) (defBody s_is_rule_pair) (defScope s_is_rule_pair) .none kV_is_rule_pair dc_is_rule_pair pm_is_rule_pair an_is_rule_pair cd_is_rule_pair ct_is_rule_pair, f_is_rule, PySem.W.fnOf "is_rule" "is_rule" (defArgs s_is_rule) (defBody s_is_rule) (defScope s_is_rule) .none kV_is_rule dc_is_rule pm_is_rule an_is_rule cd_is_rule ct_is_rule, f__law_take, PySem.W.fnOf "_law_take" "_law_take" (defArgs s__law_take) (defBody s__law_take) (defScope s__law_take) .none kV__law_take dc__law_take pm__law_take an__law_take cd__law_take ct__law_take, f__law_rule, PySem.W.fnOf "_law_rule" "_law_rule" (defArgs s__law_rule) (defBody s__law_rule) (defScope s__law_rule) .none kV__law_rule dc__law_rule pm__law_rule an__law_rule cd__law_rule ct__law_rule, f__law_leaf, PySem.W.fnOf "_law_leaf" "_law_leaf" (defArgs s__law_leaf) (defBody s__law_leaf) (defScope s__law_leaf) .none kV__law_leaf dc__law_leaf pm__law_leaf an__law_leaf cd__law_leaf ct__law_leaf, f__law_bent, PySem.W.fnOf "_law_bent" "_law_bent" (defArgs s__law_bent) (defBody s__law_bent) (defScope s__law_bent) .none kV__law_bent dc__law_bent pm__law_bent an__law_bent cd__law_bent ct__law_bent, f__law_whole, PySem.W.fnOf "_law_whole" "_law_whole" (defArgs s__law_whole) (defBody s__law_whole) (defScope s__law_whole) .none kV__law_whole dc__law_whole pm__law_whole an__law_whole cd__law_whole ct__law_whole, f__law_is_pair, PySem.W.fnOf "_law_is_pair" "_law_is_pair" (defArgs s__law_is_pair) (defBody s__law_is_pair) (defScope s__law_is_pair) .none kV__law_is_pair dc__law_is_pair pm__law_is_pair an__law_is_pair cd__law_is_pair ct__law_is_pair, f__law_is_rule, PySem.W.fnOf "_law_is_rule" "_law_is_rule" (defArgs s__law_is_rule) (defBody s__law_is_rule) (defScope s__law_is_rule) .none kV__law_is_rule dc__law_is_rule pm__law_is_rule an__law_is_rule cd__law_is_rule ct__law_is_rule, f__law_right, PySem.W.fnOf "_law_right" "_law_right" (defArgs s__law_right) (defBody s__law_right) (defScope s__law_right) .none kV__law_right dc__law_right pm__law_right an__law_right cd__law_right ct__law_right, f__law_box, PySem.W.fnOf "_law_box" "_law_box" (defArgs s__law_box) (defBody s__law_box) (defScope s__law_box) .none kV__law_box dc__law_box pm__law_box an__law_box cd__law_box ct__law_box, fa, PySem.W.fnOf "law" "law" (defArgs s_law) (defBody s_law) (defScope s_law) .none kV_law dc_law pm_law an_law cd_law ct_law⟩ := ⟨PySem.W.mg_none_of X G z_list, PySem.W.mg_none_of X G z_enumerate, PySem.W.mg_none_of X G z_isinstance, PySem.W.mg_none_of X G z_int, PySem.W.mg_none_of X G z_bool, PySem.W.mg_none_of X G z_tuple, PySem.W.mg_none_of X G z_len, PySem.W.mg_none_of X G z_all, PySem.W.mg_none_of X G z_zip, PySem.W.mg_none_of X G z_divmod, PySem.W.mg_none_of X G z_range, PySem.W.mg_none_of X G z_str, PySem.W.mg_none_of X G z_repr, PySem.W.mg_none_of X G z_abs, PySem.W.mg_none_of X G z_max, ⟨_, PySem.W.mg_of X G y_MOST_PAIRS, ⟨_, rfl⟩⟩, ⟨_, PySem.W.mg_of X G y_MOST_AGE, ⟨_, rfl⟩⟩, ⟨_, PySem.W.mg_of X G y_MOST_PART, ⟨_, rfl⟩⟩, F__law_folded, PySem.W.mg_of X G a__law_folded, b__law_folded, F_is_whole, PySem.W.mg_of X G a_is_whole, b_is_whole, F_is_rule_pair, PySem.W.mg_of X G a_is_rule_pair, b_is_rule_pair, F_is_rule, PySem.W.mg_of X G a_is_rule, b_is_rule, F__law_take, PySem.W.mg_of X G a__law_take, b__law_take, F__law_rule, PySem.W.mg_of X G a__law_rule, b__law_rule, F__law_leaf, PySem.W.mg_of X G a__law_leaf, b__law_leaf, F__law_bent, PySem.W.mg_of X G a__law_bent, b__law_bent, F__law_whole, PySem.W.mg_of X G a__law_whole, b__law_whole, F__law_is_pair, PySem.W.mg_of X G a__law_is_pair, b__law_is_pair, F__law_is_rule, PySem.W.mg_of X G a__law_is_rule, b__law_is_rule, F__law_right, PySem.W.mg_of X G a__law_right, b__law_right, F__law_box, PySem.W.mg_of X G a__law_box, b__law_box, F_law⟩
  exact ⟨_, fun s v => .of_eq rfl, fun base _ _ => ok_law T⟩
theorem walk {l : PySem.W.OpenLaw} {q : Program} {loose : List Str} {XP : (Str → Option Value) → Heap → Prop} {YP : World → Heap → Prop} {d : DefRec} {K : Params → PySem.W.Frag} (hn : l.most = some 63) (hdf : d.params.defaults = [])
    (hY : ∀ (w : World) (h : Heap), YP w h → (K w.params).In h)
    (F : ∀ (w : World) (mg : Str → Option Value) (fa : Addr) (h : Heap), (K w.params).In h → h.Ns mainGlobals mg → mg d.name = some (.ref fa) →
      ∃ fd : FuncData, (∀ (s : Shared) (u : Value), BindsTo s fd ⟨[u], []⟩ [("_law_script", u)]) ∧ ∀ base : Heap, (K w.params).In base → base.Ns mainGlobals mg → FnG l.prog w (K w.params) mg base 5 fa fd ["_law_script"] (sp_law (K w.params))) :
    PySem.W.WalkO q loose XP YP l.row.toRowW d [] (fun f vs => PySem.call f vs) :=
  walk_ofG (n := 63) (k := 5) (x := "_law_script") (sp := sp_law) hn (by decide) hdf ⟨rfl, by decide, by decide⟩ hY F (fun _ _ a ns hl _ hS => ⟨a, ns, rfl, hS, hl, fun _ => rfl⟩)
end K

open PySem PySem.W PyProof.Rows in
set_option maxRecDepth 100000 in
set_option maxHeartbeats 0 in
theorem PySem.Challenge.cw_stallshares_k15_rules_or_not_holds : PySem.Challenge.rw_stallshares_k15_rules_or_not.Holds := by
  w_on; o_law; k_head; (case hw => w_witness2)
  k_fill
  refine K.walk (l := PySem.Challenge.rw_stallshares_k15_rules_or_not) rfl rfl (fun w h Y => PySem.W.kIn_of Y) ?F
  case F =>
    intro w mg fa h KX G hmg
    refine' K.all_mk KX G hmg ?a__law_folded ?l__law_folded ?e__law_folded ?k__law_folded ?a_is_whole ?l_is_whole ?e_is_whole ?k_is_whole ?a_is_rule_pair ?l_is_rule_pair ?e_is_rule_pair ?k_is_rule_pair ?a_is_rule ?l_is_rule ?e_is_rule ?k_is_rule ?a__law_take ?l__law_take ?e__law_take ?k__law_take ?a__law_rule ?l__law_rule ?e__law_rule ?k__law_rule ?a__law_leaf ?l__law_leaf ?e__law_leaf ?k__law_leaf ?a__law_bent ?l__law_bent ?e__law_bent ?k__law_bent ?a__law_whole ?l__law_whole ?e__law_whole ?k__law_whole ?a__law_is_pair ?l__law_is_pair ?e__law_is_pair ?k__law_is_pair ?a__law_is_rule ?l__law_is_rule ?e__law_is_rule ?k__law_is_rule ?a__law_right ?l__law_right ?e__law_right ?k__law_right ?a__law_box ?l__law_box ?e__law_box ?k__law_box ?a_law ?l_law ?e_law ?k_law ?z_list ?z_enumerate ?z_isinstance ?z_int ?z_bool ?z_tuple ?z_len ?z_all ?z_zip ?z_divmod ?z_range ?z_str ?z_repr ?z_abs ?z_max ?y_MOST_PAIRS ?y_MOST_AGE ?y_MOST_PART
    (case a__law_folded => k_is)
    (case l__law_folded => k_is)
    (case e__law_folded => k_is)
    (case k__law_folded => k_is)
    (case a_is_whole => k_is)
    (case l_is_whole => k_is)
    (case e_is_whole => k_is)
    (case k_is_whole => k_is)
    (case a_is_rule_pair => k_is)
    (case l_is_rule_pair => k_is)
    (case e_is_rule_pair => k_is)
    (case k_is_rule_pair => k_is)
    (case a_is_rule => k_is)
    (case l_is_rule => k_is)
    (case e_is_rule => k_is)
    (case k_is_rule => k_is)
    (case a__law_take => k_is)
    (case l__law_take => k_is)
    (case e__law_take => k_is)
    (case k__law_take => k_is)
    (case a__law_rule => k_is)
    (case l__law_rule => k_is)
    (case e__law_rule => k_is)
    (case k__law_rule => k_is)
    (case a__law_leaf => k_is)
    (case l__law_leaf => k_is)
    (case e__law_leaf => k_is)
    (case k__law_leaf => k_is)
    (case a__law_bent => k_is)
    (case l__law_bent => k_is)
    (case e__law_bent => k_is)
    (case k__law_bent => k_is)
    (case a__law_whole => k_is)
    (case l__law_whole => k_is)
    (case e__law_whole => k_is)
    (case k__law_whole => k_is)
    (case a__law_is_pair => k_is)
    (case l__law_is_pair => k_is)
    (case e__law_is_pair => k_is)
    (case k__law_is_pair => k_is)
    (case a__law_is_rule => k_is)
    (case l__law_is_rule => k_is)
    (case e__law_is_rule => k_is)
    (case k__law_is_rule => k_is)
    (case a__law_right => k_is)
    (case l__law_right => k_is)
    (case e__law_right => k_is)
    (case k__law_right => k_is)
    (case a__law_box => k_is)
    (case l__law_box => k_is)
    (case e__law_box => k_is)
    (case k__law_box => k_is)
    (case a_law => k_is)
    (case l_law => k_is)
    (case e_law => k_is)
    (case k_law => k_is)
    (case z_list => k_is)
    (case z_enumerate => k_is)
    (case z_isinstance => k_is)
    (case z_int => k_is)
    (case z_bool => k_is)
    (case z_tuple => k_is)
    (case z_len => k_is)
    (case z_all => k_is)
    (case z_zip => k_is)
    (case z_divmod => k_is)
    (case z_range => k_is)
    (case z_str => k_is)
    (case z_repr => k_is)
    (case z_abs => k_is)
    (case z_max => k_is)
    (case y_MOST_PAIRS => k_is)
    (case y_MOST_AGE => k_is)
    (case y_MOST_PART => k_is)
