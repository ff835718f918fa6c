import PyProof.Rows.All
import Wide.All
import OpenK.AllK
import Wide.FinOn
import HandS.ForMost
import HandS.IsInst
import HandS.StrMore
import HandS.Walk
import HandS.SortInts
import HandS.Zip
import HandS.Style
import HandS.MakeKw
import HandS.TupAny
import HandS.Exc
import HandS.ExcInit
import HandS.ExcOwn
import HandS.CallSlots
import HandS.ExcIs
import HandS.ExcField
import HandS.WordsExc
import HandS.Lambda
import HandS.EndTab
import HandS.SortKw
import KE.KSortKeySt
import KE.KExcInit
import KE.KTryMore
import KE.KExcIs
import KE.KExcLine
import KE.RegKIsAll
import KE.RegKTryMore
import KE.GoesMore
import KE.GoesEnum
import HandS.Strs
import HandS.SetFor
import HandS.WideBits
import PySem.Challenge.RW_stallshares_k29_papers_of_finds_spoilt
set_option Elab.async false
set_option linter.all false
set_option maxRecDepth 100000
set_option maxHeartbeats 4000000
/-! the shared layer: heaps but for some mutable places, the box of draws -/
namespace Z
open PySem L2

/-- H without the places of M -/
def hid (M : List Addr) (H : Hp) : Hp := fun a => if a ∈ M then none else H a
theorem hid_of {M : List Addr} {H : Hp} {a : Addr} (h : a ∉ M) : hid M H a = H a := if_neg h
theorem hid_none {M : List Addr} {H : Hp} {a : Addr} (h : H a = none) : hid M H a = none := by
  unfold hid; split <;> simp_all
theorem hid_same {M : List Addr} {H : Hp} : Same (hid M H) H := fun a o h => by
  unfold hid at h
  split at h
  · cases h
  · exact h
/-- what stands outside M is as it was -/
def Fr (M : List Addr) (H H' : Hp) : Prop := ∀ a o, a ∉ M → H a = some o → H' a = some o
theorem Fr.refl (M : List Addr) (H : Hp) : Fr M H H := fun _ _ _ h => h
theorem Fr.trans {M : List Addr} {H H1 H2 : Hp} (a : Fr M H H1) (b : Fr M H1 H2) : Fr M H H2 := fun x o n h => b x o n (a x o n h)
theorem Same.fr {M : List Addr} {H H' : Hp} (s : Same H H') : Fr M H H' := fun a o _ h => s a o h
theorem Fr.same {M : List Addr} {H H' : Hp} (f : Fr M H H') : Same (hid M H) (hid M H') := fun a o h => by
  unfold hid at h ⊢
  split at h
  · cases h
  · next n => rw [if_neg n]; exact f a o n h
theorem Fr.new {M : List Addr} {H : Hp} {p : Addr} {o : HO} (h : H p = none) : Fr M H (upd H p o) := fun a u _ e => by
  rw [upd_ne (ne_of_none e h)]; exact e
theorem Same.new {H : Hp} {p : Addr} {o : HO} (h : H p = none) : Same H (upd H p o) := fun a u e => by
  rw [upd_ne (ne_of_none e h)]; exact e
theorem Fr.put {M : List Addr} {H H' : Hp} {p : Addr} {o : HO} (f : Fr M H H') (h : p ∈ M) : Fr M H (upd H' p o) := fun a u n e => by
  rw [upd_ne (fun q : a = p => n (by rw [q]; exact h))]; exact f a u n e
theorem Fr.mono {M N : List Addr} {H H' : Hp} (f : Fr M H H') (s : ∀ a ∈ M, a ∈ N) : Fr N H H' := fun a o n h => f a o (fun q => n (s a q)) h
theorem Fr.nil {H H' : Hp} (f : Fr [] H H') : Same H H' := fun a o h => f a o (by simp) h
theorem Fr.back {M : List Addr} {H H' : Hp} {p : Addr} (f : Fr M H H') (hp : p ∉ M) (h : H' p = none) : H p = none := by
  cases q : H p with
  | none => rfl
  | some o => rw [f p o hp q] at h; cases h
theorem Fr.out {M : List Addr} {H H1 H2 : Hp} (f : Fr M H1 H2) (s : Same H H1) (hM : ∀ b ∈ M, H b = none) : Same H H2 := fun a o h => f a o (fun q => by rw [hM a q] at h; cases h) (s a o h)
theorem Fr.drop {M : List Addr} {H H' : Hp} {f : Addr} (fr : Fr (M ++ [f]) H H') (h : H f = none) : Fr M H H' := fun a o n e => fr a o (by
  simp only [List.mem_append, List.mem_singleton, not_or]
  exact ⟨n, ne_of_none e h⟩) e
theorem SqL.mono {K : PySem.W.Frag} {H H' : Hp} {a : Addr} {xs : List V} (e : Same H H') (h : SqL K H a xs) : SqL K H' a xs := e.seq h
theorem SqT.mono {K : PySem.W.Frag} {H H' : Hp} {a : Addr} {xs : List V} (e : Same H H') (h : SqT K H a xs) : SqT K H' a xs := by
  rcases h with (h | ⟨o, h⟩) | h
  · exact .inl (.inl (e _ _ h))
  · exact .inl (.inr ⟨o, e _ _ h⟩)
  · exact .inr h
mutual
theorem Dp.mono {K : PySem.W.Frag} {H H' : Hp} (e : Same H H') : ∀ {v : V} {d : PyData}, Dp K H v d → Dp K H' v d
  | _, _, .non => .non
  | _, _, .bl b => .bl b
  | _, _, .int i => .int i
  | _, _, .str x => .str x
  | _, _, .lst h r => .lst (SqL.mono e h) (DpAll.mono e r)
  | _, _, .tup h r => .tup (SqT.mono e h) (DpAll.mono e r)
theorem DpAll.mono {K : PySem.W.Frag} {H H' : Hp} (e : Same H H') : ∀ {v : List V} {d : List PyData}, DpAll K H v d → DpAll K H' v d
  | _, _, .nil => .nil
  | _, _, .cons a b => .cons (Dp.mono e a) (DpAll.mono e b)
end

theorem DpAll.length {K : PySem.W.Frag} {H : Hp} : ∀ {v : List V} {d : List PyData}, DpAll K H v d → v.length = d.length
  | _, _, .nil => rfl
  | _, _, .cons _ b => by rw [List.length_cons, List.length_cons, DpAll.length b]
theorem DpAll.get {K : PySem.W.Frag} {H : Hp} : ∀ {v : List V} {d : List PyData} {i : Nat} {x : V}, DpAll K H v d → v[i]? = some x → ∃ y, d[i]? = some y ∧ Dp K H x y
  | _, _, _, _, .nil, h => by simp at h
  | _, _, 0, _, .cons a _, h => by simp at h; subst h; exact ⟨_, rfl, a⟩
  | _, _, i + 1, _, .cons _ b, h => by
    obtain ⟨y, e, q⟩ := DpAll.get (i := i) b (by simpa using h)
    exact ⟨y, by simpa using e, q⟩
theorem Dp.list_of {K : PySem.W.Frag} {H : Hp} {v : V} {ds : List PyData} (h : Dp K H v (.list ds)) : ∃ a xs, v = .ref a ∧ SqL K H a xs ∧ DpAll K H xs ds := by
  cases h with
  | lst s r => exact ⟨_, _, rfl, s, r⟩
theorem Dp.tuple_of {K : PySem.W.Frag} {H : Hp} {v : V} {ds : List PyData} (h : Dp K H v (.tuple ds)) : ∃ a xs, v = .ref a ∧ SqT K H a xs ∧ DpAll K H xs ds := by
  cases h with
  | tup s r => exact ⟨_, _, rfl, s, r⟩
/-- the built-in class of data -/
def kindD : PyData → String
  | .none => "NoneType"
  | .bool _ => "bool"
  | .int _ => "int"
  | .str _ => "str"
  | .list _ => "list"
  | .tuple _ => "tuple"
  | .dict _ => "dict"
theorem SqL.ty {K : PySem.W.Frag} {H : Hp} {a : Addr} {xs : List V} (h : SqL K H a xs) : TyX K H (.ref a) (.type "list") := by
  rcases h with (h | ⟨o, h⟩) | ⟨o, its, n, e, c, _⟩
  · exact .base (.lst h)
  · exact .base (.frz h)
  · exact .kList e c
theorem SqT.ty {K : PySem.W.Frag} {H : Hp} {a : Addr} {xs : List V} (h : SqT K H a xs) : TyX K H (.ref a) (.type "tuple") := by
  rcases h with (h | ⟨o, h⟩) | ⟨o, its, n, e, c, _⟩
  · exact .base (.tup h)
  · exact .fTuple h
  · exact .kTuple e c
theorem Dp.ty {K : PySem.W.Frag} {H : Hp} {v : V} {d : PyData} (h : Dp K H v d) : TyX K H v (.type (kindD d)) := by
  cases h with
  | non => exact .base .non
  | bl b => exact .base (.bl b)
  | int i => exact .base (.int i)
  | str x => exact .base (.str x)
  | lst s _ => exact SqL.ty s
  | tup s _ => exact SqT.ty s
theorem tyD {K : PySem.W.Frag} {H : Hp} {v : V} {d : PyData} (A : String) (h : Dp K H v d) (e : kindD d = A) : TyX K H v (.type A) := e ▸ Dp.ty h
theorem ltC : Paired ClsV [.ty "list", .ty "tuple"] [.type "list", .type "tuple"] := .cons (.ty _) (.cons (.ty _) .nil)
theorem kitLT {K : PySem.W.Frag} (A : String) (b c : Bool) (k : kitB A "list" = some b) (k2 : kitB A "tuple" = some c) : PySem.W.kitAny K (.type A) [.type "list", .type "tuple"] = some (b || c) := by
  refine kitAny_cons (kit_ty k) (fun e => ?_) (fun e => by rw [e]; rfl)
  subst e
  exact kitAny_cons (kit_ty k2) (fun e => by subst e; exact kitAny_nil) (fun e => by rw [e]; rfl)
theorem lay_mem : ∀ {ds : List PyData} {d : PyData}, PyData.canLayAll0 ds = true → d ∈ ds → d.canLay0 = true
  | [], _, _, h => by cases h
  | x :: r, d, h, hm => by
    have h' : (x.canLay0 && PyData.canLayAll0 r) = true := h
    rw [Bool.and_eq_true] at h'
    rcases List.mem_cons.mp hm with rfl | hm
    · exact h'.1
    · exact lay_mem h'.2 hm
theorem depth_mem : ∀ {ds : List PyData} {d : PyData}, d ∈ ds → d.depth ≤ PyData.depthAll ds
  | [], _, h => by cases h
  | x :: r, d, hm => by
    show _ ≤ max x.depth (PyData.depthAll r)
    rcases List.mem_cons.mp hm with rfl | hm
    · exact Nat.le_max_left _ _
    · exact Nat.le_trans (depth_mem hm) (Nat.le_max_right _ _)
theorem shaped_mem {ds : List PyData} {d : PyData} (h : SeqAt.shaped (.list ds) = true ∨ SeqAt.shaped (.tuple ds) = true) (hm : d ∈ ds) : SeqAt.shaped d = true ∧ d.depth ≤ PyData.depthAll ds := by
  have h1 : PyData.canLayAll0 ds = true ∧ PyData.depthAll ds + 1 ≤ 64 := by
    rcases h with h | h
    · exact ⟨SeqAt.canLay_of_shaped h, SeqAt.depth_of_shaped h⟩
    · exact ⟨SeqAt.canLay_of_shaped h, SeqAt.depth_of_shaped h⟩
  have h2 := depth_mem hm
  refine ⟨?_, h2⟩
  unfold SeqAt.shaped
  rw [lay_mem h1.1 hm, decide_eq_true (by omega)]
  rfl
mutual
/-- how many things data is made of -/
def nodes : PyData → Nat
  | .list xs => nodesAll xs + 1
  | .tuple xs => nodesAll xs + 1
  | _ => 1
def nodesAll : List PyData → Nat
  | [] => 0
  | x :: r => nodes x + nodesAll r
end
theorem nodes_pos (d : PyData) : 1 ≤ nodes d := by cases d <;> simp [nodes]
theorem len_nodes : ∀ ds : List PyData, ds.length ≤ nodesAll ds
  | [] => Nat.le_refl _
  | x :: r => by
    have h1 := nodes_pos x
    have h2 := len_nodes r
    show r.length + 1 ≤ nodes x + nodesAll r
    omega
theorem nodes_mem : ∀ {ds : List PyData} {d : PyData}, d ∈ ds → nodes d ≤ nodesAll ds
  | [], _, h => by cases h
  | x :: r, d, hm => by
    show _ ≤ nodes x + nodesAll r
    rcases List.mem_cons.mp hm with rfl | hm
    · omega
    · have := nodes_mem hm
      omega
theorem walk_zipT {K : PySem.W.Frag} {a b : Addr} {xs ys : List V} {n : Nat} (hn : n = min xs.length ys.length) :
    Walk (RZ.ItzT K a b) n (fun H => SqT K H a xs ∧ SqT K H b ys) (YPair (fun i => xs[i]?) (fun i => ys[i]?)) := by
  refine ⟨fun i H hi q => ?_, fun H q => ⟨xs, ys, q.1, q.2, by omega⟩, fun i H v H' hi q y => ?_⟩
  · exact ⟨xs, ys, xs[i]'(by omega), ys[i]'(by omega), q.1, q.2, List.getElem?_eq_getElem (by omega), List.getElem?_eq_getElem (by omega)⟩
  · obtain ⟨t, x, z, e1, e2, e3, e4, e5⟩ := y
    exact ⟨t, x, z, e1, e2, e3, e4 xs q.1, e5 ys q.2⟩
/-- a comprehension that lays g of each, nothing else being changed -/
structure LcP {α : Type} (H1 : Hp) (D : Addr) (xs : List α) (g : α → V) (i : Nat) (H : Hp) : Prop where
  new : H1 D = none
  same : Same H1 H
  at_ : H D = some (.lst ((xs.take i).map g))
theorem LcP.start {α : Type} {H1 : Hp} {D : Addr} {xs : List α} {g : α → V} (h : H1 D = none) : LcP H1 D xs g 0 (upd H1 D (.lst [])) := ⟨h, Same.new h, upd_same⟩
theorem LcP.step {α : Type} {H1 H H4 : Hp} {D : Addr} {xs : List α} {g : α → V} {i : Nat} {x : α} {y : V} (p : LcP H1 D xs g i H) (s : Same H H4) (hx : xs[i]? = some x) (hy : y = g x) (hl : xs.length ≤ sizeLine) :
    ∃ acc, H4 D = some (.lst acc) ∧ acc.length < sizeLine ∧ LcP H1 D xs g (i + 1) (upd H4 D (.lst (acc ++ [y]))) := by
  have hi : i < xs.length := (List.getElem?_eq_some_iff.mp hx).1
  refine ⟨_, s _ _ p.at_, by simp; omega, p.new, fun b o e => ?_, ?_⟩
  · rw [upd_ne (ne_of_none e p.new)]
    exact s _ _ (p.same _ _ e)
  · rw [upd_same, hy, List.take_add_one, hx, List.map_append]
    rfl
theorem LcP.done {α : Type} {H1 H : Hp} {D : Addr} {xs : List α} {g : α → V} (p : LcP H1 D xs g xs.length H) : H D = some (.lst (xs.map g)) := by
  have h := p.at_
  rw [List.take_length] at h
  exact h

/-- a comprehension: what is laid so far is told by A -/
structure LcA (H1 : Hp) (D : Addr) (A : Nat → List V) (i : Nat) (H : Hp) : Prop where
  new : H1 D = none
  same : Same H1 H
  at_ : H D = some (.lst (A i))
theorem LcA.start {H1 : Hp} {D : Addr} {A : Nat → List V} (h : H1 D = none) (h0 : A 0 = []) : LcA H1 D A 0 (upd H1 D (.lst [])) := ⟨h, Same.new h, by rw [upd_same, h0]⟩
theorem LcA.put {H1 H H4 : Hp} {D : Addr} {A : Nat → List V} {i : Nat} {y : V} (p : LcA H1 D A i H) (s : Same H H4) (hA : A (i + 1) = A i ++ [y]) (hl : (A i).length < sizeLine) :
    ∃ acc, H4 D = some (.lst acc) ∧ acc.length < sizeLine ∧ LcA H1 D A (i + 1) (upd H4 D (.lst (acc ++ [y]))) := by
  refine ⟨_, s _ _ p.at_, hl, p.new, fun b o e => ?_, by rw [upd_same, hA]⟩
  rw [upd_ne (ne_of_none e p.new)]
  exact s _ _ (p.same _ _ e)
theorem LcA.skip {H1 H H4 : Hp} {D : Addr} {A : Nat → List V} {i : Nat} (p : LcA H1 D A i H) (s : Same H H4) (hA : A (i + 1) = A i) : LcA H1 D A (i + 1) H4 :=
  ⟨p.new, p.same.trans s, by rw [hA]; exact s _ _ p.at_⟩

/-- tuples and locked things stay -/
def Immut : HO → Prop
  | .tup _ => True
  | .frz _ _ => True
  | .ins _ _ _ => True
  | .own _ => True
  | _ => False
def KeepT (H H' : Hp) : Prop := ∀ t u, Immut u → H t = some u → H' t = some u
theorem KeepT.refl (H : Hp) : KeepT H H := fun _ _ _ h => h
theorem KeepT.trans {H H1 H2 : Hp} (a : KeepT H H1) (b : KeepT H1 H2) : KeepT H H2 := fun t u i h => b t u i (a t u i h)
theorem Same.kt {H H' : Hp} (s : Same H H') : KeepT H H' := fun t u _ h => s t u h
theorem KeepT.new {H : Hp} {p : Addr} {o : HO} (h : H p = none) : KeepT H (upd H p o) := Same.kt (Same.new h)
theorem KeepT.lst {H : Hp} {p : Addr} {xs : List V} {o : HO} (h : H p = some (.lst xs)) : KeepT H (upd H p o) := fun t u i e => by
  have hn : t ≠ p := fun q => by
    rw [q, h] at e
    cases e
    exact i
  rw [upd_ne hn]
  exact e
mutual
def noList : PyData → Bool
  | .list _ => false
  | .dict _ => false
  | .tuple xs => noLists xs
  | _ => true
def noLists : List PyData → Bool
  | [] => true
  | x :: r => noList x && noLists r
end
theorem SqT.keep {K : PySem.W.Frag} {H H' : Hp} {a : Addr} {xs : List V} (e : KeepT H H') (h : SqT K H a xs) : SqT K H' a xs := by
  rcases h with (h | ⟨o, h⟩) | h
  · exact .inl (.inl (e _ _ trivial h))
  · exact .inl (.inr ⟨o, e _ _ trivial h⟩)
  · exact .inr h
mutual
theorem Dp.keep {K : PySem.W.Frag} {H H' : Hp} (e : KeepT H H') : ∀ {v : V} {d : PyData}, Dp K H v d → noList d = true → Dp K H' v d
  | _, _, .non, _ => .non
  | _, _, .bl b, _ => .bl b
  | _, _, .int i, _ => .int i
  | _, _, .str x, _ => .str x
  | _, _, .lst _ _, h => by cases h
  | _, _, .tup s r, h => .tup (SqT.keep e s) (DpAll.keep e r h)
theorem DpAll.keep {K : PySem.W.Frag} {H H' : Hp} (e : KeepT H H') : ∀ {v : List V} {d : List PyData}, DpAll K H v d → noLists d = true → DpAll K H' v d
  | _, _, .nil, _ => .nil
  | _, _, .cons a b, h => by
    have h' := Bool.and_eq_true_iff.mp h
    exact .cons (Dp.keep e a h'.1) (DpAll.keep e b h'.2)
end
theorem DpAll.snoc {K : PySem.W.Frag} {H : Hp} {y : V} {c : PyData} (hy : Dp K H y c) : ∀ {v : List V} {d : List PyData}, DpAll K H v d → DpAll K H (v ++ [y]) (d ++ [c])
  | _, _, .nil => .cons hy .nil
  | _, _, .cons a b => .cons a (DpAll.snoc hy b)
theorem DpAll.take {K : PySem.W.Frag} {H : Hp} : ∀ {v : List V} {d : List PyData} (n : Nat), DpAll K H v d → DpAll K H (v.take n) (d.take n)
  | _, _, 0, _ => .nil
  | _, _, _ + 1, .nil => .nil
  | _, _, n + 1, .cons a b => .cons a (DpAll.take n b)
theorem DpAll.set {K : PySem.W.Frag} {H : Hp} {y : V} {c : PyData} (hy : Dp K H y c) : ∀ {v : List V} {d : List PyData} (n : Nat), DpAll K H v d → DpAll K H (v.set n y) (d.set n c)
  | _, _, _, .nil => .nil
  | _, _, 0, .cons _ b => .cons hy b
  | _, _, n + 1, .cons a b => .cons a (DpAll.set hy n b)

theorem DpAll.ints {K : PySem.W.Frag} {H : Hp} : ∀ ns : List Int, DpAll K H (ns.map V.int) (ns.map .int)
  | [] => .nil
  | n :: r => .cons (.int n) (DpAll.ints r)
theorem lay_ints (ns : List Int) : PyData.canLayAll0 (ns.map .int) = true ∧ PyData.depthAll (ns.map .int) = 0 ∧ nodesAll (ns.map .int) = ns.length := by
  induction ns with
  | nil => exact ⟨rfl, rfl, rfl⟩
  | cons n r ih =>
    refine ⟨ih.1, ?_, ?_⟩
    · show max 0 (PyData.depthAll (r.map .int)) = 0
      rw [ih.2.1]
      rfl
    · show 1 + nodesAll (r.map .int) = r.length + 1
      rw [ih.2.2]
      omega
theorem shaped_ints (ns : List Int) : SeqAt.shaped (.list (ns.map .int)) = true := by
  obtain ⟨h1, h2, _⟩ := lay_ints ns
  show (PyData.canLayAll0 (ns.map .int) && decide (PyData.depthAll (ns.map .int) + 1 ≤ 64)) = true
  rw [h1, h2]
  rfl
/-- those of xs whose data is kept -/
def selV {α : Type} (k : α → Bool) (xs : List V) (ps : List α) : List V := ((xs.zip ps).filter fun z => k z.2).map Prod.fst
theorem DpAll.sel {α : Type} {K : PySem.W.Frag} {H : Hp} {k : α → Bool} {g : α → PyData} : ∀ {xs : List V} {ps : List α}, DpAll K H xs (ps.map g) → DpAll K H (selV k xs ps) ((ps.filter k).map g)
  | [], [], _ => .nil
  | _ :: _, [], h => by cases h
  | [], _ :: _, h => by cases h
  | x :: xs, p :: ps, h => by
    cases h with
    | cons a b =>
      have ih := DpAll.sel (k := k) b
      unfold selV at ih ⊢
      rw [List.zip_cons_cons, List.filter_cons, List.filter_cons]
      cases hk : k p
      · rw [if_neg (by simp [hk]), if_neg (by simp)]
        exact ih
      · rw [if_pos (by simp [hk]), if_pos rfl]
        exact .cons a ih
theorem selV_take {α : Type} {k : α → Bool} {xs : List V} {ps : List α} {i : Nat} {x : V} {p : α} (hx : xs[i]? = some x) (hp : ps[i]? = some p) :
    selV k (xs.take (i + 1)) (ps.take (i + 1)) = selV k (xs.take i) (ps.take i) ++ (if k p then [x] else []) := by
  unfold selV
  have tz : ∀ n, (xs.take n).zip (ps.take n) = (xs.zip ps).take n := fun n => by rw [List.zip_eq_zipWith, List.zip_eq_zipWith, List.take_zipWith]
  rw [tz, tz, List.take_add_one, (List.getElem?_zip_eq_some (z := (x, p))).mpr ⟨hx, hp⟩, List.filter_append, List.map_append]
  congr 1
  cases hk : k p <;> simp [hk]
theorem selV_len {α : Type} {k : α → Bool} {xs : List V} {ps : List α} : (selV k xs ps).length ≤ xs.length := by
  unfold selV
  rw [List.length_map]
  exact Nat.le_trans (List.length_filter_le _ _) (by rw [List.length_zip]; omega)

/-- the box of draws at B, n draws behind it at most -/
def Box (H : Hp) (B : Addr) (n : Nat) : Prop := ∃ b0 b1 b2 : Int, H B = some (.lst [.int b0, .int b1, .int b2]) ∧ 0 ≤ b0 ∧ 0 ≤ b1 ∧ b1 < 2147483647 ∧ 0 ≤ b2 ∧ b2 ≤ (n : Int)
theorem Box.mono {H : Hp} {B : Addr} {n m : Nat} (b : Box H B n) (h : n ≤ m) : Box H B m := by
  obtain ⟨b0, b1, b2, e, h0, h1, h2, h3, h4⟩ := b
  exact ⟨b0, b1, b2, e, h0, h1, h2, h3, by omega⟩
theorem Box.some {H : Hp} {B : Addr} {n : Nat} (b : Box H B n) : ∃ o, H B = some o := by
  obtain ⟨b0, b1, b2, e, _⟩ := b
  exact ⟨_, e⟩
theorem Box.keep {H H' : Hp} {B : Addr} {n : Nat} (b : Box H B n) (s : Same H H') : Box H' B n := by
  obtain ⟨b0, b1, b2, e, h⟩ := b
  exact ⟨b0, b1, b2, s _ _ e, h⟩
theorem Box.put {H : Hp} {B p : Addr} {n : Nat} {o : HO} (b : Box H B n) (h : p ≠ B) : Box (upd H p o) B n := by
  obtain ⟨b0, b1, b2, e, r⟩ := b
  exact ⟨b0, b1, b2, by rw [upd_ne h.symm]; exact e, r⟩
theorem Box.ne {H : Hp} {B p : Addr} {n : Nat} (b : Box H B n) (h : H p = none) : p ≠ B := by
  obtain ⟨o, e⟩ := b.some
  exact (ne_of_none e h).symm
theorem Fr.kt {H H' : Hp} {B : Addr} {n : Nat} (f : Fr [B] H H') (b : Box H B n) : KeepT H H' := fun t u i e => by
  have hn : t ≠ B := fun q => by
    obtain ⟨b0, b1, b2, hB, _⟩ := b
    rw [q, hB] at e
    cases e
    exact i
  exact f t u (by simp [hn]) e
theorem atI_in {xs : List V} {r : Int} (h0 : 0 ≤ r) (h1 : r < xs.length) : ∃ v, atI xs r = some v ∧ v ∈ xs := by
  obtain ⟨j, rfl⟩ := Int.eq_ofNat_of_zero_le h0
  have hj : j < xs.length := by omega
  exact ⟨xs[j], atI_nat (List.getElem?_eq_getElem hj), List.getElem_mem hj⟩
theorem walk_range0 {n : Nat} : Walk (Itr 0 n) n (fun _ => True) (YFn fun i => .int ((i : Nat) : Int)) :=
  walk_range.mono (fun _ h => h) fun i H x H' _ _ y => ⟨y.1, by rw [y.2]; show V.int (0 + (i : Int)) = V.int (i : Int); rw [Int.zero_add]⟩
theorem iteD {p A B : Prop} [Decidable p] (h1 : p → A) (h2 : ¬ p → B) : if decide p = true then A else B := by
  by_cases h : p
  · rw [if_pos (decide_eq_true h)]; exact h1 h
  · rw [if_neg (by rw [decide_eq_false h]; exact Bool.false_ne_true)]; exact h2 h
theorem iteND {p A B : Prop} [Decidable p] (h1 : ¬ p → A) (h2 : p → B) : if (!decide p) = true then A else B := by
  by_cases h : p
  · rw [decide_eq_true h]; exact iteF (h2 h)
  · rw [decide_eq_false h]; exact iteT (h1 h)
theorem iteDS {p A B : Prop} [Decidable p] (h : p) (a : A) : if decide p = true then A else B := by rw [if_pos (decide_eq_true h)]; exact a
theorem iteDN {p A B : Prop} [Decidable p] (h : ¬ p) (b : B) : if decide p = true then A else B := by rw [decide_eq_false h]; exact iteF b
theorem iteNDN {p A B : Prop} [Decidable p] (h : ¬ p) (a : A) : if (!decide p) = true then A else B := by rw [decide_eq_false h]; exact iteT a
theorem ixN_nat {n j : Nat} (h : j < n) : ixN n (j : Int) = some j := by
  unfold ixN
  rw [if_pos (by omega), if_pos (by omega), Int.toNat_natCast]
def rLenK (K : PySem.W.Frag) : List V → Hp → VK → Prop := fun xs H Q => ∃ p ys, xs = [.ref p] ∧ (SqL K H p ys ∨ SqT K H p ys) ∧ Q (.int ys.length) H
theorem call_len_seqK {X : Cx} {K : PySem.W.Frag} (h : X.K = K) : CallR X (.builtin "len") (rLenK K) := by
  subst h
  exact call_len_seq
theorem atI_last {xs : List V} {x : V} (h : xs[xs.length - 1]? = some x) : atI xs (-1) = some x := by
  have hl : xs.length - 1 < xs.length := (List.getElem?_eq_some_iff.mp h).1
  have e : ixN xs.length (-1) = some (xs.length - 1) := by
    unfold ixN
    rw [if_neg (by decide), if_pos (by omega)]
    congr 1
    omega
  unfold atI
  rw [e]
  exact h
theorem ixN_last {n : Nat} (h : 0 < n) : ixN n (-1) = some (n - 1) := by
  unfold ixN
  rw [if_neg (by decide), if_pos (by omega)]
  congr 1
  omega
theorem vals3 {a b c : V} {us : List Value} (r : Vals [a, b, c] us) : ∃ x y z, us = [x, y, z] ∧ RelV a x ∧ RelV b y ∧ RelV c z := by
  cases r with
  | cons r1 r => cases r with
    | cons r2 r => cases r with
      | cons r3 r => cases r; exact ⟨_, _, _, rfl, r1, r2, r3⟩
def max3 (i j k : Int) : Int := if k > (if j > i then j else i) then k else (if j > i then j else i)
theorem call_max3 {X : Cx} (hc : X.calm = true) : CallR X (.builtin "max") (fun xs H Q => ∃ i j k, xs = [.int i, .int j, .int k] ∧ Q (.int (max3 i j k)) H) := by
  intro pins s σ H xs us Q I r h
  obtain ⟨i, j, k, rfl, q⟩ := h
  obtain ⟨u, v, w', rfl, ⟨t, rfl⟩, ⟨t', rfl⟩, ⟨t'', rfl⟩⟩ := vals3 r
  refine max_three_ints (I.ok.hd hc) fun h' tk kk => ⟨_, H, I.kept kk, ?_, q⟩
  unfold max3
  by_cases h1 : j > i
  · rw [if_pos h1, if_pos h1]
    by_cases h2 : k > j
    · rw [if_pos h2, if_pos h2]; exact ⟨_, rfl⟩
    · rw [if_neg h2, if_neg h2]; exact ⟨_, rfl⟩
  · rw [if_neg h1, if_neg h1]
    by_cases h2 : k > i
    · rw [if_pos h2, if_pos h2]; exact ⟨_, rfl⟩
    · rw [if_neg h2, if_neg h2]; exact ⟨_, rfl⟩
theorem putF_len (f : Str) (v : V) : ∀ l : List (Str × V), (putF f v l).length ≤ l.length + 1
  | [] => Nat.le_refl _
  | (g, w) :: r => by
    unfold putF
    split
    · exact Nat.le_succ _
    · have := putF_len f v r
      simp only [List.length_cons]
      omega
theorem putF_few {f : Str} {v : V} {l : List (Str × V)} {n : Nat} (h : l.length ≤ n) : (putF f v l).length ≤ n + 1 := Nat.le_trans (putF_len f v l) (Nat.succ_le_succ h)
theorem putF_ok {l : List (Str × V)} {n : Nat} (h : l.length ≤ n) (hn : n < 1000) : l.length < 1000 := Nat.lt_of_le_of_lt h hn
theorem ix3 {a b c : V} : (atI [a, b, c] 0 = some a ∧ atI [a, b, c] 1 = some b ∧ atI [a, b, c] 2 = some c) := ⟨rfl, rfl, rfl⟩

theorem log2_ok {x : Int} (h : x.natAbs < 2 ^ 200) : x.natAbs.log2 < 1920 := by
  by_cases h0 : x.natAbs = 0
  · rw [h0]; decide
  · exact Nat.lt_of_lt_of_le ((Nat.log2_lt h0).mpr h) (by decide)
theorem log2_ok18 {x : Int} (h : x.natAbs < 10 ^ 18) : x.natAbs.log2 < 1920 := log2_ok (Nat.lt_of_lt_of_le h (by decide))
theorem ite01 (b : Bool) : (0 : Int) ≤ (if b = true then 1 else 0) := by cases b <;> decide
theorem pe_globE {X : Cx} {x : Str} {v : V} {pos : Pos} (hg : Gl X x) (h : ∃ u, X.mg x = some u ∧ RelV v u) (hd : (x == ("__debug__" : Str)) = false := by decide) : PE X (.Name x pos) (tC v) := by
  obtain ⟨u, hm, r⟩ := h
  exact pe_glob hg hm r hd
/-- s.rpartition(t) -/
theorem mt_rpartition {X : Cx} : MtR X "str.rpartition" (fun x xs H Q => ∃ a b, x = .str a ∧ xs = [.str b] ∧ (b.length == 0) = false ∧ a.length ≤ sizeLine ∧
    ∀ p, H p = none → Q (.ref p) (upd H p (.tup [.str (Txt.rpartition a b).1, .str (Txt.rpartition a b).2.1, .str (Txt.rpartition a b).2.2]))) := by
  intro pins s σ H x xs v us Q I rx rs h
  obtain ⟨a, b, rfl, rfl, hb, hz, h⟩ := h
  obtain ⟨t, rfl⟩ := rx
  cases rs with
  | cons r1 rs =>
    cases rs
    obtain ⟨u, rfl⟩ := r1
    refine call_meets F.slot_str_rpartition (typeIs_str _ _ _) F.entry_str_rpartition (F.args_str_rpartition_2 _ _) (meets_str_rpartition a b t u hb hz) ?_
    unfold Txt.rpartition at h
    revert h
    cases Builtin.Str.lastOccurrence a b 0 a.length with
    | none => intro h; exact laid_parts I h
    | some i => intro h; exact laid_parts I h
end Z
/-! defs that run while no repr is under way; repr and str of data -/
namespace Z
open PySem L2 PySem.Spec PyProof.Rows

/-- a promise that is kept wherever no repr is under way -/
structure FnG (P : Program) (w : World) (K : PySem.W.Frag) (mg : Str → Option Value) (base : Heap) (k : Nat) (f : Addr) (fd : FuncData)
    (ps : List Str) (sp : Sp) : Prop where
  size : ∀ vs H Q E, sp vs H Q E → vs.length = ps.length
  goes : ∀ (A : Around) (outer : List Env) (s : Shared) (H : Hp) (args : Args) (us : List Value) (vs : List V) (Q : VK) (E : XK),
    Room k A → A.guards = some [] → Env0 P w K mg base A outer s H → BindsTo s fd args (ps.zip us) → Vals vs us → sp vs H Q E →
    codeAny (model P w) A (.call (.ref f) args) (CR CX0 outer P w H s Q E) s
section
variable {P : Program} {w : World} {K : PySem.W.Frag} {mg : Str → Option Value} {base : Heap} {k : Nat} {f : Addr} {fd : FuncData} {ps : List Str} {sp : Sp}
theorem FnG.of (F : FnOk P w K mg base CX0 k f fd ps sp) : FnG P w K mg base k f fd ps sp :=
  ⟨F.len, fun A outer s H args us vs Q E hr _ => F.run A outer s H args us vs Q E hr⟩
theorem FnG.fit (F : FnG P w K mg base k f fd ps sp) {j : Nat} (h : k ≤ j) : FnG P w K mg base j f fd ps sp :=
  ⟨F.size, fun A outer s H args us vs Q E hr => F.goes A outer s H args us vs Q E (hr.mono h)⟩
/-- its body, in a frame of which it is known that no repr is under way -/
theorem okG {x qual : Str} {st : Stmt} {N : List Str} (F : Fun K x qual st f fd) (S : FnScope N ps (defScope st))
    (len : ∀ vs H Q E, sp vs H Q E → vs.length = ps.length)
    (body : ∀ (cdv : Value) (A : Around) (outer : List Env) (s : Shared) (H : Hp) (vs : List V) (Q : VK) (E : XK),
      Room k (A.deeper (envOfC qual (defScope st) s.heap.objs.size f cdv)) →
      (A.deeper (envOfC qual (defScope st) s.heap.objs.size f cdv)).guards = some [] → sp vs H Q E →
      ∃ t, PSs (cxOf CX0 P w K mg base N qual (defScope st) f cdv A outer s H E).nox (defBody st) t ∧
        t { nx := fun _ H' => Q .non H', rt := Q } (start N vs) H) :
    FnG P w K mg base (k + 1) f fd ps sp := by
  obtain ⟨oc, od, kV, doc, pm, an, cdv, ct, osl, rfl, at_f, code⟩ := F.ex
  refine ⟨len, fun A outer s H args us vs Q E room calm start0 binds rel want => ?_⟩
  have here : K.In s.heap := start0.mod.kin.keeps fun b o e => (start0.bs b o e).1
  have nolim : s.heap.NoLimit := start0.mod.nolimit.keeps fun b o e => (start0.bs b o e).1
  obtain ⟨t, der, rd⟩ := body cdv A outer s H vs Q E (room.deeper _) calm want
  have kinds : ∀ y ∈ ps.zip us, (defScope st).names.lookup y.1 = some .local ∨
      ((defScope st).names.lookup y.1 = some .cell ∧ ((cellsFrom (s.heap.objs.size + 1) (defScope st).names []).lookup y.1).isSome = true) := by
    rintro ⟨n, v⟩ hy
    refine (S.par n (List.of_mem_zip hy).1).imp id fun q => ⟨q, PySem.W.cellsFrom_some _ _ _ (.inl q)⟩
  refine codeAny_call_function room.depth (here _ _ at_f) rfl S.co S.gen rfl (PySem.W.codeRec_of here code) (binds _ _ _ _ ?_)
  refine wpAny_newFunctionEnv_cells S.kind kinds fun env he s1 inside => ?_
  subst he
  refine ⟨nolim.keeps inside.toInCall.keep, codeAny_func ?_⟩
  have I := inv_start (CX := CX0) (E := E) S room.hd start0 (len _ _ _ _ want) rel inside
  refine wpAny_mono (der.nox.run [] s1 (start N vs) H _ I rd) (fun fl s' ends => ?_) fun e s' ends => ends
  cases fl with
  | ret u => obtain ⟨v, σ', H', J, rv, q⟩ := ends; exact ⟨v, H', J.os, J.bare, J.base, J.hok, rv, q⟩
  | next => obtain ⟨σ', H', J, q⟩ := ends; exact ⟨.non, H', J.os, J.bare, J.base, J.hok, rfl, q⟩
  | brk => obtain ⟨_, _, _, q⟩ := ends; exact q.elim
  | cont => obtain ⟨_, _, _, q⟩ := ends; exact q.elim
end
section
variable {X : Cx} {k : Nat} {f : Addr} {fd : FuncData} {ps : List Str} {sp : Sp} {dvs : List V} {ds : List Value} {x : Str} {p pos : Pos} {e : Expr} {es : List Expr} {t : TA}
/-- such a callee runs -/
theorem runG {pins : List (Addr × Obj)} {σ : L2.St} {H : Hp} {s : Shared} {Q : VK} {us : List Value} {vs : List V} (F : FnG X.prog X.w X.K X.mg X.base k f fd ps sp)
    (hr : Room k X.A) (calm : X.A.guards = some []) (hb : Binds X.K fd ps ds) (hd : Vals dvs ds) (I : Inv X pins σ H s) (r : Vals vs us)
    (h : sp (vs ++ dvs) H Q E0) : wpAny (model X.prog X.w) X.A (call (.ref f) us) (EP X pins σ Q) X.xe s := by
  have both : Vals (vs ++ dvs) (us ++ ds) := r.append hd
  have enough : (us ++ ds).length = ps.length := both.length ▸ F.size _ _ _ _ h
  refine wpAny_call (codeAny_mono (F.goes X.A X.stack s H ⟨us, []⟩ _ _ Q E0 hr calm I.env0 (hb s us I.kIn enough) both h) fun res s' out => ?_)
  match res, out with
  | .ok (.ret u), out => exact I.after out
  | .ok .next, out => exact (out : False).elim
  | .ok .brk, out => exact (out : False).elim
  | .ok .cont, out => exact (out : False).elim
  | .error _, out => exact (out : False).elim
theorem pe_callG (F : FnG X.prog X.w X.K X.mg X.base k f fd ps sp) (hr : Room k X.A) (calm : X.A.guards = some []) (hg : Gl X x)
    (hm : X.mg x = some (.ref f)) (hk : PySem.W.keepIn X.K (.ref f) = true) (hb : Binds X.K fd ps ds) (hd : Vals dvs ds) (ha : PA X (e :: es) t)
    (nodebug : (x == ("__debug__" : Str)) = false := by decide)
    (nostar : starEach (e :: es) X.env = (false, eval e X.env) :: starEach es X.env := by rfl)
    (plain : (backTo pos (starEach es X.env)).any (·.1) = false := by rfl) : PE X (.Call (.Name x p) (e :: es) [] pos) (tCall sp dvs E0 t) :=
  ⟨fun pins s σ H Q I h => wpAny_Call_Name_kw (ld_glob I hg hm
    (PySem.W.callWith_K (h₀ := X.base) I.ok.mod.kin hk (thn (ha.run pos pins s σ H _ I h) fun us s1 ⟨vs, H1, I1, r, q⟩ =>
      ⟨I1.kIn, runG F hr calm hb hd I1 r q⟩) nostar plain) nodebug)⟩
theorem pe_callG0 (F : FnG X.prog X.w X.K X.mg X.base k f fd ps sp) (hr : Room k X.A) (calm : X.A.guards = some []) (hg : Gl X x)
    (hm : X.mg x = some (.ref f)) (hk : PySem.W.keepIn X.K (.ref f) = true) (hb : Binds X.K fd ps ds) (hd : Vals dvs ds)
    (nodebug : (x == ("__debug__" : Str)) = false := by decide) : PE X (.Call (.Name x p) [] [] pos) (tCall sp dvs E0 tNil) :=
  ⟨fun pins s σ H Q I h => wpAny_Call_Name_kw (ld_glob I hg hm (PySem.W.callWith_K0 I.kIn hk (runG (us := []) F hr calm hb hd I .nil h)) nodebug)⟩
end

/-! the law's call, its def being such a one -/
theorem law_callG {P : Program} {w : World} {K : PySem.W.Frag} {mg mb : Str → Option Value} {k : Nat} {fa a : Addr} {fd : FuncData} {x : Str} {sp : Sp} {s₁ : Shared} {vs : List Value} {ns : List Int}
    (kin : K.In s₁.heap) (ng : s₁.heap.Ns mainGlobals mg) (nb : s₁.heap.Ns builtinsNs mb) (boot : ∀ x : Str, x ≠ "__name__" → mb x = bootBuiltins x)
    (nolim : s₁.heap.NoLimit) (nogen : s₁.gens = #[]) (at_a : s₁.heap.get? a = some { cls := .type "list", data := .seq vs.toArray })
    (ints_ : IntsAre vs ns) (few : ns.length ≤ sizeLine) (room : Room k callerA)
    (F : ∀ base : Heap, K.In base → base.Ns mainGlobals mg → FnG P w K mg base k fa fd [x] sp) (bind : ∀ (s : Shared) (u : Value), BindsTo s fd ⟨[u], []⟩ [(x, u)])
    (want : ∀ H : Hp, Only H → SqL K H a (ns.map V.int) → sp [.ref a] H (fun v _ => v = .bl true) fun _ _ _ => False) :
    codeAny (model P w) callerA (.call (.ref fa) ⟨[.ref a], []⟩)
      (fun r s' => r = .ok (.ret (.bool true)) ∧ OldK s₁.heap s'.heap ∧ s'.os = s₁.os ∧ AllBare s'.gens) s₁ := by
  have rel := vals_ints ints_
  have one : ∀ H : Hp, Only H → SqL K H a (ns.map V.int) → HOk P w H s₁.heap → (∀ b, H b ≠ none → b = a) → (H a ≠ none → K.lookup a = none) →
      codeAny (model P w) callerA (.call (.ref fa) ⟨[.ref a], []⟩)
        (fun r s' => r = .ok (.ret (.bool true)) ∧ OldK s₁.heap s'.heap ∧ s'.os = s₁.os ∧ AllBare s'.gens) s₁ := fun H only sq hok alone noK => by
    have dictOut : ∀ {b : Addr} {o : Obj} {es : Array DictEntry} {ep : Nat}, s₁.heap.get? b = some o → o.data = .dict es ep → H b = none := by
      intro b o es ep e d
      refine Option.eq_none_iff_forall_ne_some.mpr fun u q => ?_
      have hb := alone b (q ▸ Option.some_ne_none u)
      rw [hb, at_a] at e
      injection e with e
      rw [← e] at d
      exact Data.noConfusion d
    have nsIn : ∀ {b : Addr} {m : Str → Option Value}, s₁.heap.Ns b m → (hidT s₁.heap H).Ns b m := by
      rintro b m ⟨o, es, ep, e, d, r⟩
      exact ⟨o, es, ep, hidT_get e (dictOut e d), d, r⟩
    have kb : K.In (hidT s₁.heap H) := fun b o e => hidT_get (kin b o e) (Option.eq_none_iff_forall_ne_some.mpr fun u q => by
      have hb := alone b (q ▸ Option.some_ne_none u)
      rw [hb] at q e
      rw [noK (q ▸ Option.some_ne_none u)] at e
      cases e)
    have lim' : (hidT s₁.heap H).NoLimit := by
      obtain ⟨mc, h1, h2⟩ := nolim
      exact ⟨mc, nsIn h1, h2⟩
    have start0 : Env0 P w K mg (hidT s₁.heap H) callerA [] s₁ H :=
      ⟨rfl, ⟨kb, nsIn ng, ⟨mb, nsIn nb, boot⟩, lim'⟩, fun b o e => of_hidT e, Nat.le_of_eq (hidT_size _ _), trivial, (fun b hb => (List.not_mem_nil hb).elim), hok, .of_eq nogen⟩
    refine codeAny_mono ((F _ kb (nsIn ng)).goes callerA [] s₁ H ⟨[.ref a], []⟩ [.ref a] [.ref a] _ _ room rfl start0 (bind s₁ (.ref a)) (.cons rfl .nil) (want H only sq)) ?_
    intro res s' out
    match res, out with
    | .ok .next, out => exact (out : False).elim
    | .ok .brk, out => exact (out : False).elim
    | .ok .cont, out => exact (out : False).elim
    | .error _, out => exact (out : False).elim
    | .ok (.ret u), out =>
      obtain ⟨v, H', os, bare, un, hok', rv, q⟩ := out
      cases (show v = .bl true from q)
      cases (show u = Value.bool true from rv)
      refine ⟨rfl, OldK.of_keep fun b o e => ?_, os, bare⟩
      rcases only b with z | ⟨ob, xs, z⟩
      · exact un.keep b o e z (fun q => by cases q) (fun q => by cases q)
      · have e1 := (hok b _ z).1
        have e2 := (hok' b _ (un.frzs b ob _ z)).1
        rw [e] at e1
        injection e1 with e1
        rw [e1]
        exact e2
  by_cases hk : K.lookup a = none
  · refine one (fun b => if b = a then some (.frz { cls := .type "list", data := .seq vs.toArray } (.lst (ns.map V.int))) else none) (fun b => ?_)
      (.inl (.inr ⟨_, if_pos rfl⟩)) (fun b u z => ?_) (fun b z => ?_) fun _ => hk
    · exact if h : b = a then .inr ⟨_, _, if_pos h⟩ else .inl (if_neg h)
    · refine if h : b = a then ?_ else ?_
      · dsimp only at z
        rw [if_pos h] at z
        cases z
        rw [h]
        exact ⟨at_a, by rw [List.length_map]; exact few, vs, _, rel, at_a⟩
      · dsimp only at z
        rw [if_neg h] at z
        cases z
    · exact Decidable.byContradiction fun h => z (if_neg h)
  · obtain ⟨o, ho⟩ := Option.ne_none_iff_exists'.mp hk
    have e := kin a o ho
    rw [at_a] at e
    injection e with e
    refine one (fun _ => none) (fun _ => .inl rfl) (.inr ⟨_, vs.toArray, _, ho, by rw [← e], by rw [← e], by rw [← e], ?_, ?_⟩) (fun b u z => by cases z) (fun b z => (z rfl).elim) fun z => (z rfl).elim
    · rw [List.size_toArray, ints_.length]
      exact few
    · simpa using rel
theorem walk_ofG {l : PySem.W.OpenLaw} {n k : Nat} {q : Program} {loose : List Str} {XP : (Str → Option Value) → Heap → Prop} {YP : World → Heap → Prop} {d : DefRec} {K : Params → PySem.W.Frag}
    {sp : PySem.W.Frag → Sp} {x : Str} (most : l.most = some n) (line : n ≤ sizeLine) (nodef : d.params.defaults = []) (room : Room k callerA)
    (kin : ∀ (w : World) (h : Heap), YP w h → (K w.params).In h)
    (F : ∀ (w : World) (mg : Str → Option Value) (fa : Addr) (h : Heap), (K w.params).In h → h.Ns mainGlobals mg → mg d.name = some (.ref fa) →
      ∃ fd : FuncData, (∀ (s : Shared) (u : Value), BindsTo s fd ⟨[u], []⟩ [(x, u)]) ∧
        ∀ base : Heap, (K w.params).In base → base.Ns mainGlobals mg → FnG l.prog w (K w.params) mg base k fa fd [x] (sp (K w.params)))
    (want : ∀ (K : PySem.W.Frag) (H : Hp) (a : Addr) (ns : List Int), ns.length ≤ n → Only H → SqL K H a (ns.map V.int) → sp K [.ref a] H (fun v _ => v = .bl true) fun _ _ _ => False) :
    PySem.W.WalkO q loose XP YP l.row.toRowW d [] (fun f vs => PySem.call f vs) := by
  refine Att.attach_call most nodef fun w s₀ s₁ mg mb fa o pm cd doc a vs ns G Y ho hd hcd hmg hobj hints hlen hg => ?_
  obtain ⟨fd, hb, hF⟩ := F w mg fa _ (kin w _ Y) G.T.g hmg
  exact law_callG (kin w _ Y) G.T.g G.T.b G.T.builtins G.T.nolimit hg hobj hints (Nat.le_trans hlen line) room hF hb fun H only sq => want _ H a ns hlen only sq
end Z
namespace Z
open PySem L2 PySem.Spec PyProof.Rows
section
variable {X : Cx}
mutual
theorem Dp.plain {K : PySem.W.Frag} {H : Hp} : ∀ {v : V} {d : PyData}, Dp K H v d → d.hasDict = false
  | _, _, .non => rfl
  | _, _, .bl _ => rfl
  | _, _, .int _ => rfl
  | _, _, .str _ => rfl
  | _, _, .lst _ r => DpAll.plain r
  | _, _, .tup _ r => DpAll.plain r
theorem DpAll.plain {K : PySem.W.Frag} {H : Hp} : ∀ {v : List V} {d : List PyData}, DpAll K H v d → PyData.hasDictAll d = false
  | _, _, .nil => rfl
  | _, _, .cons a b => by
    show (PyData.hasDict _ || PyData.hasDictAll _) = false
    rw [Dp.plain a, DpAll.plain b]
    rfl
end
/-- repr(x), x a list or a tuple of data -/
theorem call_reprD (calm : X.A.guards = some []) (hu : X.A.units + 64 < cLine) : CallR X (.builtin "repr") (fun xs H Q => ∃ (a : Addr) (d : PyData), xs = [.ref a] ∧ Dp X.K H (.ref a) d ∧
    d.showable = true ∧ d.depth ≤ 60 ∧ d.shown.length ≤ sizeLine ∧ Q (.str d.shown) H) := by
  intro pins s σ H xs us Q I r h
  obtain ⟨a, d, rfl, hd, sh, dp, sz, q⟩ := h
  obtain ⟨u, rfl, rx⟩ := vals1 r
  obtain ⟨as, rd⟩ := Dp.reads I d _ u hd rx
  cases (show u = Value.ref a from rx)
  exact repr_of_reads' rd sh (PyData.noDict_hsm (Dp.plain hd)) calm (by omega) (fun _ _ e => e) (fun h' u tk hk => ⟨.str d.shown, H, I.kept (t' := tk) hk, ⟨u, rfl⟩, q⟩) sz
/-- str(x), x a list or a tuple of data -/
theorem call_strD (calm : X.A.guards = some []) (hu : X.A.units + 64 < cLine) : CallR X (.type "str") (fun xs H Q => ∃ (a : Addr) (d : PyData), xs = [.ref a] ∧ Dp X.K H (.ref a) d ∧
    d.showable = true ∧ d.depth ≤ 60 ∧ d.shown.length ≤ sizeLine ∧ Q (.str d.shown) H) := by
  intro pins s σ H xs us Q I r h
  obtain ⟨a, d, rfl, hd, sh, dp, sz, q⟩ := h
  obtain ⟨u, rfl, rx⟩ := vals1 r
  obtain ⟨as, rd⟩ := Dp.reads I d _ u hd rx
  cases (show u = Value.ref a from rx)
  exact str_of_reads rd sh (PyData.noDict_hsm (Dp.plain hd)) calm (by omega) (fun _ _ e => e) (fun h' u tk hk => ⟨.str d.shown, H, I.kept (t' := tk) hk, ⟨u, rfl⟩, q⟩) sz
end
end Z
/-! carrying facts along heaps -/
namespace Z
open PySem L2
theorem Same.at {H H' : Hp} {p : Addr} {o : HO} (s : Same H H') (h : H p = some o) : H' p = some o := s _ _ h
theorem Fr.at1 {H H' : Hp} {B p : Addr} {o : HO} (f : Fr [B] H H') (n : p ≠ B) (h : H p = some o) : H' p = some o := f p o (by simp [n]) h
theorem upd_at {H : Hp} {p q : Addr} {o u : HO} (n : q ≠ p) (h : H q = some o) : upd H p u q = some o := by rw [upd_ne n]; exact h
theorem upd_new {H : Hp} {p q : Addr} {o u : HO} (n : H p = none) (h : H q = some o) : upd H p u q = some o := by rw [upd_ne (ne_of_none h n)]; exact h
theorem KeepT.bySame {H H1 H2 : Hp} (s : Same H1 H2) (k : KeepT H H1) : KeepT H H2 := k.trans (Same.kt s)
theorem KeepT.byFr {H H1 H2 : Hp} {B : Addr} {n : Nat} (f : Fr [B] H1 H2) (b : Box H1 B n) (k : KeepT H H1) : KeepT H H2 := k.trans (f.kt b)
theorem Fr.bySame {H H1 H2 : Hp} {M : List Addr} (s : Same H1 H2) (f : Fr M H H1) : Fr M H H2 := f.trans (Same.fr s)
theorem Fr.byFr {H H1 H2 : Hp} {M : List Addr} (g : Fr M H1 H2) (f : Fr M H H1) : Fr M H H2 := f.trans g
theorem Same.bySame {H H1 H2 : Hp} (s : Same H1 H2) (f : Same H H1) : Same H H2 := f.trans s
theorem Box.bySame {H H' : Hp} {B : Addr} {n : Nat} (s : Same H H') (b : Box H B n) : Box H' B n := b.keep s
theorem Dp.bySame {K : PySem.W.Frag} {H H' : Hp} {v : V} {d : PyData} (s : Same H H') (h : Dp K H v d) : Dp K H' v d := Dp.mono s h
theorem Dp.byFr {K : PySem.W.Frag} {H H' : Hp} {v : V} {d : PyData} {B : Addr} {n : Nat} (f : Fr [B] H H') (b : Box H B n) (nl : noList d = true) (h : Dp K H v d) : Dp K H' v d := Dp.keep (f.kt b) h nl
theorem DpAll.bySame {K : PySem.W.Frag} {H H' : Hp} {v : List V} {d : List PyData} (s : Same H H') (h : DpAll K H v d) : DpAll K H' v d := DpAll.mono s h
theorem DpAll.byFr {K : PySem.W.Frag} {H H' : Hp} {v : List V} {d : List PyData} {B : Addr} {n : Nat} (f : Fr [B] H H') (b : Box H B n) (nl : noLists d = true) (h : DpAll K H v d) : DpAll K H' v d := DpAll.keep (f.kt b) h nl
theorem SqT.bySame {K : PySem.W.Frag} {H H' : Hp} {a : Addr} {xs : List V} (s : Same H H') (h : SqT K H a xs) : SqT K H' a xs := SqT.mono s h
theorem SqT.byFr {K : PySem.W.Frag} {H H' : Hp} {a : Addr} {xs : List V} {B : Addr} {n : Nat} (f : Fr [B] H H') (b : Box H B n) (h : SqT K H a xs) : SqT K H' a xs := SqT.keep (f.kt b) h
theorem SqL.bySame {K : PySem.W.Frag} {H H' : Hp} {a : Addr} {xs : List V} (s : Same H H') (h : SqL K H a xs) : SqL K H' a xs := SqL.mono s h
theorem Box.byPut {H : Hp} {B p : Addr} {n : Nat} {o : HO} (h : p ≠ B) (b : Box H B n) : Box (upd H p o) B n := b.put h
theorem Fr.byPut {M : List Addr} {H H' : Hp} {p : Addr} {o : HO} (h : p ∈ M) (f : Fr M H H') : Fr M H (upd H' p o) := f.put h
theorem none_of_same {H H' : Hp} {p : Addr} (s : Same H H') (h : H' p = none) : H p = none := by
  cases e : H p with
  | none => rfl
  | some o => rw [s _ _ e] at h; cases h
end Z
/-! tuples cut and put together, by what is to be read there -/
namespace Z
open PySem L2
theorem cut_to (xs : List V) (k : Nat) : cutV xs none (some (k : Int)) = xs.take k := by
  unfold cutV
  rw [HT.sIx_nat, HT.sIx_none, List.drop_zero, Nat.sub_zero]
  by_cases h : k ≤ xs.length
  · rw [Nat.min_eq_left h]
  · rw [Nat.min_eq_right (by omega), List.take_length, List.take_of_length_le (by omega)]
theorem cut_from (xs : List V) (k : Nat) : cutV xs (some (k : Int)) none = xs.drop k := by
  unfold cutV
  rw [HT.sIx_nat, HT.sIx_none]
  by_cases h : k ≤ xs.length
  · rw [Nat.min_eq_left h, List.take_of_length_le (by rw [List.length_drop]; omega)]
  · rw [Nat.min_eq_right (by omega), List.drop_length, List.take_nil, List.drop_of_length_le (by omega)]
theorem cut_mid (xs : List V) (k l : Nat) : cutV xs (some (k : Int)) (some (l : Int)) = (xs.take l).drop k := by
  unfold cutV
  rw [HT.sIx_nat, HT.sIx_nat, List.drop_take]
  by_cases h : k ≤ xs.length
  · rw [Nat.min_eq_left h]
    by_cases h2 : l ≤ xs.length
    · rw [Nat.min_eq_left h2]
    · rw [Nat.min_eq_right (by omega), List.take_of_length_le (by rw [List.length_drop]; omega), List.take_of_length_le (by rw [List.length_drop]; omega)]
  · rw [show min k xs.length = xs.length by omega, List.drop_length, List.drop_of_length_le (show xs.length ≤ k by omega), List.take_nil, List.take_nil]
theorem sl_of {K : PySem.W.Frag} {H : Hp} {a : Addr} {xs : List V} {lo hi : Option Int} {Q : VK} (h : SqT K H a xs)
    (q : ∀ p H', Same H H' → SqT K H' p (cutV xs lo hi) → Q (.ref p) H') : rSlA K (.ref a) lo hi H Q := by
  refine ⟨a, xs, rfl, h, fun e => q a H (Same.refl _) ?_, fun _ p hp => q p _ (Same.new hp) (SqT.of upd_same)⟩
  unfold cutV
  rw [e.1, e.2, List.drop_zero, Nat.sub_zero, List.take_length]
  exact h
theorem cat_of {K : PySem.W.Frag} {H : Hp} {a b : Addr} {xs ys : List V} {Q : VK} (h : SqT K H a xs) (h2 : SqT K H b ys) (hl : xs.length + ys.length ≤ sizeLine)
    (q : ∀ p H', Same H H' → SqT K H' p (xs ++ ys) → Q (.ref p) H') : rCatA K (.ref a) (.ref b) H Q := by
  refine ⟨a, b, xs, ys, rfl, rfl, h, h2, hl, fun e => ?_, fun _ e => ?_, fun _ _ p hp => q p _ (Same.new hp) (SqT.of upd_same)⟩
  · subst e
    exact q b H (Same.refl _) h2
  · subst e
    exact q a H (Same.refl _) (by rw [List.append_nil]; exact h)
end Z
/-! defs with defaults -/
namespace Z
open PySem L2 PySem.Spec PyProof.Rows
section
variable {P : Program} {w : World} {K : PySem.W.Frag} {mg : Str → Option Value} {base : Heap} {x qual : Str} {params : Arguments} {body : List Stmt} {scope : Scope} {dvs : List V} {kws : List (Str × V)} {f : Addr} {fd : FuncData}
theorem okD {N ps : List Str} {k : Nat} {sp : Sp} (F : FunD K x qual params body scope dvs kws f fd) (S : FnScope N ps scope) (len : ∀ vs H Q E, sp vs H Q E → vs.length = ps.length)
    (walk : ∀ (cdv : Value) (A : Around) (outer : List Env) (s : Shared) (H : Hp) (vs : List V) (Q : VK) (E : XK), Room k (A.deeper (envOfC qual scope s.heap.objs.size f cdv)) → sp vs H Q E →
      ∃ t, PSs (cxOf CX0 P w K mg base N qual scope f cdv A outer s H E).nox body t ∧ t { nx := fun _ H' => Q .non H', rt := Q } (start N vs) H) : FnOk P w K mg base CX0 (k + 1) f fd ps sp :=
  FunD.ok F S len fun cdv A outer s H vs Q E hr h => by
    obtain ⟨t, der, rd⟩ := walk cdv A outer s H vs Q E hr h
    exact ⟨t, der.nox, rd⟩
theorem binds_full {ps : List Str} (F : FunD K x qual params body scope dvs kws f fd)
    (h : ∀ (dV kV doc pm : Value) (an : Option Addr) (cdv ct : Value) (us : List Value), us.length = ps.length → bindArgs (PySem.W.fnOf x qual params body scope dV kV doc pm an cdv ct) ⟨us, []⟩ = pure (ps.zip us)) : Binds K fd ps [] := by
  obtain ⟨oc, od, dV, kV, doc, pm, an, cdv, ct, osl, rfl, _⟩ := F.ex
  exact .all (h dV kV doc pm an cdv ct)
theorem kb_full {ps : List Str} (F : FunD K x qual params body scope dvs kws f fd) (n : Nat) (ks : List Str) (g : {α : Type} → List α → List α → List α → List α)
    (rel : ∀ {vs ds zs : List V} {us its ws : List Value}, Vals vs us → Vals ds its → Vals zs ws → Vals (g vs ds zs) (g us its ws))
    (h : ∀ (dV kV doc pm : Value) (an : Option Addr) (cdv ct : Value) (us its ws : List Value), us.length = n → its.length = dvs.length → ws.length = ks.length →
      bindArgs (PySem.W.fnOf x qual params body scope dV kV doc pm an cdv ct) ⟨us, ks.zip ws⟩ = pure (ps.zip (g us its ws))) :
    ∃ its : List Value, KBn K fd ps n ks (fun us ws => g us its ws) (fun vs zs => g vs dvs zs) := by
  obtain ⟨oc, od, dV, kV, doc, pm, an, cdv, ct, osl, rfl, _, _, hD, _⟩ := F.ex
  obtain ⟨its, rI⟩ : ∃ its, Vals dvs its := by
    rcases hD with ⟨e, _⟩ | ⟨_, T, o, its, m, _, _, _, rT⟩
    · exact ⟨[], by rw [e]; exact .nil⟩
    · exact ⟨its, rT⟩
  exact ⟨its, fun s us ws _ l1 l2 => BindsTo.of_eq (h dV kV doc pm an cdv ct us its ws l1 rI.length.symm l2), fun r1 r2 => rel r1 rI r2⟩
end
end Z
/-! values as data: heaps but for some places, slots, what stands in them -/
namespace DL
open PySem L2 Z
open Classical in
/-- H without the places of A -/
noncomputable def hp (A : Addr → Prop) (H : Hp) : Hp := fun a => if A a then none else H a
theorem hp_of {A : Addr → Prop} {H : Hp} {a : Addr} (h : ¬ A a) : hp A H a = H a := if_neg h
theorem hp_some {A : Addr → Prop} {H : Hp} {a : Addr} {o : HO} (h : hp A H a = some o) : ¬ A a ∧ H a = some o := by
  by_cases q : A a
  · rw [show hp A H a = none from if_pos q] at h; cases h
  · exact ⟨q, by rw [← hp_of (H := H) q]; exact h⟩
theorem hp_mk {A : Addr → Prop} {H : Hp} {a : Addr} {o : HO} (h : ¬ A a) (e : H a = some o) : hp A H a = some o := by rw [hp_of h]; exact e
theorem hp_same {A : Addr → Prop} {H : Hp} : Same (hp A H) H := fun _ _ h => (hp_some h).2
def FrA (A : Addr → Prop) (H H' : Hp) : Prop := ∀ a o, ¬ A a → H a = some o → H' a = some o
theorem FrA.refl (A : Addr → Prop) (H : Hp) : FrA A H H := fun _ _ _ h => h
theorem FrA.trans {A : Addr → Prop} {H H1 H2 : Hp} (f : FrA A H H1) (g : FrA A H1 H2) : FrA A H H2 := fun a o n h => g a o n (f a o n h)
theorem FrA.of {A : Addr → Prop} {H H' : Hp} (s : Same H H') : FrA A H H' := fun a o _ h => s a o h
theorem FrA.up {A B : Addr → Prop} {H H' : Hp} (f : FrA A H H') (h : ∀ a, A a → B a) : FrA B H H' := fun a o n e => f a o (fun q => n (h a q)) e
theorem hp_less {A B : Addr → Prop} {H : Hp} (h : ∀ a, B a → A a) : Same (hp A H) (hp B H) := fun a o e => by
  obtain ⟨n, e⟩ := hp_some e
  exact hp_mk (fun q => n (h a q)) e
theorem hp_fr {A W : Addr → Prop} {H H' : Hp} (f : FrA W H H') (h : ∀ a, W a → A a) : Same (hp A H) (hp A H') := fun a o e => by
  obtain ⟨n, e⟩ := hp_some e
  exact hp_mk n (f a o (fun q => n (h a q)) e)
theorem hp_grow {A : Addr → Prop} {H H' : Hp} (s : Same H H') : Same (hp A H) (hp A H') := hp_fr (W := fun _ => False) (FrA.of s) (fun _ q => q.elim)
/-- a caught exception that is kept: its class, its dict -/
def exk (a C dx : Addr) : HO := .ext fun h => ∃ o vs, h.get? a = some o ∧ o.cls = .ref C ∧ o.dict = some dx ∧ o.data = .fields vs
/-- a thing of the store, by its place -/
def hdl (a : Addr) : PyData := .dict [(.none, .int a)]
/-- a tuple of which it is known that it has no dict (its methods can be asked) -/
def tnD (ds : List PyData) : PyData := .dict [(.bool false, .tuple ds)]
mutual
inductive Dq (K : PySem.W.Frag) (H : Hp) : V → PyData → Prop
  | non : Dq K H .non .none
  | bl (b : Bool) : Dq K H (.bl b) (.bool b)
  | int (i : Int) : Dq K H (.int i) (.int i)
  | str (x : Str) : Dq K H (.str x) (.str x)
  | lst {a : Addr} {xs : List V} {ds : List PyData} : SqL K H a xs → DqAll K H xs ds → Dq K H (.ref a) (.list ds)
  | tup {a : Addr} {xs : List V} {ds : List PyData} : SqT K H a xs → DqAll K H xs ds → Dq K H (.ref a) (.tuple ds)
  | obj {a C dx : Addr} {c : Str} {fv : List (Str × V)} {fs : List (PyData × PyData)} : PySem.W.nsIn K mainGlobals c = some (some (.ref C)) → H a = some (.ins C dx fv) → DqFs K H fv fs → Dq K H (.ref a) (.dict ((.str c, .none) :: fs))
  | exc {a C dx : Addr} {c : Str} {fv : List (Str × V)} {fs : List (PyData × PyData)} : PySem.W.nsIn K mainGlobals c = some (some (.ref C)) → H a = some (exk a C dx) → H dx = some (.xd fv) → DqFs K H fv fs → Dq K H (.ref a) (.dict ((.str c, .bool true) :: fs))
  | fnc {a : Addr} {x : Str} : PySem.W.nsIn K mainGlobals x = some (some (.ref a)) → Dq K H (.ref a) (.dict [(.str x, .int 0)])
  | hdl {a : Addr} : Dq K H (.ref a) (hdl a)
  | tn {a : Addr} {o : PySem.Obj} {xs : List V} {ds : List PyData} : H a = some (.frz o (.tup xs)) → o.dict = none → DqAll K H xs ds → Dq K H (.ref a) (tnD ds)
/-- the fields of an object -/
inductive DqFs (K : PySem.W.Frag) (H : Hp) : List (Str × V) → List (PyData × PyData) → Prop
  | nil : DqFs K H [] []
  | cons {f : Str} {v : V} {d : PyData} {fv : List (Str × V)} {fs : List (PyData × PyData)} : Dq K H v d → DqFs K H fv fs → DqFs K H ((f, v) :: fv) ((.str f, d) :: fs)
inductive DqAll (K : PySem.W.Frag) (H : Hp) : List V → List PyData → Prop
  | nil : DqAll K H [] []
  | cons {v : V} {vs : List V} {d : PyData} {ds : List PyData} : Dq K H v d → DqAll K H vs ds → DqAll K H (v :: vs) (d :: ds)
end
mutual
theorem Dq.mono {K : PySem.W.Frag} {H H' : Hp} (e : Same H H') : ∀ {v : V} {d : PyData}, Dq K H v d → Dq K H' v d
  | _, _, .non => .non
  | _, _, .bl b => .bl b
  | _, _, .int i => .int i
  | _, _, .str x => .str x
  | _, _, .lst h r => .lst (SqL.mono e h) (DqAll.mono e r)
  | _, _, .tup h r => .tup (SqT.mono e h) (DqAll.mono e r)
  | _, _, .obj c h r => .obj c (e _ _ h) (DqFs.mono e r)
  | _, _, .exc c h g r => .exc c (e _ _ h) (e _ _ g) (DqFs.mono e r)
  | _, _, .fnc h => .fnc h
  | _, _, .hdl => .hdl
  | _, _, .tn h n r => .tn (e _ _ h) n (DqAll.mono e r)
theorem DqFs.mono {K : PySem.W.Frag} {H H' : Hp} (e : Same H H') : ∀ {fv : List (Str × V)} {fs : List (PyData × PyData)}, DqFs K H fv fs → DqFs K H' fv fs
  | _, _, .nil => .nil
  | _, _, .cons a b => .cons (Dq.mono e a) (DqFs.mono e b)
theorem DqAll.mono {K : PySem.W.Frag} {H H' : Hp} (e : Same H H') : ∀ {v : List V} {d : List PyData}, DqAll K H v d → DqAll K H' v d
  | _, _, .nil => .nil
  | _, _, .cons a b => .cons (Dq.mono e a) (DqAll.mono e b)
end
mutual
theorem Dq.dp {K : PySem.W.Frag} {H : Hp} : ∀ {v : V} {d : PyData}, Dq K H v d → d.hasDict = false → Dp K H v d
  | _, _, .non, _ => .non
  | _, _, .bl b, _ => .bl b
  | _, _, .int i, _ => .int i
  | _, _, .str x, _ => .str x
  | _, _, .lst h r, e => .lst h (DqAll.dp r e)
  | _, _, .tup h r, e => .tup h (DqAll.dp r e)
  | _, _, .obj _ _ _, e => by cases e
  | _, _, .exc _ _ _ _, e => by cases e
  | _, _, .fnc _, e => by cases e
  | _, _, .hdl, e => by cases e
  | _, _, .tn _ _ _, e => by cases e
theorem DqAll.dp {K : PySem.W.Frag} {H : Hp} : ∀ {v : List V} {d : List PyData}, DqAll K H v d → PyData.hasDictAll d = false → DpAll K H v d
  | _, _, .nil, _ => .nil
  | _, _, .cons a b, e => by
    have e' : (PyData.hasDict _ || PyData.hasDictAll _) = false := e
    rw [Bool.or_eq_false_iff] at e'
    exact .cons (Dq.dp a e'.1) (DqAll.dp b e'.2)
end
theorem plain_of {d : PyData} (h : SeqAt.shaped d = true) : d.hasDict = false := PyData.hasDict_of_canLay d (SeqAt.canLay_of_shaped h)
def fldD (f : Str) : List (PyData × PyData) → Option PyData
  | [] => none
  | (.str g, d) :: r => if f = g then some d else fldD f r
  | _ :: r => fldD f r
theorem DqFs.get {K : PySem.W.Frag} {H : Hp} {f : Str} {d : PyData} : ∀ {fv : List (Str × V)} {fs : List (PyData × PyData)}, DqFs K H fv fs → fldD f fs = some d → ∃ v, fv.lookup f = some v ∧ Dq K H v d
  | _, _, .nil, h => by cases h
  | _, _, .cons (f := g) (v := v) (d := c) a b, h => by
    unfold fldD at h
    rw [List.lookup_cons]
    by_cases e : f = g
    · rw [if_pos e] at h
      cases h
      have : (f == g) = true := by rw [e]; exact beq_self_eq_true g
      rw [this]
      exact ⟨_, rfl, a⟩
    · rw [if_neg e] at h
      have : (f == g) = false := by simpa using e
      rw [this]
      exact DqFs.get b h
section
variable {K : PySem.W.Frag} {H : Hp}
theorem DqAll.length : ∀ {v : List V} {d : List PyData}, DqAll K H v d → v.length = d.length
  | _, _, .nil => rfl
  | _, _, .cons _ b => by rw [List.length_cons, List.length_cons, DqAll.length b]
theorem DqAll.get : ∀ {v : List V} {d : List PyData} {i : Nat} {x : V}, DqAll K H v d → v[i]? = some x → ∃ y, d[i]? = some y ∧ Dq K H x y
  | _, _, _, _, .nil, h => by simp at h
  | _, _, 0, _, .cons a _, h => by simp at h; subst h; exact ⟨_, rfl, a⟩
  | _, _, i + 1, _, .cons _ b, h => by
    obtain ⟨y, e, q⟩ := DqAll.get (i := i) b (by simpa using h)
    exact ⟨y, by simpa using e, q⟩
theorem DqAll.got : ∀ {v : List V} {d : List PyData} {i : Nat} {y : PyData}, DqAll K H v d → d[i]? = some y → ∃ x, v[i]? = some x ∧ Dq K H x y
  | _, _, _, _, .nil, h => by simp at h
  | _, _, 0, _, .cons a _, h => by simp at h; subst h; exact ⟨_, rfl, a⟩
  | _, _, i + 1, _, .cons _ b, h => by
    obtain ⟨y, e, q⟩ := DqAll.got (i := i) b (by simpa using h)
    exact ⟨y, by simpa using e, q⟩
theorem DqAll.append : ∀ {v : List V} {d : List PyData} {w : List V} {e : List PyData}, DqAll K H v d → DqAll K H w e → DqAll K H (v ++ w) (d ++ e)
  | _, _, _, _, .nil, h => h
  | _, _, _, _, .cons a b, h => .cons a (DqAll.append b h)
theorem DqAll.take : ∀ {v : List V} {d : List PyData} (n : Nat), DqAll K H v d → DqAll K H (v.take n) (d.take n)
  | _, _, 0, _ => .nil
  | _, _, _ + 1, .nil => .nil
  | _, _, n + 1, .cons a b => .cons a (DqAll.take n b)
theorem DqAll.drop : ∀ {v : List V} {d : List PyData} (n : Nat), DqAll K H v d → DqAll K H (v.drop n) (d.drop n)
  | _, _, 0, h => h
  | _, _, _ + 1, .nil => .nil
  | _, _, n + 1, .cons _ b => DqAll.drop n b
theorem DqAll.set {y : V} {c : PyData} (hy : Dq K H y c) : ∀ {v : List V} {d : List PyData} (n : Nat), DqAll K H v d → DqAll K H (v.set n y) (d.set n c)
  | _, _, _, .nil => .nil
  | _, _, 0, .cons _ b => .cons hy b
  | _, _, n + 1, .cons a b => .cons a (DqAll.set hy n b)
theorem DqAll.rev : ∀ {v : List V} {d : List PyData}, DqAll K H v d → DqAll K H v.reverse d.reverse
  | _, _, .nil => .nil
  | _, _, .cons a b => by rw [List.reverse_cons, List.reverse_cons]; exact DqAll.append (DqAll.rev b) (.cons a .nil)
theorem DqAll.rep {v : List V} {d : List PyData} (h : DqAll K H v d) : ∀ n : Nat, DqAll K H (List.replicate n v).flatten (List.replicate n d).flatten
  | 0 => .nil
  | n + 1 => by rw [List.replicate_succ, List.replicate_succ, List.flatten_cons, List.flatten_cons]; exact DqAll.append h (DqAll.rep h n)
theorem DqAll.ints : ∀ ns : List Int, DqAll K H (ns.map V.int) (ns.map .int)
  | [] => .nil
  | n :: r => .cons (.int n) (DqAll.ints r)
theorem DqAll.strs : ∀ ns : List Str, DqAll K H (ns.map V.str) (ns.map .str)
  | [] => .nil
  | n :: r => .cons (.str n) (DqAll.strs r)
theorem DqAll.ints_of : ∀ {ns : List Int} {v : List V}, DqAll K H v (ns.map .int) → v = ns.map V.int
  | [], _, .nil => rfl
  | n :: r, _, .cons a b => by cases a; rw [DqAll.ints_of b]; rfl
theorem DqAll.strs_of : ∀ {ns : List Str} {v : List V}, DqAll K H v (ns.map .str) → v = ns.map V.str
  | [], _, .nil => rfl
  | n :: r, _, .cons a b => by cases a; rw [DqAll.strs_of b]; rfl
theorem DqAll.bools_of : ∀ {ns : List Bool} {v : List V}, DqAll K H v (ns.map .bool) → v = ns.map V.bl
  | [], _, .nil => rfl
  | n :: r, _, .cons a b => by cases a; rw [DqAll.bools_of b]; rfl
theorem Dq.list_of {v : V} {ds : List PyData} (h : Dq K H v (.list ds)) : ∃ a xs, v = .ref a ∧ SqL K H a xs ∧ DqAll K H xs ds := by
  cases h with
  | lst s r => exact ⟨_, _, rfl, s, r⟩
theorem Dq.tuple_of {v : V} {ds : List PyData} (h : Dq K H v (.tuple ds)) : ∃ a xs, v = .ref a ∧ SqT K H a xs ∧ DqAll K H xs ds := by
  cases h with
  | tup s r => exact ⟨_, _, rfl, s, r⟩
end

/-- a thing that may change, by what stands in it -/
inductive SO where
  | lst (ds : List PyData)
  | obj (c : Str) (fs : List (PyData × PyData))
  | dct (kvs : List (L2.Key × PyData))
/-- the things that may change and be met by several names, by their places -/
abbrev Sto := Addr → Option SO
/-- the tracked heap and the store -/
structure Hs where
  hp : Hp
  st : Sto
instance : CoeFun Hs (fun _ => Addr → Option HO) := ⟨Hs.hp⟩
instance : Coe Hs Hp := ⟨Hs.hp⟩
/-- the entries of a dict -/
inductive DqKs (K : PySem.W.Frag) (H : Hp) : List (L2.Key × V) → List (L2.Key × PyData) → Prop
  | nil : DqKs K H [] []
  | cons {k : L2.Key} {v : V} {d : PyData} {kv : List (L2.Key × V)} {kd : List (L2.Key × PyData)} : Dq K H v d → DqKs K H kv kd → DqKs K H ((k, v) :: kv) ((k, d) :: kd)
theorem DqKs.mono {K : PySem.W.Frag} {H H' : Hp} (e : Same H H') : ∀ {kv : List (L2.Key × V)} {kd : List (L2.Key × PyData)}, DqKs K H kv kd → DqKs K H' kv kd
  | _, _, .nil => .nil
  | _, _, .cons a b => .cons (a.mono e) (DqKs.mono e b)
inductive SoR (K : PySem.W.Frag) (G : Hp) : HO → SO → Prop
  | lst {xs : List V} {ds : List PyData} : DqAll K G xs ds → SoR K G (.lst xs) (.lst ds)
  | obj {C dx : Addr} {c : Str} {fv : List (Str × V)} {fs : List (PyData × PyData)} : PySem.W.nsIn K mainGlobals c = some (some (.ref C)) → DqFs K G fv fs → SoR K G (.ins C dx fv) (.obj c fs)
  | dct {kv : List (L2.Key × V)} {kd : List (L2.Key × PyData)} : DqKs K G kv kd → SoR K G (.dK kv) (.dct kd)
theorem SoR.mono {K : PySem.W.Frag} {G G' : Hp} (e : Same G G') {u : HO} {o : SO} (h : SoR K G u o) : SoR K G' u o := by
  cases h with
  | lst q => exact .lst (q.mono e)
  | obj c q => exact .obj c (q.mono e)
  | dct q => exact .dct (q.mono e)
theorem SoR.ntb {K : PySem.W.Frag} {G : Hp} {u : HO} {o : SO} (h : SoR K G u o) : ∀ ps, u ≠ .tbl ps := fun ps e => by subst e; cases h
/-- the store is as said -/
def StoR (K : PySem.W.Frag) (G H : Hp) (S : Sto) : Prop := ∀ a o, S a = some o → ∃ u, H a = some u ∧ SoR K G u o
theorem StoR.move {K : PySem.W.Frag} {G G' H H' : Hp} {S : Sto} (h : StoR K G H S) (s : Same G G') (k : ∀ a, S a ≠ none → H' a = H a) : StoR K G' H' S := fun a o e => by
  obtain ⟨u, e1, q⟩ := h a o e
  exact ⟨u, by rw [k a (by rw [e]; exact Option.some_ne_none _)]; exact e1, q.mono s⟩
def Nod (H : Hp) (b : Addr) : Prop := ∃ o, H b = some o ∧ ∀ ps, o ≠ .tbl ps

/-- a slot: nothing that is known, data that stays, a list that is its own; behind all slots the store -/
inductive Sl where
  | no
  | fz (d : PyData)
  | own (ds : List PyData)
  | st (S : Sto)
abbrev En := List Sl
/-- the tables of code objects that may grow -/
class Tbs where
  T : List (Addr × Str)
variable [Tbs]
abbrev TabsOk (H : Hp) : Prop := LamX.Tabs Tbs.T H
theorem TabsOk.put {H : Hp} {a : Addr} {xs ys : List V} (t : TabsOk H) (h : H a = some (.lst xs)) : TabsOk (upd H a (.lst ys)) := fun p hp => by
  obtain ⟨ps, h1, h2, h3⟩ := t p hp
  have ne : ∀ b o, H b = some o → o ≠ .lst xs → b ≠ a := fun b o e n z => n (Option.some.inj (e.symm.trans (by rw [z]; exact h)))
  refine ⟨ps, by rw [upd_ne (ne _ _ h1 (fun z => by cases z))]; exact h1, h2, fun pos cv hc => ?_⟩
  obtain ⟨c, e1, e2⟩ := h3 pos cv hc
  exact ⟨c, e1, by rw [upd_ne (ne _ _ e2 (fun z => by unfold LamX.CodeO at z; cases z))]; exact e2⟩
theorem TabsOk.full {H : Hp} (t : TabsOk H) {p : Addr × Str} (hp : p ∈ Tbs.T) : H p.1 ≠ none := by
  obtain ⟨ps, h1, _⟩ := t p hp
  rw [h1]
  exact Option.some_ne_none _
theorem TabsOk.no {H : Hp} {a : Addr} {xs : List V} (t : TabsOk H) (h : H a = some (.lst xs)) : ¬ ∃ p ∈ Tbs.T, p.1 = a := fun ⟨p, hp, e⟩ => by
  obtain ⟨ps, h1, _⟩ := t p hp
  rw [e, h] at h1
  cases h1
/-- the tables are none of what is a list, an object, a dict -/
theorem TabsOk.nod {H : Hp} {a : Addr} (t : TabsOk H) (h : Nod H a) : ¬ ∃ p ∈ Tbs.T, p.1 = a := fun ⟨p, hp, e⟩ => by
  obtain ⟨ps, h1, _⟩ := t p hp
  obtain ⟨o, h2, n⟩ := h
  rw [e, h2] at h1
  exact n ps (Option.some.inj h1)
/-- what a slot owns: a place, all of the store -/
inductive Rg where
  | lf (a : Addr)
  | sto
abbrev As := Nat → Option Rg
/-- the places of a slot -/
def Rgn (H : Hs) : Rg → Addr → Prop
  | .lf a, b => b = a
  | .sto, b => H.st b ≠ none
theorem Rgn.lf_of {H : Hs} {a b : Addr} (h : Rgn H (.lf a) b) : b = a := h
theorem Rgn.here {H : Hs} {a : Addr} : Rgn H (.lf a) a := rfl
def Own (as : As) (H : Hs) (a : Addr) : Prop := (∃ i r, as i = some r ∧ Rgn H r a) ∨ ∃ p ∈ Tbs.T, p.1 = a
def Hid (O : Addr → Prop) (as : As) (H : Hs) (a : Addr) : Prop := O a ∨ Own as H a
/-- what data may lean on -/
noncomputable abbrev hq (O : Addr → Prop) (as : As) (H : Hs) : Hp := hp (Hid O as H) H.hp
theorem Own.lf {as : As} {H : Hs} {i : Nat} {a : Addr} (h : as i = some (.lf a)) : Own as H a := .inl ⟨i, _, h, rfl⟩
/-- the store isn't this one's -/
def NoSto (as : As) : Prop := ∀ i, as i ≠ some .sto
/-- but for what is owned and what is new all stays; what is owned was so or is new -/
structure Fr (as : As) (H H' : Hs) : Prop where
  fr : FrA (Own as H) H.hp H'.hp
  new : ∀ a, Own as H' a → Own as H a ∨ H a = none
  liv : ∀ a, H a ≠ none → H' a ≠ none
  nst : NoSto as → H'.st = H.st
section
variable {as as' as'' : As} {H H' H'' : Hs} {n : Nat} {O : Addr → Prop}
theorem Fr.refl : Fr as H H := ⟨FrA.refl _ _, fun _ h => .inl h, fun _ h => h, fun _ => rfl⟩
theorem Fr.trans (x : Fr as H H') (y : Fr as H' H'') : Fr as H H'' := by
  refine ⟨fun a o h e => y.fr a o (fun q => ?_) (x.fr a o h e), fun a q => ?_, fun a h => y.liv a (x.liv a h), fun h => (y.nst h).trans (x.nst h)⟩
  · rcases x.new a q with z | z
    · exact h z
    · rw [z] at e; cases e
  · rcases y.new a q with z | z
    · exact x.new a z
    · by_cases w : Own as H a
      · exact .inl w
      · cases e : H a with
        | none => exact .inr rfl
        | some o => rw [x.fr a o w e] at z; cases z
/-- how one state comes of another: but for own things and new objects all stays -/
structure Ext (n : Nat) (as as' : As) (H H' : Hs) : Prop where
  fr : FrA (Own as H) H.hp H'.hp
  new : ∀ a, Own as' H' a → Own as H a ∨ H a = none
  fix : ∀ i, i < n → as' i = as i
  liv : ∀ a, H a ≠ none → H' a ≠ none
  ks : ∀ i, as' i = some .sto ↔ as i = some .sto
  nst : NoSto as → H'.st = H.st
theorem Ext.refl : Ext n as as H H := ⟨FrA.refl _ _, fun _ h => .inl h, fun _ _ => rfl, fun _ h => h, fun _ => Iff.rfl, fun _ => rfl⟩
theorem Ext.of (f : Fr as H H') : Ext n as as H H' := ⟨f.fr, f.new, fun _ _ => rfl, f.liv, fun _ => Iff.rfl, f.nst⟩
theorem Ext.trans (x : Ext n as as' H H') (y : Ext n as' as'' H' H'') : Ext n as as'' H H'' := by
  refine ⟨fun a o h e => y.fr a o (fun q => ?_) (x.fr a o h e), fun a q => ?_, fun i h => (y.fix i h).trans (x.fix i h), fun a h => y.liv a (x.liv a h), fun i => (y.ks i).trans (x.ks i), fun h => (y.nst fun i z => h i ((x.ks i).mp z)).trans (x.nst h)⟩
  · rcases x.new a q with z | z
    · exact h z
    · rw [z] at e; cases e
  · rcases y.new a q with z | z
    · exact x.new a z
    · by_cases w : Own as H a
      · exact .inl w
      · cases e : H a with
        | none => exact .inr rfl
        | some o => rw [x.fr a o w e] at z; cases z
theorem Ext.less {m : Nat} (x : Ext n as as' H H') (h : m ≤ n) : Ext m as as' H H' := ⟨x.fr, x.new, fun i q => x.fix i (Nat.lt_of_lt_of_le q h), x.liv, x.ks, x.nst⟩
theorem Ext.same (x : Ext n as as' H H') : Same (hq O as H) (hq O as' H') := fun a o e => by
  obtain ⟨h, e⟩ := hp_some e
  refine hp_mk (fun q => ?_) (x.fr a o (fun z => h (.inr z)) e)
  rcases q with q | q
  · exact h (.inl q)
  · rcases x.new a q with z | z
    · exact h (.inr z)
    · rw [z] at e; cases e
theorem Fr.same (x : Fr as H H') : Same (hq O as H) (hq O as H') := (Ext.of (n := 0) x).same
end
/-- what is so from some state on -/
structure Jv (n : Nat) where
  P : As → Hs → Prop
  cl : ∀ as as' H H', P as H → Ext n as as' H H' → P as' H'
  Q : (Addr → Prop) → Prop
  up : ∀ O O' : Addr → Prop, (∀ a, O a → O' a) → Q O → Q O'
def J0 {n : Nat} : Jv n := ⟨fun _ _ => True, fun _ _ _ _ _ _ => trivial, fun _ => True, fun _ _ _ _ => trivial⟩
/-- all that comes of this state -/
def Jst (n : Nat) (O : Addr → Prop) (as : As) (H : Hs) : Jv n := ⟨fun as' H' => Ext n as as' H H', fun _ _ _ _ x y => x.trans y, fun O' => ∀ a, O a → O' a, fun _ _ h q a z => h a (q a z)⟩
def Jv.and {n : Nat} (J J' : Jv n) : Jv n := ⟨fun as H => J.P as H ∧ J'.P as H, fun _ _ _ _ x y => ⟨J.cl _ _ _ _ x.1 y, J'.cl _ _ _ _ x.2 y⟩, fun O => J.Q O ∧ J'.Q O, fun _ _ h q => ⟨J.up _ _ h q.1, J'.up _ _ h q.2⟩⟩
def Jv.le {n : Nat} (J' J : Jv n) : Prop := (∀ as H, J'.P as H → J.P as H) ∧ ∀ O, J'.Q O → J.Q O
theorem Jv.le.refl {n : Nat} {J : Jv n} : J.le J := ⟨fun _ _ h => h, fun _ h => h⟩
theorem Jv.fr {n : Nat} (J : Jv n) {as : As} {H H' : Hs} (h : J.P as H) (f : Fr as H H') : J.P as H' := J.cl _ _ _ _ h (.of f)
inductive SlR (K : PySem.W.Frag) (G H : Hp) : Option Rg → Sl → Option V → Prop
  | no {o : Option V} : SlR K G H none .no o
  | fz {v : V} {d : PyData} : Dq K G v d → SlR K G H none (.fz d) (some v)
  | own {a : Addr} {xs : List V} {ds : List PyData} : H a = some (.lst xs) → DqAll K G xs ds → SlR K G H (some (.lf a)) (.own ds) (some (.ref a))
structure EnR (K : PySem.W.Frag) {n : Nat} (J : Jv n) (O : Addr → Prop) (as : As) (H : Hs) (ρ : En) (σ : L2.St) : Prop where
  len : σ.length ≤ ρ.length ∧ ρ.length ≤ σ.length + 1
  tl : ∀ (i : Nat) (sl : Sl), ρ[i]? = some sl → σ.length ≤ i → as i = some .sto
  at_ : ∀ (i : Nat) (sl : Sl) (o : Option V), ρ[i]? = some sl → σ[i]? = some o → SlR K (hq O as H) H.hp (as i) sl o
  sto : ∀ i, as i = some .sto → i = σ.length ∧ ρ[i]? = some (.st H.st) ∧ StoR K (hq O as H) H.hp H.st
  inj : ∀ (i j : Nat) (r r' : Rg) (b : Addr), as i = some r → as j = some r' → Rgn H r b → Rgn H r' b → i = j
  out : ∀ (i : Nat) (r : Rg) (b : Addr), as i = some r → Rgn H r b → ¬ O b
  bnd : ∀ (i : Nat) (r : Rg), as i = some r → i < ρ.length
  occ : ∀ a, O a → H a ≠ none
  inv : J.P as H
  inq : J.Q O
  tab : TabsOk H.hp
/-- another heap, the same store -/
abbrev Hs.w (H : Hs) (H' : Hp) : Hs := ⟨H', H.st⟩
section
variable {K : PySem.W.Frag} {n : Nat} {J : Jv n} {O : Addr → Prop} {as as' as'' : As} {H H' H'' : Hs} {G' : Hp} {ρ : En} {σ : L2.St} {i : Nat} {v : V} {d : PyData} {ds : List PyData}
theorem EnR.reJ {n' : Nat} {J' : Jv n'} (E : EnR K J O as H ρ σ) (h : J'.P as H) (q : J'.Q O) : EnR K J' O as H ρ σ := ⟨E.len, E.tl, E.at_, E.sto, E.inj, E.out, E.bnd, E.occ, h, q, E.tab⟩
/-- a slot that is none of the store -/
theorem EnR.lt (E : EnR K J O as H ρ σ) {sl : Sl} (h : ρ[i]? = some sl) (ns : ∀ S, sl ≠ .st S) : i < σ.length := by
  rcases Nat.lt_or_ge i σ.length with z | z
  · exact z
  · have e := (E.sto i (E.tl i sl h z)).2.1
    rw [h] at e
    exact absurd (Option.some.inj e) (ns _)
theorem EnR.at' (E : EnR K J O as H ρ σ) {sl : Sl} (h : ρ[i]? = some sl) (ns : ∀ S, sl ≠ .st S) : ∃ o, σ[i]? = some o ∧ SlR K (hq O as H) H.hp (as i) sl o := by
  have hi := E.lt h ns
  exact ⟨_, List.getElem?_eq_getElem hi, E.at_ i sl _ h (List.getElem?_eq_getElem hi)⟩
theorem EnR.fz_at (E : EnR K J O as H ρ σ) (h : ρ[i]? = some (.fz d)) : ∃ v, σ[i]? = some (some v) ∧ as i = none ∧ Dq K (hq O as H) v d := by
  obtain ⟨o, e, r⟩ := E.at' h (fun _ z => by cases z)
  generalize as i = z at r
  cases r with
  | fz q => exact ⟨_, e, rfl, q⟩
theorem EnR.own_at (E : EnR K J O as H ρ σ) (h : ρ[i]? = some (.own ds)) : ∃ a xs, σ[i]? = some (some (.ref a)) ∧ as i = some (.lf a) ∧ H a = some (.lst xs) ∧ DqAll K (hq O as H) xs ds := by
  obtain ⟨o, e, r⟩ := E.at' h (fun _ z => by cases z)
  generalize as i = z at r
  cases r with
  | own q z => exact ⟨_, _, e, rfl, q, z⟩
theorem EnR.st_at (E : EnR K J O as H ρ σ) {S : Sto} (h : ρ[i]? = some (.st S)) : as i = some .sto ∧ S = H.st ∧ StoR K (hq O as H) H.hp S := by
  have z : σ.length ≤ i := by
    rcases Nat.lt_or_ge i σ.length with z | z
    · have q := E.at_ i _ _ h (List.getElem?_eq_getElem z)
      generalize as i = w at q
      cases q
    · exact z
  have e := E.tl i _ h z
  obtain ⟨_, e2, q⟩ := E.sto i e
  rw [h] at e2
  cases e2
  exact ⟨e, rfl, q⟩
/-- a slot with places of its own -/
theorem EnR.is_reg (E : EnR K J O as H ρ σ) {r : Rg} (h : as i = some r) : (∃ a ds xs, r = .lf a ∧ ρ[i]? = some (.own ds) ∧ σ[i]? = some (some (.ref a)) ∧ H a = some (.lst xs) ∧ DqAll K (hq O as H) xs ds) ∨ (r = .sto ∧ i = σ.length ∧ ρ[i]? = some (.st H.st) ∧ StoR K (hq O as H) H.hp H.st) := by
  cases r with
  | sto => exact .inr ⟨rfl, E.sto i h⟩
  | lf a =>
    have hi := E.bnd i _ h
    rcases Nat.lt_or_ge i σ.length with z | z
    · have q := E.at_ i _ _ (List.getElem?_eq_getElem hi) (List.getElem?_eq_getElem z)
      rw [h] at q
      rw [List.getElem?_eq_getElem hi, List.getElem?_eq_getElem z]
      generalize ρ[i] = sl at q
      generalize σ[i] = o at q
      cases q with
      | own q z => exact .inl ⟨a, _, _, rfl, rfl, rfl, q, z⟩
    · have e := E.tl i _ (List.getElem?_eq_getElem hi) z
      rw [h] at e
      cases e
theorem EnR.nod (E : EnR K J O as H ρ σ) {r : Rg} (h : as i = some r) {b : Addr} (q : Rgn H r b) : Nod H.hp b := by
  rcases E.is_reg h with ⟨a, ds, xs, rfl, _, _, e2, _⟩ | ⟨rfl, _, _, w⟩
  · rw [q.lf_of]
    exact ⟨_, e2, fun _ z => by cases z⟩
  · obtain ⟨o, e⟩ := Option.ne_none_iff_exists'.mp (show H.st b ≠ none from q)
    obtain ⟨u, e1, q1⟩ := w b o e
    exact ⟨u, e1, q1.ntb⟩
theorem EnR.is_own (E : EnR K J O as H ρ σ) {a : Addr} (h : as i = some (.lf a)) : ∃ ds xs, ρ[i]? = some (.own ds) ∧ σ[i]? = some (some (.ref a)) ∧ H a = some (.lst xs) ∧ DqAll K (hq O as H) xs ds := by
  rcases E.is_reg h with ⟨b, ds, xs, e, h1, h2, h3, h4⟩ | ⟨e, _⟩
  · cases e; exact ⟨ds, xs, h1, h2, h3, h4⟩
  · cases e
theorem EnR.not_own (E : EnR K J O as H ρ σ) {sl : Sl} (h : ρ[i]? = some sl) (n : ∀ ds, sl ≠ .own ds) (n2 : ∀ S, sl ≠ .st S) : as i = none := by
  cases e : as i with
  | none => rfl
  | some r =>
    rcases E.is_reg e with ⟨_, ds, xs, _, h', _⟩ | ⟨_, _, h', _⟩
    · rw [h] at h'
      exact absurd (Option.some.inj h') (n ds)
    · rw [h] at h'
      exact absurd (Option.some.inj h') (n2 _)
theorem EnR.full (E : EnR K J O as H ρ σ) {a : Addr} (h : Hid O as H a) : H a ≠ none := by
  rcases h with h | ⟨i, r, h, q⟩ | ⟨p, hp, h⟩
  · exact E.occ a h
  · obtain ⟨o, e, _⟩ := E.nod h q
    rw [e]
    exact Option.some_ne_none _
  · rw [← h]
    exact E.tab.full hp
theorem EnR.occ' (E : EnR K J O as H ρ σ) (f : FrA (Own as H) H.hp G') (t : TabsOk G') {a : Addr} (h : O a) : G' a ≠ none := by
  by_cases q : ∃ p ∈ Tbs.T, p.1 = a
  · obtain ⟨p, hp, e⟩ := q
    rw [← e]
    exact t.full hp
  · obtain ⟨o, e⟩ := Option.ne_none_iff_exists'.mp (E.occ a h)
    rw [f a o (fun z => z.elim (fun ⟨i, r, z, w⟩ => E.out i r a z w h) q) e]
    exact Option.some_ne_none _
theorem EnR.fresh (E : EnR K J O as H ρ σ) {a : Addr} (h : H a = none) : ¬ Hid O as H a := fun q => E.full q h
theorem SlR.mono {G G' H H' : Hp} {a : Option Rg} {sl : Sl} {o : Option V} (s : Same G G') (f : ∀ b, a = some (.lf b) → H' b = H b) (r : SlR K G H a sl o) : SlR K G' H' a sl o := by
  cases r with
  | no => exact .no
  | fz q => exact .fz (q.mono s)
  | own q z => exact .own (by rw [f _ rfl]; exact q) (z.mono s)
/-- what the slots own stands as it did -/
structure Stay (as : As) (H H' : Hs) : Prop where
  pl : ∀ i r b, as i = some r → Rgn H r b → H' b = H b
  st : H'.st = H.st
theorem Rgn.st (h : H'.st = H.st) {r : Rg} {b : Addr} : Rgn H' r b ↔ Rgn H r b := by
  cases r with
  | lf a => exact Iff.rfl
  | sto => show H'.st b ≠ none ↔ H.st b ≠ none; rw [h]
theorem Stay.reg (k : Stay as H H') {r : Rg} {b : Addr} : Rgn H' r b ↔ Rgn H r b := Rgn.st k.st
theorem Own.st (h : H'.st = H.st) {b : Addr} : Own as H' b ↔ Own as H b := by
  constructor
  · rintro (⟨i, r, z, q⟩ | z)
    · exact .inl ⟨i, r, z, (Rgn.st h).mp q⟩
    · exact .inr z
  · rintro (⟨i, r, z, q⟩ | z)
    · exact .inl ⟨i, r, z, (Rgn.st h).mpr q⟩
    · exact .inr z
theorem Stay.own (k : Stay as H H') {b : Addr} : Own as H' b ↔ Own as H b := Own.st k.st
theorem EnR.stay (E : EnR K J O as H ρ σ) (s : Same H.hp G') : Stay as H (H.w G') := ⟨fun i r b h q => by
  obtain ⟨o, e, _⟩ := E.nod h q
  show G' b = _
  rw [e, s _ _ e], rfl⟩
theorem EnR.frS (E : EnR K J O as H ρ σ) (s : Same H.hp G') : Fr as H (H.w G') := ⟨FrA.of s, fun a h => .inl h, fun a h => by obtain ⟨o, e⟩ := Option.ne_none_iff_exists'.mp h; show G' a ≠ none; rw [s _ _ e]; exact Option.some_ne_none _, fun _ => rfl⟩
theorem EnR.hgrow (E : EnR K J O as H ρ σ) (s : Same H.hp G') : Same (hq O as H) (hq O as (H.w G')) := (E.frS s).same
/-- hidden places are the same -/
theorem EnR.hidS (_E : EnR K J O as H ρ σ) (_s : Same H.hp G') {a : Addr} : Hid O as (H.w G') a ↔ Hid O as H a := Iff.rfl
theorem EnR.toS (E : EnR K J O as H ρ σ) (s : Same H.hp G') : Same (hp (Hid O as H) G') (hq O as (H.w G')) := hp_less fun _ h => (E.hidS s).mp h
/-- a state of which the owned things stand as they did -/
theorem EnR.keepS (E : EnR K J O as H ρ σ) (k : Stay as H H') (f : Fr as H H') (t : TabsOk H'.hp) : EnR K J O as H' ρ σ :=
  ⟨E.len, E.tl, fun i sl o h1 h2 => (E.at_ i sl o h1 h2).mono f.same fun b hb => k.pl i _ b hb rfl, fun i h => by
    obtain ⟨e1, e2, e3⟩ := E.sto i h
    refine ⟨e1, by rw [e2, k.st], ?_⟩
    rw [k.st]
    exact e3.move f.same fun a z => k.pl i _ a h z,
   fun i j r r' b h1 h2 q1 q2 => E.inj i j r r' b h1 h2 (k.reg.mp q1) (k.reg.mp q2), fun i r b h q => E.out i r b h (k.reg.mp q), E.bnd, fun a h => E.occ' f.fr t h, J.fr E.inv f, E.inq, t⟩
/-- more objects -/
theorem EnR.grow (E : EnR K J O as H ρ σ) (s : Same H.hp G') : EnR K J O as (H.w G') ρ σ := E.keepS (E.stay s) (E.frS s) (E.tab.ext s)
/-- the slot is there and nothing of its own -/
def slotF (ρ : En) (i : Nat) : Bool := match ρ[i]? with
  | some (.own _) => false
  | some (.st _) => false
  | some _ => true
  | none => false
theorem slotF_of (h : slotF ρ i = true) : ∃ sl, ρ[i]? = some sl ∧ (∀ ds, sl ≠ .own ds) ∧ ∀ t, sl ≠ .st t := by
  unfold slotF at h
  split at h
  · cases h
  · cases h
  · next sl e1 e2 hn => exact ⟨sl, hn, fun ds q => e1 ds (by rw [q]), fun t q => e2 t (by rw [q])⟩
  · cases h
theorem EnR.none_of (E : EnR K J O as H ρ σ) (h : slotF ρ i = true) : as i = none := by
  obtain ⟨sl, e, n, n2⟩ := slotF_of h
  exact E.not_own e n n2
/-- one slot stored -/
theorem EnR.setAt (E : EnR K J O as H ρ σ) (h : slotF ρ i = true) {sl : Sl} {o : Option V} (q : SlR K (hq O as H) H.hp none sl o) : EnR K J O as H (ρ.set i sl) (σ.set i o) := by
  have hn := E.none_of h
  have hi : i < σ.length := by
    obtain ⟨sl, e, n, n2⟩ := slotF_of h
    exact E.lt e n2
  refine ⟨by rw [List.length_set, List.length_set]; exact E.len, fun j sl' h1 h2 => ?_, fun j sl' o' h1 h2 => ?_, fun j h1 => ?_, E.inj, E.out, fun j r e => by rw [List.length_set]; exact E.bnd j r e, E.occ, E.inv, E.inq, E.tab⟩
  · rw [List.length_set] at h2
    rw [List.getElem?_set_ne (by omega)] at h1
    exact E.tl j sl' h1 h2
  · rw [List.getElem?_set] at h1 h2
    by_cases e : i = j
    · subst e
      rw [if_pos rfl] at h1 h2
      split at h1
      · rw [if_pos hi] at h2
        cases h1; cases h2
        rw [hn]
        exact q
      · cases h1
    · rw [if_neg e] at h1 h2
      exact E.at_ j sl' o' h1 h2
  · obtain ⟨e1, e2, e3⟩ := E.sto j h1
    refine ⟨by rw [List.length_set]; exact e1, ?_, e3⟩
    rw [List.getElem?_set_ne (by omega)]
    exact e2
theorem EnR.setFz (E : EnR K J O as H ρ σ) (h : slotF ρ i = true) (q : Dq K (hq O as H) v d) : EnR K J O as H (ρ.set i (.fz d)) (σ.set i (some v)) := E.setAt h (.fz q)
theorem EnR.setNo (E : EnR K J O as H ρ σ) (h : slotF ρ i = true) (o : Option V) : EnR K J O as H (ρ.set i .no) (σ.set i o) := E.setAt h .no
end
end DL
/-! slots stored, changed, let go -/
namespace DL
open PySem L2 Z
variable [Tbs]
section
variable {K : PySem.W.Frag} {n : Nat} {J : Jv n} {O : Addr → Prop} {as as' as'' : As} {H H' H'' : Hs} {G' : Hp} {ρ : En} {σ : L2.St} {i : Nat} {v : V} {d : PyData} {ds : List PyData}
theorem liv_upd {H : Hp} {p : Addr} (o : HO) : ∀ a, H a ≠ none → upd H p o a ≠ none := fun a h => by
  by_cases z : a = p
  · rw [z, upd_same]; exact Option.some_ne_none _
  · rw [upd_ne z]; exact h
theorem lt_of_reg {r : Rg} (E : EnR K J O as H ρ σ) (hi : as i = some r) (h : r ≠ .sto) : i < σ.length := by
  rcases E.is_reg hi with ⟨_, _, _, _, h1, _⟩ | ⟨e, _⟩
  · exact E.lt h1 (fun _ z => by cases z)
  · exact absurd e h
/-- the own list of a slot, or the store, is changed -/
theorem EnR.change (E : EnR K J O as H ρ σ) {r : Rg} (hi : as i = some r) (fr : ∀ a o, ¬ Rgn H r a → H a = some o → H' a = some o) (nw : ∀ a, Rgn H' r a → Rgn H r a ∨ H a = none) (tab : TabsOk H'.hp) (lv : ∀ a, H a ≠ none → H' a ≠ none) (hst : r ≠ .sto → H'.st = H.st) :
    Fr as H H' ∧ ∀ sl, (r ≠ .sto → SlR K (hq O as H') H'.hp (some r) sl (σ[i]?.getD none)) → (r = .sto → sl = .st H'.st ∧ StoR K (hq O as H') H'.hp H'.st) → EnR K J O as H' (ρ.set i sl) σ := by
  have ns : ∀ j r', j ≠ i → as j = some r' → r' = .sto → H'.st = H.st := fun j r' ne hj e => by
    subst e
    refine hst fun e => ?_
    rw [e] at hi
    exact ne ((E.sto j hj).1.trans (E.sto i hi).1.symm)
  have other : ∀ j r' b, j ≠ i → as j = some r' → Rgn H r' b → H' b = H b := fun j r' b ne hj q => by
    obtain ⟨o, e, _⟩ := E.nod hj q
    rw [e]
    exact fr b o (fun z => ne (E.inj j i r' r b hj hi q z)) e
  have otherR : ∀ j r' b, j ≠ i → as j = some r' → (Rgn H' r' b ↔ Rgn H r' b) := fun j r' b ne hj => by
    cases r' with
    | lf a => exact Iff.rfl
    | sto => exact Rgn.st (ns j _ ne hj rfl)
  have F : Fr as H H' := by
    refine ⟨fun a o na e => fr a o (fun z => na (.inl ⟨i, r, hi, z⟩)) e, fun a q => ?_, lv, fun h => hst fun e => h i (by rw [hi, e])⟩
    rcases q with ⟨j, r', hj, q⟩ | q
    · by_cases e : j = i
      · subst e
        rw [hi] at hj
        cases hj
        rcases nw a q with z | z
        · exact .inl (.inl ⟨j, r, hi, z⟩)
        · exact .inr z
      · exact .inl (.inl ⟨j, r', hj, (otherR j r' a e hj).mp q⟩)
    · exact .inl (.inr q)
  refine ⟨F, fun sl hs ht => ⟨by rw [List.length_set]; exact E.len, fun j sl' h1 h2 => ?_, fun j sl' o h1 h2 => ?_, fun j h => ?_, fun j k r1 r2 b h1 h2 q1 q2 => ?_, fun j r' b h q => ?_, fun j r' h => by rw [List.length_set]; exact E.bnd j r' h, fun a h => E.occ' F.fr tab h, J.fr E.inv F, E.inq, tab⟩⟩
  · have hj : j < ρ.length := by rw [← List.length_set (as := ρ) (i := i) (a := sl)]; exact (List.getElem?_eq_some_iff.mp h1).1
    exact E.tl j _ (List.getElem?_eq_getElem hj) h2
  · rw [List.getElem?_set] at h1
    by_cases e : i = j
    · subst e
      rw [if_pos rfl] at h1
      have hl : i < σ.length := (List.getElem?_eq_some_iff.mp h2).1
      have nr : r ≠ .sto := fun e => by
        rw [e] at hi
        have := (E.sto i hi).1
        omega
      split at h1
      · cases h1
        have := hs nr
        rw [h2] at this
        rw [hi]
        exact this
      · cases h1
    · rw [if_neg e] at h1
      exact (E.at_ j sl' o h1 h2).mono F.same fun b hb => other j _ b (fun z => e z.symm) hb rfl
  · obtain ⟨e1, e2, e3⟩ := E.sto j h
    by_cases e : i = j
    · subst e
      rw [hi] at h
      cases h
      obtain ⟨h1, h2⟩ := ht rfl
      refine ⟨e1, ?_, h2⟩
      rw [List.getElem?_set_self (E.bnd _ _ hi), h1]
    · have nr : r ≠ .sto := fun z => by
        rw [z] at hi
        exact e ((E.sto i hi).1.trans e1.symm)
      have := hst nr
      refine ⟨e1, ?_, ?_⟩
      · rw [List.getElem?_set_ne e, e2, this]
      · rw [this]
        exact e3.move F.same fun a z => other j _ a (fun w => e w.symm) h z
  · by_cases e1 : j = i
    · by_cases e2 : k = i
      · rw [e1, e2]
      · rw [e1, hi] at h1
        cases h1
        have q2' := (otherR k r2 b e2 h2).mp q2
        rcases nw b q1 with z | z
        · rw [e1]; exact E.inj i k r r2 b hi h2 z q2'
        · obtain ⟨o, e, _⟩ := E.nod h2 q2'
          rw [show H.hp b = none from z] at e; cases e
    · have q1' := (otherR j r1 b e1 h1).mp q1
      by_cases e2 : k = i
      · rw [e2, hi] at h2
        cases h2
        rcases nw b q2 with z | z
        · rw [e2]; exact E.inj j i r1 r b h1 hi q1' z
        · obtain ⟨o, e, _⟩ := E.nod h1 q1'
          rw [show H.hp b = none from z] at e; cases e
      · exact E.inj j k r1 r2 b h1 h2 q1' ((otherR k r2 b e2 h2).mp q2)
  · by_cases e : j = i
    · subst e
      rw [hi] at h
      cases h
      rcases nw b q with z | z
      · exact E.out j r b hi z
      · exact fun w => E.occ b w z
    · exact E.out j r' b h ((otherR j r' b e h).mp q)
/-- an own list changed -/
theorem EnR.put (E : EnR K J O as H ρ σ) {a : Addr} (ha : as i = some (.lf a)) {zs : List V} (hl : H a = some (.lst zs)) {xs : List V} (q : DqAll K (hq O as H) xs ds) : EnR K J O as (H.w (upd H a (.lst xs))) (ρ.set i (.own ds)) σ ∧ Fr as H (H.w (upd H a (.lst xs))) := by
  obtain ⟨F, k⟩ := E.change (H' := H.w (upd H a (.lst xs))) ha (fun b o nb e => by show upd H a _ b = _; rw [upd_ne (fun z => nb (by rw [z]; exact .here))]; exact e) (fun b q => .inl q) (E.tab.put hl) (liv_upd _) (fun _ => rfl)
  refine ⟨k _ (fun _ => ?_) (fun z => by cases z), F⟩
  obtain ⟨_, _, _, e, _⟩ := E.is_own ha
  rw [e]
  exact .own upd_same (q.mono F.same)
/-- the store changed -/
theorem EnR.putS (E : EnR K J O as H ρ σ) {S : Sto} (hs : ρ[i]? = some (.st S)) {S' : Sto} {G' : Hp} (fr : ∀ a o, S a = none → H a = some o → G' a = some o) (nw : ∀ a, S' a ≠ none → S a ≠ none ∨ H a = none) (tab : TabsOk G') (lv : ∀ a, H a ≠ none → G' a ≠ none)
    (q : Fr as H ⟨G', S'⟩ → StoR K (hq O as ⟨G', S'⟩) G' S') : EnR K J O as ⟨G', S'⟩ (ρ.set i (.st S')) σ ∧ Fr as H ⟨G', S'⟩ := by
  obtain ⟨ha, e, _⟩ := E.st_at hs
  subst e
  obtain ⟨F, k⟩ := E.change (H' := ⟨G', S'⟩) ha (fun b o nb e => fr b o (Classical.byContradiction fun z => nb z) e) nw tab lv (fun z => absurd rfl z)
  exact ⟨k _ (fun z => absurd rfl z) (fun _ => ⟨rfl, q F⟩), F⟩
def upA (as : As) (i : Nat) (o : Option Rg) : As := fun j => if j = i then o else as j
theorem upA_at {o : Option Rg} : upA as i o i = o := if_pos rfl
theorem upA_ne {o : Option Rg} {j : Nat} (h : j ≠ i) : upA as i o j = as j := if_neg h
theorem upA_ks {o : Option Rg} (h : as i ≠ some .sto) (ho : o ≠ some .sto) : ∀ j, upA as i o j = some .sto ↔ as j = some .sto := fun j => by
  by_cases e : j = i
  · rw [e, upA_at]
    exact ⟨fun z => absurd z ho, fun z => absurd z h⟩
  · rw [upA_ne e]
theorem EnR.nst_at (E : EnR K J O as H ρ σ) (h : i < σ.length) : as i ≠ some .sto := fun z => by
  have := (E.sto i z).1
  omega
theorem Own.up {a : Addr} {o : Option Rg} (h : Own (upA as i o) H a) : (∃ r, o = some r ∧ Rgn H r a) ∨ Own as H a := by
  rcases h with ⟨j, r, h, q⟩ | h
  · by_cases e : j = i
    · rw [e, upA_at] at h; exact .inl ⟨r, h, q⟩
    · rw [upA_ne e] at h; exact .inr (.inl ⟨j, r, h, q⟩)
  · exact .inr (.inr h)
/-- one place more -/
def plus (O : Addr → Prop) (p : Addr) : Addr → Prop := fun a => O a ∨ a = p
theorem hid_plus {p : Addr} {a : Addr} (h : Hid O as H a) : Hid (plus O p) as H a := h.imp .inl id
/-- what is held is stored in a slot -/
theorem EnR.setOwn {p : Addr} (E : EnR K J (plus O p) as H ρ σ) (hQ : J.Q O) (hi : i < σ.length) (hJ : J.P (upA as i (some (.lf p))) H) {xs : List V} (hp1 : H p = some (.lst xs)) (q : DqAll K (hq (plus O p) as H) xs ds) (np : ¬ O p) :
    EnR K J O (upA as i (some (.lf p))) H (ρ.set i (.own ds)) (σ.set i (some (.ref p))) := by
  have hS : Same (hq (plus O p) as H) (hq O (upA as i (some (.lf p))) H) := hp_less fun a h => by
    rcases h with h | h
    · exact .inl (.inl h)
    · rcases h.up with ⟨r', e, h⟩ | h
      · cases e
        exact .inl (.inr h.lf_of)
      · exact .inr h
  have up : ∀ j r, upA as i (some (.lf p)) j = some r → j ≠ i → as j = some r := fun j r h e => by rwa [upA_ne e] at h
  refine ⟨by rw [List.length_set, List.length_set]; exact E.len, fun j sl' h1 h2 => ?_, fun j sl' o h1 h2 => ?_, fun j h => ?_, fun j k r1 r2 b h1 h2 q1 q2 => ?_, fun j r' b h q => ?_, fun j r' h => ?_, fun a h => E.occ a (.inl h), hJ, hQ, E.tab⟩
  · rw [List.length_set] at h2
    rw [List.getElem?_set_ne (by omega)] at h1
    rw [upA_ne (by omega)]
    exact E.tl j sl' h1 h2
  · rw [List.getElem?_set] at h1 h2
    by_cases e : i = j
    · subst e
      rw [if_pos rfl] at h1
      rw [if_pos rfl, if_pos hi] at h2
      rw [if_pos (Nat.lt_of_lt_of_le hi E.len.1)] at h1
      cases h1; cases h2
      rw [upA_at]
      exact .own hp1 (q.mono hS)
    · rw [if_neg e] at h1 h2
      rw [upA_ne (fun z => e z.symm)]
      exact (E.at_ j sl' o h1 h2).mono hS fun _ _ => rfl
  · by_cases e : j = i
    · rw [e, upA_at] at h
      cases h
    · obtain ⟨e1, e2, e3⟩ := E.sto j (up j _ h e)
      refine ⟨by rw [List.length_set]; exact e1, ?_, e3.move hS fun _ _ => rfl⟩
      rw [List.getElem?_set_ne (fun z => e z.symm)]
      exact e2
  · by_cases e1 : j = i
    · by_cases e2 : k = i
      · rw [e1, e2]
      · rw [e1, upA_at] at h1
        cases h1
        exact absurd (.inr q1.lf_of) (E.out k r2 b (up k _ h2 e2) q2)
    · by_cases e2 : k = i
      · rw [e2, upA_at] at h2
        cases h2
        exact absurd (.inr q2.lf_of) (E.out j r1 b (up j _ h1 e1) q1)
      · exact E.inj j k r1 r2 b (up j _ h1 e1) (up k _ h2 e2) q1 q2
  · by_cases e1 : j = i
    · rw [e1, upA_at] at h
      cases h
      rw [q.lf_of]
      exact np
    · exact fun z => E.out j r' b (up j _ h e1) q (.inl z)
  · rw [List.length_set]
    by_cases e1 : j = i
    · rw [e1]; exact Nat.lt_of_lt_of_le hi E.len.1
    · exact E.bnd j r' (up j _ h e1)
theorem slot_lt (E : EnR K J O as H ρ σ) (h : slotF ρ i = true) : i < σ.length := by
  obtain ⟨sl, e, n, n2⟩ := slotF_of h
  exact E.lt e n2
/-- what a slot owned is let go: it stays from now on -/
theorem EnR.letGo (E : EnR K J O as H ρ σ) (hn : n ≤ i) {sl : Sl} {o : Option V} (h2 : σ[i]? = some o) (q : SlR K (hq O (upA as i none) H) H none sl o) : EnR K J O (upA as i none) H (ρ.set i sl) σ := by
  have hi : i < σ.length := (List.getElem?_eq_some_iff.mp h2).1
  have ls : ∀ a, Own (upA as i none) H a → Own as H a := fun a h => by
    rcases h.up with ⟨r, e, _⟩ | h
    · cases e
    · exact h
  have hS : Same (hq O as H) (hq O (upA as i none) H) := hp_less fun a h => h.imp id (ls a)
  have sub : ∀ j r, upA as i none j = some r → j ≠ i ∧ as j = some r := fun j r h => by
    by_cases e : j = i
    · rw [e, upA_at] at h; cases h
    · rw [upA_ne e] at h; exact ⟨e, h⟩
  refine ⟨by rw [List.length_set]; exact E.len, fun j sl' h1 h3 => ?_, fun j sl' o' h1 h3 => ?_, fun j h => ?_, fun j k r r' b h1 h2 => E.inj j k r r' b (sub j r h1).2 (sub k r' h2).2, fun j r b h => E.out j r b (sub j r h).2, fun j r h => by rw [List.length_set]; exact E.bnd j r (sub j r h).2, E.occ, J.cl _ _ _ _ E.inv ⟨FrA.refl _ _, fun a h => .inl (ls a h), fun j hj => upA_ne (by omega), fun _ h => h, fun j => ⟨fun z => (sub j _ z).2, fun z => by rw [upA_ne (fun e => by rw [e] at z; have := (E.sto i z).1; omega)]; exact z⟩, fun _ => rfl⟩, E.inq, E.tab⟩
  · rw [List.getElem?_set_ne (by omega)] at h1
    rw [upA_ne (by omega)]
    exact E.tl j sl' h1 h3
  · rw [List.getElem?_set] at h1
    by_cases e : i = j
    · subst e
      rw [if_pos rfl] at h1
      rw [h2] at h3
      cases h3
      split at h1
      · cases h1
        rw [upA_at]
        exact q
      · cases h1
    · rw [if_neg e] at h1
      rw [upA_ne (fun z => e z.symm)]
      exact (E.at_ j sl' o' h1 h3).mono hS fun _ _ => rfl
  · obtain ⟨ne, h⟩ := sub j _ h
    obtain ⟨e1, e2, e3⟩ := E.sto j h
    refine ⟨e1, ?_, e3.move hS fun _ _ => rfl⟩
    rw [List.getElem?_set_ne (fun z => ne z.symm)]
    exact e2
theorem Ext.go {as : As} {H : Hs} (hn : n ≤ i) (ni : as i ≠ some .sto) : Ext n as (upA as i none) H H := ⟨FrA.refl _ _, fun a h => by
  rcases h.up with ⟨r, e, _⟩ | h
  · cases e
  · exact .inl h, fun j hj => upA_ne (by omega), fun _ h => h, upA_ks ni (fun z => by cases z), fun _ => rfl⟩
/-- an own list that stays from now on -/
theorem EnR.freeze (E : EnR K J O as H ρ σ) (hn : n ≤ i) (h : ρ[i]? = some (.own ds)) : EnR K J O (upA as i none) H (ρ.set i (.fz (.list ds))) σ := by
  obtain ⟨a, xs, e1, e2, e3, e4⟩ := E.own_at h
  have hS : Same (hq O as H) (hq O (upA as i none) H) := (Ext.go hn (by rw [e2]; intro z; cases z)).same
  have na : ¬ Hid O (upA as i none) H a := by
    rintro (z | ⟨j, r, z, q⟩ | z)
    · exact E.out i _ a e2 .here z
    · by_cases w : j = i
      · rw [w, upA_at] at z; cases z
      · rw [upA_ne w] at z
        exact w (E.inj j i _ _ a z e2 q .here)
    · exact E.tab.no e3 z
  exact E.letGo hn e1 (.fz (.lst (SqL.of (hp_mk na e3)) (e4.mono hS)))
end
end DL
namespace DL
open PySem L2 Z
variable [Tbs]
theorem EnR.fresh1 {K : PySem.W.Frag} {n : Nat} {J : Jv n} {O : Addr → Prop} {as : As} {H : Hs} {ρ : En} {σ : L2.St} (E : EnR K J O as H ρ σ) {p : Addr} {o : HO} (h : H p = none) : ¬ Hid O as (H.w (upd H p o)) p := fun q => E.fresh h ((E.hidS (Same.new h)).mp q)
theorem EnR.fresh2 {K : PySem.W.Frag} {n : Nat} {J : Jv n} {O : Addr → Prop} {as : As} {H H' : Hs} {ρ : En} {σ : L2.St} (_E : EnR K J O as H ρ σ) (_f : Fr as H H') {p : Addr} (_h : H p = none) (no : ¬ O p) (nw : ¬ Own as H' p) : ¬ Hid O as H' p := fun q => q.elim no nw
end DL
namespace DL
open PySem L2 Z
variable [Tbs]
/-- a list that is held is nobody's own -/
theorem EnR.newp {K : PySem.W.Frag} {n : Nat} {J : Jv n} {O : Addr → Prop} {as : As} {H : Hs} {ρ : En} {σ : L2.St} {p : Addr} {xs : List V} (E : EnR K J (plus O p) as H ρ σ) (h : H p = some (.lst xs)) : ¬ Own as H p := fun q => by
  rcases q with ⟨i, r, e, q⟩ | q
  · exact E.out i r p e q (.inr rfl)
  · exact E.tab.no h q
end DL
/-! what expressions, tests, arguments, stores and statements come to -/
namespace DL
open PySem L2 Z
variable [Tbs]
abbrev FE := En → (PyData → En → Prop) → Prop
abbrev FT := En → (Bool → En → Prop) → Prop
abbrev FA := En → (List PyData → En → Prop) → Prop
abbrev FG := PyData → En → (En → Prop) → Prop
abbrev FGs := List PyData → En → (En → Prop) → Prop
inductive Ar where
  | dat (d : PyData)
  | own (i : Nat)
abbrev FC := En → (List Ar → En → Prop) → Prop
structure FEnds where
  nx : En → Prop
  rt : PyData → En → Prop
  bk : En → Prop := fun _ => False
  ct : En → Prop := fun _ => False
  ro : List PyData → En → Prop := fun _ _ => False
abbrev FS := FEnds → En → Prop
abbrev FN := List Sl → (PyData → List Sl → Prop) → Prop
def RE (K : PySem.W.Frag) {n : Nat} (J : Jv n) (t : TE) (f : FE) : Prop := ∀ (O : Addr → Prop) (as : As) (σ : L2.St) (H : Hs) (Q : VK) (ρ : En) (P : PyData → En → Prop), EnR K J O as H ρ σ → f ρ P →
  (∀ d ρ' v H', P d ρ' → Fr as H H' → EnR K J O as H' ρ' σ → Dq K (hq O as H') v d → Q v H') → t σ H Q
section
variable {K : PySem.W.Frag} {n : Nat} {J : Jv n} {O : Addr → Prop} {as : As} {H : Hs} {ρ : En} {σ : L2.St} {p : Addr}
/-- a new object that is held -/
theorem EnR.addO {o : HO} (E : EnR K J O as H ρ σ) (h : H p = none) : EnR K J (plus O p) as (H.w (upd H p o)) ρ σ ∧ Same (hq O as H) (hq (plus O p) as (H.w (upd H p o))) := by
  have s : Same H.hp (upd H p o) := Same.new h
  have np := E.fresh h
  have E2 := E.grow s
  have hS : Same (hq O as H) (hq (plus O p) as (H.w (upd H p o))) := fun a u e => by
    obtain ⟨n, e⟩ := hp_some e
    have ne : a ≠ p := ne_of_none e h
    refine hp_mk (fun q => ?_) (by show upd H.hp p o a = _; rw [upd_ne ne]; exact e)
    rcases q with (q | q) | q
    · exact n (.inl q)
    · exact ne q
    · exact n (.inr ((E.stay s).own.mp q))
  refine ⟨⟨E.len, E.tl, fun i sl o' h1 h2 => (E.at_ i sl o' h1 h2).mono hS fun b hb => (E.stay s).pl i _ b hb rfl, fun i h => ?_, E2.inj, fun i r b e q z => ?_, E.bnd, fun a q => ?_, E2.inv, J.up _ _ (fun _ z => .inl z) E.inq, E2.tab⟩, hS⟩
  · obtain ⟨e1, e2, e3⟩ := E.sto i h
    exact ⟨e1, e2, e3.move hS fun a z => (E.stay s).pl i _ a h z⟩
  · rcases z with z | z
    · exact E2.out i r b e q z
    · rw [z] at q
      exact np (.inr (.inl ⟨i, r, e, (E.stay s).reg.mp q⟩))
  · rcases q with q | q
    · exact E2.occ a q
    · show upd H p o a ≠ none
      rw [q, upd_same]; exact Option.some_ne_none _
theorem EnR.lessO (E : EnR K J (plus O p) as H ρ σ) (hQ : J.Q O) : EnR K J O as H ρ σ :=
  ⟨E.len, E.tl, fun i sl o h1 h2 => (E.at_ i sl o h1 h2).mono (hp_less fun _ => hid_plus) fun _ _ => rfl, fun i h => ⟨(E.sto i h).1, (E.sto i h).2.1, (E.sto i h).2.2.move (hp_less fun _ => hid_plus) fun _ _ => rfl⟩, E.inj, fun i r b e q z => E.out i r b e q (.inl z), E.bnd, fun a q => E.occ a (.inl q), E.inv, hQ, E.tab⟩
/-- what is held is changed -/
theorem EnR.putO {xs ys : List V} (E : EnR K J O as H ρ σ) (h : O p) (hl : H p = some (.lst xs)) (hJ : J.P as (H.w (upd H p (.lst ys)))) :
    EnR K J O as (H.w (upd H p (.lst ys))) ρ σ ∧ Same (hq O as H) (hq O as (H.w (upd H p (.lst ys)))) := by
  have st : Stay as H (H.w (upd H p (.lst ys))) := ⟨fun i r b e q => upd_ne fun z => E.out i r b e q (by rw [z]; exact h), rfl⟩
  have hS : Same (hq O as H) (hq O as (H.w (upd H p (.lst ys)))) := fun a u e => by
    obtain ⟨n, e⟩ := hp_some e
    exact hp_mk (fun q => n (q.imp id st.own.mp)) (by show upd H.hp p _ a = _; rw [upd_ne (fun z : a = p => n (by rw [z]; exact .inl h))]; exact e)
  refine ⟨⟨E.len, E.tl, fun i sl o' h1 h2 => (E.at_ i sl o' h1 h2).mono hS fun b hb => st.pl i _ b hb rfl, fun i h => ?_, fun i j r r' b h1 h2 q1 q2 => E.inj i j r r' b h1 h2 (st.reg.mp q1) (st.reg.mp q2), fun i r b e q => E.out i r b e (st.reg.mp q), E.bnd, fun a q => ?_, hJ, E.inq, E.tab.put hl⟩, hS⟩
  · obtain ⟨e1, e2, e3⟩ := E.sto i h
    exact ⟨e1, e2, e3.move hS fun a z => st.pl i _ a h z⟩
  · show upd H p _ a ≠ none
    by_cases z : a = p
    · rw [z, upd_same]; exact Option.some_ne_none _
    · rw [upd_ne z]; exact E.occ a q
end
/-- a slot that is there and not the store -/
def slotL (ρ : En) (i : Nat) : Bool := match ρ[i]? with
  | some (.st _) => false
  | some _ => true
  | none => false
theorem EnR.ltB {K : PySem.W.Frag} {n : Nat} {J : Jv n} {O : Addr → Prop} {as : As} {H : Hs} {ρ : En} {σ : L2.St} {i : Nat} (E : EnR K J O as H ρ σ) (h : slotL ρ i = true) : i < σ.length := by
  unfold slotL at h
  split at h
  · cases h
  · next sl e hn => exact E.lt hn fun S z => e S (by rw [z])
  · cases h
/-- new, or what was somebody's own -/
abbrev NewO (as : As) (H : Hs) (p : Addr) : Prop := H p = none ∨ Own as H p
theorem EnR.notO {K : PySem.W.Frag} {n n' : Nat} {J : Jv n} {J' : Jv n'} {O O' : Addr → Prop} {as as' : As} {H H' : Hs} {ρ ρ' : En} {σ σ' : L2.St} {p : Addr} {xs : List V} (E : EnR K J O as H ρ σ) (E' : EnR K J' O' as' H' ρ' σ') (h : NewO as H p) (e : H' p = some (.lst xs)) : ¬ O p := fun z => by
  rcases h with h | ⟨i, r, h, q⟩ | h
  · exact E.occ p z h
  · exact E.out i r p h q z
  · exact E'.tab.no e h
/-- an expression that makes a new list -/
def RN (K : PySem.W.Frag) {n : Nat} (J : Jv n) (t : TE) (f : FA) : Prop := ∀ (O : Addr → Prop) (as : As) (σ : L2.St) (H : Hs) (Q : VK) (ρ : En) (P : List PyData → En → Prop), EnR K J O as H ρ σ → f ρ P →
  (∀ ds ρ' p xs H', P ds ρ' → Fr as H H' → NewO as H p → EnR K J (plus O p) as H' ρ' σ → H' p = some (.lst xs) → DqAll K (hq (plus O p) as H') xs ds → Q (.ref p) H') → t σ H Q
def RT (K : PySem.W.Frag) {n : Nat} (J : Jv n) (t : TT) (f : FT) : Prop := ∀ (O : Addr → Prop) (as : As) (σ : L2.St) (H : Hs) (Q : Bool → Hp → Prop) (ρ : En) (P : Bool → En → Prop), EnR K J O as H ρ σ → f ρ P →
  (∀ b ρ' H', P b ρ' → Fr as H H' → EnR K J O as H' ρ' σ → Q b H') → t σ H Q
def RA (K : PySem.W.Frag) {n : Nat} (J : Jv n) (t : TA) (f : FA) : Prop := ∀ (O : Addr → Prop) (as : As) (σ : L2.St) (H : Hs) (Q : List V → Hp → Prop) (ρ : En) (P : List PyData → En → Prop), EnR K J O as H ρ σ → f ρ P →
  (∀ ds ρ' vs H', P ds ρ' → Fr as H H' → EnR K J O as H' ρ' σ → DqAll K (hq O as H') vs ds → Q vs H') → t σ H Q
inductive ArR (K : PySem.W.Frag) (G : Hp) (as : As) : V → Ar → Prop
  | dat {v : V} {d : PyData} : Dq K G v d → ArR K G as v (.dat d)
  | own {a : Addr} {i : Nat} : as i = some (.lf a) → ArR K G as (.ref a) (.own i)
inductive ArsR (K : PySem.W.Frag) (G : Hp) (as : As) : List V → List Ar → Prop
  | nil : ArsR K G as [] []
  | cons {v : V} {vs : List V} {x : Ar} {xs : List Ar} : ArR K G as v x → ArsR K G as vs xs → ArsR K G as (v :: vs) (x :: xs)
def RC (K : PySem.W.Frag) {n : Nat} (J : Jv n) (t : TA) (f : FC) : Prop := ∀ (O : Addr → Prop) (as : As) (σ : L2.St) (H : Hs) (Q : List V → Hp → Prop) (ρ : En) (P : List Ar → En → Prop), EnR K J O as H ρ σ → f ρ P →
  (∀ xs ρ' vs H', P xs ρ' → Fr as H H' → EnR K J O as H' ρ' σ → ArsR K (hq O as H') as vs xs → Q vs H') → t σ H Q
/-- but for these slots all is as it was -/
def Touch (vs : List Nat) (σ σ' : L2.St) : Prop := σ'.length = σ.length ∧ ∀ j, j ∉ vs → σ'[j]? = σ[j]?
def RG (K : PySem.W.Frag) {n : Nat} (J : Jv n) (vs : List Nat) (g : TG) (f : FG) : Prop := ∀ (O : Addr → Prop) (as : As) (σ : L2.St) (H : Hs) (R : L2.St → Hp → Prop) (ρ : En) (P : En → Prop) (v : V) (d : PyData), EnR K J O as H ρ σ → Dq K (hq O as H) v d → f d ρ P →
  (∀ ρ' σ' H', P ρ' → Fr as H H' → EnR K J O as H' ρ' σ' → Touch vs σ σ' → R σ' H') → g v σ H R
def RGs (K : PySem.W.Frag) {n : Nat} (J : Jv n) (vs : List Nat) (g : TGs) (f : FGs) : Prop := ∀ (O : Addr → Prop) (as : As) (σ : L2.St) (H : Hs) (R : L2.St → Hp → Prop) (ρ : En) (P : En → Prop) (ys : List V) (ds : List PyData), EnR K J O as H ρ σ → DqAll K (hq O as H) ys ds → f ds ρ P →
  (∀ ρ' σ' H', P ρ' → Fr as H H' → EnR K J O as H' ρ' σ' → Touch vs σ σ' → R σ' H') → g ys σ H R
/-- what the ends ask, carried over -/
structure Car (K : PySem.W.Frag) {n : Nat} (J : Jv n) (O : Addr → Prop) (as : As) (H : Hs) (E : FEnds) (D : Ends) : Prop where
  nx : ∀ ρ' as' σ' H', E.nx ρ' → Ext n as as' H H' → EnR K J O as' H' ρ' σ' → D.nx σ' H'
  rt : ∀ d ρ' v as' σ' H', E.rt d ρ' → Ext n as as' H H' → EnR K J O as' H' ρ' σ' → Dq K (hq O as' H') v d → D.rt v H'
  bk : ∀ ρ' as' σ' H', E.bk ρ' → Ext n as as' H H' → EnR K J O as' H' ρ' σ' → D.bk σ' H'
  ct : ∀ ρ' as' σ' H', E.ct ρ' → Ext n as as' H H' → EnR K J O as' H' ρ' σ' → D.ct σ' H'
  ro : ∀ ds ρ' p xs as' σ' H', E.ro ds ρ' → Ext n as as' H H' → H p = none ∨ Own as H p → EnR K J (plus O p) as' H' ρ' σ' → H' p = some (.lst xs) → DqAll K (hq (plus O p) as' H') xs ds → D.rt (.ref p) H'
theorem Ext.old {n : Nat} {as as' : As} {H H' : Hs} {p : Addr} (x : Ext n as as' H H') (h : H' p = none ∨ Own as' H' p) : H p = none ∨ Own as H p := by
  by_cases w : Own as H p
  · exact .inr w
  · rcases h with h | h
    · cases e : H p with
      | none => exact .inl rfl
      | some o => rw [x.fr p o w e] at h; cases h
    · rcases x.new p h with z | z
      · exact absurd z w
      · exact .inl z
theorem Car.ext {K : PySem.W.Frag} {n : Nat} {J : Jv n} {O : Addr → Prop} {as as' : As} {H H' : Hs} {E : FEnds} {D : Ends} (C : Car K J O as H E D) (x : Ext n as as' H H') : Car K J O as' H' E D :=
  ⟨fun ρ' as2 σ' H2 p y => C.nx ρ' as2 σ' H2 p (x.trans y), fun d ρ' v as2 σ' H2 p y => C.rt d ρ' v as2 σ' H2 p (x.trans y), fun ρ' as2 σ' H2 p y => C.bk ρ' as2 σ' H2 p (x.trans y), fun ρ' as2 σ' H2 p y => C.ct ρ' as2 σ' H2 p (x.trans y), fun ds ρ' p xs as2 σ' H2 q y o => C.ro ds ρ' p xs as2 σ' H2 q (x.trans y) (x.old o)⟩
def RS (K : PySem.W.Frag) {n : Nat} (J : Jv n) (t : TS) (f : FS) : Prop := ∀ (O : Addr → Prop) (as : As) (σ : L2.St) (H : Hs) (D : Ends) (ρ : En) (E : FEnds), EnR K J O as H ρ σ → f E ρ → Car K J O as H E D → t D σ H

section
variable {K : PySem.W.Frag} {n : Nat} {J : Jv n}
theorem own_hid {O : Addr → Prop} {as : As} {H : Hs} : ∀ a, Own as H a → Hid O as H a := fun _ h => .inr h
theorem Dq.fr {O : Addr → Prop} {as : As} {H H' : Hs} {v : V} {d : PyData} (q : Dq K (hq O as H) v d) (f : Fr as H H') : Dq K (hq O as H') v d := q.mono f.same
theorem DqAll.fr {O : Addr → Prop} {as : As} {H H' : Hs} {v : List V} {d : List PyData} (q : DqAll K (hq O as H) v d) (f : Fr as H H') : DqAll K (hq O as H') v d := q.mono f.same
/-! constants, names -/
def fC (d : PyData) : FE := fun ρ P => P d ρ
theorem re_c {v : V} {d : PyData} (h : ∀ H, Dq K H v d) : RE K J (tC v) (fC d) := fun O as σ H Q ρ P E f k => k d ρ v H f (Fr.refl) E (h _)
def fV (i : Nat) : FE := fun ρ P => match ρ[i]? with
  | some (.fz d) => P d ρ
  | _ => False
theorem re_v {i : Nat} : RE K J (tVar i) (fV i) := by
  intro O as σ H Q ρ P E f k
  unfold fV at f
  split at f
  · next d h =>
    obtain ⟨v, e, _, q⟩ := E.fz_at h
    exact ⟨v, e, k d ρ v H f (Fr.refl) E q⟩
  · exact f.elim
/-! arguments -/
def fNil : FA := fun ρ P => P [] ρ
def fCons (a : FE) (b : FA) : FA := fun ρ P => a ρ fun d ρ1 => b ρ1 fun ds ρ2 => P (d :: ds) ρ2
theorem ra_nil : RA K J tNil fNil := fun O as σ H Q ρ P E f k => k [] ρ [] H f (Fr.refl) E .nil
theorem ra_cons {ta : TE} {t : TA} {fa : FE} {f : FA} (ha : RE K J ta fa) (h : RA K J t f) : RA K J (tCons ta t) (fCons fa f) := by
  intro O as σ H Q ρ P E q k
  refine ha O as σ H _ ρ _ E q fun d ρ1 v H1 q1 f1 E1 d1 => ?_
  refine h O as σ H1 _ ρ1 _ E1 q1 fun ds ρ2 vs H2 q2 f2 E2 d2 => ?_
  exact k _ _ _ _ q2 (f1.trans f2) E2 (.cons (d1.fr f2) d2)
/-! operators -/
def RR (K : PySem.W.Frag) (r : R2) (g : PyData → PyData → (PyData → Prop) → Prop) : Prop := ∀ (A : Addr → Prop) (H : Hp) (Q : VK) (x y : V) (a b : PyData) (P : PyData → Prop), (∀ c, A c → H c ≠ none) →
  Dq K (hp A H) x a → Dq K (hp A H) y b → g a b P → (∀ d v H', P d → Same H H' → Dq K (hp A H') v d → Q v H') → r x y H Q
def fOp (g : PyData → PyData → (PyData → Prop) → Prop) (a b : FE) : FE := fun ρ P => a ρ fun x ρ1 => b ρ1 fun y ρ2 => g x y fun d => P d ρ2
theorem re_op {r : R2} {g : PyData → PyData → (PyData → Prop) → Prop} {ta tb : TE} {fa fb : FE} (hr : RR K r g) (ha : RE K J ta fa) (hb : RE K J tb fb) : RE K J (tOp r ta tb) (fOp g fa fb) := by
  intro O as σ H Q ρ P E q k
  refine ha O as σ H _ ρ _ E q fun a ρ1 x H1 q1 f1 E1 d1 => ?_
  refine hb O as σ H1 _ ρ1 _ E1 q1 fun b ρ2 y H2 q2 f2 E2 d2 => ?_
  refine hr (Hid O as H2) H2 _ x y a b _ (fun c h => E2.full h) (d1.fr f2) d2 q2 fun d v H3 p s3 d3 => ?_
  exact k d ρ2 v ⟨H3, _⟩ p ((f1.trans f2).trans (E2.frS s3)) (E2.grow s3) (d3.mono (E2.toS s3))
def RU (K : PySem.W.Frag) (r : V → Hp → VK → Prop) (g : PyData → (PyData → Prop) → Prop) : Prop := ∀ (A : Addr → Prop) (H : Hp) (Q : VK) (x : V) (a : PyData) (P : PyData → Prop), (∀ c, A c → H c ≠ none) →
  Dq K (hp A H) x a → g a P → (∀ d v H', P d → Same H H' → Dq K (hp A H') v d → Q v H') → r x H Q
def fUn (g : PyData → (PyData → Prop) → Prop) (a : FE) : FE := fun ρ P => a ρ fun x ρ1 => g x fun d => P d ρ1
theorem re_un {r : V → Hp → VK → Prop} {g : PyData → (PyData → Prop) → Prop} {ta : TE} {fa : FE} (hr : RU K r g) (ha : RE K J ta fa) : RE K J (tUn r ta) (fUn g fa) := by
  intro O as σ H Q ρ P E q k
  refine ha O as σ H _ ρ _ E q fun a ρ1 x H1 q1 f1 E1 d1 => ?_
  refine hr (Hid O as H1) H1 _ x a _ (fun c h => E1.full h) d1 q1 fun d v H3 p s3 d3 => ?_
  exact k d ρ1 v ⟨H3, _⟩ p (f1.trans (E1.frS s3)) (E1.grow s3) (d3.mono (E1.toS s3))
/-! built-in calls -/
def RB (K : PySem.W.Frag) (r : List V → Hp → VK → Prop) (g : List PyData → (PyData → Prop) → Prop) : Prop := ∀ (A : Addr → Prop) (H : Hp) (Q : VK) (xs : List V) (ds : List PyData) (P : PyData → Prop), (∀ c, A c → H c ≠ none) →
  DqAll K (hp A H) xs ds → g ds P → (∀ d v H', P d → Same H H' → Dq K (hp A H') v d → Q v H') → r xs H Q
def fCB (g : List PyData → (PyData → Prop) → Prop) (a : FA) : FE := fun ρ P => a ρ fun ds ρ1 => g ds fun d => P d ρ1
theorem re_cb {r : List V → Hp → VK → Prop} {g : List PyData → (PyData → Prop) → Prop} {t : TA} {f : FA} (hr : RB K r g) (ha : RA K J t f) : RE K J (tCB r t) (fCB g f) := by
  intro O as σ H Q ρ P E q k
  refine ha O as σ H _ ρ _ E q fun ds ρ1 vs H1 q1 f1 E1 d1 => ?_
  refine hr (Hid O as H1) H1 _ vs ds _ (fun c h => E1.full h) d1 q1 fun d v H3 p s3 d3 => ?_
  exact k d ρ1 v ⟨H3, _⟩ p (f1.trans (E1.frS s3)) (E1.grow s3) (d3.mono (E1.toS s3))
/-- methods of texts -/
def RM (K : PySem.W.Frag) (r : V → List V → Hp → VK → Prop) (g : Str → List PyData → (PyData → Prop) → Prop) : Prop := ∀ (A : Addr → Prop) (H : Hp) (Q : VK) (z : Str) (xs : List V) (ds : List PyData) (P : PyData → Prop), (∀ c, A c → H c ≠ none) →
  DqAll K (hp A H) xs ds → g z ds P → (∀ d v H', P d → Same H H' → Dq K (hp A H') v d → Q v H') → r (.str z) xs H Q
def strF (a : PyData) (k : Str → Prop) : Prop := match a with
  | .str z => k z
  | _ => False
def fBM (g : Str → List PyData → (PyData → Prop) → Prop) (a : FE) (b : FA) : FE := fun ρ P => a ρ fun x ρ1 => strF x fun z => b ρ1 fun ds ρ2 => g z ds fun d => P d ρ2
theorem re_bm {r : V → List V → Hp → VK → Prop} {g : Str → List PyData → (PyData → Prop) → Prop} {to : TE} {t : TA} {fo : FE} {f : FA} (hr : RM K r g) (ho : RE K J to fo) (ha : RA K J t f) : RE K J (tBM K "str" r to t) (fBM g fo f) := by
  intro O as σ H Q ρ P E q k
  refine ho O as σ H _ ρ _ E q fun a ρ1 x H1 q1 f1 E1 d1 => ?_
  unfold strF at q1
  split at q1
  · next z =>
    cases d1
    refine ⟨rfl, ?_⟩
    refine ha O as σ H1 _ ρ1 _ E1 q1 fun ds ρ2 vs H2 q2 f2 E2 d2 => ?_
    refine hr (Hid O as H2) H2 _ z vs ds _ (fun c h => E2.full h) d2 q2 fun d v H3 p s3 d3 => ?_
    exact k d ρ2 v ⟨H3, _⟩ p ((f1.trans f2).trans (E2.frS s3)) (E2.grow s3) (d3.mono (E2.toS s3))
  · exact q1.elim
/-! displays -/
def fTup (f : FA) : FE := fun ρ P => f ρ fun ds ρ1 => ds.length ≤ sizeLine ∧ P (.tuple ds) ρ1
theorem re_tup {t : TA} {f : FA} (h : RA K J t f) : RE K J (tTup t) (fTup f) := by
  intro O as σ H Q ρ P E q k
  refine h O as σ H _ ρ _ E q fun ds ρ1 vs H1 q1 f1 E1 d1 => ⟨by rw [d1.length]; exact q1.1, fun p hp1 => ?_⟩
  have s := Same.new (o := .tup vs) hp1
  refine k _ _ _ _ q1.2 (f1.trans (E1.frS s)) (E1.grow s) (.tup (SqT.of (hp_mk (E1.fresh1 hp1) upd_same)) (d1.mono (E1.hgrow s)))
def fLst (f : FA) : FA := fun ρ P => f ρ fun ds ρ1 => ds.length ≤ sizeLine ∧ P ds ρ1
theorem rn_lst {t : TA} {f : FA} (h : RA K J t f) : RN K J (tLst t) (fLst f) := by
  intro O as σ H Q ρ P E q k
  refine h O as σ H _ ρ _ E q fun ds ρ1 vs H1 q1 f1 E1 d1 => ⟨by rw [d1.length]; exact q1.1, fun p hp1 => ?_⟩
  obtain ⟨E2, s2⟩ := E1.addO (o := .lst vs) hp1
  refine k _ _ _ _ _ q1.2 (f1.trans (E1.frS (Same.new hp1))) ?_ E2 upd_same (d1.mono s2)
  exact .inl (Classical.byContradiction fun z => f1.liv p z hp1)
def fNew (f : FA) : FE := fun ρ P => f ρ fun ds ρ1 => P (.list ds) ρ1
theorem RN.re {t : TE} {f : FA} (h : RN K J t f) : RE K J t (fNew f) := by
  intro O as σ H Q ρ P E q k
  refine h O as σ H _ ρ _ E q fun ds ρ1 p xs H2 q1 f1 hp1 E1 hp2 d1 => ?_
  exact k _ _ _ _ q1 f1 (E1.lessO E.inq) (.lst (SqL.of (hp_mk (fun z => z.elim (fun w => E.notO E1 hp1 hp2 w) (E1.newp hp2)) hp2)) (d1.mono (hp_less fun _ => hid_plus)))
/-! tests -/
def boolF (a : PyData) (k : Bool → Prop) : Prop := match a with
  | .bool b => k b
  | _ => False
def fB (f : FE) : FT := fun ρ P => f ρ fun d ρ1 => boolF d fun b => P b ρ1
theorem rt_b {t : TE} {f : FE} (h : RE K J t f) : RT K J (tB t) (fB f) := by
  intro O as σ H Q ρ P E q k
  refine h O as σ H _ ρ _ E q fun d ρ1 v H1 q1 f1 E1 d1 => ?_
  unfold boolF at q1
  split at q1
  · cases d1; exact ⟨_, rfl, k _ _ _ q1 f1 E1⟩
  · exact q1.elim
theorem rt_test {t : TE} {f : FE} (h : RE K J t f) : RT K J (tTest t) (fB f) := rt_b h
def fAnd (a b : FT) : FT := fun ρ P => a ρ fun c ρ1 => if c = true then b ρ1 P else P false ρ1
def fOr (a b : FT) : FT := fun ρ P => a ρ fun c ρ1 => if c = true then P true ρ1 else b ρ1 P
def fNot (a : FT) : FT := fun ρ P => a ρ fun c ρ1 => P (!c) ρ1
theorem rt_and {t u : TT} {a b : FT} (ha : RT K J t a) (hb : RT K J u b) : RT K J (tAnd t u) (fAnd a b) := by
  intro O as σ H Q ρ P E q k
  refine ha O as σ H _ ρ _ E q fun c ρ1 H1 q1 f1 E1 => ?_
  cases c
  · exact k _ _ _ q1 f1 E1
  · exact hb O as σ H1 _ ρ1 _ E1 q1 fun b ρ2 H2 q2 f2 E2 => k _ _ _ q2 (f1.trans f2) E2
theorem rt_or {t u : TT} {a b : FT} (ha : RT K J t a) (hb : RT K J u b) : RT K J (tOr t u) (fOr a b) := by
  intro O as σ H Q ρ P E q k
  refine ha O as σ H _ ρ _ E q fun c ρ1 H1 q1 f1 E1 => ?_
  cases c
  · exact hb O as σ H1 _ ρ1 _ E1 q1 fun b ρ2 H2 q2 f2 E2 => k _ _ _ q2 (f1.trans f2) E2
  · exact k _ _ _ q1 f1 E1
theorem rt_not {t : TT} {a : FT} (ha : RT K J t a) : RT K J (tNot t) (fNot a) := by
  intro O as σ H Q ρ P E q k
  exact ha O as σ H _ ρ _ E q fun c ρ1 H1 q1 f1 E1 => k _ _ _ q1 f1 E1
def fAndV (a b : FE) : FE := fun ρ P => a ρ fun d ρ1 => boolF d fun c => if c = true then b ρ1 P else P (.bool false) ρ1
def fOrV (a b : FE) : FE := fun ρ P => a ρ fun d ρ1 => boolF d fun c => if c = true then P (.bool true) ρ1 else b ρ1 P
def fNotV (a : FE) : FE := fun ρ P => a ρ fun d ρ1 => boolF d fun c => P (.bool (!c)) ρ1
theorem re_and {t u : TE} {a b : FE} (ha : RE K J t a) (hb : RE K J u b) : RE K J (tAndV t u) (fAndV a b) := by
  intro O as σ H Q ρ P E q k
  refine ha O as σ H _ ρ _ E q fun d ρ1 v H1 q1 f1 E1 d1 => ?_
  unfold boolF at q1
  split at q1
  · next c =>
    cases d1
    refine ⟨_, rfl, ?_⟩
    cases c
    · exact k _ _ _ _ q1 f1 E1 (.bl _)
    · exact hb O as σ H1 _ ρ1 _ E1 q1 fun b ρ2 v H2 q2 f2 E2 => k _ _ _ _ q2 (f1.trans f2) E2
  · exact q1.elim
theorem re_or {t u : TE} {a b : FE} (ha : RE K J t a) (hb : RE K J u b) : RE K J (tOrV t u) (fOrV a b) := by
  intro O as σ H Q ρ P E q k
  refine ha O as σ H _ ρ _ E q fun d ρ1 v H1 q1 f1 E1 d1 => ?_
  unfold boolF at q1
  split at q1
  · next c =>
    cases d1
    refine ⟨_, rfl, ?_⟩
    cases c
    · exact hb O as σ H1 _ ρ1 _ E1 q1 fun b ρ2 v H2 q2 f2 E2 => k _ _ _ _ q2 (f1.trans f2) E2
    · exact k _ _ _ _ q1 f1 E1 (.bl _)
  · exact q1.elim
theorem re_not {t : TE} {a : FE} (ha : RE K J t a) : RE K J (tNotV t) (fNotV a) := by
  intro O as σ H Q ρ P E q k
  refine ha O as σ H _ ρ _ E q fun d ρ1 v H1 q1 f1 E1 d1 => ?_
  unfold boolF at q1
  split at q1
  · cases d1
    exact ⟨_, rfl, k _ _ _ _ q1 f1 E1 (.bl _)⟩
  · exact q1.elim
def fIf (c : FT) (a b : FE) : FE := fun ρ P => c ρ fun k ρ1 => if k = true then a ρ1 P else b ρ1 P
theorem re_if {t : TT} {ta tb : TE} {c : FT} {a b : FE} (hc : RT K J t c) (ha : RE K J ta a) (hb : RE K J tb b) : RE K J (tIf t ta tb) (fIf c a b) := by
  intro O as σ H Q ρ P E q k
  refine hc O as σ H _ ρ _ E q fun c ρ1 H1 q1 f1 E1 => ?_
  cases c
  · exact hb O as σ H1 _ ρ1 _ E1 q1 fun b ρ2 v H2 q2 f2 E2 => k _ _ _ _ q2 (f1.trans f2) E2
  · exact ha O as σ H1 _ ρ1 _ E1 q1 fun b ρ2 v H2 q2 f2 E2 => k _ _ _ _ q2 (f1.trans f2) E2
def fChain (g g' : PyData → PyData → (PyData → Prop) → Prop) (a b c : FE) : FE := fun ρ P => a ρ fun x ρ1 => b ρ1 fun y ρ2 => g x y fun z => boolF z fun k => if k = true then c ρ2 fun w ρ3 => g' y w fun d => P d ρ3 else P (.bool false) ρ2
theorem re_chain {r r' : R2} {g g' : PyData → PyData → (PyData → Prop) → Prop} {ta tb tc : TE} {fa fb fc : FE} (hr : RR K r g) (hr' : RR K r' g') (ha : RE K J ta fa) (hb : RE K J tb fb) (hc : RE K J tc fc) : RE K J (tChain r r' ta tb tc) (fChain g g' fa fb fc) := by
  intro O as σ H Q ρ P E q k
  refine ha O as σ H _ ρ _ E q fun a ρ1 x H1 q1 f1 E1 d1 => ?_
  refine hb O as σ H1 _ ρ1 _ E1 q1 fun b ρ2 y H2 q2 f2 E2 d2 => ?_
  refine hr (Hid O as H2) H2 _ x y a b _ (fun c h => E2.full h) (d1.fr f2) d2 q2 fun d v H3 p s3 d3 => ?_
  unfold boolF at p
  split at p
  · next c =>
    cases d3
    refine ⟨_, rfl, ?_⟩
    have E3 := E2.grow s3
    have f3 := (f1.trans f2).trans (E2.frS s3)
    cases c
    · exact k _ _ _ _ p f3 E3 (.bl _)
    · refine hc O as σ _ _ ρ2 _ E3 p fun e ρ4 w H4 q4 f4 E4 d4 => ?_
      refine hr' (Hid O as H4) H4.hp _ y w b e _ (fun c h => E4.full h) ((d2.mono (E2.hgrow s3)).fr f4) d4 q4 fun d v H5 p s5 d5 => ?_
      exact k _ _ _ _ p ((f3.trans f4).trans (E4.frS s5)) (E4.grow s5) (d5.mono (E4.toS s5))
  · exact p.elim
/-! stores -/
def gN (i : Nat) : FG := fun d ρ P => slotF ρ i = true ∧ P (ρ.set i (.fz d))
theorem rg_name {i : Nat} : RG K J [i] (gName i) (gN i) := fun O as σ H R ρ P v d E q f k => k _ _ H f.2 (Fr.refl) (E.setFz f.1 q) ⟨List.length_set, fun j hj => by
  rw [List.getElem?_set, if_neg (fun z => hj (by simp [z]))]⟩
def gsNil : FGs := fun ds ρ P => ds = [] ∧ P ρ
def gsCons (a : FG) (b : FGs) : FGs := fun ds ρ P => match ds with
  | d :: r => a d ρ fun ρ1 => b r ρ1 P
  | [] => False
theorem rgs_nil : RGs K J [] gNil gsNil := by
  intro O as σ H R ρ P vs ds E q f k
  obtain ⟨rfl, f⟩ := f
  cases q
  exact ⟨rfl, k _ _ H f (Fr.refl) E ⟨rfl, fun _ _ => rfl⟩⟩
theorem rgs_cons {us ws : List Nat} {g : TG} {gs : TGs} {a : FG} {b : FGs} (ha : RG K J us g a) (hb : RGs K J ws gs b) : RGs K J (us ++ ws) (gCons g gs) (gsCons a b) := by
  intro O as σ H R ρ P vs ds E q f k
  cases q with
  | nil => exact f.elim
  | cons q1 q2 =>
    refine ⟨_, _, rfl, ?_⟩
    refine ha O as σ H _ ρ _ _ _ E q1 f fun ρ1 σ1 H1 p1 f1 E1 z1 => ?_
    exact hb O as σ1 H1 _ ρ1 _ _ _ E1 (q2.fr f1) p1 fun ρ2 σ2 H2 p2 f2 E2 z2 => k _ _ _ p2 (f1.trans f2) E2 ⟨z2.1.trans z1.1, fun j hj => by
      rw [List.mem_append, not_or] at hj
      rw [z2.2 j hj.2, z1.2 j hj.1]⟩
def gT (m : Nat) (b : FGs) : FG := fun d ρ P => match d with
  | .tuple ds => ds.length = m ∧ b ds ρ P
  | _ => False
theorem rg_tup {ws : List Nat} {m : Nat} {gs : TGs} {b : FGs} (h : RGs K J ws gs b) : RG K J ws (gTup K m gs) (gT m b) := by
  intro O as σ H R ρ P v d E q f k
  unfold gT at f
  split at f
  · obtain ⟨a, xs, rfl, s, r⟩ := q.tuple_of
    exact ⟨_, _, rfl, SqT.mono hp_same s, by rw [r.length]; exact f.1, h O as σ H _ ρ _ _ _ E r f.2 k⟩
  · exact f.elim
/-! statements -/
def fSeq (a b : FS) : FS := fun E ρ => a { E with nx := b E } ρ
theorem rs_seq {t u : TS} {a b : FS} (ha : RS K J t a) (hb : RS K J u b) : RS K J (tSeq t u) (fSeq a b) := by
  intro O as σ H D ρ E R f C
  refine ha O as σ H _ ρ _ R f ⟨fun ρ' as' σ' H' p x R' => ?_, C.rt, C.bk, C.ct, C.ro⟩
  exact hb O as' σ' H' D ρ' E R' p (C.ext x)
def fNext : FS := fun E ρ => E.nx ρ
theorem rs_next : RS K J tNext fNext := fun O as σ H D ρ E R f C => C.nx ρ as σ H f .refl R
def fAsg (a : FE) (g : FG) : FS := fun E ρ => a ρ fun d ρ1 => g d ρ1 E.nx
theorem rs_asg {ws : List Nat} {te : TE} {g : TG} {a : FE} {b : FG} (ha : RE K J te a) (hg : RG K J ws g b) : RS K J (tAsg te g) (fAsg a b) := by
  intro O as σ H D ρ E R f C
  refine ha O as σ H _ ρ _ R f fun d ρ1 v H1 q1 f1 E1 d1 => ?_
  refine hg O as σ H1 _ ρ1 _ v d E1 d1 q1 fun ρ2 σ2 H2 p2 f2 E2 _ => ?_
  exact C.nx _ _ _ _ p2 (.of (f1.trans f2)) E2
def fRet (a : FE) : FS := fun E ρ => a ρ E.rt
theorem rs_ret {te : TE} {a : FE} (ha : RE K J te a) : RS K J (tRet te) (fRet a) := by
  intro O as σ H D ρ E R f C
  exact ha O as σ H _ ρ _ R f fun d ρ1 v H1 q1 f1 E1 d1 => C.rt _ _ _ _ _ _ q1 (.of f1) E1 d1
def fRetN : FS := fun E ρ => E.rt .none ρ
theorem rs_retN : RS K J tRetN fRetN := fun O as σ H D ρ E R f C => C.rt _ _ _ _ _ _ f .refl R .non
def fDrop (a : FE) : FS := fun E ρ => a ρ fun _ ρ1 => E.nx ρ1
theorem rs_drop {te : TE} {a : FE} (ha : RE K J te a) : RS K J (tDrop te) (fDrop a) := by
  intro O as σ H D ρ E R f C
  exact ha O as σ H _ ρ _ R f fun d ρ1 v H1 q1 f1 E1 d1 => C.nx _ _ _ _ q1 (.of f1) E1
def fIfS (c : FT) (a b : FS) : FS := fun E ρ => c ρ fun k ρ1 => if k = true then a E ρ1 else b E ρ1
theorem rs_if {c : TT} {t u : TS} {fc : FT} {a b : FS} (hc : RT K J c fc) (ha : RS K J t a) (hb : RS K J u b) : RS K J (tIfS c t u) (fIfS fc a b) := by
  intro O as σ H D ρ E R f C
  refine hc O as σ H _ ρ _ R f fun k ρ1 H1 q1 f1 E1 => ?_
  cases k
  · exact hb O as σ H1 D ρ1 E E1 q1 (C.ext (.of f1))
  · exact ha O as σ H1 D ρ1 E E1 q1 (C.ext (.of f1))
def fNever : FS := fun _ _ => False
theorem rs_never : RS K J tNever fNever := fun O as σ H D ρ E R f C => f.elim
def fBreak : FS := fun E ρ => E.bk ρ
theorem rs_break : RS K J tBreak fBreak := fun O as σ H D ρ E R f C => C.bk ρ as σ H f .refl R
def fCont : FS := fun E ρ => E.ct ρ
theorem rs_cont : RS K J tCont fCont := fun O as σ H D ρ E R f C => C.ct ρ as σ H f .refl R
def fPar (i j : Nat) (a : FA) : FS := fun E ρ => a ρ fun ds ρ1 => match ds with
  | [x, y] => gN i x ρ1 fun ρ2 => gN j y ρ2 E.nx
  | _ => False
theorem rs_par {i j : Nat} {t : TA} {a : FA} (ha : RA K J t a) : RS K J (tPar i j t) (fPar i j a) := by
  intro O as σ H D ρ E R f C
  refine ha O as σ H _ ρ _ R f fun ds ρ1 vs H1 q1 f1 E1 d1 => ?_
  split at q1
  · cases d1 with
    | cons d1 r => cases r with
      | cons d2 r =>
        cases r
        refine ⟨_, _, rfl, ?_⟩
        exact C.nx _ _ _ _ q1.2.2 (.of f1) ((E1.setFz q1.1 d1).setFz q1.2.1 d2)
  · exact q1.elim
/-- an own list that is so from now on -/
def fFreeze (i : Nat) (a : FS) : FS := fun E ρ => match ρ[i]? with
  | some (.own ds) => a E (ρ.set i (.fz (.list ds)))
  | _ => a E ρ
theorem rs_freeze {i : Nat} {t : TS} {a : FS} (hi : n ≤ i) (ha : RS K J t a) : RS K J t (fFreeze i a) := by
  intro O as σ H D ρ E R f C
  unfold fFreeze at f
  split at f
  · next ds h =>
    refine ha O _ σ H D _ E (R.freeze hi h) f (C.ext (Ext.go hi (R.nst_at (R.lt h fun _ z => by cases z))))
  · exact ha O as σ H D ρ E R f C
/-- a new list into a slot, its own -/
def fOwn (i : Nat) (a : FA) : FS := fun E ρ => a ρ fun ds ρ1 => slotL ρ1 i = true ∧ E.nx (ρ1.set i (.own ds))
theorem rs_own {i : Nat} {te : TE} {a : FA} (hi : n ≤ i) (ha : RN K J te a) : RS K J (tAsg te (gName i)) (fOwn i a) := by
  intro O as σ H D ρ E R f C
  refine ha O as σ H _ ρ _ R f fun ds ρ1 p xs H2 q1 f1 hp1 E1 hp2 d1 => ?_
  have x : Ext n as (upA as i (some (.lf p))) H H2 := ⟨f1.fr, fun a q => by
    rcases q.up with ⟨r, e, q⟩ | q
    · cases e
      rw [q.lf_of]
      exact hp1.symm
    · exact f1.new a q, fun j hj => upA_ne (by omega), f1.liv, upA_ks (E1.nst_at (E1.ltB q1.1)) (fun z => by cases z), f1.nst⟩
  have E2 := E1.setOwn R.inq (E1.ltB q1.1) (J.cl _ _ _ _ R.inv x) hp2 d1 fun z => R.notO E1 hp1 hp2 z
  exact C.nx _ _ _ _ q1.2 x E2
end
end DL
/-! loops, comprehensions, calls -/
namespace DL
open PySem L2 Z
variable [Tbs]
/-- what is gone through: the data of each turn -/
def IsIt (K : PySem.W.Frag) (A : Addr → Prop) (J : It) (H : Hp) (ds : List PyData) : Prop := ∃ (G : Hp → Prop) (Y : Nat → Hp → V → Hp → Prop), Walk J ds.length G Y ∧ (∀ (A' : Addr → Prop) (H1 : Hp), Same (hp A H) (hp A' H1) → G H1) ∧
  ∀ (i : Nat) (d : PyData) (A' : Addr → Prop) (H1 : Hp) (x : V) (H2 : Hp), ds[i]? = some d → Same (hp A H) (hp A' H1) → (∀ c, A' c → H1 c ≠ none) → Y i H1 x H2 → Same H1 H2 ∧ Dq K (hp A' H2) x d
def RI (K : PySem.W.Frag) {n : Nat} (J : Jv n) (wi : TI) (f : FA) : Prop := ∀ (O : Addr → Prop) (as : As) (σ : L2.St) (H : Hs) (R : It → Hp → Prop) (ρ : En) (P : List PyData → En → Prop), EnR K J O as H ρ σ → f ρ P →
  (∀ ds ρ' I H', P ds ρ' → Fr as H H' → EnR K J O as H' ρ' σ → IsIt K (Hid O as H') I H' ds → R I H') → wi σ H R
section
variable {K : PySem.W.Frag} {n : Nat} {J : Jv n}
def listF (a : PyData) (k : List PyData → Prop) : Prop := match a with
  | .list ds => k ds
  | _ => False
def tupleF (a : PyData) (k : List PyData → Prop) : Prop := match a with
  | .tuple ds => k ds
  | _ => False
def intF (a : PyData) (k : Int → Prop) : Prop := match a with
  | .int i => k i
  | _ => False
def iL (f : FE) : FA := fun ρ P => f ρ fun d ρ1 => listF d fun ds => P ds ρ1
theorem ri_list {tl : TE} {f : FE} (h : RE K J tl f) : RI K J (iList K tl) (iL f) := by
  intro O as σ H R ρ P E q k
  refine h O as σ H _ ρ _ E q fun d ρ1 v H1 q1 f1 E1 d1 => ?_
  unfold listF at q1
  split at q1
  · next ds =>
    obtain ⟨a, xs, rfl, s, r⟩ := d1.list_of
    refine ⟨a, rfl, ⟨_, SqL.mono hp_same s⟩, k _ _ _ _ q1 f1 E1 ?_⟩
    refine ⟨_, _, by rw [← r.length]; exact walk_list (xs := xs), fun A' H2 s2 => SqL.mono hp_same (SqL.mono s2 s), fun i d A' H2 x H3 hd s2 oc y => ?_⟩
    obtain ⟨rfl, hx⟩ := y
    obtain ⟨d', e, q⟩ := r.get hx
    rw [hd] at e
    cases e
    exact ⟨Same.refl _, q.mono s2⟩
  · exact q1.elim
def iT (f : FE) : FA := fun ρ P => f ρ fun d ρ1 => tupleF d fun ds => P ds ρ1
theorem ri_tup {tl : TE} {f : FE} (h : RE K J tl f) : RI K J (iTup K tl) (iT f) := by
  intro O as σ H R ρ P E q k
  refine h O as σ H _ ρ _ E q fun d ρ1 v H1 q1 f1 E1 d1 => ?_
  unfold tupleF at q1
  split at q1
  · next ds =>
    obtain ⟨a, xs, rfl, s, r⟩ := d1.tuple_of
    refine ⟨a, rfl, ⟨_, SqT.mono hp_same s⟩, k _ _ _ _ q1 f1 E1 ?_⟩
    refine ⟨_, _, by rw [← r.length]; exact walk_tup (xs := xs), fun A' H2 s2 => SqT.mono hp_same (SqT.mono s2 s), fun i d A' H2 x H3 hd s2 oc y => ?_⟩
    obtain ⟨rfl, hx⟩ := y
    obtain ⟨d', e, q⟩ := r.get hx
    rw [hd] at e
    cases e
    exact ⟨Same.refl _, q.mono s2⟩
  · exact q1.elim
def signs (z : Str) : List PyData := z.cps.toList.map fun c => .str ⟨#[c]⟩
def iS (f : FE) : FA := fun ρ P => f ρ fun d ρ1 => strF d fun z => P (signs z) ρ1
theorem ri_str {te : TE} {f : FE} (h : RE K J te f) : RI K J (iStr te) (iS f) := by
  intro O as σ H R ρ P E q k
  refine h O as σ H _ ρ _ E q fun d ρ1 v H1 q1 f1 E1 d1 => ?_
  unfold strF at q1
  split at q1
  · next z =>
    cases d1
    refine ⟨z, rfl, k _ _ _ _ q1 f1 E1 ?_⟩
    refine ⟨_, _, by rw [signs, List.length_map, Array.length_toList]; exact walk_str (z := z), fun _ _ _ => trivial, fun i d A' H2 x H3 hd s2 oc y => ?_⟩
    obtain ⟨rfl, c, hc, rfl⟩ := y
    rw [signs, List.getElem?_map, Array.getElem?_toList, hc] at hd
    cases hd
    exact ⟨Same.refl _, .str _⟩
  · exact q1.elim
def rangeD (lo : Int) (m : Nat) : List PyData := (List.range m).map fun k : Nat => .int (lo + (k : Int))
theorem isIt_range {A : Addr → Prop} {H : Hp} {lo : Int} {m : Nat} : IsIt K A (Itr lo m) H (rangeD lo m) := by
  refine ⟨_, _, by rw [rangeD, List.length_map, List.length_range]; exact walk_range (lo := lo) (n := m), fun _ _ _ => trivial, fun i d A' H2 x H3 hd s2 oc y => ?_⟩
  obtain ⟨rfl, rfl⟩ := y
  rw [rangeD, List.getElem?_map] at hd
  have hi : i < m := by
    by_cases h : i < m
    · exact h
    · rw [List.getElem?_eq_none (by rw [List.length_range]; omega)] at hd; cases hd
  rw [List.getElem?_range hi] at hd
  cases hd
  exact ⟨Same.refl _, .int _⟩
def iR1 (f : FA) : FA := fun ρ P => f ρ fun ds ρ1 => match ds with
  | [.int j] => -(2 ^ 62) ≤ j ∧ j < 2 ^ 62 ∧ P (rangeD 0 j.toNat) ρ1
  | _ => False
theorem ri_rng1 {ta : TA} {f : FA} (h : RA K J ta f) : RI K J (iRng1 ta) (iR1 f) := by
  intro O as σ H R ρ P E q k
  refine h O as σ H _ ρ _ E q fun ds ρ1 vs H1 q1 f1 E1 d1 => ?_
  split at q1
  · cases d1 with
    | cons a b => cases a; cases b; exact ⟨_, rfl, q1.1, q1.2.1, k _ _ _ _ q1.2.2 f1 E1 isIt_range⟩
  · exact q1.elim
def iR2 (f : FA) : FA := fun ρ P => f ρ fun ds ρ1 => match ds with
  | [.int i, .int j] => (-(2 ^ 62) ≤ i ∧ i < 2 ^ 62 ∧ -(2 ^ 62) ≤ j ∧ j < 2 ^ 62) ∧ P (rangeD i (j - i).toNat) ρ1
  | _ => False
theorem ri_rng2 {ta : TA} {f : FA} (h : RA K J ta f) : RI K J (iRng2 ta) (iR2 f) := by
  intro O as σ H R ρ P E q k
  refine h O as σ H _ ρ _ E q fun ds ρ1 vs H1 q1 f1 E1 d1 => ?_
  split at q1
  · cases d1 with
    | cons a b => cases a; cases b with
      | cons a b => cases a; cases b; exact ⟨_, _, rfl, q1.1, k _ _ _ _ q1.2 f1 E1 isIt_range⟩
  · exact q1.elim
def downD (lo : Int) (m : Nat) : List PyData := (List.range m).map fun k : Nat => .int (lo - (k : Int))
/-- range(i, j, -1) -/
def iR3 (f : FA) : FA := fun ρ P => f ρ fun ds ρ1 => match ds with
  | [.int i, .int j, .int c] => c = -1 ∧ (-(2 ^ 62) ≤ i ∧ i < 2 ^ 62 ∧ -(2 ^ 62) ≤ j ∧ j < 2 ^ 62) ∧ P (downD i (i - j).toNat) ρ1
  | _ => False
theorem ri_rng3 {ta : TA} {f : FA} (h : RA K J ta f) : RI K J (iRng3 ta) (iR3 f) := by
  intro O as σ H R ρ P E q k
  refine h O as σ H _ ρ _ E q fun ds ρ1 vs H1 q1 f1 E1 d1 => ?_
  split at q1
  · next i j c =>
    cases d1 with
    | cons a b => cases a; cases b with
      | cons a b => cases a; cases b with
        | cons a b =>
          cases a; cases b
          obtain ⟨rfl, ⟨b1, b2, b3, b4⟩, q1⟩ := q1
          refine ⟨_, _, _, _, rfl, RgC.neg b1 b2 b3 b4, k _ _ _ _ q1 f1 E1 ?_⟩
          refine ⟨_, _, by rw [downD, List.length_map, List.length_range]; exact walk_rangeC (lo := i) (c := -1) (n := (i - j).toNat), fun _ _ _ => trivial, fun l d A' H2 x H3 hd s2 oc y => ?_⟩
          obtain ⟨rfl, rfl⟩ := y
          rw [downD, List.getElem?_map] at hd
          have hi : l < (i - j).toNat := by
            by_cases h : l < (i - j).toNat
            · exact h
            · rw [List.getElem?_eq_none (by rw [List.length_range]; omega)] at hd; cases hd
          rw [List.getElem?_range hi] at hd
          cases hd
          refine ⟨Same.refl _, ?_⟩
          dsimp only
          rw [show i + (l : Int) * -1 = i - (l : Int) by omega]
          exact .int _
  · exact q1.elim
theorem yPair {A A' : Addr → Prop} {H H1 H2 : Hp} {T : Addr} {x y : V} {a b : PyData} (hT : H1 T = none) (e : H2 = upd H1 T (.tup [x, y])) (oc : ∀ c, A' c → H1 c ≠ none) (hx : Dq K (hp A' H1) x a) (hy : Dq K (hp A' H1) y b) :
    Same H1 H2 ∧ Dq K (hp A' H2) (.ref T) (.tuple [a, b]) := by
  subst e
  have s := Same.new (o := .tup [x, y]) hT
  exact ⟨s, .tup (SqT.of (hp_mk (fun q => oc _ q hT) upd_same)) (.cons (hx.mono (hp_grow s)) (.cons (hy.mono (hp_grow s)) .nil))⟩
def enumD (ds : List PyData) : List PyData := ds.zipIdx.map fun z => .tuple [.int (z.2 : Nat), z.1]
def iE (f : FA) : FA := fun ρ P => f ρ fun ds ρ1 => match ds with
  | [.list es] => P (enumD es) ρ1
  | _ => False
theorem ri_enum {ta : TA} {f : FA} (h : RA K J ta f) : RI K J (iEnum K ta) (iE f) := by
  intro O as σ H R ρ P E q k
  refine h O as σ H _ ρ _ E q fun ds ρ1 vs H1 q1 f1 E1 d1 => ?_
  split at q1
  · next es =>
    cases d1 with
    | cons d1 b =>
      cases b
      obtain ⟨a, xs, rfl, s, r⟩ := d1.list_of
      refine ⟨a, xs, rfl, SqL.mono hp_same s, k _ _ _ _ q1 f1 E1 ?_⟩
      refine ⟨_, _, by rw [enumD, List.length_map, List.length_zipIdx, ← r.length]; exact walk_enum (xs := xs), fun A' H2 s2 => SqL.mono hp_same (SqL.mono s2 s), fun i d A' H2 x H3 hd s2 oc y => ?_⟩
      obtain ⟨T, x1, y1, rfl, hT, e, e1, e2⟩ := y
      cases e1
      obtain ⟨d', e', q'⟩ := r.get e2
      rw [enumD, List.getElem?_map, List.getElem?_zipIdx, e'] at hd
      simp only [Option.map_some, Nat.zero_add] at hd
      cases hd
      exact yPair (A := fun _ => False) (H := H) hT e oc (.int _) (q'.mono s2)
  · exact q1.elim
def zipD (a b : List PyData) : List PyData := (a.zip b).map fun z => .tuple [z.1, z.2]
def iZ (f : FA) : FA := fun ρ P => f ρ fun ds ρ1 => match ds with
  | [.list es, .list gs] => P (zipD es gs) ρ1
  | [.tuple es, .tuple gs] => P (zipD es gs) ρ1
  | _ => False
theorem zipD_get {es gs : List PyData} {i : Nat} {d d1 d2 : PyData} (h : (zipD es gs)[i]? = some d) (h1 : es[i]? = some d1) (h2 : gs[i]? = some d2) : d = .tuple [d1, d2] := by
  rw [zipD, List.getElem?_map, (List.getElem?_zip_eq_some (z := (d1, d2))).mpr ⟨h1, h2⟩] at h
  cases h
  rfl
theorem zipD_len {es gs : List PyData} : (zipD es gs).length = min es.length gs.length := by rw [zipD, List.length_map, List.length_zip]
theorem ri_zip {ta : TA} {f : FA} (h : RA K J ta f) : RI K J (RZ.iZipA K ta) (iZ f) := by
  intro O as σ H R ρ P E q k
  refine h O as σ H _ ρ _ E q fun ds ρ1 vs H1 q1 f1 E1 d1 => ?_
  split at q1
  · next es gs =>
    cases d1 with
    | cons d1 b => cases b with
      | cons d2 b =>
        cases b
        obtain ⟨a, xs, rfl, s, r⟩ := d1.list_of
        obtain ⟨a', xs', rfl, s', r'⟩ := d2.list_of
        refine ⟨a, a', xs, xs', rfl, .inl ⟨SqL.mono hp_same s, SqL.mono hp_same s', k _ _ _ _ q1 f1 E1 ?_⟩⟩
        refine ⟨_, _, walk_zip (xs := xs) (ys := xs') (n := (zipD es gs).length) (by rw [zipD_len, ← r.length, ← r'.length]), fun A' H2 s2 => ⟨SqL.mono hp_same (SqL.mono s2 s), SqL.mono hp_same (SqL.mono s2 s')⟩, fun i d A' H2 x H3 hd s2 oc y => ?_⟩
        obtain ⟨T, x1, y1, rfl, hT, e, e1, e2⟩ := y
        obtain ⟨c1, g1, q1'⟩ := r.get e1
        obtain ⟨c2, g2, q2'⟩ := r'.get e2
        rw [zipD_get hd g1 g2]
        exact yPair (A := fun _ => False) (H := H) hT e oc (q1'.mono s2) (q2'.mono s2)
  · next es gs =>
    cases d1 with
    | cons d1 b => cases b with
      | cons d2 b =>
        cases b
        obtain ⟨a, xs, rfl, s, r⟩ := d1.tuple_of
        obtain ⟨a', xs', rfl, s', r'⟩ := d2.tuple_of
        refine ⟨a, a', xs, xs', rfl, .inr ⟨SqT.mono hp_same s, SqT.mono hp_same s', k _ _ _ _ q1 f1 E1 ?_⟩⟩
        refine ⟨_, _, walk_zipT (xs := xs) (ys := xs') (n := (zipD es gs).length) (by rw [zipD_len, ← r.length, ← r'.length]), fun A' H2 s2 => ⟨SqT.mono hp_same (SqT.mono s2 s), SqT.mono hp_same (SqT.mono s2 s')⟩, fun i d A' H2 x H3 hd s2 oc y => ?_⟩
        obtain ⟨T, x1, y1, rfl, hT, e, e1, e2⟩ := y
        obtain ⟨c1, g1, q1'⟩ := r.get e1
        obtain ⟨c2, g2, q2'⟩ := r'.get e2
        rw [zipD_get hd g1 g2]
        exact yPair (A := fun _ => False) (H := H) hT e oc (q1'.mono s2) (q2'.mono s2)
  · exact q1.elim
/-! for, while -/
/-- slots forgotten -/
def fgt (ρ : En) : List Nat → En
  | [] => ρ
  | v :: vs => fgt (if slotL ρ v then ρ.set v .no else ρ) vs
theorem EnR.forget1 {O : Addr → Prop} {as : As} {H : Hs} {ρ : En} {σ : L2.St} {v : Nat} (R : EnR K J O as H ρ σ) (hv : n ≤ v) : ∃ as', Ext n as as' H H ∧ EnR K J O as' H (if slotL ρ v then ρ.set v .no else ρ) σ := by
  have self : ∀ {ρ : En} {as : As}, EnR K J O as H ρ σ → slotF ρ v = true → EnR K J O as H (ρ.set v .no) σ := fun {ρ as} R h => by
    obtain ⟨sl, e, _, ns⟩ := slotF_of h
    obtain ⟨o, eo, _⟩ := R.at' e ns
    have := R.setNo h o
    rw [show σ.set v o = σ from by
      refine List.ext_getElem? fun j => ?_
      rw [List.getElem?_set]
      by_cases z : v = j
      · subst z
        rw [if_pos rfl, eo, if_pos (List.getElem?_eq_some_iff.mp eo).1]
      · rw [if_neg z]] at this
    exact this
  cases e : ρ[v]? with
  | none =>
    rw [if_neg (by unfold slotL; rw [e]; exact Bool.false_ne_true)]
    exact ⟨as, .refl, R⟩
  | some sl =>
    by_cases st : ∃ S, sl = .st S
    · obtain ⟨S, rfl⟩ := st
      rw [if_neg (by unfold slotL; rw [e]; exact Bool.false_ne_true)]
      exact ⟨as, .refl, R⟩
    have ns : ∀ S, sl ≠ .st S := fun S z => st ⟨S, z⟩
    rw [if_pos (by
      unfold slotL
      rw [e]
      cases sl with
      | st S => exact absurd rfl (ns S)
      | _ => rfl)]
    cases sl with
    | no => exact ⟨as, .refl, self R (by unfold slotF; rw [e])⟩
    | fz d => exact ⟨as, .refl, self R (by unfold slotF; rw [e])⟩
    | own ds =>
      obtain ⟨o, eo, _⟩ := R.at' e ns
      exact ⟨_, Ext.go hv (R.nst_at (R.lt e ns)), R.letGo hv eo .no⟩
    | st S => exact absurd rfl (ns S)
theorem EnR.forget {O : Addr → Prop} {H : Hs} {σ : L2.St} : ∀ (vs : List Nat) {as : As} {ρ : En}, EnR K J O as H ρ σ → (∀ v ∈ vs, n ≤ v) → ∃ as', Ext n as as' H H ∧ EnR K J O as' H (fgt ρ vs) σ
  | [], as, ρ, R, _ => ⟨as, .refl, R⟩
  | v :: vs, as, ρ, R, h => by
    obtain ⟨a1, x1, R1⟩ := R.forget1 (h v (List.mem_cons_self ..))
    obtain ⟨a2, x2, R2⟩ := EnR.forget vs R1 (fun u hu => h u (List.mem_cons_of_mem _ hu))
    exact ⟨a2, x1.trans x2, R2⟩
/-- a loop over data from now on; the slots us are forgotten at each turn's end -/
def forW (us : List Nat) (ds : List PyData) (g : FG) (b : FS) (E : FEnds) (ρ : En) : Prop := ∃ W : Nat → En → Prop, W 0 (fgt ρ us) ∧ (∀ i d ρ2, ds[i]? = some d → W i ρ2 → g d ρ2 fun ρ3 => b { E with nx := fun ρ4 => W (i + 1) (fgt ρ4 us), ct := fun ρ4 => W (i + 1) (fgt ρ4 us), bk := E.nx } ρ3) ∧ ∀ ρ2, W ds.length ρ2 → E.nx ρ2
def fFor (us : List Nat) (fi : FA) (g : FG) (b : FS) : FS := fun E ρ => fi ρ fun ds ρ1 => forW us ds g b E ρ1
theorem rs_for {us ws : List Nat} {wi : TI} {g : TG} {tb : TS} {fi : FA} {fg : FG} {b : FS} (hu : ∀ u ∈ us, n ≤ u) (hi : RI K J wi fi) (hg : RG K J ws g fg) (hb : RS K J tb b) : RS K J (tFor wi g tb) (fFor us fi fg b) := by
  intro O as σ H D ρ E R f C
  refine hi O as σ H _ ρ _ R f fun ds ρ1 I H1 q1 f1 E1 it => ?_
  obtain ⟨W, w0, ws', we⟩ := q1
  obtain ⟨G, Y, wk, hG, hY⟩ := it
  have C1 := C.ext (.of f1)
  obtain ⟨a0, x0, R0⟩ := E1.forget us hu
  refine for_it wk (fun i σ' H' => ∃ S' as' ρ', Ext n as as' H1 ⟨H', S'⟩ ∧ EnR K J O as' ⟨H', S'⟩ ρ' σ' ∧ W i ρ') ⟨_, a0, _, x0, R0, w0⟩ (fun i σ' H' _ ⟨S', as', ρ', x, _, _⟩ => hG (Hid O as' ⟨H', S'⟩) _ x.same) ?_ ?_
  · rintro i x σ2 H2' H3 hi' ⟨S2, as', ρ', x2, E2, w⟩ y
    obtain ⟨H2, hH2⟩ : ∃ H2 : Hs, H2 = ⟨H2', S2⟩ := ⟨_, rfl⟩
    rw [← hH2] at x2 E2
    have y' := y
    rw [show H2' = H2.hp from by rw [hH2]] at y
    obtain ⟨s3, d3⟩ := hY i _ (Hid O as' H2) H2 x H3 (List.getElem?_eq_getElem hi') x2.same (fun c h => E2.full h) y
    have x3 : Ext n as' as' H2 (H2.w H3) := .of (E2.frS s3)
    refine hg O as' σ2 (H2.w H3) _ ρ' _ x _ (E2.grow s3) (d3.mono (E2.toS s3)) (ws' i _ ρ' (List.getElem?_eq_getElem hi') w) fun ρ4 σ4 H4 p4 f4 E4 _ => ?_
    have x4 := (x2.trans x3).trans (Ext.of (n := n) f4)
    have C4 := C1.ext x4
    have fin : ∀ ρ5 as5 σ5 H5, W (i + 1) (fgt ρ5 us) → Ext n as' as5 H4 H5 → EnR K J O as5 H5 ρ5 σ5 → ∃ S' as' ρ', Ext n as as' H1 ⟨H5.hp, S'⟩ ∧ EnR K J O as' ⟨H5.hp, S'⟩ ρ' σ5 ∧ W (i + 1) ρ' := fun ρ5 as5 σ5 H5 p5 x5 E5 => by
      obtain ⟨a6, x6, R6⟩ := E5.forget us hu
      exact ⟨H5.st, a6, _, (x4.trans x5).trans x6, R6, p5⟩
    refine hb O as' σ4 H4 _ ρ4 _ E4 p4 ⟨fin, C4.rt, C4.nx, fin, C4.ro⟩
  · rintro σ2 H2 ⟨S2, as', ρ', x2, E2, w⟩
    exact C1.nx _ _ _ _ (we _ w) x2 E2
def whileW (us : List Nat) (c : FT) (b : FS) (E : FEnds) (ρ : En) : Prop := ∃ W : Nat → En → Prop, (∃ m, W m (fgt ρ us)) ∧ ∀ m ρ1, W m ρ1 → c ρ1 fun k ρ2 => if k = true then b { E with nx := fun ρ' => ∃ m', m' < m ∧ W m' (fgt ρ' us), ct := fun ρ' => ∃ m', m' < m ∧ W m' (fgt ρ' us), bk := E.nx } ρ2 else E.nx ρ2
def fWhile (us : List Nat) (c : FT) (b : FS) : FS := fun E ρ => whileW us c b E ρ
theorem rs_while {us : List Nat} {c : TT} {tb : TS} {fc : FT} {b : FS} (hu : ∀ u ∈ us, n ≤ u) (hc : RT K J c fc) (hb : RS K J tb b) : RS K J (tWhile c tb) (fWhile us fc b) := by
  intro O as σ H D ρ E R f C
  obtain ⟨W, ⟨m0, w0⟩, st⟩ := f
  obtain ⟨a0, x0, R0⟩ := R.forget us hu
  refine ⟨fun m σ' H' => ∃ S' as' ρ', Ext n as as' H ⟨H', S'⟩ ∧ EnR K J O as' ⟨H', S'⟩ ρ' σ' ∧ W m ρ', ⟨m0, _, a0, _, x0, R0, w0⟩, ?_⟩
  rintro m σ1 H1' ⟨S1, as1, ρ1, x1, E1, w⟩
  refine hc O as1 σ1 ⟨H1', S1⟩ _ ρ1 _ E1 (st m ρ1 w) fun k ρ2 H2 q2 f2 E2 => ?_
  have x2 := x1.trans (Ext.of (n := n) f2)
  cases k
  · exact C.nx _ _ _ _ q2 x2 E2
  · refine ⟨fun σ' H' => ∃ m', m' < m ∧ ∃ S' as' ρ', Ext n as as' H ⟨H', S'⟩ ∧ EnR K J O as' ⟨H', S'⟩ ρ' σ' ∧ W m' ρ', fun σ' H' h => h, ?_⟩
    have C2 := C.ext x2
    have fin : ∀ ρ5 as5 σ5 H5, (∃ m', m' < m ∧ W m' (fgt ρ5 us)) → Ext n as1 as5 H2 H5 → EnR K J O as5 H5 ρ5 σ5 → ∃ m', m' < m ∧ ∃ S' as' ρ', Ext n as as' H ⟨H5.hp, S'⟩ ∧ EnR K J O as' ⟨H5.hp, S'⟩ ρ' σ5 ∧ W m' ρ' := fun ρ5 as5 σ5 H5 ⟨m', hm, p5⟩ x5 E5 => by
      obtain ⟨a6, x6, R6⟩ := E5.forget us hu
      exact ⟨m', hm, H5.st, a6, _, (x2.trans x5).trans x6, R6, p5⟩
    exact hb O as1 σ1 H2 _ ρ2 _ E2 q2 ⟨fin, C2.rt, C2.nx, fin, C2.ro⟩
/-! comprehensions -/
def wipeF (ρ : En) : List Nat → En
  | [] => ρ
  | v :: vs => (wipeF ρ vs).set v .no
theorem wipe_at (σ : L2.St) (j : Nat) : ∀ vs : List Nat, (wipe σ vs)[j]? = if j ∈ vs ∧ j < σ.length then some none else σ[j]?
  | [] => by simp [wipe]
  | v :: vs => by
    rw [wipe, List.getElem?_set, wipe_length, wipe_at σ j vs]
    by_cases e : v = j
    · subst e
      by_cases h : v < σ.length
      · simp [h]
      · simp [h]
    · rw [if_neg e]
      simp [show ¬ j = v from fun z => e z.symm]
theorem wipe_eq {σ σ' : L2.St} {vs : List Nat} (hl : σ'.length = σ.length) (h : ∀ j, j ∉ vs → σ'[j]? = σ[j]?) : wipe σ' vs = wipe σ vs := by
  refine List.ext_getElem? fun j => ?_
  rw [wipe_at, wipe_at, hl]
  by_cases q : j ∈ vs
  · by_cases z : j < σ.length
    · rw [if_pos ⟨q, z⟩, if_pos ⟨q, z⟩]
    · rw [if_neg (fun w => z w.2), if_neg (fun w => z w.2), List.getElem?_eq_none (by omega), List.getElem?_eq_none (by omega)]
  · rw [if_neg (fun w => q w.1), if_neg (fun w => q w.1)]
    exact h j q
theorem slotF_set {ρ : En} {i j : Nat} (h : slotF ρ j = true) : slotF (ρ.set i .no) j = true := by
  obtain ⟨sl, q, _⟩ := slotF_of h
  have hj : j < ρ.length := (List.getElem?_eq_some_iff.mp q).1
  unfold slotF at *
  rw [List.getElem?_set]
  by_cases e : i = j
  · subst e
    simp [hj]
  · rw [if_neg e]
    exact h
theorem EnR.wipes {O : Addr → Prop} {as : As} {H : Hs} {ρ : En} {σ : L2.St} (E : EnR K J O as H ρ σ) : ∀ vs : List Nat, vs.all (slotF ρ) = true → EnR K J O as H (wipeF ρ vs) (wipe σ vs) ∧ ∀ j, slotF ρ j = true → slotF (wipeF ρ vs) j = true
  | [], _ => ⟨E, fun _ h => h⟩
  | v :: vs, h => by
    have h' : (slotF ρ v && vs.all (slotF ρ)) = true := h
    rw [Bool.and_eq_true] at h'
    obtain ⟨E1, k⟩ := EnR.wipes E vs h'.2
    exact ⟨E1.setNo (k v h'.1) none, fun j hj => slotF_set (k j hj)⟩
theorem wipeF_len (ρ : En) : ∀ vs : List Nat, (wipeF ρ vs).length = ρ.length
  | [] => rfl
  | v :: vs => by rw [wipeF, List.length_set, wipeF_len ρ vs]
theorem wipeF_at (ρ : En) (j : Nat) : ∀ vs : List Nat, (wipeF ρ vs)[j]? = if j ∈ vs ∧ j < ρ.length then some .no else ρ[j]?
  | [] => by simp [wipeF]
  | v :: vs => by
    rw [wipeF, List.getElem?_set, wipeF_len, wipeF_at ρ j vs]
    by_cases e : v = j
    · subst e
      by_cases h : v < ρ.length
      · simp [h]
      · simp [h]
    · rw [if_neg e]
      simp [show ¬ j = v from fun z => e z.symm]
/-- slots that are known of nothing may hold anything -/
theorem EnR.unwipe {O : Addr → Prop} {as : As} {H : Hs} {ρ : En} {σ σ' : L2.St} {vs : List Nat} (E : EnR K J O as H (wipeF ρ vs) (wipe σ vs)) (h : ∀ j, j ∈ vs → as j = none) (hl : σ'.length = σ.length) (h' : ∀ j, j ∉ vs → σ'[j]? = σ[j]?) :
    EnR K J O as H (wipeF ρ vs) σ' := by
  have L := E.len
  rw [wipeF_len, wipe_length] at L
  refine ⟨by rw [wipeF_len, hl]; exact L, fun j sl h1 h2 => E.tl j sl h1 (by rw [wipe_length, ← hl]; exact h2), fun j sl o h1 h2 => ?_, fun j h => by rw [hl, ← wipe_length σ vs]; exact E.sto j h, E.inj, E.out, E.bnd, E.occ, E.inv, E.inq, E.tab⟩
  by_cases q : j ∈ vs
  · rw [wipeF_at] at h1
    have hj : j < ρ.length := by
      have := (List.getElem?_eq_some_iff.mp h2).1
      omega
    rw [if_pos ⟨q, hj⟩] at h1
    cases h1
    rw [h j q]
    exact .no
  · refine E.at_ j sl o h1 ?_
    rw [wipe_at, if_neg (fun w => q w.1), ← h' j q]
    exact h2
/-- since a state in which nothing was at D -/
def Jv.hide {n : Nat} (J : Jv n) (D : Addr) : Jv n := ⟨fun as H => ∃ as0 H0, J.P as0 H0 ∧ H0 D = none ∧ Ext n as0 as H0 H, fun as as' H H' p x => by
  obtain ⟨a0, H0, h1, h2, h3⟩ := p
  exact ⟨a0, H0, h1, h2, h3.trans x⟩, J.Q, J.up⟩
theorem Jv.hide_le {n : Nat} {J : Jv n} {D : Addr} : (J.hide D).le J := ⟨fun _ _ ⟨_, _, h, _, x⟩ => J.cl _ _ _ _ h x, fun _ h => h⟩
theorem Jv.hide_new {n : Nat} {J : Jv n} {D : Addr} {as : As} {H H' : Hs} (h : J.P as H) (e : H D = none) (f : Fr as H H') : (J.hide D).P as H' := ⟨as, H, h, e, .of f⟩
theorem Ext.putN {n : Nat} {as as' : As} {H H' : Hs} {D : Addr} {o : HO} (x : Ext n as as' H H') (e : H D = none) (st : Stay as' H' (H'.w (upd H' D o))) : Ext n as as' H (H'.w (upd H' D o)) :=
  ⟨fun a u na h => by show upd H' D o a = _; rw [upd_ne (ne_of_none h e)]; exact x.fr a u na h, fun a h => x.new a (st.own.mp h), x.fix, fun a h => liv_upd _ a (x.liv a h), x.ks, x.nst⟩
theorem Fr.putN {as : As} {H H' : Hs} {D : Addr} {o : HO} (x : Fr as H H') (e : H D = none) (st : Stay as H' (H'.w (upd H' D o))) : Fr as H (H'.w (upd H' D o)) := by
  have y := (Ext.of (n := 0) x).putN e st
  exact ⟨y.fr, y.new, y.liv, y.nst⟩
theorem EnR.stayO {O : Addr → Prop} {as : As} {H : Hs} {ρ : En} {σ : L2.St} {D : Addr} {o : HO} (E : EnR K J O as H ρ σ) (h : O D) : Stay as H (H.w (upd H D o)) := ⟨fun i r b e q => upd_ne fun z => E.out i r b e q (by rw [z]; exact h), rfl⟩
theorem Jv.hide_put {n : Nat} {J : Jv n} {D : Addr} {as : As} {H : Hs} {o : HO} (h : (J.hide D).P as H) (st : Stay as H (H.w (upd H D o))) : (J.hide D).P as (H.w (upd H D o)) := by
  obtain ⟨a0, H0, h1, h2, h3⟩ := h
  exact ⟨a0, H0, h1, h2, h3.putN h2 st⟩
def lcW (ds : List PyData) (g : FG) (ft : FT) (fe : FE) (vs : List Nat) (ρ : En) (P : List PyData → En → Prop) : Prop := vs.all (slotF ρ) = true ∧ ∃ W : Nat → List PyData → En → Prop, W 0 [] (wipeF ρ vs) ∧
  (∀ i d acc ρ2, ds[i]? = some d → W i acc ρ2 → g d ρ2 fun ρ3 => ft ρ3 fun b ρ4 => if b = true then fe ρ4 fun y ρ5 => acc.length < sizeLine ∧ vs.all (slotF ρ5) = true ∧ W (i + 1) (acc ++ [y]) (wipeF ρ5 vs) else vs.all (slotF ρ4) = true ∧ W (i + 1) acc (wipeF ρ4 vs)) ∧
  ∀ acc ρ2, W ds.length acc (wipeF ρ2 vs) → P acc (wipeF ρ2 vs)
def fLc (fi : FA) (g : FG) (ft : FT) (fe : FE) (vs : List Nat) : FA := fun ρ P => fi ρ fun ds ρ1 => lcW ds g ft fe vs ρ1 P
theorem rn_lc {ws vs : List Nat} {wi : TI} {g : TG} {tt : TT} {te : TE} {fi : FA} {fg : FG} {ft : FT} {fe : FE} (hw : ∀ j ∈ ws, j ∈ vs) (hi : RI K J wi fi) (hg : ∀ J' : Jv n, J'.le J → RG K J' ws g fg) (ht : ∀ J' : Jv n, J'.le J → RT K J' tt ft) (he : ∀ J' : Jv n, J'.le J → RE K J' te fe) : RN K J (tLc wi g tt te vs) (fLc fi fg ft fe vs) := by
  intro O as σ H Q ρ P E q k
  refine hi O as σ H _ ρ _ E q fun ds ρ1 I H1 q1 f1 E1 it => ?_
  obtain ⟨hv, W, w0, ws', we⟩ := q1
  obtain ⟨G, Y, wk, hG, hY⟩ := it
  intro D hD
  have hvn : ∀ j, j ∈ vs → as j = none := fun j hj => E1.none_of (List.all_eq_true.mp hv j hj)
  have sO : ∀ {H2 : Hs}, Fr as H1 H2 → Same (hq O as H1) (hq (plus O D) as H2) := fun f a o e => by
    obtain ⟨na, e⟩ := hp_some e
    refine hp_mk (fun z => ?_) (f.fr a o (fun z => na (.inr z)) e)
    rcases z with (z | z) | z
    · exact na (.inl z)
    · rw [z, hD] at e; cases e
    · rcases f.new a z with z | z
      · exact na (.inr z)
      · rw [z] at e; cases e
  have hD0 : H D = none := by
    cases e : H D with
    | none => rfl
    | some o => exact absurd hD (f1.liv D (by rw [e]; exact Option.some_ne_none _))
  refine lc_it wk (fun i H2 => ∃ S2 acc ρ2 xs, Fr as H1 ⟨H2, S2⟩ ∧ EnR K (J.hide D) (plus O D) as ⟨H2, S2⟩ (wipeF ρ2 vs) (wipe σ vs) ∧ H2 D = some (.lst xs) ∧ DqAll K (hq (plus O D) as ⟨H2, S2⟩) xs acc ∧ W i acc (wipeF ρ2 vs)) ?_ (fun i H2 _ ⟨S2, acc, ρ2, xs, f2, _⟩ => hG (Hid (plus O D) as ⟨H2, S2⟩) _ (sO f2)) ?_ ?_
  · exact ⟨_, [], ρ1, [], E1.frS (Same.new hD), (((E1.addO (o := .lst []) hD).1.reJ (Jv.hide_new E1.inv hD (E1.frS (Same.new hD))) (J.up _ _ (fun _ z => .inl z) E1.inq)).wipes vs hv).1, upd_same, .nil, w0⟩
  · rintro i x H2' H3 hi' ⟨S2, acc, ρ2, xs, f2, E2, hx, dx, w⟩ y
    obtain ⟨H2, hH2⟩ : ∃ H2 : Hs, H2 = ⟨H2', S2⟩ := ⟨_, rfl⟩
    rw [← hH2] at f2 E2 dx
    rw [show H2' = H2.hp from by rw [hH2]] at y hx
    obtain ⟨s3, d3⟩ := hY i _ (Hid (plus O D) as H2) H2 x H3 (List.getElem?_eq_getElem hi') (sO f2) (fun c h => E2.full h) y
    have E3 := E2.grow s3
    refine hg _ Jv.hide_le (plus O D) as _ (H2.w H3) _ _ _ x _ E3 (d3.mono (E2.toS s3)) (ws' i _ acc _ (List.getElem?_eq_getElem hi') w) fun ρ4 σ4 H4 p4 f4 E4 z4 => ?_
    have len4 : σ4.length = σ.length := by rw [z4.1, wipe_length]
    have z4' : ∀ j, j ∉ vs → σ4[j]? = σ[j]? := fun j hj => by
      rw [z4.2 j (fun z => hj (hw j z)), wipe_at, if_neg (fun w => hj w.1)]
    refine ⟨wipe_eq len4 z4', ?_⟩
    refine ht _ Jv.hide_le (plus O D) as σ4 H4 _ ρ4 _ E4 p4 fun b ρ5 H5 q5 f5 E5 => ?_
    cases b
    · obtain ⟨v5, w5⟩ := q5
      have E6 := ((E5.wipes vs v5).1)
      rw [wipe_eq len4 z4'] at E6
      have f35 := (E2.frS s3).trans (f4.trans f5)
      exact ⟨H5.st, acc, ρ5, xs, f2.trans f35, E6, f35.fr _ _ (E2.newp hx) hx, dx.fr f35, w5⟩
    · refine he _ Jv.hide_le (plus O D) as σ4 H5 _ ρ5 _ E5 q5 fun d ρ6 v H6 q6 f6 E6 d6 => ?_
      obtain ⟨l6, v6, w6⟩ := q6
      have f36 := (E2.frS s3).trans ((f4.trans f5).trans f6)
      have hx6 := f36.fr _ _ (E2.newp hx) hx
      have dx6 := dx.fr f36
      obtain ⟨E7, s7⟩ := E6.putO (p := D) (ys := xs ++ [v]) (.inr rfl) hx6 (Jv.hide_put E6.inv (E6.stayO (.inr rfl)))
      have E8 := ((E7.wipes vs v6).1)
      rw [wipe_eq len4 z4'] at E8
      refine ⟨xs, hx6, by rw [dx.length]; exact l6, H6.st, acc ++ [d], ρ6, xs ++ [v], (f2.trans f36).putN hD (E6.stayO (.inr rfl)), E8, upd_same, (dx6.mono s7).append (.cons (d6.mono s7) .nil), w6⟩
  · rintro H2 ⟨S2, acc, ρ2, xs, f2, E2, hx, dx, w⟩
    have E3 := (E2.unwipe hvn (σ' := σ) rfl fun j hj => rfl).reJ (Jv.hide_le.1 _ _ E2.inv) (Jv.hide_le.2 _ E2.inq)
    exact k _ _ _ _ _ (we acc ρ2 w) (f1.trans f2) (.inl hD0) E3 hx dx
end
end DL
/-! calls of defs, own lists, the def itself -/
namespace DL
open PySem L2 Z PySem.Spec PyProof.Rows
variable [Tbs]
section
variable {K : PySem.W.Frag} {n : Nat} {J : Jv n}
/-- how a slot's own stands -/
def RgR (K : PySem.W.Frag) (G : Hp) (H : Hs) : Rg → Sl → Prop
  | .lf a, sl => SlR K G H.hp (some (.lf a)) sl (some (.ref a))
  | .sto, sl => sl = .st H.st ∧ StoR K G H.hp H.st
theorem RgR.mono {G G' : Hp} {H : Hs} (s : Same G G') {r : Rg} {sl : Sl} (h : RgR K G H r sl) : RgR K G' H r sl := by
  cases r with
  | lf a => exact SlR.mono s (fun _ _ => rfl) h
  | sto => exact ⟨h.1, h.2.move s fun _ _ => rfl⟩
theorem RgR.nod {G : Hp} {H : Hs} {r : Rg} {sl : Sl} (h : RgR K G H r sl) {b : Addr} (q : Rgn H r b) : Nod H.hp b := by
  cases r with
  | lf a =>
    cases h with
    | own e _ => rw [q.lf_of]; exact ⟨_, e, fun _ z => by cases z⟩
  | sto =>
    obtain ⟨o, e⟩ := Option.ne_none_iff_exists'.mp (show H.st b ≠ none from q)
    obtain ⟨u, e1, q1⟩ := h.2 b o e
    exact ⟨u, e1, q1.ntb⟩
/-- what comes back of what slots own -/
structure Bk (K : PySem.W.Frag) (O : Addr → Prop) (as : As) (H : Hs) (out : List Sl) : Prop where
  tab : TabsOk H.hp
  at_ : ∀ (i : Nat) (r : Rg), as i = some r → ∃ sl, out[i]? = some sl ∧ RgR K (hq O as H) H r sl
  inj : ∀ (i j : Nat) (r r' : Rg) (b : Addr), as i = some r → as j = some r' → Rgn H r b → Rgn H r' b → i = j
  out : ∀ (i : Nat) (r : Rg) (b : Addr), as i = some r → Rgn H r b → ¬ O b
theorem EnR.reg_at {O : Addr → Prop} {as : As} {H : Hs} {ρ : En} {σ : L2.St} (E : EnR K J O as H ρ σ) {i : Nat} {r : Rg} (h : as i = some r) : ∃ sl, ρ[i]? = some sl ∧ RgR K (hq O as H) H r sl := by
  rcases E.is_reg h with ⟨a, ds, xs, rfl, e1, _, e2, e3⟩ | ⟨rfl, _, e1, e2⟩
  · exact ⟨_, e1, .own e2 e3⟩
  · exact ⟨_, e1, rfl, e2⟩
/-- the store's slot, told by how many slots are ahead -/
def shA (as : As) (m N : Nat) : As := fun i => if i < m then as i else if i = N then as m else none
/-- what the parameters own, behind a run -/
theorem EnR.back {n' : Nat} {J' : Jv n'} {O : Addr → Prop} {as as' : As} {H' : Hs} {ρ' : En} {σ' : L2.St} {m N : Nat} (R : EnR K J' O as' H' ρ' σ') (hm : m ≤ N) (hb : ∀ i r, as i = some r → (i < m ∧ r ≠ .sto) ∨ (i = m ∧ r = .sto)) (hx : ∀ i, i < m → as' i = as i) (ks : as' N = some .sto ↔ as m = some .sto) : Bk K O as H' (ρ'.take m ++ ρ'.drop N) ∧ Same (hq O as' H') (hq O as H') := by
  have up : ∀ i r, as i = some r → ∃ j, as' j = some r ∧ ((i < m ∧ j = i) ∨ (i = m ∧ j = N)) := fun i r h => by
    rcases hb i r h with ⟨z, _⟩ | ⟨z, e⟩
    · exact ⟨i, by rw [hx i z]; exact h, .inl ⟨z, rfl⟩⟩
    · subst z; subst e
      exact ⟨N, ks.mpr h, .inr ⟨rfl, rfl⟩⟩
  have s : Same (hq O as' H') (hq O as H') := hp_less fun c hc => by
    rcases hc with hc | ⟨j, r, hc, q⟩ | hc
    · exact .inl hc
    · obtain ⟨j', e, _⟩ := up j r hc
      exact .inr (.inl ⟨j', r, e, q⟩)
    · exact .inr (.inr hc)
  refine ⟨⟨R.tab, fun i r h => ?_, fun i j r r' b h1 h2 q1 q2 => ?_, fun i r b h => ?_⟩, s⟩
  · obtain ⟨j, e, z⟩ := up i r h
    obtain ⟨sl, e1, e3⟩ := R.reg_at e
    refine ⟨sl, ?_, e3.mono s⟩
    have hj := (List.getElem?_eq_some_iff.mp e1).1
    rcases z with ⟨z, rfl⟩ | ⟨rfl, rfl⟩
    · rw [List.getElem?_append_left (by rw [List.length_take]; omega), List.getElem?_take, if_pos z]
      exact e1
    · rw [List.getElem?_append_right (by rw [List.length_take]; omega), List.length_take, Nat.min_eq_left (by omega), Nat.sub_self, List.getElem?_drop]
      exact e1
  · obtain ⟨i', e1, z1⟩ := up i r h1
    obtain ⟨j', e2, z2⟩ := up j r' h2
    have := R.inj i' j' r r' b e1 e2 q1 q2
    omega
  · obtain ⟨j, e, _⟩ := up i r h
    exact R.out j r b e
theorem Ext.frB {n N : Nat} {as as' : As} {H H' : Hs} (x : Ext n (shA as n N) as' H H') (hb : ∀ i r, as i = some r → (i < n ∧ r ≠ .sto) ∨ (i = n ∧ r = .sto)) (hN : n ≤ N) : Fr as H H' := by
  have own : ∀ a, Own (shA as n N) H a ↔ Own as H a := fun a => by
    constructor
    · rintro (⟨j, r, hc, q⟩ | hc)
      · unfold shA at hc
        split at hc
        · exact .inl ⟨j, r, hc, q⟩
        · split at hc
          · exact .inl ⟨n, r, hc, q⟩
          · cases hc
      · exact .inr hc
    · rintro (⟨j, r, hc, q⟩ | hc)
      · rcases hb j r hc with ⟨z, _⟩ | ⟨z, _⟩
        · exact .inl ⟨j, r, by unfold shA; rw [if_pos z]; exact hc, q⟩
        · exact .inl ⟨N, r, by unfold shA; rw [if_neg (by omega), if_pos rfl, ← z]; exact hc, q⟩
      · exact .inr hc
  have sh : ∀ j, shA as n N j = some .sto → ∃ i, as i = some .sto := fun j hj => by
    unfold shA at hj
    split at hj
    · exact ⟨_, hj⟩
    · split at hj
      · exact ⟨_, hj⟩
      · cases hj
  refine ⟨fun a o h e => x.fr a o (fun z => h ((own a).mp z)) e, fun a h => ?_, x.liv, fun h => x.nst fun j hj => (sh j hj).elim fun i z => h i z⟩
  refine (x.new a ?_).imp (own a).mp id
  rcases h with ⟨j, r, hc, q⟩ | hc
  · rcases hb j r hc with ⟨z, _⟩ | ⟨z, e⟩
    · exact .inl ⟨j, r, by rw [x.fix j z]; unfold shA; rw [if_pos z]; exact hc, q⟩
    · subst e
      exact .inl ⟨N, .sto, by rw [x.ks N]; unfold shA; rw [if_neg (by omega), if_pos rfl, ← z]; exact hc, q⟩
  · exact .inr hc
/-- what a def keeps that hands back data; e: whether it is handed the store -/
def spG (K : PySem.W.Frag) (n e : Nat) (F : FN) : Sp := fun vs H Q _ => vs.length = n ∧ ∃ (O : Addr → Prop) (as : As) (S : Sto) (ρ : En) (P : PyData → List Sl → Prop), EnR K (J0 : Jv 0) O as ⟨H, S⟩ ρ (vs.map some) ∧ ρ.length = n + e ∧ F ρ P ∧
  ∀ d out v H', P d out → Fr as ⟨H, S⟩ H' → Bk K O as H' out → Dq K (hq O as H') v d → Q v H'
abbrev spF (K : PySem.W.Frag) (n : Nat) (F : FN) : Sp := spG K n 0 F
abbrev spS (K : PySem.W.Frag) (n : Nat) (F : FN) : Sp := spG K n 1 F
/-! arguments -/
def cNil : FC := fun ρ P => P [] ρ
def cDat (a : FE) (b : FC) : FC := fun ρ P => a ρ fun d ρ1 => b ρ1 fun xs ρ2 => P (.dat d :: xs) ρ2
def cOwn (i : Nat) (b : FC) : FC := fun ρ P => match ρ[i]? with
  | some (.own _) => b ρ fun xs ρ1 => P (.own i :: xs) ρ1
  | _ => False
theorem ArsR.fr {O : Addr → Prop} {as : As} {H H' : Hs} (f : Fr as H H') : ∀ {vs : List V} {xs : List Ar}, ArsR K (hq O as H) as vs xs → ArsR K (hq O as H') as vs xs
  | _, _, .nil => .nil
  | _, _, .cons (.dat q) r => .cons (.dat (q.fr f)) (ArsR.fr f r)
  | _, _, .cons (.own q) r => .cons (.own q) (ArsR.fr f r)
theorem rc_nil : RC K J tNil cNil := fun O as σ H Q ρ P E f k => k [] ρ [] H f (Fr.refl) E .nil
theorem rc_dat {ta : TE} {t : TA} {fa : FE} {f : FC} (ha : RE K J ta fa) (h : RC K J t f) : RC K J (tCons ta t) (cDat fa f) := by
  intro O as σ H Q ρ P E q k
  refine ha O as σ H _ ρ _ E q fun d ρ1 v H1 q1 f1 E1 d1 => ?_
  refine h O as σ H1 _ ρ1 _ E1 q1 fun ds ρ2 vs H2 q2 f2 E2 d2 => ?_
  exact k _ _ _ _ q2 (f1.trans f2) E2 (.cons (.dat (d1.fr f2)) d2)
theorem rc_own {i : Nat} {t : TA} {f : FC} (h : RC K J t f) : RC K J (tCons (tVar i) t) (cOwn i f) := by
  intro O as σ H Q ρ P E q k
  unfold cOwn at q
  split at q
  · next ds hs =>
    obtain ⟨a, xs, e1, e2, e3, e4⟩ := E.own_at hs
    refine ⟨_, e1, ?_⟩
    exact h O as σ H _ ρ _ E q fun ds ρ2 vs H2 q2 f2 E2 d2 => k _ _ _ _ q2 f2 E2 (.cons (.own e2) d2)
  · exact q.elim
def argF (ρ : En) : List Ar → (List Sl → Prop) → Prop
  | [], k => k []
  | .dat d :: xs, k => argF ρ xs fun r => k (.fz d :: r)
  | .own i :: xs, k => match ρ[i]? with
    | some (.own ds) => argF ρ xs fun r => k (.own ds :: r)
    | some (.st S) => argF ρ xs fun r => k (.st S :: r)
    | _ => False
def ownIx : List Ar → List Nat
  | [] => []
  | .dat _ :: xs => ownIx xs
  | .own i :: xs => i :: ownIx xs
/-- what comes back -/
def wb (ρ : En) : List Ar → List Sl → En
  | [], _ => ρ
  | .own i :: xs, r => (wb ρ xs r.tail).set i (r.headD .no)
  | .dat _ :: xs, r => wb ρ xs r.tail
def adrs (as : As) (xs : List Ar) : As := fun j => match xs[j]? with
  | some (.own i) => as i
  | _ => none
theorem adrs_own {as : As} {xs : List Ar} {j : Nat} {a : Rg} (h : adrs as xs j = some a) : ∃ i, xs[j]? = some (.own i) ∧ as i = some a := by
  unfold adrs at h
  split at h
  · next i e => exact ⟨i, e, h⟩
  · cases h
theorem ownIx_mem {i : Nat} : ∀ {xs : List Ar}, i ∈ ownIx xs → ∃ j : Nat, xs[j]? = some (Ar.own i)
  | .dat _ :: xs, h => by
    obtain ⟨j, e⟩ := ownIx_mem (xs := xs) h
    exact ⟨j + 1, e⟩
  | .own k :: xs, h => by
    rcases List.mem_cons.mp h with rfl | h
    · exact ⟨0, rfl⟩
    · obtain ⟨j, e⟩ := ownIx_mem (xs := xs) h
      exact ⟨j + 1, e⟩
theorem mem_ownIx {i : Nat} : ∀ {xs : List Ar} {j : Nat}, xs[j]? = some (.own i) → i ∈ ownIx xs
  | .dat _ :: xs, 0, h => by cases h
  | .dat _ :: xs, j + 1, h => mem_ownIx (xs := xs) (j := j) h
  | .own k :: xs, 0, h => by cases h; exact List.mem_cons_self ..
  | .own k :: xs, j + 1, h => List.mem_cons_of_mem _ (mem_ownIx (xs := xs) (j := j) h)
theorem ownIx_inj {i : Nat} : ∀ {xs : List Ar} {j k : Nat}, (ownIx xs).Nodup → xs[j]? = some (.own i) → xs[k]? = some (.own i) → j = k
  | [], _, _, _, h, _ => by cases h
  | .dat _ :: xs, 0, _, _, h, _ => by cases h
  | .dat _ :: xs, _ + 1, 0, _, _, h => by cases h
  | .dat _ :: xs, j + 1, k + 1, nd, h, h' => by rw [ownIx_inj (xs := xs) nd h h']
  | .own m :: xs, 0, 0, _, _, _ => rfl
  | .own m :: xs, 0, k + 1, nd, h, h' => by cases h; exact absurd (mem_ownIx (xs := xs) (j := k) h') (List.nodup_cons.mp nd).1
  | .own m :: xs, j + 1, 0, nd, h', h => by cases h; exact absurd (mem_ownIx (xs := xs) (j := j) h') (List.nodup_cons.mp nd).1
  | .own m :: xs, j + 1, k + 1, nd, h, h' => by rw [ownIx_inj (xs := xs) (List.nodup_cons.mp nd).2 h h']
theorem wb_len (ρ : En) : ∀ (xs : List Ar) (r : List Sl), (wb ρ xs r).length = ρ.length
  | [], _ => rfl
  | .own i :: xs, r => by rw [wb, List.length_set, wb_len ρ xs r.tail]
  | .dat _ :: xs, r => by rw [wb, wb_len ρ xs r.tail]
theorem wb_other (ρ : En) {i : Nat} : ∀ (xs : List Ar) (r : List Sl), i ∉ ownIx xs → (wb ρ xs r)[i]? = ρ[i]?
  | [], _, _ => rfl
  | .own k :: xs, r, h => by
    have h' := not_or.mp (fun q => h (List.mem_cons.mpr q))
    rw [wb, List.getElem?_set, if_neg (fun z => h'.1 z.symm), wb_other ρ xs r.tail h'.2]
  | .dat _ :: xs, r, h => by rw [wb, wb_other ρ xs r.tail h]
theorem wb_own (ρ : En) {i : Nat} {sl : Sl} (hi : i < ρ.length) : ∀ {xs : List Ar} {r : List Sl} {j : Nat}, (ownIx xs).Nodup → xs[j]? = some (.own i) → r[j]? = some sl → (wb ρ xs r)[i]? = some sl
  | [], _, _, _, h, _ => by cases h
  | _, [], _, _, _, h => by cases h
  | .dat _ :: xs, _, 0, _, h, _ => by cases h
  | .dat _ :: xs, _ :: r, j + 1, nd, h, h' => by rw [wb]; exact wb_own ρ hi (xs := xs) (r := r) (j := j) nd h h'
  | .own k :: xs, s :: r, 0, nd, h, h' => by
    cases h; cases h'
    rw [wb, List.getElem?_set, if_pos rfl, wb_len, if_pos hi]
    rfl
  | .own k :: xs, _ :: r, j + 1, nd, h, h' => by
    have nd' := List.nodup_cons.mp nd
    have hk : k ≠ i := fun z => nd'.1 (by rw [z]; exact mem_ownIx (xs := xs) (j := j) h)
    rw [wb, List.getElem?_set, if_neg hk]
    exact wb_own ρ hi (xs := xs) (r := r) (j := j) nd'.2 h h'
inductive Fits (ρ : En) : List Ar → List Sl → Prop
  | nil : Fits ρ [] []
  | dat {d : PyData} {xs : List Ar} {r : List Sl} : Fits ρ xs r → Fits ρ (.dat d :: xs) (.fz d :: r)
  | own {i : Nat} {ds : List PyData} {xs : List Ar} {r : List Sl} : ρ[i]? = some (.own ds) → Fits ρ xs r → Fits ρ (.own i :: xs) (.own ds :: r)
  | st {i : Nat} {S : Sto} {xs : List Ar} {r : List Sl} : ρ[i]? = some (.st S) → Fits ρ xs r → Fits ρ (.own i :: xs) (.st S :: r)
theorem argF_of {ρ : En} : ∀ {xs : List Ar} {k : List Sl → Prop}, argF ρ xs k → ∃ r, Fits ρ xs r ∧ k r
  | [], k, h => ⟨_, .nil, h⟩
  | .dat d :: xs, k, h => by
    obtain ⟨r, f, q⟩ := argF_of (xs := xs) h
    exact ⟨_, .dat f, q⟩
  | .own i :: xs, k, h => by
    unfold argF at h
    split at h
    · next ds e =>
      obtain ⟨r, f, q⟩ := argF_of (xs := xs) h
      exact ⟨_, .own e f, q⟩
    · next S e =>
      obtain ⟨r, f, q⟩ := argF_of (xs := xs) h
      exact ⟨_, .st e f, q⟩
    · exact h.elim
/-- arguments, behind them the store, or not -/
inductive ArsT (K : PySem.W.Frag) (G : Hp) (as : As) : List V → List Ar → Prop
  | nil : ArsT K G as [] []
  | cons {v : V} {vs : List V} {x : Ar} {xs : List Ar} : ArR K G as v x → ArsT K G as vs xs → ArsT K G as (v :: vs) (x :: xs)
  | sto {i : Nat} : as i = some .sto → ArsT K G as [] [.own i]
theorem ArsR.toT {G : Hp} {as : As} : ∀ {vs : List V} {xs : List Ar}, ArsR K G as vs xs → ArsT K G as vs xs
  | _, _, .nil => .nil
  | _, _, .cons a r => .cons a (ArsR.toT r)
theorem ArsR.snoc {G : Hp} {as : As} {i : Nat} (h : as i = some .sto) : ∀ {vs : List V} {xs : List Ar}, ArsR K G as vs xs → ArsT K G as vs (xs ++ [.own i])
  | _, _, .nil => .sto h
  | _, _, .cons a r => .cons a (ArsR.snoc h r)
/-- one argument's slot -/
theorem fits_at {O : Addr → Prop} {as : As} {H : Hs} {G : Hp} {ρ : En} {σ : L2.St} (E : EnR K J O as H ρ σ) (s : Same (hq O as H) G) : ∀ {xs : List Ar} {r : List Sl} {vs : List V} {j : Nat} {sl : Sl} {o : Option V}, Fits ρ xs r → ArsT K (hq O as H) as vs xs →
    r[j]? = some sl → (vs.map some)[j]? = some o → SlR K G H.hp (adrs as xs j) sl o
  | _, _, _, _, _, _, .nil, _, h, _ => by cases h
  | _, _, _, _, _, _, _, .sto q, h, h' => by cases h'
  | _, _, _, 0, _, _, .dat f, .cons (.dat q) _, h, h' => by cases h; cases h'; exact .fz (q.mono s)
  | _, _, _, 0, _, _, .own e f, .cons (.own q) _, h, h' => by
    cases h; cases h'
    obtain ⟨a, xs, e1, e2, e3, e4⟩ := E.own_at e
    rw [q] at e2
    cases e2
    show SlR K G H.hp (as _) _ _
    rw [q]
    exact .own e3 (e4.mono s)
  | _, _, _, 0, _, _, .st e f, .cons (.own q) _, h, h' => by
    have := (E.st_at e).1
    rw [q] at this
    cases this
  | _, _, _, j + 1, _, _, .st _ f, .cons _ r', h, h' => fits_at E s (j := j) f r' h h'
  | _, _, _, j + 1, _, _, .dat f, .cons _ r', h, h' => fits_at E s (j := j) f r' h h'
  | _, _, _, j + 1, _, _, .own _ f, .cons _ r', h, h' => fits_at E s (j := j) f r' h h'
theorem Fits.len {ρ : En} : ∀ {xs : List Ar} {r : List Sl}, Fits ρ xs r → r.length = xs.length
  | _, _, .nil => rfl
  | _, _, .dat f => by rw [List.length_cons, List.length_cons, Fits.len f]
  | _, _, .own _ f => by rw [List.length_cons, List.length_cons, Fits.len f]
  | _, _, .st _ f => by rw [List.length_cons, List.length_cons, Fits.len f]
theorem ArsT.len {G : Hp} {as : As} : ∀ {vs : List V} {xs : List Ar}, ArsT K G as vs xs → vs.length ≤ xs.length ∧ xs.length ≤ vs.length + 1
  | _, _, .nil => ⟨Nat.le_refl _, Nat.le_succ _⟩
  | _, _, .cons _ r => by
    have := ArsT.len r
    rw [List.length_cons, List.length_cons]
    omega
  | _, _, .sto _ => ⟨Nat.zero_le _, Nat.le_refl _⟩
theorem ArsR.len {G : Hp} {as : As} : ∀ {vs : List V} {xs : List Ar}, ArsR K G as vs xs → vs.length = xs.length
  | _, _, .nil => rfl
  | _, _, .cons _ r => by rw [List.length_cons, List.length_cons, ArsR.len r]
theorem ArsT.tl {G : Hp} {as : As} : ∀ {vs : List V} {xs : List Ar} {j : Nat}, ArsT K G as vs xs → j < xs.length → vs.length ≤ j → adrs as xs j = some .sto
  | _, _, _, .nil, h, _ => by cases h
  | _, _, 0, .cons _ r, _, h => by cases h
  | _, _, j + 1, .cons _ r, h, h' => ArsT.tl (j := j) r (Nat.lt_of_succ_lt_succ h) (Nat.le_of_succ_le_succ h')
  | _, _, 0, .sto q, _, _ => q
  | _, _, j + 1, .sto q, h, _ => by rw [List.length_singleton] at h; omega
theorem ArsT.at_sto {G : Hp} {as : As} : ∀ {vs : List V} {xs : List Ar} {j : Nat}, ArsT K G as vs xs → adrs as xs j = some .sto → j = vs.length
  | _, _, _, .nil, h => by cases h
  | _, _, 0, .cons (.dat _) r, h => by cases h
  | _, _, 0, .cons (.own q) r, h => by
    have h : as _ = some Rg.sto := h
    rw [q] at h; cases h
  | _, _, j + 1, .cons _ r, h => by rw [List.length_cons, ArsT.at_sto (j := j) r h]
  | _, _, 0, .sto q, _ => rfl
  | _, _, j + 1, .sto q, h => by cases h
def fCall (m : Nat) (F : FN) (dv : List PyData) (a : FC) : FE := fun ρ P => a ρ fun xs ρ1 => xs.length + dv.length = m ∧ (ownIx xs).Nodup ∧ argF ρ1 xs fun r => F (r ++ dv.map .fz) fun d out => P d (wb ρ1 xs out)
theorem dat_ars {G : Hp} {as : As} : ∀ {vs : List V} {ds : List PyData}, DqAll K G vs ds → ArsR K G as vs (ds.map .dat)
  | _, _, .nil => .nil
  | _, _, .cons a b => .cons (.dat a) (dat_ars b)
theorem fits_dat {ρ : En} : ∀ ds : List PyData, Fits ρ (ds.map .dat) (ds.map .fz)
  | [] => .nil
  | d :: r => .dat (fits_dat r)
theorem ArsR.app {G : Hp} {as : As} : ∀ {vs ws : List V} {xs ys : List Ar}, ArsR K G as vs xs → ArsR K G as ws ys → ArsR K G as (vs ++ ws) (xs ++ ys)
  | _, _, _, _, .nil, h => h
  | _, _, _, _, .cons a b, h => .cons a (ArsR.app b h)
theorem Fits.st_of {ρ : En} {i : Nat} {S : Sto} : ∀ {xs : List Ar} {r : List Sl} {j : Nat}, Fits ρ xs r → xs[j]? = some (.own i) → ρ[i]? = some (.st S) → r[j]? = some (.st S)
  | _, _, _, .nil, h, _ => by cases h
  | _, _, 0, .dat f, h, _ => by cases h
  | _, _, 0, .own e f, h, h' => by cases h; rw [e] at h'; cases h'
  | _, _, 0, .st e f, h, h' => by cases h; rw [e] at h'; cases h'; rfl
  | _, _, j + 1, .dat f, h, h' => Fits.st_of (j := j) f h h'
  | _, _, j + 1, .own _ f, h, h' => Fits.st_of (j := j) f h h'
  | _, _, j + 1, .st _ f, h, h' => Fits.st_of (j := j) f h h'
theorem Fits.app {ρ : En} : ∀ {xs ys : List Ar} {r s : List Sl}, Fits ρ xs r → Fits ρ ys s → Fits ρ (xs ++ ys) (r ++ s)
  | _, _, _, _, .nil, h => h
  | _, _, _, _, .dat f, h => .dat (Fits.app f h)
  | _, _, _, _, .own e f, h => .own e (Fits.app f h)
  | _, _, _, _, .st e f, h => .st e (Fits.app f h)
theorem ownIx_app : ∀ (xs : List Ar) (ds : List PyData), ownIx (xs ++ ds.map .dat) = ownIx xs
  | [], [] => rfl
  | [], d :: r => ownIx_app [] r
  | .dat _ :: xs, ds => ownIx_app xs ds
  | .own i :: xs, ds => by show i :: ownIx (xs ++ _) = _; rw [ownIx_app xs ds]; rfl
theorem wb_app (ρ : En) : ∀ (xs : List Ar) (ds : List PyData) (r : List Sl), wb ρ (xs ++ ds.map .dat) r = wb ρ xs r
  | [], [], r => rfl
  | [], d :: ds, r => by
    show wb ρ (ds.map .dat) r.tail = _
    have := wb_app ρ [] ds r.tail
    rw [List.nil_append] at this
    rw [this]
    rfl
  | .dat _ :: xs, ds, r => wb_app ρ xs ds r.tail
  | .own i :: xs, ds, r => by show (wb ρ (xs ++ _) r.tail).set i _ = _; rw [wb_app ρ xs ds r.tail]; rfl
theorem ArsT.own_at {G : Hp} {as : As} {i : Nat} : ∀ {vs : List V} {xs : List Ar} {j : Nat}, ArsT K G as vs xs → xs[j]? = some (Ar.own i) → ∃ a, as i = some a
  | _, _, _, .nil, h => by cases h
  | _, _, 0, .cons (.dat _) _, h => by cases h
  | _, _, 0, .cons (.own q) _, h => by cases h; exact ⟨_, q⟩
  | _, _, j + 1, .cons _ r, h => ArsT.own_at (j := j) r h
  | _, _, 0, .sto q, h => by cases h; exact ⟨_, q⟩
  | _, _, j + 1, .sto q, h => by cases h
/-- what a callee may not touch -/
def OutO (O : Addr → Prop) (as : As) (xs : List Ar) (H : Hs) : Addr → Prop := fun a => Hid O as H a ∧ ¬ Own (adrs as xs) H a
theorem adrs_sub {as : As} {xs : List Ar} {H : Hs} {a : Addr} (h : Own (adrs as xs) H a) : Own as H a := by
  rcases h with ⟨j, r, h, q⟩ | h
  · obtain ⟨i, _, h⟩ := adrs_own h
    exact .inl ⟨i, r, h, q⟩
  · exact .inr h
/-- the callee's view of the state -/
theorem call_in {O : Addr → Prop} {as : As} {H : Hs} {ρ : En} {σ : L2.St} {xs : List Ar} {r : List Sl} {vs : List V} (E : EnR K J O as H ρ σ) (fit : Fits ρ xs r) (ar : ArsT K (hq O as H) as vs xs) (nd : (ownIx xs).Nodup) : EnR K (J0 : Jv 0) (OutO O as xs H) (adrs as xs) H r (vs.map some) := by
  have s1 : Same (hq O as H) (hq (OutO O as xs H) (adrs as xs) H) := hp_less fun a h => h.elim (fun h => h.1) fun h => .inr (adrs_sub h)
  have L := ar.len
  refine ⟨by rw [List.length_map, fit.len]; exact L, fun j sl h1 h2 => ?_, fun j sl o h1 h2 => fits_at E s1 fit ar h1 h2, fun j h => ?_, fun j1 j2 r1 r2 b h1 h2 q1 q2 => ?_, fun j r1 b h q z => z.2 (.inl ⟨j, r1, h, q⟩), fun j r1 h => ?_, fun a h => E.full h.1, trivial, trivial, E.tab⟩
  · refine ar.tl ?_ (by rw [List.length_map] at h2; exact h2)
    rw [← fit.len]
    exact (List.getElem?_eq_some_iff.mp h1).1
  · obtain ⟨i, e, hi⟩ := adrs_own h
    obtain ⟨_, e2, e3⟩ := E.sto i hi
    refine ⟨by rw [List.length_map]; exact ar.at_sto h, fit.st_of e e2, e3.move s1 fun _ _ => rfl⟩
  · obtain ⟨i1, e1, h1⟩ := adrs_own h1
    obtain ⟨i2, e2, h2⟩ := adrs_own h2
    rw [E.inj i1 i2 r1 r2 b h1 h2 q1 q2] at e1
    exact ownIx_inj nd e1 e2
  · obtain ⟨i, e, _⟩ := adrs_own h
    rw [fit.len]
    exact (List.getElem?_eq_some_iff.mp e).1
/-- and back -/
theorem call_back {O : Addr → Prop} {as : As} {H H' : Hs} {ρ : En} {σ : L2.St} {xs : List Ar} {vs : List V} {out : List Sl} (E : EnR K J O as H ρ σ) (ar : ArsT K (hq O as H) as vs xs) (nd : (ownIx xs).Nodup) (fr : Fr (adrs as xs) H H') (bk : Bk K (OutO O as xs H) (adrs as xs) H' out) :
    Fr as H H' ∧ EnR K J O as H' (wb ρ xs out) σ ∧ (∀ a, Hid O as H' a → Hid (OutO O as xs H) (adrs as xs) H' a) ∧ ∀ i r b, i ∉ ownIx xs → as i = some r → Rgn H r b → H' b = H b ∧ ¬ Own (adrs as xs) H b := by
  have off : ∀ i r b, i ∉ ownIx xs → as i = some r → Rgn H r b → ¬ Own (adrs as xs) H b := fun i r b ni h q z => by
    rcases z with ⟨j, r', z, q'⟩ | z
    · obtain ⟨i', e', h'⟩ := adrs_own z
      rw [E.inj i' i r' r b h' h q' q] at e'
      exact ni (mem_ownIx e')
    · exact E.tab.nod (E.nod h q) z
  have stay : ∀ i r b, i ∉ ownIx xs → as i = some r → Rgn H r b → H' b = H b := fun i r b ni h q => by
    obtain ⟨o, e, _⟩ := E.nod h q
    rw [e]
    exact fr.fr _ _ (off i r b ni h q) e
  have inn : ∀ i r, i ∈ ownIx xs → as i = some r → ∃ j, xs[j]? = some (.own i) ∧ adrs as xs j = some r := fun i r q h => by
    obtain ⟨j, e⟩ := ownIx_mem q
    exact ⟨j, e, by unfold adrs; rw [e]; exact h⟩
  have stEq : ∀ i, i ∉ ownIx xs → as i = some .sto → H'.st = H.st := fun i ni h => fr.nst fun j z => by
    obtain ⟨i', e', h'⟩ := adrs_own z
    rw [(E.sto i' h').1, ← (E.sto i h).1] at e'
    exact ni (mem_ownIx e')
  have stayR : ∀ i r b, i ∉ ownIx xs → as i = some r → (Rgn H' r b ↔ Rgn H r b) := fun i r b ni h => by
    cases r with
    | lf a => exact Iff.rfl
    | sto => exact Rgn.st (stEq i ni h)
  have fr' : Fr as H H' := by
    refine ⟨fr.fr.up fun a h => adrs_sub h, fun a h => ?_, fr.liv, fun h => fr.nst fun j z => ?_⟩
    · rcases h with ⟨i, r, h, q⟩ | h
      · by_cases m : i ∈ ownIx xs
        · obtain ⟨j, _, e⟩ := inn i r m h
          exact (fr.new a (.inl ⟨j, r, e, q⟩)).imp adrs_sub id
        · exact .inl (.inl ⟨i, r, h, (stayR i r a m h).mp q⟩)
      · exact .inl (.inr h)
    · obtain ⟨i', e', h'⟩ := adrs_own z
      exact h i' h'
  have nO : ∀ i r b, i ∉ ownIx xs → as i = some r → Rgn H r b → OutO O as xs H b := fun i r b ni h q => ⟨.inr (.inl ⟨i, r, h, q⟩), off i r b ni h q⟩
  have oO : ∀ b, O b → (∃ p ∈ Tbs.T, p.1 = b) ∨ OutO O as xs H b := fun b h => by
    by_cases z : ∃ p ∈ Tbs.T, p.1 = b
    · exact .inl z
    · refine .inr ⟨.inl h, fun w => ?_⟩
      rcases w with ⟨j, r', w, q'⟩ | w
      · obtain ⟨i', _, h'⟩ := adrs_own w
        exact E.out i' r' b h' q' h
      · exact z w
  have hid : ∀ a, Hid O as H' a → Hid (OutO O as xs H) (adrs as xs) H' a := fun a h => by
    rcases h with h | ⟨i, r, h, q⟩ | h
    · rcases oO a h with z | z
      · exact .inr (.inr z)
      · exact .inl z
    · by_cases m : i ∈ ownIx xs
      · obtain ⟨j, _, e⟩ := inn i r m h
        exact .inr (.inl ⟨j, r, e, q⟩)
      · exact .inl (nO i r a m h ((stayR i r a m h).mp q))
    · exact .inr (.inr h)
  have s2 : Same (hq (OutO O as xs H) (adrs as xs) H') (hq O as H') := hp_less hid
  refine ⟨fr', ⟨by rw [wb_len]; exact E.len, fun i sl h1 h2 => ?_, fun i sl o h1 h2 => ?_, fun i h => ?_, fun i1 i2 r1 r2 b h1 h2 q1 q2 => ?_, fun i r b h q => ?_, fun i a h => by rw [wb_len]; exact E.bnd i a h, fun a h => E.occ' fr'.fr bk.tab h, J.fr E.inv fr', E.inq, bk.tab⟩, hid, fun i r b ni h q => ⟨stay i r b ni h q, off i r b ni h q⟩⟩
  · have hi : i < ρ.length := by
      have := (List.getElem?_eq_some_iff.mp h1).1
      rw [wb_len] at this
      exact this
    exact E.tl i _ (List.getElem?_eq_getElem hi) h2
  · by_cases q : i ∈ ownIx xs
    · obtain ⟨j, e⟩ := ownIx_mem q
      have hi : i < ρ.length := by
        have := (List.getElem?_eq_some_iff.mp h1).1
        rw [wb_len] at this
        exact this
      obtain ⟨a, ha⟩ := ar.own_at e
      have hadr : adrs as xs j = some a := by unfold adrs; rw [e]; exact ha
      obtain ⟨sl', e1, e2⟩ := bk.at_ j a hadr
      rw [wb_own ρ hi nd e e1] at h1
      cases h1
      cases a with
      | sto =>
        have := (E.sto i ha).1
        have := (List.getElem?_eq_some_iff.mp h2).1
        omega
      | lf a =>
        obtain ⟨_, _, _, e4, _⟩ := E.is_own ha
        rw [e4] at h2
        cases h2
        rw [ha]
        exact e2.mono s2
    · rw [wb_other ρ xs out q] at h1
      exact (E.at_ i sl o h1 h2).mono fr'.same fun b hb => stay i _ b q hb rfl
  · by_cases q : i ∈ ownIx xs
    · obtain ⟨j, e, hadr⟩ := inn i _ q h
      obtain ⟨sl', e1, e2, e3⟩ := bk.at_ j _ hadr
      refine ⟨(E.sto i h).1, ?_, e3.move s2 fun _ _ => rfl⟩
      rw [wb_own ρ (E.bnd i _ h) nd e e1, e2]
    · obtain ⟨e1, e2, e3⟩ := E.sto i h
      refine ⟨e1, by rw [wb_other ρ xs out q, e2, stEq i q h], ?_⟩
      rw [stEq i q h]
      exact e3.move fr'.same fun a z => stay i _ a q h z
  · by_cases m1 : i1 ∈ ownIx xs
    · obtain ⟨j1, x1, e1⟩ := inn i1 r1 m1 h1
      by_cases m2 : i2 ∈ ownIx xs
      · obtain ⟨j2, x2, e2⟩ := inn i2 r2 m2 h2
        have := bk.inj j1 j2 r1 r2 b e1 e2 q1 q2
        rw [this, x2] at x1
        cases x1
        rfl
      · exact absurd (nO i2 r2 b m2 h2 ((stayR i2 r2 b m2 h2).mp q2)) (bk.out j1 r1 b e1 q1)
    · by_cases m2 : i2 ∈ ownIx xs
      · obtain ⟨j2, x2, e2⟩ := inn i2 r2 m2 h2
        exact absurd (nO i1 r1 b m1 h1 ((stayR i1 r1 b m1 h1).mp q1)) (bk.out j2 r2 b e2 q2)
      · exact E.inj i1 i2 r1 r2 b h1 h2 ((stayR i1 r1 b m1 h1).mp q1) ((stayR i2 r2 b m2 h2).mp q2)
  · by_cases m : i ∈ ownIx xs
    · obtain ⟨j, x1, e1⟩ := inn i r m h
      intro z
      rcases oO b z with w | w
      · obtain ⟨sl, _, g⟩ := bk.at_ j r e1
        exact bk.tab.nod (g.nod q) w
      · exact bk.out j r b e1 q w
    · exact E.out i r b h ((stayR i r b m h).mp q)
theorem call_core {O : Addr → Prop} {as : As} {H : Hs} {ρ : En} {σ : L2.St} {xs : List Ar} {r : List Sl} {vs : List V} {m e : Nat} {F : FN} {P : PyData → En → Prop} {Q : VK} {E0 : XK} (E : EnR K J O as H ρ σ) (fit : Fits ρ xs r) (ar : ArsT K (hq O as H) as vs xs) (hv : vs.length = m) (hm : xs.length = m + e) (nd : (ownIx xs).Nodup)
    (f : F r fun d out => P d (wb ρ xs out)) (k : ∀ d ρ' v H', P d ρ' → Fr as H H' → EnR K J O as H' ρ' σ → Dq K (hq O as H') v d → Q v H') : spG K m e F vs H Q E0 := by
  refine ⟨hv, _, adrs as xs, H.st, r, _, call_in E fit ar nd, by rw [fit.len, hm], f, fun d out v H' p fr bk dv => ?_⟩
  obtain ⟨fr', E', hid, _⟩ := call_back E ar nd fr bk
  exact k d _ v H' p fr' E' (dv.mono (hp_less hid))
theorem re_call {m : Nat} {F : FN} {dvs : List V} {dv : List PyData} {E0 : XK} {t : TA} {f : FC} (hd : ∀ H, DqAll K H dvs dv) (ha : RC K J t f) : RE K J (tCall (spF K m F) dvs E0 t) (fCall m F dv f) := by
  intro O as σ H Q ρ P E q k
  refine ha O as σ H _ ρ _ E q fun xs ρ1 vs H1 q1 f1 E1 d1 => ?_
  obtain ⟨hm, nd, q1⟩ := q1
  obtain ⟨r, fit, q1⟩ := argF_of q1
  have hl : (vs ++ dvs).length = m := by rw [List.length_append, d1.len, (hd H1).length]; exact hm
  refine call_core (xs := xs ++ dv.map .dat) E1 (fit.app (fits_dat dv)) (d1.app (dat_ars (hd _))).toT hl (by rw [List.length_append, List.length_map]; exact hm) (by rw [ownIx_app]; exact nd) ?_ fun d ρ' v H' p fr E' q' => k d ρ' v H' p (f1.trans fr) E' q'
  · simp only [wb_app]
    exact q1
/-- a call that is handed the store, too; sx: where it stands -/
def fCallS (sx m : Nat) (F : FN) (dv : List PyData) (a : FC) : FE := fun ρ P => a ρ fun xs ρ1 => xs.length + dv.length = m ∧ (ownIx xs ++ [sx]).Nodup ∧ argF ρ1 xs fun r => match ρ1[sx]? with
  | some (.st S) => F (r ++ dv.map .fz ++ [.st S]) fun d out => P d ((wb ρ1 xs out).set sx ((out.drop m).headD .no))
  | _ => False
theorem ownIx_snoc (i : Nat) : ∀ xs : List Ar, ownIx (xs ++ [.own i]) = ownIx xs ++ [i]
  | [] => rfl
  | .dat _ :: xs => ownIx_snoc i xs
  | .own k :: xs => by show k :: ownIx (xs ++ _) = _; rw [ownIx_snoc i xs]; rfl
theorem wb_snoc (ρ : En) (i : Nat) : ∀ (xs : List Ar) (out : List Sl), wb ρ (xs ++ [.own i]) out = wb (ρ.set i ((out.drop xs.length).headD .no)) xs out
  | [], out => rfl
  | .dat _ :: xs, out => by show wb ρ (xs ++ _) out.tail = wb _ xs out.tail; rw [wb_snoc ρ i xs, List.length_cons, List.drop_tail]
  | .own k :: xs, out => by show (wb ρ (xs ++ _) out.tail).set k _ = (wb _ xs out.tail).set k _; rw [wb_snoc ρ i xs, List.length_cons, List.drop_tail]
theorem wb_set (ρ : En) (i : Nat) (sl : Sl) : ∀ (xs : List Ar) (out : List Sl), i ∉ ownIx xs → wb (ρ.set i sl) xs out = (wb ρ xs out).set i sl
  | [], out, _ => rfl
  | .dat _ :: xs, out, h => wb_set ρ i sl xs out.tail h
  | .own k :: xs, out, h => by
    have h' := not_or.mp (fun q => h (List.mem_cons.mpr q))
    show (wb (ρ.set i sl) xs out.tail).set k _ = ((wb ρ xs out.tail).set k _).set i sl
    rw [wb_set ρ i sl xs out.tail h'.2, List.set_comm _ _ h'.1]
theorem re_callS {sx m : Nat} {F : FN} {dvs : List V} {dv : List PyData} {E0 : XK} {t : TA} {f : FC} (hd : ∀ H, DqAll K H dvs dv) (ha : RC K J t f) : RE K J (tCall (spS K m F) dvs E0 t) (fCallS sx m F dv f) := by
  intro O as σ H Q ρ P E q k
  refine ha O as σ H _ ρ _ E q fun xs ρ1 vs H1 q1 f1 E1 d1 => ?_
  obtain ⟨hm, nd, q1⟩ := q1
  obtain ⟨r, fit, q1⟩ := argF_of q1
  split at q1
  · next S hs =>
    have hl : (vs ++ dvs).length = m := by rw [List.length_append, d1.len, (hd H1).length]; exact hm
    have ni : sx ∉ ownIx xs := fun z => (List.nodup_append.mp nd).2.2 _ z _ (List.mem_singleton.mpr rfl) rfl
    refine call_core (xs := xs ++ dv.map .dat ++ [.own sx]) E1 ((fit.app (fits_dat dv)).app (.st hs .nil)) ((d1.app (dat_ars (hd _))).snoc (E1.st_at hs).1) hl (by rw [List.length_append, List.length_append, List.length_map, hm]; rfl) (by rw [ownIx_snoc, ownIx_app]; exact nd) ?_ fun d ρ' v H' p fr E' q' => k d ρ' v H' p (f1.trans fr) E' q'
    · simp only [wb_snoc, wb_app, wb_set _ _ _ _ _ ni, List.length_append, List.length_map, hm]
      exact q1
  · exact q1.elim
/-! own lists -/
def ownF (ρ : En) (i : Nat) (k : List PyData → Prop) : Prop := match ρ[i]? with
  | some (.own ds) => k ds
  | _ => False
theorem ownF_of {ρ : En} {i : Nat} {k : List PyData → Prop} (h : ownF ρ i k) : ∃ ds, ρ[i]? = some (.own ds) ∧ k ds := by
  unfold ownF at h
  split at h
  · next ds e => exact ⟨ds, e, h⟩
  · exact h.elim
theorem DqAll.atI {G : Hp} {xs : List V} {ds : List PyData} {k : Int} {d : PyData} (r : DqAll K G xs ds) (h : L2.atI ds k = some d) : ∃ v, L2.atI xs k = some v ∧ Dq K G v d := by
  unfold L2.atI at h ⊢
  rw [r.length]
  cases e : ixN ds.length k with
  | none => rw [e] at h; cases h
  | some j =>
    rw [e] at h
    exact r.got h
def fIxO (i : Nat) (b : FE) : FE := fun ρ P => ownF ρ i fun _ => b ρ fun x ρ1 => intF x fun k => ownF ρ1 i fun ds => ∃ d, atI ds k = some d ∧ P d ρ1
theorem re_ixO {i : Nat} {tb : TE} {b : FE} (hb : RE K J tb b) : RE K J (tOp (rIxL K) (tVar i) tb) (fIxO i b) := by
  intro O as σ H Q ρ P E q k
  obtain ⟨ds0, h0, q⟩ := ownF_of q
  obtain ⟨a, xs0, e1, e2, _, _⟩ := E.own_at h0
  refine ⟨_, e1, ?_⟩
  refine hb O as σ H _ ρ _ E q fun x ρ1 v H1 q1 f1 E1 d1 => ?_
  unfold intF at q1
  split at q1
  · next z =>
    cases d1
    obtain ⟨ds, hds, d, hd, p⟩ := ownF_of q1
    obtain ⟨a', xs, e1', e2', e3, e4⟩ := E1.own_at hds
    rw [e2] at e2'
    cases e2'
    obtain ⟨v, hv, dv⟩ := e4.atI hd
    exact ⟨a, xs, z, v, rfl, rfl, SqL.of e3, hv, k d ρ1 v H1 p f1 E1 dv⟩
  · exact q1.elim
/-- len of an own list -/
def fLenO (i : Nat) : FE := fun ρ P => ownF ρ i fun ds => P (.int ds.length) ρ
theorem re_lenO {i : Nat} : RE K J (tCB (fun xs H Q => ∃ p ys, xs = [.ref p] ∧ (SqL K H p ys ∨ SqT K H p ys) ∧ Q (.int ys.length) H) (tCons (tVar i) tNil)) (fLenO i) := by
  intro O as σ H Q ρ P E q k
  obtain ⟨ds, h0, q⟩ := ownF_of q
  obtain ⟨a, xs, e1, e2, e3, e4⟩ := E.own_at h0
  refine ⟨_, e1, a, xs, rfl, .inl (SqL.of e3), ?_⟩
  rw [e4.length]
  exact k _ _ _ _ q (Fr.refl) E (.int _)
def fLenOK (i : Nat) : FE := fLenO i
theorem re_lenOK {i : Nat} : RE K J (tCB (rLenK K) (tCons (tVar i) tNil)) (fLenO i) := re_lenO
/-- own.append(e) -/
def fAppend (i : Nat) (a : FE) : FS := fun E ρ => ownF ρ i fun _ => a ρ fun d ρ1 => ownF ρ1 i fun ds => ds.length < sizeLine ∧ E.nx (ρ1.set i (.own (ds ++ [d])))
theorem rs_append {i : Nat} {te : TE} {a : FE} (ha : RE K J te a) : RS K J (tDrop (tBM K "list" rAppend (tVar i) (tCons te tNil))) (fAppend i a) := by
  intro O as σ H D ρ E R f C
  obtain ⟨ds0, h0, f⟩ := ownF_of f
  obtain ⟨p, xs0, e1, e2, e3, _⟩ := R.own_at h0
  refine ⟨_, e1, .inl ⟨rfl, _, SqL.of e3⟩, ?_⟩
  refine ha O as σ H _ ρ _ R f fun d ρ1 v H1 q1 f1 E1 d1 => ?_
  obtain ⟨ds, hds, hl, q1⟩ := ownF_of q1
  obtain ⟨p', xs, e1', e2', e3', e4'⟩ := E1.own_at hds
  rw [e2] at e2'
  cases e2'
  refine ⟨p, xs, v, rfl, rfl, e3', by rw [e4'.length]; exact hl, ?_⟩
  obtain ⟨E2, f2⟩ := E1.put e2 e3' (e4'.append (.cons d1 .nil))
  exact C.nx _ _ _ _ q1 (.of (f1.trans f2)) E2
/-- own[k] = e -/
def gSubO (i : Nat) (b : FE) : FG := fun d ρ P => ownF ρ i fun _ => b ρ fun x ρ1 => intF x fun k => ownF ρ1 i fun ds => ∃ j, ixN ds.length k = some j ∧ P (ρ1.set i (.own (ds.set j d)))
theorem rg_subO {i : Nat} {ti : TE} {b : FE} (hb : RE K J ti b) : RG K J [] (gSub (tVar i) ti rSetL) (gSubO i b) := by
  intro O as σ H R ρ P v d E q f k
  obtain ⟨ds0, h0, f⟩ := ownF_of f
  obtain ⟨p, xs0, e1, e2, e3, _⟩ := E.own_at h0
  refine ⟨_, e1, ?_⟩
  refine hb O as σ H _ ρ _ E f fun x ρ1 w H1 q1 f1 E1 d1 => ?_
  unfold intF at q1
  split at q1
  · next z =>
    cases d1
    obtain ⟨ds, hds, j, hj, q1⟩ := ownF_of q1
    obtain ⟨p', xs, e1', e2', e3', e4'⟩ := E1.own_at hds
    rw [e2] at e2'
    cases e2'
    refine ⟨p, xs, z, j, rfl, rfl, e3', by rw [e4'.length]; exact hj, ?_⟩
    obtain ⟨E2, f2⟩ := E1.put e2 e3' (e4'.set (q.fr f1) j)
    exact k _ _ _ q1 (f1.trans f2) E2 ⟨rfl, fun _ _ => rfl⟩
  · exact q1.elim
/-! the def -/
def fnF (n m : Nat) (b : FS) : FN := fun sls P => b { nx := fun ρ' => P .none (ρ'.take n), rt := fun d ρ' => P d (ρ'.take n) } (sls ++ List.replicate (m - n) .no)
/-- a def that is handed the store -/
def fnS (n m : Nat) (b : FS) : FN := fun sls P => b { nx := fun ρ' => P .none (ρ'.take n ++ ρ'.drop m), rt := fun d ρ' => P d (ρ'.take n ++ ρ'.drop m) } (sls.take n ++ List.replicate (m - n) .no ++ sls.drop n)
/-- slots of which nothing is known, ahead of the store -/
theorem EnR.more {n N : Nat} {n' n'' : Nat} {J : Jv n'} {J' : Jv n''} {O : Addr → Prop} {as : As} {H : Hs} {ρ : En} {σ : L2.St} (E : EnR K J O as H ρ σ) (hv : σ.length = n) (hN : n ≤ N) (hJ : J'.P (shA as n N) H) (hQ : J'.Q O) : EnR K J' O (shA as n N) H (ρ.take n ++ List.replicate (N - n) .no ++ ρ.drop n) (σ ++ List.replicate (N - n) none) := by
  have L := E.len
  rw [hv] at L
  have tk : (ρ.take n).length = n := by rw [List.length_take]; omega
  have ls : (σ ++ List.replicate (N - n) none).length = N := by rw [List.length_append, List.length_replicate]; omega
  have l1 : (ρ.take n ++ List.replicate (N - n) Sl.no).length = N := by rw [List.length_append, tk, List.length_replicate]; omega
  have hb : ∀ i r, as i = some r → (i < n ∧ r ≠ .sto) ∨ (i = n ∧ r = .sto) := fun i r h => by
    rcases E.is_reg h with ⟨a, ds, xs, rfl, e1, e2, _⟩ | ⟨rfl, e, _⟩
    · have := E.lt e1 (fun _ z => by cases z)
      rw [hv] at this
      exact .inl ⟨this, fun z => by cases z⟩
    · rw [hv] at e
      exact .inr ⟨e, rfl⟩
  have sh : ∀ j r, shA as n N j = some r → ∃ i, as i = some r ∧ ((i < n ∧ j = i) ∨ (i = n ∧ j = N ∧ r = .sto)) := fun j r h => by
    unfold shA at h
    split at h
    · exact ⟨j, h, .inl ⟨by assumption, rfl⟩⟩
    · split at h
      · rcases hb _ _ h with z | z
        · omega
        · exact ⟨n, h, .inr ⟨rfl, by assumption, z.2⟩⟩
      · cases h
  have own : ∀ a, Own (shA as n N) H a ↔ Own as H a := fun a => by
    constructor
    · rintro (⟨j, r, hc, q⟩ | hc)
      · obtain ⟨i, e, _⟩ := sh j r hc
        exact .inl ⟨i, r, e, q⟩
      · exact .inr hc
    · rintro (⟨j, r, hc, q⟩ | hc)
      · rcases hb j r hc with ⟨z, _⟩ | ⟨z, _⟩
        · exact .inl ⟨j, r, by unfold shA; rw [if_pos z]; exact hc, q⟩
        · exact .inl ⟨N, r, by unfold shA; rw [if_neg (by omega), if_pos rfl, ← z]; exact hc, q⟩
      · exact .inr hc
  have hS : Same (hq O as H) (hq O (shA as n N) H) := hp_less fun a h => h.imp id (own a).mp
  have last : ∀ i, N ≤ i → (ρ.take n ++ List.replicate (N - n) Sl.no ++ ρ.drop n)[i]? = ρ[n + (i - N)]? := fun i h => by
    rw [List.getElem?_append_right (by omega), l1, List.getElem?_drop]
  refine ⟨?_, fun i sl h1 h2 => ?_, fun i sl o h1 h2 => ?_, fun i h => ?_, fun i j r r' b h1 h2 q1 q2 => ?_, fun i r b h q => ?_, fun i r h => ?_, E.occ, hJ, hQ, E.tab⟩
  · rw [ls, List.length_append, l1, List.length_drop]
    omega
  · rw [ls] at h2
    rw [last i h2] at h1
    have hi : n + (i - N) < ρ.length := (List.getElem?_eq_some_iff.mp h1).1
    have e := E.tl _ _ h1 (by rw [hv]; omega)
    have : i = N := by omega
    unfold shA
    rw [if_neg (by omega), if_pos this]
    rw [this, Nat.sub_self] at e
    exact e
  · have hi : i < N := by rw [← ls]; exact (List.getElem?_eq_some_iff.mp h2).1
    rw [List.getElem?_append_left (by omega)] at h1
    by_cases q : i < n
    · rw [List.getElem?_append_left (by omega), List.getElem?_take, if_pos q] at h1
      rw [List.getElem?_append_left (by omega)] at h2
      unfold shA
      rw [if_pos q]
      exact (E.at_ i sl o h1 h2).mono hS fun _ _ => rfl
    · rw [List.getElem?_append_right (by omega), List.getElem?_replicate] at h1
      split at h1
      · cases h1
        unfold shA
        rw [if_neg q, if_neg (by omega)]
        exact .no
      · cases h1
  · obtain ⟨i', e, z⟩ := sh i _ h
    obtain ⟨e1, e2, e3⟩ := E.sto i' e
    rw [hv] at e1
    have : i = N := by omega
    refine ⟨by rw [ls]; exact this, ?_, e3.move hS fun _ _ => rfl⟩
    rw [last i (by omega), this, Nat.sub_self, Nat.add_zero, ← e1]
    exact e2
  · obtain ⟨i', e1, z1⟩ := sh i r h1
    obtain ⟨j', e2, z2⟩ := sh j r' h2
    have := E.inj i' j' r r' b e1 e2 q1 q2
    omega
  · obtain ⟨i', e1, z1⟩ := sh i r h
    exact E.out i' r b e1 q
  · obtain ⟨i', e1, z1⟩ := sh i r h
    have := E.bnd i' r e1
    rw [List.length_append, l1, List.length_drop]
    omega
theorem EnR.start {n : Nat} {n' n'' : Nat} {J : Jv n'} {J' : Jv n''} {O : Addr → Prop} {as : As} {H : Hs} {ρ : En} {vs : List V} (N : List Str) (E : EnR K J O as H ρ (vs.map some)) (hv : vs.length = n) (hN : n ≤ N.length) (hJ : J'.P (shA as n N.length) H) (hQ : J'.Q O) : EnR K J' O (shA as n N.length) H (ρ.take n ++ List.replicate (N.length - n) .no ++ ρ.drop n) (L2.start N vs) := by
  rw [L2.start, hv]
  exact E.more (by rw [List.length_map]; exact hv) hN hJ hQ
/-- what the parameters own -/
theorem EnR.pars {n : Nat} {n' : Nat} {J : Jv n'} {O : Addr → Prop} {as : As} {H : Hs} {ρ : En} {vs : List V} (E : EnR K J O as H ρ (vs.map some)) (hv : vs.length = n) : ∀ i r, as i = some r → (i < n ∧ r ≠ .sto) ∨ (i = n ∧ r = .sto) := fun i r h => by
  rcases E.is_reg h with ⟨a, ds, xs, rfl, e1, e2, _⟩ | ⟨rfl, e, _⟩
  · have := E.lt e1 (fun _ z => by cases z)
    rw [List.length_map, hv] at this
    exact .inl ⟨this, fun z => by cases z⟩
  · rw [List.length_map, hv] at e
    exact .inr ⟨e, rfl⟩
/-- the slots at a def's start; e: whether it is handed the store -/
def enS : Nat → Nat → Nat → List Sl → En
  | 0, n, m, sls => sls ++ List.replicate (m - n) .no
  | _, n, m, sls => sls.take n ++ List.replicate (m - n) .no ++ sls.drop n
/-- what is handed back of the slots -/
def outS : Nat → Nat → Nat → En → List Sl
  | 0, n, _, ρ => ρ.take n
  | _, n, m, ρ => ρ.take n ++ ρ.drop m
theorem fn_start {e m : Nat} {N : List Str} {O : Addr → Prop} {as : As} {H : Hs} {ρ : En} {vs : List V} (R : EnR K (J0 : Jv 0) O as H ρ (vs.map some)) (hv : vs.length = m) (hl : ρ.length = m + e) (hN : m ≤ N.length) :
    EnR K (Jst m O (shA as m N.length) H) O (shA as m N.length) H (enS e m N.length ρ) (L2.start N vs) := by
  have st := R.start (J' := Jst m O (shA as m N.length) H) N hv hN .refl fun _ h => h
  cases e with
  | succ e => exact st
  | zero =>
    rw [List.take_of_length_le (by omega), List.drop_of_length_le (by omega), List.append_nil] at st
    exact st
theorem fn_back {e m N : Nat} {O O' : Addr → Prop} {as as' : As} {H H' : Hs} {ρ ρ' : En} {vs : List V} {σ' : L2.St} {n' : Nat} {J' : Jv n'} (R : EnR K (J0 : Jv 0) O as H ρ (vs.map some)) (hv : vs.length = m) (hl : ρ.length = m + e) (hN : m ≤ N) (x : Ext m (shA as m N) as' H H') (R' : EnR K J' O' as' H' ρ' σ') :
    Fr as H H' ∧ Bk K O' as H' (outS e m N ρ') ∧ Same (hq O' as' H') (hq O' as H') := by
  have hb := R.pars hv
  have fx : ∀ i, i < m → as' i = as i := fun i hi => by
    rw [x.fix i hi]
    unfold shA
    rw [if_pos hi]
  have kn : as' N = some .sto ↔ as m = some .sto := by
    rw [x.ks]
    unfold shA
    rw [if_neg (by omega), if_pos rfl]
  obtain ⟨b, s⟩ := R'.back hN hb fx kn
  refine ⟨x.frB hb hN, ?_, s⟩
  cases e with
  | succ e => exact b
  | zero =>
    have hb' : ∀ i r, as i = some r → i < m := fun i r h => by have := R.bnd i r h; omega
    refine ⟨b.tab, fun i r e => ?_, b.inj, b.out⟩
    have hi := hb' i r e
    obtain ⟨sl, e1, e2⟩ := R'.reg_at (i := i) (r := r) (by rw [fx i hi]; exact e)
    exact ⟨sl, by show (List.take m ρ')[i]? = _; rw [List.getElem?_take, if_pos hi]; exact e1, e2.mono s⟩
/-- a run of a def's body -/
theorem fn_run {m e : Nat} {N : List Str} {b : FS} {t : TS} (rs : ∀ J : Jv m, RS K J t b) {vs : List V} {H : Hp} {Q : VK} {E : XK} (hN : m ≤ N.length) {F : FN} (hF : F = fun sls P => b { nx := fun ρ' => P .none (outS e m N.length ρ'), rt := fun d ρ' => P d (outS e m N.length ρ') } (enS e m N.length sls)) (h : spG K m e F vs H Q E) : t { nx := fun _ H' => Q .non H', rt := Q } (L2.start N vs) H := by
  obtain ⟨hv, O, as, S, ρ, P, R, hl, hf, q⟩ := h
  subst hF
  refine rs (Jst m O (shA as m N.length) ⟨H, S⟩) O _ _ ⟨H, S⟩ _ _ _ (fn_start R hv hl hN) hf ⟨fun ρ' as' σ' H' p x R' => ?_, fun d ρ' v as' σ' H' p x R' dv => ?_, fun _ _ _ _ p => p.elim, fun _ _ _ _ p => p.elim, fun _ _ _ _ _ _ _ p => p.elim⟩
  · obtain ⟨h1, h2, _⟩ := fn_back R hv hl hN x R'
    exact q _ _ _ _ p h1 h2 .non
  · obtain ⟨h1, h2, h3⟩ := fn_back R hv hl hN x R'
    exact q _ _ _ _ p h1 h2 (dv.mono h3)
theorem scope_le {N ps : List Str} {sc : Scope} (S : FnScope N ps sc) : ps.length ≤ N.length := by
  have := congrArg List.length S.pre
  rw [List.length_take] at this
  omega
theorem fn_core {ps : List Str} {N : List Str} {b : FS} {t : TS} (hN : ps.length ≤ N.length) (rs : ∀ J : Jv ps.length, RS K J t b) {vs : List V} {H : Hp} {Q : VK} {E : XK} (h : spF K ps.length (fnF ps.length N.length b) vs H Q E) : t { nx := fun _ H' => Q .non H', rt := Q } (L2.start N vs) H := fn_run rs hN rfl h
theorem fn_coreS {ps : List Str} {N : List Str} {b : FS} {t : TS} (hN : ps.length ≤ N.length) (rs : ∀ J : Jv ps.length, RS K J t b) {vs : List V} {H : Hp} {Q : VK} {E : XK} (h : spS K ps.length (fnS ps.length N.length b) vs H Q E) : t { nx := fun _ H' => Q .non H', rt := Q } (L2.start N vs) H := fn_run rs hN rfl h
section
variable {P : Program} {w : World} {mg : Str → Option Value} {base : Heap} {k : Nat} {f : Addr} {fd : FuncData} {ps : List Str} {x qual : Str} {st : Stmt} {N : List Str} {b : FS}
theorem okF (F : Fun K x qual st f fd) (S : FnScope N ps (defScope st))
    (body : ∀ (cdv : Value) (A : Around) (outer : List Env) (s : Shared) (H : Hp) (E : XK), Room k (A.deeper (envOfC qual (defScope st) s.heap.objs.size f cdv)) →
      (A.deeper (envOfC qual (defScope st) s.heap.objs.size f cdv)).guards = some [] →
      ∃ t, PSs (cxOf CX0 P w K mg base N qual (defScope st) f cdv A outer s H E).nox (defBody st) t ∧ ∀ J : Jv ps.length, RS K J t b) :
    FnG P w K mg base (k + 1) f fd ps (spF K ps.length (fnF ps.length N.length b)) := by
  refine okG F S (fun vs H Q E h => h.1) (fun cdv A outer s H vs Q E hr hg h => ?_)
  obtain ⟨t, pt, rs⟩ := body cdv A outer s H E hr hg
  exact ⟨t, pt, fn_core (scope_le S) rs h⟩
/-- without repr -/
theorem okF0 (F : Fun K x qual st f fd) (S : FnScope N ps (defScope st))
    (body : ∀ (cdv : Value) (A : Around) (outer : List Env) (s : Shared) (H : Hp) (E : XK), Room k (A.deeper (envOfC qual (defScope st) s.heap.objs.size f cdv)) →
      ∃ t, PSs (cxOf CX0 P w K mg base N qual (defScope st) f cdv A outer s H E).nox (defBody st) t ∧ ∀ J : Jv ps.length, RS K J t b) :
    FnOk P w K mg base CX0 (k + 1) f fd ps (spF K ps.length (fnF ps.length N.length b)) := by
  refine F.ok S (fun vs H Q E h => h.1) (fun cdv A outer s H vs Q E hr h => ?_)
  obtain ⟨t, pt, rs⟩ := body cdv A outer s H E hr
  exact ⟨t, pt, fn_core (scope_le S) rs h⟩
/-- with defaults -/
theorem okFD {params : Arguments} {bd : List Stmt} {scope : Scope} {dvs : List V} {kws : List (Str × V)} (F : FunD K x qual params bd scope dvs kws f fd) (S : FnScope N ps scope)
    (body : ∀ (cdv : Value) (A : Around) (outer : List Env) (s : Shared) (H : Hp) (E : XK), Room k (A.deeper (envOfC qual scope s.heap.objs.size f cdv)) →
      ∃ t, PSs (cxOf CX0 P w K mg base N qual scope f cdv A outer s H E).nox bd t ∧ ∀ J : Jv ps.length, RS K J t b) :
    FnOk P w K mg base CX0 (k + 1) f fd ps (spF K ps.length (fnF ps.length N.length b)) := by
  refine okD F S (fun vs H Q E h => h.1) (fun cdv A outer s H vs Q E hr h => ?_)
  obtain ⟨t, pt, rs⟩ := body cdv A outer s H E hr
  exact ⟨t, pt, fn_core (scope_le S) rs h⟩
theorem okS (F : Fun K x qual st f fd) (S : FnScope N ps (defScope st))
    (body : ∀ (cdv : Value) (A : Around) (outer : List Env) (s : Shared) (H : Hp) (E : XK), Room k (A.deeper (envOfC qual (defScope st) s.heap.objs.size f cdv)) →
      (A.deeper (envOfC qual (defScope st) s.heap.objs.size f cdv)).guards = some [] →
      ∃ t, PSs (cxOf CX0 P w K mg base N qual (defScope st) f cdv A outer s H E).nox (defBody st) t ∧ ∀ J : Jv ps.length, RS K J t b) :
    FnG P w K mg base (k + 1) f fd ps (spS K ps.length (fnS ps.length N.length b)) := by
  refine okG F S (fun vs H Q E h => h.1) (fun cdv A outer s H vs Q E hr hg h => ?_)
  obtain ⟨t, pt, rs⟩ := body cdv A outer s H E hr hg
  exact ⟨t, pt, fn_coreS (scope_le S) rs h⟩
/-- without repr -/
theorem okS0 (F : Fun K x qual st f fd) (S : FnScope N ps (defScope st))
    (body : ∀ (cdv : Value) (A : Around) (outer : List Env) (s : Shared) (H : Hp) (E : XK), Room k (A.deeper (envOfC qual (defScope st) s.heap.objs.size f cdv)) →
      ∃ t, PSs (cxOf CX0 P w K mg base N qual (defScope st) f cdv A outer s H E).nox (defBody st) t ∧ ∀ J : Jv ps.length, RS K J t b) :
    FnOk P w K mg base CX0 (k + 1) f fd ps (spS K ps.length (fnS ps.length N.length b)) := by
  refine F.ok S (fun vs H Q E h => h.1) (fun cdv A outer s H vs Q E hr h => ?_)
  obtain ⟨t, pt, rs⟩ := body cdv A outer s H E hr
  exact ⟨t, pt, fn_coreS (scope_le S) rs h⟩
/-- with defaults -/
theorem okSD {params : Arguments} {bd : List Stmt} {scope : Scope} {dvs : List V} {kws : List (Str × V)} (F : FunD K x qual params bd scope dvs kws f fd) (S : FnScope N ps scope)
    (body : ∀ (cdv : Value) (A : Around) (outer : List Env) (s : Shared) (H : Hp) (E : XK), Room k (A.deeper (envOfC qual scope s.heap.objs.size f cdv)) →
      ∃ t, PSs (cxOf CX0 P w K mg base N qual scope f cdv A outer s H E).nox bd t ∧ ∀ J : Jv ps.length, RS K J t b) :
    FnOk P w K mg base CX0 (k + 1) f fd ps (spS K ps.length (fnS ps.length N.length b)) := by
  refine okD F S (fun vs H Q E h => h.1) (fun cdv A outer s H vs Q E hr h => ?_)
  obtain ⟨t, pt, rs⟩ := body cdv A outer s H E hr
  exact ⟨t, pt, fn_coreS (scope_le S) rs h⟩
end
end
end DL
/-! operators and built-in calls over data -/
namespace DL
open PySem L2 Z PySem.Spec PyProof.Rows
variable [Tbs]
abbrev G2 := PyData → PyData → (PyData → Prop) → Prop
section
variable {K : PySem.W.Frag} {n : Nat} {J : Jv n}
def o2 (h : Int → Int → PyData) : G2 := fun a b P => match a, b with
  | .int i, .int j => P (h i j)
  | _, _ => False
def o2c (C : Int → Int → Prop) (h : Int → Int → PyData) : G2 := fun a b P => match a, b with
  | .int i, .int j => C i j ∧ P (h i j)
  | _, _ => False
theorem rr_i0 {h : Int → Int → V} {h' : Int → Int → PyData} (e : ∀ i j H, Dq K H (h i j) (h' i j)) : RR K (rI0 h) (o2 h') := by
  intro A H Q x y a b P oc da db g k
  unfold o2 at g
  split at g
  · cases da; cases db; exact ⟨_, _, rfl, rfl, k _ _ _ g (Same.refl _) (e _ _ _)⟩
  · exact g.elim
theorem rr_ic {C : Int → Int → Prop} {h : Int → Int → V} {h' : Int → Int → PyData} (e : ∀ i j H, Dq K H (h i j) (h' i j)) : RR K (rI C h) (o2c C h') := by
  intro A H Q x y a b P oc da db g k
  unfold o2c at g
  split at g
  · cases da; cases db; exact ⟨_, _, rfl, rfl, g.1, k _ _ _ g.2 (Same.refl _) (e _ _ _)⟩
  · exact g.elim
abbrev oAdd : G2 := o2 fun i j => .int (i + j)
abbrev oSub : G2 := o2 fun i j => .int (i - j)
abbrev oMul : G2 := o2c CMul fun i j => .int (i * j)
abbrev oDiv : G2 := o2c CDiv fun i j => .int (i / j)
abbrev oMod : G2 := o2c (fun _ j => 0 < j) fun i j => .int (i % j)
abbrev oPow : G2 := o2c CPow fun i j => .int (i ^ j.toNat)
abbrev oShl : G2 := o2c CPow fun i j => .int (i * 2 ^ j.toNat)
abbrev oShr : G2 := o2c (fun _ j => 0 ≤ j) fun i j => .int (i / 2 ^ j.toNat)
abbrev oBAnd : G2 := o2 fun i j => .int (Builtin.bitAnd i j)
abbrev oBOr : G2 := o2 fun i j => .int (Builtin.bitOr i j)
abbrev oLt : G2 := o2 fun i j => .bool (decide (i < j))
abbrev oLe : G2 := o2 fun i j => .bool (decide (i ≤ j))
abbrev oGt : G2 := o2 fun i j => .bool (decide (j < i))
abbrev oGe : G2 := o2 fun i j => .bool (decide (j ≤ i))
theorem rr_add : RR K (rI0 fun i j => .int (i + j)) oAdd := rr_i0 fun _ _ _ => .int _
theorem rr_sub : RR K (rI0 fun i j => .int (i - j)) oSub := rr_i0 fun _ _ _ => .int _
theorem rr_mul : RR K (rI CMul fun i j => .int (i * j)) oMul := rr_ic fun _ _ _ => .int _
theorem rr_fdiv : RR K (rI CDiv fun i j => .int (i / j)) oDiv := rr_ic fun _ _ _ => .int _
theorem rr_mod : RR K (rI (fun _ j => 0 < j) fun i j => .int (i % j)) oMod := rr_ic fun _ _ _ => .int _
theorem rr_pow : RR K (rI CPow fun i j => .int (i ^ j.toNat)) oPow := rr_ic fun _ _ _ => .int _
theorem rr_shl : RR K (rI CPow fun i j => .int (i * 2 ^ j.toNat)) oShl := rr_ic fun _ _ _ => .int _
theorem rr_shr : RR K (rI (fun _ j => 0 ≤ j) fun i j => .int (i / 2 ^ j.toNat)) oShr := rr_ic fun _ _ _ => .int _
theorem rr_and : RR K (rI0 fun i j => .int (Builtin.bitAnd i j)) oBAnd := rr_i0 fun _ _ _ => .int _
theorem rr_or : RR K (rI0 fun i j => .int (Builtin.bitOr i j)) oBOr := rr_i0 fun _ _ _ => .int _
theorem rr_lt : RR K (rI0 fun i j => .bl (decide (i < j))) oLt := rr_i0 fun _ _ _ => .bl _
theorem rr_le : RR K (rI0 fun i j => .bl (decide (i ≤ j))) oLe := rr_i0 fun _ _ _ => .bl _
theorem rr_gt : RR K (rI0 fun i j => .bl (decide (j < i))) oGt := rr_i0 fun _ _ _ => .bl _
theorem rr_ge : RR K (rI0 fun i j => .bl (decide (j ≤ i))) oGe := rr_i0 fun _ _ _ => .bl _
def oStr (C : Str → Str → Prop) (h : Str → Str → PyData) : G2 := fun a b P => match a, b with
  | .str i, .str j => C i j ∧ P (h i j)
  | _, _ => False
abbrev oAddS : G2 := oStr (fun i j => i.length + j.length ≤ sizeLine) fun i j => .str (i ++ j)
theorem rr_add_str : RR K (fun x y H Q => ∃ i j, x = .str i ∧ y = .str j ∧ i.length + j.length ≤ sizeLine ∧ Q (.str (i ++ j)) H) oAddS := by
  intro A H Q x y a b P oc da db g k
  unfold oAddS oStr at g
  split at g
  · cases da; cases db; exact ⟨_, _, rfl, rfl, g.1, k _ _ _ g.2 (Same.refl _) (.str _)⟩
  · exact g.elim
abbrev oLtS : G2 := oStr (fun _ _ => True) fun i j => .bool (decide (i.cps.toList < j.cps.toList))
theorem rr_lt_str : RR K (fun x y H Q => ∃ i j, x = .str i ∧ y = .str j ∧ Q (.bl (decide (i.cps.toList < j.cps.toList))) H) oLtS := by
  intro A H Q x y a b P oc da db g k
  unfold oLtS oStr at g
  split at g
  · cases da; cases db; exact ⟨_, _, rfl, rfl, k _ _ _ g.2 (Same.refl _) (.bl _)⟩
  · exact g.elim
/-- == of plain things -/
def oEqB (h : Bool → Bool) : G2 := fun a b P => match a, b with
  | .int i, .int j => P (.bool (h (decide (i = j))))
  | .str i, .str j => P (.bool (h (decide (i = j))))
  | .bool i, .bool j => P (.bool (h (decide (i = j))))
  | .none, .none => P (.bool (h true))
  | .none, .int _ => P (.bool (h false))
  | .int _, .none => P (.bool (h false))
  | .none, .str _ => P (.bool (h false))
  | .str _, .none => P (.bool (h false))
  | .none, .bool _ => P (.bool (h false))
  | .bool _, .none => P (.bool (h false))
  | .int _, .str _ => P (.bool (h false))
  | .str _, .int _ => P (.bool (h false))
  | _, _ => False
abbrev oEq : G2 := oEqB id
abbrev oNe : G2 := oEqB not
theorem dec_int {i j : Int} : decide (V.int i = V.int j) = decide (i = j) := by by_cases h : i = j <;> simp [h]
theorem dec_str {i j : Str} : decide (V.str i = V.str j) = decide (i = j) := by by_cases h : i = j <;> simp [h]
theorem dec_bl {i j : Bool} : decide (V.bl i = V.bl j) = decide (i = j) := by by_cases h : i = j <;> simp [h]
theorem rr_eq : RR K rEq oEq := by
  intro A H Q x y a b P oc da db g k
  unfold oEq oEqB at g
  split at g
  · cases da; cases db; refine ⟨rfl, ?_⟩; rw [dec_int]; exact k _ _ _ g (Same.refl _) (.bl _)
  · cases da; cases db; refine ⟨rfl, ?_⟩; rw [dec_str]; exact k _ _ _ g (Same.refl _) (.bl _)
  · cases da; cases db; refine ⟨rfl, ?_⟩; rw [dec_bl]; exact k _ _ _ g (Same.refl _) (.bl _)
  all_goals first | (exact g.elim) | (cases da; cases db; exact ⟨rfl, k _ _ _ g (Same.refl _) (.bl _)⟩)
theorem rr_ne : RR K rNe oNe := by
  intro A H Q x y a b P oc da db g k
  unfold oNe oEqB at g
  split at g
  · cases da; cases db; refine ⟨rfl, ?_⟩; rw [dec_int]; exact k _ _ _ g (Same.refl _) (.bl _)
  · cases da; cases db; refine ⟨rfl, ?_⟩; rw [dec_str]; exact k _ _ _ g (Same.refl _) (.bl _)
  · cases da; cases db; refine ⟨rfl, ?_⟩; rw [dec_bl]; exact k _ _ _ g (Same.refl _) (.bl _)
  all_goals first | (exact g.elim) | (cases da; cases db; exact ⟨rfl, k _ _ _ g (Same.refl _) (.bl _)⟩)
/-- == of data -/
def oEqD : G2 := fun a b P => SeqAt.shaped a = true ∧ SeqAt.shaped b = true ∧ P (.bool (PyData.eqv a b))
def oNeD : G2 := fun a b P => SeqAt.shaped a = true ∧ SeqAt.shaped b = true ∧ P (.bool (!PyData.eqv a b))
theorem rr_eqD : RR K (rEqD K) oEqD := fun A H Q x y a b P oc da db g k => ⟨a, b, Dp.mono hp_same (da.dp (plain_of g.1)), Dp.mono hp_same (db.dp (plain_of g.2.1)), g.1, g.2.1, k _ _ _ g.2.2 (Same.refl _) (.bl _)⟩
theorem rr_neD : RR K (rNeD K) oNeD := fun A H Q x y a b P oc da db g k => ⟨a, b, Dp.mono hp_same (da.dp (plain_of g.1)), Dp.mono hp_same (db.dp (plain_of g.2.1)), g.1, g.2.1, k _ _ _ g.2.2 (Same.refl _) (.bl _)⟩
def isNone : PyData → Bool
  | .none => true
  | _ => false
def oIsB (h : Bool → Bool) : G2 := fun a b P => match b with
  | .none => P (.bool (h (isNone a)))
  | _ => False
abbrev oIs : G2 := oIsB id
abbrev oIsnt : G2 := oIsB not
theorem isNone_of {H : Hp} {x : V} {a : PyData} (d : Dq K H x a) : decide (x = .non) = isNone a := by cases d <;> rfl
theorem rr_isN : RR K (fun x y H Q => y = .non ∧ Q (.bl (decide (x = .non))) H) oIs := by
  intro A H Q x y a b P oc da db g k
  unfold oIs oIsB at g
  split at g
  · cases db; refine ⟨rfl, ?_⟩; rw [isNone_of da]; exact k _ _ _ g (Same.refl _) (.bl _)
  · exact g.elim
theorem rr_notN : RR K (fun x y H Q => y = .non ∧ Q (.bl (!decide (x = .non))) H) oIsnt := by
  intro A H Q x y a b P oc da db g k
  unfold oIsnt oIsB at g
  split at g
  · cases db; refine ⟨rfl, ?_⟩; rw [isNone_of da]; exact k _ _ _ g (Same.refl _) (.bl _)
  · exact g.elim
/-- a sign in a text -/
def oInSB (h : Bool → Bool) : G2 := fun a b P => match a, b with
  | .str s, .str z => ∃ c, s = ⟨#[c]⟩ ∧ P (.bool (h (decide (c ∈ z.cps.toList))))
  | _, _ => False
abbrev oInS : G2 := oInSB id
abbrev oNinS : G2 := oInSB not
theorem rr_in_sign : RR K (fun x y H Q => ∃ (c : Nat) (z : Str), x = .str ⟨#[c]⟩ ∧ y = .str z ∧ Q (.bl (decide (c ∈ z.cps.toList))) H) oInS := by
  intro A H Q x y a b P oc da db g k
  unfold oInS oInSB at g
  split at g
  · cases da; cases db; obtain ⟨c, rfl, g⟩ := g; exact ⟨_, _, rfl, rfl, k _ _ _ g (Same.refl _) (.bl _)⟩
  · exact g.elim
theorem rr_notIn_sign : RR K (fun x y H Q => ∃ (c : Nat) (z : Str), x = .str ⟨#[c]⟩ ∧ y = .str z ∧ Q (.bl (!decide (c ∈ z.cps.toList))) H) oNinS := by
  intro A H Q x y a b P oc da db g k
  unfold oNinS oInSB at g
  split at g
  · cases da; cases db; obtain ⟨c, rfl, g⟩ := g; exact ⟨_, _, rfl, rfl, k _ _ _ g (Same.refl _) (.bl _)⟩
  · exact g.elim
def flatD : PyData → Bool
  | .none => true
  | .bool _ => true
  | .int _ => true
  | .str _ => true
  | _ => false
theorem flat_of {H : Hp} {x : V} {a : PyData} (d : Dq K H x a) (h : flatD a = true) : flatV x = true := by
  cases d <;> first | rfl | cases h
theorem eqV_of {H : Hp} {x y : V} {a b : PyData} (d : Dq K H x a) (e : Dq K H y b) (h : flatD a = true) (h' : flatD b = true) : eqV x y = PyData.eqv a b := by
  cases d <;> first | (cases h; done) | (cases e <;> first | (cases h'; done) | (unfold PyData.eqv; rfl))
theorem flats_of {H : Hp} : ∀ {xs : List V} {ds : List PyData}, DqAll K H xs ds → ds.all flatD = true → xs.all flatV = true
  | _, _, .nil, _ => rfl
  | _, _, .cons a b, h => by
    have h' := Bool.and_eq_true_iff.mp h
    exact Bool.and_eq_true_iff.mpr ⟨flat_of a h'.1, flats_of b h'.2⟩
def inD (a : PyData) (ds : List PyData) : Bool := ds.any fun y => PyData.eqv y a
theorem in_of {H : Hp} {x : V} {a : PyData} (d : Dq K H x a) (h : flatD a = true) : ∀ {xs : List V} {ds : List PyData}, DqAll K H xs ds → ds.all flatD = true → inV x xs = inD a ds
  | _, _, .nil, _ => rfl
  | _, _, .cons e b, h' => by
    have h' := Bool.and_eq_true_iff.mp h'
    show (eqV _ x || inV x _) = (PyData.eqv _ a || inD a _)
    rw [eqV_of e d h'.1 h, in_of d h b h'.2]
def seqF (a : PyData) (k : List PyData → Prop) : Prop := match a with
  | .list ds => k ds
  | .tuple ds => k ds
  | _ => False
def oIn (neg : Bool) : G2 := fun a b P => seqF b fun ds => flatD a = true ∧ ds.all flatD = true ∧ P (.bool (if neg then !inD a ds else inD a ds))
theorem seqF_of {A : Addr → Prop} {H : Hp} {x : V} {a : PyData} {k : List PyData → Prop} (d : Dq K (hp A H) x a) (h : seqF a k) : ∃ p xs ds, x = .ref p ∧ (SqL K H p xs ∨ SqT K H p xs) ∧ DqAll K (hp A H) xs ds ∧ k ds := by
  unfold seqF at h
  split at h
  · obtain ⟨p, xs, rfl, s, r⟩ := d.list_of
    exact ⟨p, xs, _, rfl, .inl (SqL.mono hp_same s), r, h⟩
  · obtain ⟨p, xs, rfl, s, r⟩ := d.tuple_of
    exact ⟨p, xs, _, rfl, .inr (SqT.mono hp_same s), r, h⟩
  · exact h.elim
theorem rr_in {neg : Bool} : RR K (rIn K neg) (oIn neg) := by
  intro A H Q x y a b P oc da db g k
  obtain ⟨p, xs, ds, rfl, s, r, h1, h2, g⟩ := seqF_of db g
  refine ⟨p, xs, rfl, s, flat_of da h1, flats_of r h2, ?_⟩
  rw [in_of da h1 r h2]
  exact k _ _ _ g (Same.refl _) (.bl _)
/-- x in own -/
def fInO (neg : Bool) (i : Nat) (a : FE) : FE := fun ρ P => a ρ fun x ρ1 => ownF ρ1 i fun ds => flatD x = true ∧ ds.all flatD = true ∧ P (.bool (if neg then !inD x ds else inD x ds)) ρ1
theorem re_inO {neg : Bool} {i : Nat} {ta : TE} {a : FE} (ha : RE K J ta a) : RE K J (tOp (rIn K neg) ta (tVar i)) (fInO neg i a) := by
  intro O as σ H Q ρ P E q k
  refine ha O as σ H _ ρ _ E q fun x ρ1 v H1 q1 f1 E1 d1 => ?_
  obtain ⟨ds, hds, h1, h2, q1⟩ := ownF_of q1
  obtain ⟨p, xs, e1, e2, e3, e4⟩ := E1.own_at hds
  refine ⟨_, e1, p, xs, rfl, .inl (SqL.of e3), flat_of d1 h1, flats_of e4 h2, ?_⟩
  rw [in_of d1 h1 e4 h2]
  exact k _ _ _ _ q1 f1 E1 (.bl _)
/-! places -/
def oIxL : G2 := fun a b P => match a, b with
  | .list ds, .int k => ∃ d, atI ds k = some d ∧ P d
  | _, _ => False
def oIxT : G2 := fun a b P => match a, b with
  | .tuple ds, .int k => ∃ d, atI ds k = some d ∧ P d
  | _, _ => False
def oIxS : G2 := fun a b P => match a, b with
  | .str z, .int k => z.length ≤ sizeLine ∧ ∃ c, atI z.cps.toList k = some c ∧ P (.str ⟨#[c]⟩)
  | _, _ => False
theorem rr_ixL : RR K (rIxL K) oIxL := by
  intro A H Q x y a b P oc da db g k
  unfold oIxL at g
  split at g
  · cases db
    obtain ⟨p, xs, rfl, s, r⟩ := da.list_of
    obtain ⟨d, hd, g⟩ := g
    obtain ⟨v, hv, dv⟩ := r.atI hd
    exact ⟨p, xs, _, v, rfl, rfl, SqL.mono hp_same s, hv, k _ _ _ g (Same.refl _) dv⟩
  · exact g.elim
theorem rr_ixT : RR K (rIxT K) oIxT := by
  intro A H Q x y a b P oc da db g k
  unfold oIxT at g
  split at g
  · cases db
    obtain ⟨p, xs, rfl, s, r⟩ := da.tuple_of
    obtain ⟨d, hd, g⟩ := g
    obtain ⟨v, hv, dv⟩ := r.atI hd
    exact ⟨p, xs, _, v, rfl, rfl, SqT.mono hp_same s, hv, k _ _ _ g (Same.refl _) dv⟩
  · exact g.elim
theorem rr_ixS : RR K rIxS oIxS := by
  intro A H Q x y a b P oc da db g k
  unfold oIxS at g
  split at g
  · cases da; cases db
    obtain ⟨hz, c, hc, g⟩ := g
    exact ⟨_, _, c, rfl, rfl, hz, hc, k _ _ _ g (Same.refl _) (.str _)⟩
  · exact g.elim
def oIx : G2 := fun a b P => match a, b with
  | .list ds, .int k => ∃ d, atI ds k = some d ∧ P d
  | .tuple ds, .int k => ∃ d, atI ds k = some d ∧ P d
  | .str z, .int k => z.length ≤ sizeLine ∧ ∃ c, atI z.cps.toList k = some c ∧ P (.str ⟨#[c]⟩)
  | _, _ => False
theorem rr_ix : RR K (rIx K) oIx := by
  intro A H Q x y a b P oc da db g k
  unfold oIx at g
  split at g
  · exact .inl (rr_ixL A H Q x y _ _ P oc da db g k)
  · exact .inr (.inl (rr_ixT A H Q x y _ _ P oc da db g k))
  · exact .inr (.inr (rr_ixS A H Q x y _ _ P oc da db g k))
  · exact g.elim
/-! slices -/
abbrev FO := En → (Option Int → En → Prop) → Prop
def RO (K : PySem.W.Frag) {n : Nat} (J : Jv n) (t : TO) (f : FO) : Prop := ∀ (O : Addr → Prop) (as : As) (σ : L2.St) (H : Hs) (Q : Option Int → Hp → Prop) (ρ : En) (P : Option Int → En → Prop), EnR K J O as H ρ σ → f ρ P →
  (∀ o ρ' H', P o ρ' → Fr as H H' → EnR K J O as H' ρ' σ → Q o H') → t σ H Q
def pNo : FO := fun ρ P => P none ρ
def pSo (a : FE) : FO := fun ρ P => a ρ fun d ρ1 => intF d fun i => P (some i) ρ1
theorem ro_no : RO K J tNoPart pNo := fun O as σ H Q ρ P E f k => k none ρ H f (Fr.refl) E
theorem ro_so {t : TE} {a : FE} (ha : RE K J t a) : RO K J (tPart t) (pSo a) := by
  intro O as σ H Q ρ P E q k
  refine ha O as σ H _ ρ _ E q fun d ρ1 v H1 q1 f1 E1 d1 => ?_
  unfold intF at q1
  split at q1
  · cases d1; exact ⟨_, rfl, k _ _ _ q1 f1 E1⟩
  · exact q1.elim
def RL (K : PySem.W.Frag) (r : V → Option Int → Option Int → Hp → VK → Prop) (g : PyData → Option Int → Option Int → (PyData → Prop) → Prop) : Prop := ∀ (A : Addr → Prop) (H : Hp) (Q : VK) (x : V) (a : PyData) (lo hi : Option Int) (P : PyData → Prop), (∀ c, A c → H c ≠ none) →
  Dq K (hp A H) x a → g a lo hi P → (∀ d v H', P d → Same H H' → Dq K (hp A H') v d → Q v H') → r x lo hi H Q
def fSl (g : PyData → Option Int → Option Int → (PyData → Prop) → Prop) (a : FE) (lo hi : FO) : FE := fun ρ P => a ρ fun x ρ1 => lo ρ1 fun l ρ2 => hi ρ2 fun u ρ3 => g x l u fun d => P d ρ3
theorem re_sl {r : V → Option Int → Option Int → Hp → VK → Prop} {g : PyData → Option Int → Option Int → (PyData → Prop) → Prop} {te : TE} {tl th : TO} {a : FE} {lo hi : FO} (hr : RL K r g) (ha : RE K J te a) (hl : RO K J tl lo) (hh : RO K J th hi) : RE K J (tSl r te tl th) (fSl g a lo hi) := by
  intro O as σ H Q ρ P E q k
  refine ha O as σ H _ ρ _ E q fun x ρ1 v H1 q1 f1 E1 d1 => ?_
  refine hl O as σ H1 _ ρ1 _ E1 q1 fun l ρ2 H2 q2 f2 E2 => ?_
  refine hh O as σ H2 _ ρ2 _ E2 q2 fun u ρ3 H3 q3 f3 E3 => ?_
  refine hr (Hid O as H3) H3 _ v x l u _ (fun c h => E3.full h) ((d1.fr f2).fr f3) q3 fun d w H4 p s4 d4 => ?_
  exact k _ _ _ _ p (((f1.trans f2).trans f3).trans (E3.frS s4)) (E3.grow s4) (d4.mono (E3.toS s4))
def cutD (xs : List PyData) (lo hi : Option Int) : List PyData := (xs.drop (HT.sIx xs.length 0 lo)).take (HT.sIx xs.length xs.length hi - HT.sIx xs.length 0 lo)
theorem DqAll.cut {G : Hp} {xs : List V} {ds : List PyData} (r : DqAll K G xs ds) (lo hi : Option Int) : DqAll K G (cutV xs lo hi) (cutD ds lo hi) := by
  unfold cutV cutD
  rw [r.length]
  exact (r.drop _).take _
def sL : PyData → Option Int → Option Int → (PyData → Prop) → Prop := fun a lo hi P => listF a fun ds => P (.list (cutD ds lo hi))
def sT : PyData → Option Int → Option Int → (PyData → Prop) → Prop := fun a lo hi P => tupleF a fun ds => P (.tuple (cutD ds lo hi))
def sS : PyData → Option Int → Option Int → (PyData → Prop) → Prop := fun a lo hi P => strF a fun z => z.length ≤ sizeLine ∧ P (.str (cutS z lo hi))
theorem rl_list : RL K (rSlL K) sL := by
  intro A H Q x a lo hi P oc da g k
  unfold sL listF at g
  split at g
  · obtain ⟨p, xs, rfl, s, r⟩ := da.list_of
    refine ⟨p, xs, rfl, SqL.mono hp_same s, fun l hl => ?_⟩
    have sm := Same.new (o := .lst (cutV xs lo hi)) hl
    exact k _ _ _ g sm (.lst (SqL.of (hp_mk (fun q => oc _ q hl) upd_same)) ((r.mono (hp_grow sm)).cut lo hi))
  · exact g.elim
theorem rl_tupA : RL K (rSlA K) sT := by
  intro A H Q x a lo hi P oc da g k
  unfold sT tupleF at g
  split at g
  · obtain ⟨p, xs, rfl, s, r⟩ := da.tuple_of
    refine ⟨p, xs, rfl, SqT.mono hp_same s, fun e => ?_, fun _ l hl => ?_⟩
    · refine k _ _ _ g (Same.refl _) (.tup (xs := cutV xs lo hi) ?_ (r.cut lo hi))
      unfold cutV
      rw [e.1, e.2, List.drop_zero, Nat.sub_zero, List.take_length]
      exact s
    · have sm := Same.new (o := .tup (cutV xs lo hi)) hl
      exact k _ _ _ g sm (.tup (SqT.of (hp_mk (fun q => oc _ q hl) upd_same)) ((r.mono (hp_grow sm)).cut lo hi))
  · exact g.elim
theorem rl_str : RL K rSlS sS := by
  intro A H Q x a lo hi P oc da g k
  unfold sS strF at g
  split at g
  · cases da; exact ⟨_, rfl, g.1, k _ _ _ g.2 (Same.refl _) (.str _)⟩
  · exact g.elim
end
end DL
namespace DL
open PySem L2 Z PySem.Spec PyProof.Rows
variable [Tbs]
section
variable {K : PySem.W.Frag} {n : Nat} {J : Jv n}
/-- list + list, each tracked, frozen or of the module -/
def rCatK (K : PySem.W.Frag) : R2 := fun x y H Q => ∃ l b xs zs, x = .ref l ∧ y = .ref b ∧ SqL K H l xs ∧ SqL K H b zs ∧ xs.length + zs.length ≤ sizeLine ∧ ∀ p, H p = none → Q (.ref p) (upd H p (.lst (xs ++ zs)))
theorem op_catK {X : Cx} : OpR X (binaryOp .Add) (rCatK X.K) := by
  intro pins s σ H x y v u Q I rx ry h
  obtain ⟨l, b, xs, zs, rfl, rfl, hH, hB, hz, q⟩ := h
  cases rx
  cases ry
  obtain ⟨its, r, ⟨⟨c1, d1, e1, sl1⟩, n1, ho1, hc1, hd1, hs1⟩, z1⟩ := I.list hH
  obtain ⟨its2, r2, ⟨⟨c2, d2, e2, sl2⟩, n2, ho2, hc2, hd2, hs2⟩, z2⟩ := I.list hB
  simp only at hc1 hd1 hs1 hc2 hd2 hs2
  subst hc1 hd1 hs1 hc2 hd2 hs2
  have ea : its.toArray ++ its2.toArray = (its ++ its2).toArray := by simp
  have l1 := r.length
  have l2 := r2.length
  refine concat_meets ⟨_, ho1, rfl⟩ ⟨_, ho2, rfl⟩ noFill_list_add seq_list_add PySem.F.slot_list_add PySem.F.entry_list_add (PySem.F.args_list_add_2 _ _) (list_addW l b its.toArray its2.toArray n1 n2 none none sl1 sl2 (by simp; omega)) ⟨ho1, ho2, ?_⟩
  rw [ea]
  exact ⟨.ref _, _, I.lnew (t' := s.toks) (r.append r2) (by rw [List.length_append]; omega), rfl, q _ I.fresh⟩
def oCatL : G2 := fun a b P => match a, b with
  | .list xs, .list ys => xs.length + ys.length ≤ sizeLine ∧ P (.list (xs ++ ys))
  | _, _ => False
theorem rr_cat : RR K (rCatK K) oCatL := by
  intro A H Q x y a b P oc da db g k
  unfold oCatL at g
  split at g
  · obtain ⟨p, xs, rfl, s, r⟩ := da.list_of
    obtain ⟨p', xs', rfl, s', r'⟩ := db.list_of
    refine ⟨p, p', xs, xs', rfl, rfl, SqL.mono hp_same s, SqL.mono hp_same s', by rw [r.length, r'.length]; exact g.1, fun l hl => ?_⟩
    have sm := Same.new (o := .lst (xs ++ xs')) hl
    exact k _ _ _ g.2 sm (.lst (SqL.of (hp_mk (fun q => oc _ q hl) upd_same)) ((r.mono (hp_grow sm)).append (r'.mono (hp_grow sm))))
  · exact g.elim
def oCatT : G2 := fun a b P => match a, b with
  | .tuple xs, .tuple ys => xs.length + ys.length ≤ sizeLine ∧ P (.tuple (xs ++ ys))
  | _, _ => False
theorem rr_catA : RR K (rCatA K) oCatT := by
  intro A H Q x y a b P oc da db g k
  unfold oCatT at g
  split at g
  · obtain ⟨p, xs, rfl, s, r⟩ := da.tuple_of
    obtain ⟨p', xs', rfl, s', r'⟩ := db.tuple_of
    have rr := r.append r'
    refine ⟨p, p', xs, xs', rfl, rfl, SqT.mono hp_same s, SqT.mono hp_same s', by rw [r.length, r'.length]; exact g.1, fun e => ?_, fun _ e => ?_, fun _ _ l hl => ?_⟩
    · subst e
      exact k _ _ _ g.2 (Same.refl _) (.tup s' rr)
    · subst e
      rw [List.append_nil] at rr
      exact k _ _ _ g.2 (Same.refl _) (.tup s rr)
    · have sm := Same.new (o := .tup (xs ++ xs')) hl
      exact k _ _ _ g.2 sm (.tup (SqT.of (hp_mk (fun q => oc _ q hl) upd_same)) (rr.mono (hp_grow sm)))
  · exact g.elim
def uNeg (a : PyData) (P : PyData → Prop) : Prop := intF a fun i => P (.int (-i))
theorem ru_neg : RU K (rU fun i => .int (-i)) uNeg := by
  intro A H Q x a P oc da g k
  unfold uNeg intF at g
  split at g
  · cases da; exact ⟨_, rfl, k _ _ _ g (Same.refl _) (.int _)⟩
  · exact g.elim
/-! built-in calls -/
def one (ds : List PyData) (k : PyData → Prop) : Prop := match ds with
  | [d] => k d
  | _ => False
theorem one_of {G : Hp} {vs : List V} {ds : List PyData} {k : PyData → Prop} (r : DqAll K G vs ds) (h : one ds k) : ∃ v d, vs = [v] ∧ Dq K G v d ∧ k d := by
  unfold one at h
  split at h
  · cases r with
    | cons a b => cases b; exact ⟨_, _, rfl, a, h⟩
  · exact h.elim
def bLenS (ds : List PyData) (P : PyData → Prop) : Prop := one ds fun d => strF d fun z => z.length ≤ sizeLine ∧ P (.int z.length)
theorem rb_len_str : RB K (fun xs H Q => ∃ z, xs = [.str z] ∧ z.length ≤ sizeLine ∧ Q (.int z.length) H) bLenS := by
  intro A H Q xs ds P oc r g k
  obtain ⟨v, d, rfl, q, g⟩ := one_of r g
  unfold strF at g
  split at g
  · cases q; exact ⟨_, rfl, g.1, k _ _ _ g.2 (Same.refl _) (.int _)⟩
  · exact g.elim
def bLen (ds : List PyData) (P : PyData → Prop) : Prop := one ds fun d => seqF d fun es => P (.int es.length)
theorem rb_len : RB K (fun xs H Q => ∃ p ys, xs = [.ref p] ∧ (SqL K H p ys ∨ SqT K H p ys) ∧ Q (.int ys.length) H) bLen := by
  intro A H Q xs ds P oc r g k
  obtain ⟨v, d, rfl, q, g⟩ := one_of r g
  obtain ⟨p, xs, ds, rfl, s, r, g⟩ := seqF_of q g
  refine ⟨p, xs, rfl, s, ?_⟩
  rw [r.length]
  exact k _ _ _ g (Same.refl _) (.int _)
theorem rb_lenK : RB K (rLenK K) bLen := rb_len
def bAbs (ds : List PyData) (P : PyData → Prop) : Prop := one ds fun d => intF d fun i => P (.int (if i < 0 then -i else i))
theorem rb_abs : RB K (fun xs H Q => ∃ i, xs = [.int i] ∧ Q (.int (if i < 0 then -i else i)) H) bAbs := by
  intro A H Q xs ds P oc r g k
  obtain ⟨v, d, rfl, q, g⟩ := one_of r g
  unfold intF at g
  split at g
  · cases q; exact ⟨_, rfl, k _ _ _ g (Same.refl _) (.int _)⟩
  · exact g.elim
def two (ds : List PyData) (k : Int → Int → Prop) : Prop := match ds with
  | [.int i, .int j] => k i j
  | _ => False
theorem two_of {G : Hp} {vs : List V} {ds : List PyData} {k : Int → Int → Prop} (r : DqAll K G vs ds) (h : two ds k) : ∃ i j, vs = [.int i, .int j] ∧ k i j := by
  unfold two at h
  split at h
  · cases r with
    | cons a b => cases b with
      | cons c d => cases a; cases c; cases d; exact ⟨_, _, rfl, h⟩
  · exact h.elim
def bMin (ds : List PyData) (P : PyData → Prop) : Prop := two ds fun i j => P (.int (if j < i then j else i))
def bMax (ds : List PyData) (P : PyData → Prop) : Prop := two ds fun i j => P (.int (if j > i then j else i))
theorem rb_min2 : RB K (fun xs H Q => ∃ i j, xs = [.int i, .int j] ∧ Q (.int (if j < i then j else i)) H) bMin := by
  intro A H Q xs ds P oc r g k
  obtain ⟨i, j, rfl, g⟩ := two_of r g
  exact ⟨_, _, rfl, k _ _ _ g (Same.refl _) (.int _)⟩
theorem rb_max2 : RB K (fun xs H Q => ∃ i j, xs = [.int i, .int j] ∧ Q (.int (if j > i then j else i)) H) bMax := by
  intro A H Q xs ds P oc r g k
  obtain ⟨i, j, rfl, g⟩ := two_of r g
  exact ⟨_, _, rfl, k _ _ _ g (Same.refl _) (.int _)⟩
def bDivmod (ds : List PyData) (P : PyData → Prop) : Prop := two ds fun i j => CDiv i j ∧ P (.tuple [.int (i / j), .int (i % j)])
theorem rb_divmod : RB K (fun xs H Q => ∃ i j, xs = [.int i, .int j] ∧ CDiv i j ∧ ∀ p, H p = none → Q (.ref p) (upd H p (.tup [.int (i / j), .int (i % j)]))) bDivmod := by
  intro A H Q xs ds P oc r g k
  obtain ⟨i, j, rfl, g⟩ := two_of r g
  refine ⟨_, _, rfl, g.1, fun p hp1 => ?_⟩
  exact k _ _ _ g.2 (Same.new hp1) (.tup (SqT.of (hp_mk (fun q => oc _ q hp1) upd_same)) (.cons (.int _) (.cons (.int _) .nil)))
def boolsF : List PyData → (List Bool → Prop) → Prop
  | [], k => k []
  | .bool b :: r, k => boolsF r fun bs => k (b :: bs)
  | _ :: _, _ => False
theorem boolsF_of : ∀ {ds : List PyData} {k : List Bool → Prop}, boolsF ds k → ∃ bs : List Bool, ds = bs.map .bool ∧ k bs
  | [], k, h => ⟨[], rfl, h⟩
  | .bool b :: r, k, h => by
    obtain ⟨bs, e, h'⟩ := boolsF_of (ds := r) h
    exact ⟨b :: bs, by rw [e]; rfl, h'⟩
theorem boolsF_map {bs : List Bool} : ∀ {k : List Bool → Prop}, k bs → boolsF (bs.map .bool) k := by
  induction bs with
  | nil => exact fun h => h
  | cons b r ih => exact fun {k} h => ih (k := fun bs => k (b :: bs)) h
def intsF : List PyData → (List Int → Prop) → Prop
  | [], k => k []
  | .int b :: r, k => intsF r fun bs => k (b :: bs)
  | _ :: _, _ => False
theorem intsF_of : ∀ {ds : List PyData} {k : List Int → Prop}, intsF ds k → ∃ bs : List Int, ds = bs.map .int ∧ k bs
  | [], k, h => ⟨[], rfl, h⟩
  | .int b :: r, k, h => by
    obtain ⟨bs, e, h'⟩ := intsF_of (ds := r) h
    exact ⟨b :: bs, by rw [e]; rfl, h'⟩
theorem intsF_map {bs : List Int} : ∀ {k : List Int → Prop}, k bs → intsF (bs.map .int) k := by
  induction bs with
  | nil => exact fun h => h
  | cons b r ih => exact fun {k} h => ih (k := fun bs => k (b :: bs)) h
def strsF : List PyData → (List Str → Prop) → Prop
  | [], k => k []
  | .str b :: r, k => strsF r fun bs => k (b :: bs)
  | _ :: _, _ => False
theorem strsF_of : ∀ {ds : List PyData} {k : List Str → Prop}, strsF ds k → ∃ bs : List Str, ds = bs.map .str ∧ k bs
  | [], k, h => ⟨[], rfl, h⟩
  | .str b :: r, k, h => by
    obtain ⟨bs, e, h'⟩ := strsF_of (ds := r) h
    exact ⟨b :: bs, by rw [e]; rfl, h'⟩
theorem strsF_map {bs : List Str} : ∀ {k : List Str → Prop}, k bs → strsF (bs.map .str) k := by
  induction bs with
  | nil => exact fun h => h
  | cons b r ih => exact fun {k} h => ih (k := fun bs => k (b :: bs)) h
def bAll (ds : List PyData) (P : PyData → Prop) : Prop := one ds fun d => listF d fun es => boolsF es fun bs => P (.bool (bs.all id))
def bAny (ds : List PyData) (P : PyData → Prop) : Prop := one ds fun d => listF d fun es => boolsF es fun bs => P (.bool (bs.any id))
def bSum (ds : List PyData) (P : PyData → Prop) : Prop := one ds fun d => listF d fun es => intsF es fun ns => P (.int ns.sum)
theorem rb_all : RB K (rAll K) bAll := by
  intro A H Q xs ds P oc r g k
  obtain ⟨v, d, rfl, q, g⟩ := one_of r g
  unfold listF at g
  split at g
  · obtain ⟨bs, e, g'⟩ := boolsF_of g
    subst e
    obtain ⟨a, ys, rfl, s, r⟩ := q.list_of
    cases r.bools_of
    exact ⟨a, bs, rfl, SqL.mono hp_same s, k _ _ _ g' (Same.refl _) (.bl _)⟩
  · exact g.elim
theorem rb_any : RB K (rAny K) bAny := by
  intro A H Q xs ds P oc r g k
  obtain ⟨v, d, rfl, q, g⟩ := one_of r g
  unfold listF at g
  split at g
  · obtain ⟨bs, e, g'⟩ := boolsF_of g
    subst e
    obtain ⟨a, ys, rfl, s, r⟩ := q.list_of
    cases r.bools_of
    exact ⟨a, bs, rfl, SqL.mono hp_same s, k _ _ _ g' (Same.refl _) (.bl _)⟩
  · exact g.elim
theorem rb_sum : RB K (rSum K) bSum := by
  intro A H Q xs ds P oc r g k
  obtain ⟨v, d, rfl, q, g⟩ := one_of r g
  unfold listF at g
  split at g
  · obtain ⟨bs, e, g'⟩ := intsF_of g
    subst e
    obtain ⟨a, ys, rfl, s, r⟩ := q.list_of
    cases r.ints_of
    exact ⟨a, bs, rfl, SqL.mono hp_same s, k _ _ _ g' (Same.refl _) (.int _)⟩
  · exact g.elim
def bMinL (ds : List PyData) (P : PyData → Prop) : Prop := one ds fun d => listF d fun es => intsF es fun ns => 0 < ns.length ∧ ∀ m, m ∈ ns → (∀ y, y ∈ ns → m ≤ y) → P (.int m)
def bMaxL (ds : List PyData) (P : PyData → Prop) : Prop := one ds fun d => listF d fun es => intsF es fun ns => 0 < ns.length ∧ ∀ m, m ∈ ns → (∀ y, y ∈ ns → y ≤ m) → P (.int m)
theorem rb_min : RB K (rMin K) bMinL := by
  intro A H Q xs ds P oc r g k
  obtain ⟨v, d, rfl, q, g⟩ := one_of r g
  unfold listF at g
  split at g
  · obtain ⟨bs, e, g'⟩ := intsF_of g
    subst e
    obtain ⟨a, ys, rfl, s, r⟩ := q.list_of
    cases r.ints_of
    exact ⟨a, bs, rfl, SqL.mono hp_same s, g'.1, fun m h1 h2 => k _ _ _ (g'.2 m h1 h2) (Same.refl _) (.int _)⟩
  · exact g.elim
theorem rb_max : RB K (rMax K) bMaxL := by
  intro A H Q xs ds P oc r g k
  obtain ⟨v, d, rfl, q, g⟩ := one_of r g
  unfold listF at g
  split at g
  · obtain ⟨bs, e, g'⟩ := intsF_of g
    subst e
    obtain ⟨a, ys, rfl, s, r⟩ := q.list_of
    cases r.ints_of
    exact ⟨a, bs, rfl, SqL.mono hp_same s, g'.1, fun m h1 h2 => k _ _ _ (g'.2 m h1 h2) (Same.refl _) (.int _)⟩
  · exact g.elim
def bSortI (ds : List PyData) (P : PyData → Prop) : Prop := one ds fun d => listF d fun es => intsF es fun ns => ∀ ms : List Int, ms.Perm ns → ms.Pairwise (· ≤ ·) → P (.list (ms.map .int))
theorem rb_sortI : RB K (rSortedI K) bSortI := by
  intro A H Q xs ds P oc r g k
  obtain ⟨v, d, rfl, q, g⟩ := one_of r g
  unfold listF at g
  split at g
  · obtain ⟨bs, e, g'⟩ := intsF_of g
    subst e
    obtain ⟨a, ys, rfl, s, r⟩ := q.list_of
    cases r.ints_of
    refine ⟨a, bs, rfl, SqL.mono hp_same s, fun ms p h1 h2 hp1 => ?_⟩
    exact k _ _ _ (g' ms h1 h2) (Same.new hp1) (.lst (SqL.of (hp_mk (fun q => oc _ q hp1) upd_same)) (DqAll.ints _))
  · exact g.elim
def bInt (ds : List PyData) (P : PyData → Prop) : Prop := one ds fun d => match d with
  | .int i => P (.int i)
  | .bool b => P (.int (if b then 1 else 0))
  | _ => False
theorem rb_int : RB K (fun xs H Q => (∃ i, xs = [.int i] ∧ Q (.int i) H) ∨ ∃ k, xs = [.bl k] ∧ Q (.int (if k then 1 else 0)) H) bInt := by
  intro A H Q xs ds P oc r g k
  obtain ⟨v, d, rfl, q, g⟩ := one_of r g
  split at g
  · cases q; exact .inl ⟨_, rfl, k _ _ _ g (Same.refl _) (.int _)⟩
  · cases q; exact .inr ⟨_, rfl, k _ _ _ g (Same.refl _) (.int _)⟩
  · exact g.elim
def bIntS (ds : List PyData) (P : PyData → Prop) : Prop := one ds fun d => strF d fun a => ∃ m, PySem.intText? a = some m ∧ a.length ≤ 640 ∧ P (.int m)
theorem rb_int_str : RB K (fun xs H Q => ∃ a n, xs = [.str a] ∧ PySem.intText? a = some n ∧ a.length ≤ 640 ∧ Q (.int n) H) bIntS := by
  intro A H Q xs ds P oc r g k
  obtain ⟨v, d, rfl, q, g⟩ := one_of r g
  unfold strF at g
  split at g
  · cases q; obtain ⟨m, h1, h2, g⟩ := g; exact ⟨_, _, rfl, h1, h2, k _ _ _ g (Same.refl _) (.int _)⟩
  · exact g.elim
def bStrI (ds : List PyData) (P : PyData → Prop) : Prop := one ds fun d => intF d fun i => i.natAbs.log2 < 1920 ∧ P (.str (toString i))
theorem rb_str_int : RB K (fun xs H Q => ∃ i, xs = [.int i] ∧ i.natAbs.log2 < 1920 ∧ Q (.str (toString i)) H) bStrI := by
  intro A H Q xs ds P oc r g k
  obtain ⟨v, d, rfl, q, g⟩ := one_of r g
  unfold intF at g
  split at g
  · cases q; exact ⟨_, rfl, g.1, k _ _ _ g.2 (Same.refl _) (.str _)⟩
  · exact g.elim
def bBool (ds : List PyData) (P : PyData → Prop) : Prop := one ds fun d => match d with
  | .int i => P (.bool (i != 0))
  | .bool b => P (.bool b)
  | _ => False
theorem rb_bool : RB K (fun xs H Q => (∃ i, xs = [.int i] ∧ Q (.bl (i != 0)) H) ∨ ∃ k, xs = [.bl k] ∧ Q (.bl k) H) bBool := by
  intro A H Q xs ds P oc r g k
  obtain ⟨v, d, rfl, q, g⟩ := one_of r g
  split at g
  · cases q; exact .inl ⟨_, rfl, k _ _ _ g (Same.refl _) (.bl _)⟩
  · cases q; exact .inr ⟨_, rfl, k _ _ _ g (Same.refl _) (.bl _)⟩
  · exact g.elim
def bList (ds : List PyData) (P : PyData → Prop) : Prop := one ds fun d => seqF d fun es => P (.list es)
theorem rb_list : RB K (fun xs H Q => ∃ p ys, xs = [.ref p] ∧ (SqL K H p ys ∨ SqT K H p ys) ∧ ∀ l, H l = none → Q (.ref l) (upd H l (.lst ys))) bList := by
  intro A H Q xs ds P oc r g k
  obtain ⟨v, d, rfl, q, g⟩ := one_of r g
  obtain ⟨p, xs, ds, rfl, s, r, g⟩ := seqF_of q g
  refine ⟨p, xs, rfl, s, fun l hl => ?_⟩
  have sm := Same.new (o := .lst xs) hl
  exact k _ _ _ g sm (.lst (SqL.of (hp_mk (fun q => oc _ q hl) upd_same)) (r.mono (hp_grow sm)))
def bTuple (ds : List PyData) (P : PyData → Prop) : Prop := one ds fun d => seqF d fun es => P (.tuple es)
theorem rb_tuple : RB K (fun xs H Q => ∃ p ys, xs = [.ref p] ∧ ((SqL K H p ys ∧ ∀ l, H l = none → Q (.ref l) (upd H l (.tup ys))) ∨ (SqT K H p ys ∧ Q (.ref p) H))) bTuple := by
  intro A H Q xs ds P oc r g k
  obtain ⟨v, d, rfl, q, g⟩ := one_of r g
  unfold seqF at g
  split at g
  · obtain ⟨p, xs, rfl, s, r⟩ := q.list_of
    refine ⟨p, xs, rfl, .inl ⟨SqL.mono hp_same s, fun l hl => ?_⟩⟩
    have sm := Same.new (o := .tup xs) hl
    exact k _ _ _ g sm (.tup (SqT.of (hp_mk (fun q => oc _ q hl) upd_same)) (r.mono (hp_grow sm)))
  · obtain ⟨p, xs, rfl, s, r⟩ := q.tuple_of
    exact ⟨p, xs, rfl, .inr ⟨SqT.mono hp_same s, k _ _ _ g (Same.refl _) (.tup s r)⟩⟩
  · exact g.elim
def bRepr (ds : List PyData) (P : PyData → Prop) : Prop := one ds fun d => seqF d fun _ => d.hasDict = false ∧ d.showable = true ∧ d.depth ≤ 60 ∧ d.shown.length ≤ sizeLine ∧ P (.str d.shown)
theorem rb_repr : RB K (fun xs H Q => ∃ (a : Addr) (d : PyData), xs = [.ref a] ∧ Dp K H (.ref a) d ∧ d.showable = true ∧ d.depth ≤ 60 ∧ d.shown.length ≤ sizeLine ∧ Q (.str d.shown) H) bRepr := by
  intro A H Q xs ds P oc r g k
  obtain ⟨v, d, rfl, q, g⟩ := one_of r g
  obtain ⟨p, xs, es, rfl, s, r, h0, h1, h2, h3, g⟩ := seqF_of q g
  exact ⟨p, d, rfl, Dp.mono hp_same (q.dp h0), h1, h2, h3, k _ _ _ g (Same.refl _) (.str _)⟩
/-! isinstance -/
def isObjD : PyData → Bool
  | .dict _ => true
  | _ => false
def fIsi (b : String) (a : FE) : FE := fun ρ P => a ρ fun d ρ1 => isObjD d = false ∧ ∃ c, kitB (kindD d) b = some c ∧ P (.bool c) ρ1
theorem Dq.ty {A : Addr → Prop} {H : Hp} {v : V} {d : PyData} (q : Dq K (hp A H) v d) (h : isObjD d = false) : TyX K H v (.type (kindD d)) := by
  cases q with
  | non => exact .base .non
  | bl b => exact .base (.bl b)
  | int i => exact .base (.int i)
  | str x => exact .base (.str x)
  | lst s _ => exact SqL.ty (SqL.mono hp_same s)
  | tup s _ => exact SqT.ty (SqT.mono hp_same s)
  | obj _ _ _ => cases h
  | exc _ _ _ _ => cases h
  | fnc _ => cases h
  | hdl => cases h
  | tn _ _ _ => cases h
theorem re_isi {b : String} {ta : TE} {a : FE} (ha : RE K J ta a) : RE K J (tCB (rIsi K) (tCons ta (tCons (tC (.ty b)) tNil))) (fIsi b a) := by
  intro O as σ H Q ρ P E q k
  refine ha O as σ H _ ρ _ E q fun d ρ1 v H1 q1 f1 E1 d1 => ?_
  obtain ⟨ho, c, hc, q1⟩ := q1
  exact ⟨_, _, _, _, c, rfl, .ty _, d1.ty ho, kit_ty hc, k _ _ _ _ q1 f1 E1 (.bl _)⟩
/-! methods of texts -/
def mStr1 (C : Str → Str → Prop) (h : Str → Str → PyData) : Str → List PyData → (PyData → Prop) → Prop := fun z ds P => one ds fun d => strF d fun b => C z b ∧ P (h z b)
theorem strs1_of {G : Hp} {vs : List V} {ds : List PyData} {k : Str → Prop} (r : DqAll K G vs ds) (h : one ds fun d => strF d k) : ∃ b, vs = [.str b] ∧ k b := by
  obtain ⟨v, d, rfl, q, g⟩ := one_of r h
  unfold strF at g
  split at g
  · cases q; exact ⟨_, rfl, g⟩
  · exact g.elim
abbrev mFind := mStr1 (fun _ _ => True) fun a b => .int (Txt.find a b)
theorem rm_find : RM K (fun x xs H Q => ∃ a b, x = .str a ∧ xs = [.str b] ∧ Q (.int (Txt.find a b)) H) mFind := by
  intro A H Q z xs ds P oc r g k
  obtain ⟨b, rfl, g⟩ := strs1_of r g
  exact ⟨_, _, rfl, rfl, k _ _ _ g.2 (Same.refl _) (.int _)⟩
abbrev mCount := mStr1 (fun _ _ => True) fun a b => .int (Txt.count a b)
theorem rm_count : RM K (fun x xs H Q => ∃ a b, x = .str a ∧ xs = [.str b] ∧ Q (.int (Txt.count a b)) H) mCount := by
  intro A H Q z xs ds P oc r g k
  obtain ⟨b, rfl, g⟩ := strs1_of r g
  exact ⟨_, _, rfl, rfl, k _ _ _ g.2 (Same.refl _) (.int _)⟩
abbrev mSplit := mStr1 (fun a b => (b.length == 0) = false ∧ a.length + 2 ≤ sizeLine) fun a b => .list ((Txt.split a b).map .str)
theorem rm_split : RM K (fun x xs H Q => ∃ a b, x = .str a ∧ xs = [.str b] ∧ (b.length == 0) = false ∧ a.length + 2 ≤ sizeLine ∧ rNewStrs (Txt.split a b) H Q) mSplit := by
  intro A H Q z xs ds P oc r g k
  obtain ⟨b, rfl, g⟩ := strs1_of r g
  refine ⟨_, _, rfl, rfl, g.1.1, g.1.2, fun p hp1 => ?_⟩
  exact k _ _ _ g.2 (Same.new hp1) (.lst (SqL.of (hp_mk (fun q => oc _ q hp1) upd_same)) (DqAll.strs _))
abbrev mPart := mStr1 (fun a b => (b.length == 0) = false ∧ a.length ≤ sizeLine) fun a b => .tuple [.str (Txt.partition a b).1, .str (Txt.partition a b).2.1, .str (Txt.partition a b).2.2]
theorem rm_partition : RM K (fun x xs H Q => ∃ a b, x = .str a ∧ xs = [.str b] ∧ (b.length == 0) = false ∧ a.length ≤ sizeLine ∧ ∀ p, H p = none → Q (.ref p) (upd H p (.tup [.str (Txt.partition a b).1, .str (Txt.partition a b).2.1, .str (Txt.partition a b).2.2]))) mPart := by
  intro A H Q z xs ds P oc r g k
  obtain ⟨b, rfl, g⟩ := strs1_of r g
  refine ⟨_, _, rfl, rfl, g.1.1, g.1.2, fun p hp1 => ?_⟩
  exact k _ _ _ g.2 (Same.new hp1) (.tup (SqT.of (hp_mk (fun q => oc _ q hp1) upd_same)) (.cons (.str _) (.cons (.str _) (.cons (.str _) .nil))))
abbrev mRpart := mStr1 (fun a b => (b.length == 0) = false ∧ a.length ≤ sizeLine) fun a b => .tuple [.str (Txt.rpartition a b).1, .str (Txt.rpartition a b).2.1, .str (Txt.rpartition a b).2.2]
theorem rm_rpartition : RM K (fun x xs H Q => ∃ a b, x = .str a ∧ xs = [.str b] ∧ (b.length == 0) = false ∧ a.length ≤ sizeLine ∧ ∀ p, H p = none → Q (.ref p) (upd H p (.tup [.str (Txt.rpartition a b).1, .str (Txt.rpartition a b).2.1, .str (Txt.rpartition a b).2.2]))) mRpart := by
  intro A H Q z xs ds P oc r g k
  obtain ⟨b, rfl, g⟩ := strs1_of r g
  refine ⟨_, _, rfl, rfl, g.1.1, g.1.2, fun p hp1 => ?_⟩
  exact k _ _ _ g.2 (Same.new hp1) (.tup (SqT.of (hp_mk (fun q => oc _ q hp1) upd_same)) (.cons (.str _) (.cons (.str _) (.cons (.str _) .nil))))
def mZfill : Str → List PyData → (PyData → Prop) → Prop := fun z ds P => one ds fun d => intF d fun i => PadOk i = true ∧ P (.str (Txt.zfill z i))
theorem rm_zfill : RM K (fun x xs H Q => ∃ (a : Str) (i : Int), x = .str a ∧ xs = [.int i] ∧ PadOk i = true ∧ Q (.str (Txt.zfill a i)) H) mZfill := by
  intro A H Q z xs ds P oc r g k
  obtain ⟨v, d, rfl, q, g⟩ := one_of r g
  unfold intF at g
  split at g
  · cases q; exact ⟨_, _, rfl, rfl, g.1, k _ _ _ g.2 (Same.refl _) (.str _)⟩
  · exact g.elim
def mJoin : Str → List PyData → (PyData → Prop) → Prop := fun z ds P => one ds fun d => seqF d fun es => strsF es fun ys => (ys.map (·.length)).sum + ys.length * z.length ≤ 16777216 ∧ P (.str (Txt.join z ys))
theorem rm_join : RM K (fun x xs H Q => ∃ a p, ∃ ys : List Str, x = .str a ∧ xs = [.ref p] ∧ (SqL K H p (ys.map V.str) ∨ SqT K H p (ys.map V.str)) ∧ (ys.map (·.length)).sum + ys.length * a.length ≤ 16777216 ∧ Q (.str (Txt.join a ys)) H) mJoin := by
  intro A H Q z xs ds P oc r g k
  obtain ⟨v, d, rfl, q, g⟩ := one_of r g
  obtain ⟨p, xs, es, rfl, s, r, g⟩ := seqF_of q g
  obtain ⟨ys, e, h, g'⟩ := strsF_of g
  subst e
  cases r.strs_of
  exact ⟨_, p, ys, rfl, rfl, s, h, k _ _ _ g' (Same.refl _) (.str _)⟩
/-! x += e -/
def fAug (i : Nat) (a : FE) (h : Int → Int → Int) : FS := fun E ρ => match ρ[i]? with
  | some (.fz (.int x)) => a ρ fun y ρ1 => intF y fun j => gN i (.int (h x j)) ρ1 E.nx
  | _ => False
theorem rs_aug {i : Nat} {te : TE} {a : FE} {h : Int → Int → Int} (ha : RE K J te a) : RS K J (tAug i te (ipI h)) (fAug i a h) := by
  intro O as σ H D ρ E R f C
  unfold fAug at f
  split at f
  · next x hx =>
    obtain ⟨v, e, _, q⟩ := R.fz_at hx
    cases q
    refine ⟨_, e, ?_⟩
    refine ha O as σ H _ ρ _ R f fun d ρ1 v H1 q1 f1 E1 d1 => ?_
    unfold intF at q1
    split at q1
    · cases d1
      exact ⟨_, _, rfl, rfl, C.nx _ _ _ _ q1.2 (.of f1) (E1.setFz q1.1 (.int _))⟩
    · exact q1.elim
  · exact f.elim
def fPar3 (i j l : Nat) (a : FA) : FS := fun E ρ => a ρ fun ds ρ1 => match ds with
  | [x, y, z] => gN i x ρ1 fun ρ2 => gN j y ρ2 fun ρ3 => gN l z ρ3 E.nx
  | _ => False
theorem rs_par3 {i j l : Nat} {t : TA} {a : FA} (ha : RA K J t a) : RS K J (tPar3 i j l t) (fPar3 i j l a) := by
  intro O as σ H D ρ E R f C
  refine ha O as σ H _ ρ _ R f fun ds ρ1 vs H1 q1 f1 E1 d1 => ?_
  split at q1
  · cases d1 with
    | cons d1 r => cases r with
      | cons d2 r => cases r with
        | cons d3 r =>
          cases r
          exact ⟨_, _, _, rfl, C.nx _ _ _ _ q1.2.2.2 (.of f1) (((E1.setFz q1.1 d1).setFz q1.2.1 d2).setFz q1.2.2.1 d3)⟩
  · exact q1.elim
/-! truth -/
theorem DqAll.empty {G : Hp} {xs : List V} {ds : List PyData} (r : DqAll K G xs ds) : xs.isEmpty = ds.isEmpty := by cases r <;> rfl
def truF (d : PyData) (k : Bool → Prop) : Prop := match d with
  | .none => k false
  | .bool b => k b
  | .int i => k (i != 0)
  | .str z => z.length ≤ sizeLine ∧ k ((z.length : Int) != 0)
  | .list ds => k (!ds.isEmpty)
  | .tuple ds => k (!ds.isEmpty)
  | _ => False
def fTru (f : FE) : FT := fun ρ P => f ρ fun d ρ1 => truF d fun b => P b ρ1
theorem rt_tru {t : TE} {f : FE} (h : RE K J t f) : RT K J (fun σ H Q => t σ H fun x H' => ∃ k, TruV K x H' k ∧ Q k H') (fTru f) := by
  intro O as σ H Q ρ P E q k
  refine h O as σ H _ ρ _ E q fun d ρ1 v H1 q1 f1 E1 d1 => ?_
  unfold truF at q1
  split at q1
  · cases d1; exact ⟨_, rfl, k _ _ _ q1 f1 E1⟩
  · cases d1; exact ⟨_, rfl, k _ _ _ q1 f1 E1⟩
  · cases d1; exact ⟨_, rfl, k _ _ _ q1 f1 E1⟩
  · cases d1; exact ⟨_, ⟨q1.1, rfl⟩, k _ _ _ q1.2 f1 E1⟩
  · obtain ⟨p, xs, rfl, s, r⟩ := d1.list_of
    refine ⟨_, .inl ⟨xs, SqL.mono hp_same s, rfl⟩, ?_⟩
    rw [r.empty]
    exact k _ _ _ q1 f1 E1
  · obtain ⟨p, xs, rfl, s, r⟩ := d1.tuple_of
    refine ⟨_, .inr (.inl ⟨xs, SqT.mono hp_same s, rfl⟩), ?_⟩
    rw [r.empty]
    exact k _ _ _ q1 f1 E1
  · exact q1.elim
def fYes : FT := fun ρ P => P true ρ
theorem rt_yes : RT K J tYes fYes := fun O as σ H Q ρ P E f k => k true ρ H f (Fr.refl) E
end
end DL
/-! the box of draws as data; promises weakened -/
namespace DL
open PySem L2 Z PySem.Spec PyProof.Rows
variable [Tbs]
def BoxD (ds : List PyData) (n : Nat) : Prop := ∃ b0 b1 b2 : Int, ds = [.int b0, .int b1, .int b2] ∧ 0 ≤ b0 ∧ 0 ≤ b1 ∧ b1 < 2147483647 ∧ 0 ≤ b2 ∧ b2 ≤ (n : Int)
theorem BoxD.mono {ds : List PyData} {n m : Nat} (b : BoxD ds n) (h : n ≤ m) : BoxD ds m := by
  obtain ⟨b0, b1, b2, e, h0, h1, h2, h3, h4⟩ := b
  exact ⟨b0, b1, b2, e, h0, h1, h2, h3, by omega⟩
/-- a draw: any number below m -/
def takeF (ds : List PyData) (m : Int) (P : Int → List PyData → Prop) : Prop := ∃ n, BoxD ds n ∧ 0 < m ∧ m < 1073741824 ∧ n < 1000000000 ∧ ∀ r ds', 0 ≤ r → r < m → BoxD ds' (n + 1) → P r ds'
def F__law_take : FN := fun sls P => match sls with
  | [.own ds, .fz (.int m)] => takeF ds m fun r ds' => P (.int r) [.own ds', .no]
  | _ => False
section
variable {P : Program} {w : World} {K : PySem.W.Frag} {mg : Str → Option Value} {base : Heap} {k : Nat} {f : Addr} {fd : FuncData} {ps : List Str} {sp sp' : Sp}
theorem _root_.Z.FnG.weak (F : FnG P w K mg base k f fd ps sp) (h : ∀ vs H Q E, sp' vs H Q E → sp vs H Q E) : FnG P w K mg base k f fd ps sp' :=
  ⟨fun vs H Q E q => F.size vs H Q E (h vs H Q E q), fun A outer s H args us vs Q E hr hg e b r q => F.goes A outer s H args us vs Q E hr hg e b r (h vs H Q E q)⟩
theorem _root_.L2.FnOk.guarded (F : FnOk P w K mg base CX0 k f fd ps sp) (h : ∀ vs H Q E, sp' vs H Q E → sp vs H Q E) : FnG P w K mg base k f fd ps sp' := (FnG.of F).weak h
def spTake : Sp := fun vs H Q _ => ∃ (B : Addr) (m : Int) (n : Nat), vs = [.ref B, .int m] ∧ Box H B n ∧ 0 < m ∧ m < 1073741824 ∧ n < 1000000000 ∧ ∀ (r : Int) H', 0 ≤ r → r < m → Z.Fr [B] H H' → Box H' B (n + 1) → Q (.int r) H'
theorem boxD_ints {G : Hp} {xs : List V} {b0 b1 b2 : Int} (h : DqAll K G xs [.int b0, .int b1, .int b2]) : xs = [.int b0, .int b1, .int b2] := by
  cases h with
  | cons a r => cases r with
    | cons b r => cases r with
      | cons c r => cases r; cases a; cases b; cases c; rfl
theorem TabsOk.frB {H H' : Hp} {B : Addr} {xs : List V} (t : TabsOk H) (f : Z.Fr [B] H H') (h : H B = some (.lst xs)) : TabsOk H' := fun p hp => by
  obtain ⟨ps, h1, h2, h3⟩ := t p hp
  have ne : ∀ b o, H b = some o → o ≠ .lst xs → b ∉ [B] := fun b o e n z => n (Option.some.inj (e.symm.trans (by rw [List.mem_singleton.mp z]; exact h)))
  refine ⟨ps, f _ _ (ne _ _ h1 (fun z => by cases z)) h1, h2, fun pos cv hc => ?_⟩
  obtain ⟨c, e1, e2⟩ := h3 pos cv hc
  exact ⟨c, e1, f _ _ (ne _ _ e2 (fun z => by unfold LamX.CodeO at z; cases z)) e2⟩
theorem take_of {vs : List V} {H : Hp} {Q : VK} {E : XK} (h : spF K 2 F__law_take vs H Q E) : spTake vs H Q E := by
  obtain ⟨hv, O, as, S, ρ, P, R, hl, hF, q⟩ := h
  match vs, hv with
  | [v0, v1], _ =>
    have hl : ρ.length = 2 := hl
    match ρ, hl with
    | [s0, s1], _ =>
      unfold F__law_take at hF
      split at hF
      · next ds m e =>
        injection e with e1 e2
        injection e2 with e2 _
        subst e1
        subst e2
        obtain ⟨n, hb, m0, m1, hn, st⟩ := hF
        obtain ⟨b0, b1, b2, rfl, h0, h1, h2, h3, h4⟩ := hb
        obtain ⟨B, xs, z1, z2, z3, z4⟩ := R.own_at (i := 0) rfl
        obtain ⟨v, y1, y2, y3⟩ := R.fz_at (i := 1) rfl
        cases boxD_ints z4
        cases z1
        cases y1
        cases y3
        refine ⟨B, m, n, rfl, ⟨b0, b1, b2, z3, h0, h1, h2, h3, h4⟩, m0, m1, hn, fun r H' r0 r1 fr hB => ?_⟩
        obtain ⟨c0, c1, c2, ec, k0, k1, k2, k3, k4⟩ := hB
        have as0 : ∀ i r, as i = some r → i = 0 ∧ r = .lf B := fun i r ha => by
          have hi := R.bnd i r ha
          match i, hi, ha with
          | 0, _, ha => rw [z2] at ha; cases ha; exact ⟨rfl, rfl⟩
          | 1, _, ha => rw [y2] at ha; cases ha
        have hfr : Fr as ⟨H, S⟩ ⟨H', S⟩ := by
          refine ⟨fun a o na e => fr a o (fun z => na (.inl ⟨0, _, z2, by rw [List.mem_singleton.mp z]; exact .here⟩)) e, fun a h => ?_, fun a h => ?_, fun _ => rfl⟩
          · rcases h with ⟨i, r', h, q'⟩ | h
            · obtain ⟨rfl, rfl⟩ := as0 i r' h
              rw [q'.lf_of]
              exact .inl (.inl ⟨0, _, z2, .here⟩)
            · exact .inl (.inr h)
          · show H' a ≠ none
            by_cases z : a = B
            · rw [z, ec]; exact Option.some_ne_none _
            · obtain ⟨o, e⟩ := Option.ne_none_iff_exists'.mp h
              rw [fr a o (fun w => z (List.mem_singleton.mp w)) e]
              exact Option.some_ne_none _
        refine q _ _ _ ⟨H', S⟩ (st r [.int c0, .int c1, .int c2] r0 r1 ⟨c0, c1, c2, rfl, k0, k1, k2, k3, k4⟩) hfr ⟨R.tab.frB fr z3, fun i a ha => ?_, fun i j r1 r2 b h1 h2 _ _ => by rw [(as0 i r1 h1).1, (as0 j r2 h2).1], fun i r' b h q' => ?_⟩ (.int _)
        · obtain ⟨rfl, rfl⟩ := as0 i a ha
          exact ⟨_, rfl, .own ec (.cons (.int _) (.cons (.int _) (.cons (.int _) .nil)))⟩
        · obtain ⟨rfl, rfl⟩ := as0 i r' h
          rw [q'.lf_of]
          exact R.out 0 _ B z2 .here
      · exact hF.elim
def spBox : Sp := fun vs H Q _ => ∃ (B : Addr), vs = [.ref B] ∧ Box H B 0 ∧ TabsOk H ∧ ∀ H', FrA (fun a => a = B ∨ ∃ p ∈ Tbs.T, p.1 = a) H H' → Q (.bl true) H'
/-- a law's def over the box alone -/
theorem box_of {F : FN} (hF : ∀ ds, BoxD ds 0 → F [.own ds] fun d _ => d = .bool true) {vs : List V} {H : Hp} {Q : VK} {E : XK} (h : spBox vs H Q E) : spF K 1 F vs H Q E := by
  obtain ⟨B, rfl, ⟨b0, b1, b2, e, h0, h1, h2, h3, h4⟩, tb, q⟩ := h
  have as0 : ∀ i r, (if i = 0 then some (Rg.lf B) else none) = some r → i = 0 ∧ r = .lf B := fun i r h => by
    split at h
    · next z => cases h; exact ⟨z, rfl⟩
    · cases h
  refine ⟨rfl, fun _ => False, fun i => if i = 0 then some (.lf B) else none, fun _ => none, [.own [.int b0, .int b1, .int b2]], _, ⟨⟨Nat.le_refl _, Nat.le_succ _⟩, fun i sl e1 e2 => by
    have := (List.getElem?_eq_some_iff.mp e1).1
    rw [List.length_map] at e2
    have e2 : 1 ≤ i := e2
    have this : i < 1 := this
    omega, fun i sl o e1 e2 => ?_, fun i h => (by cases (as0 i _ h).2), fun i j r1 r2 b h1 h2 _ _ => by rw [(as0 i r1 h1).1, (as0 j r2 h2).1], fun _ _ _ _ _ z => z, fun i a h => by rw [(as0 i a h).1]; exact Nat.one_pos, fun a z => z.elim, trivial, trivial, tb⟩, rfl, hF _ ⟨b0, b1, b2, rfl, h0, h1, h2, h3, h4⟩, fun d out v H' hd fr _ dv => ?_⟩
  · match i, e1, e2 with
    | 0, e1, e2 =>
      cases e1; cases e2
      exact .own e (.cons (.int _) (.cons (.int _) (.cons (.int _) .nil)))
  · subst hd
    cases dv
    refine q H' fun a o na e => fr.fr a o (fun z => ?_) e
    rcases z with ⟨i, r, z, q'⟩ | z
    · obtain ⟨rfl, rfl⟩ := as0 i r z
      exact na (.inl q'.lf_of)
    · exact na (.inr z)
end
end DL
/-! going through data -/
namespace DL
open PySem L2 Z PySem.Spec PyProof.Rows
variable [Tbs]
theorem kit_none_int : kitB (kindD .none) "int" = some false := by show kitB "NoneType" "int" = _; decide +kernel
theorem kit_none_bool : kitB (kindD .none) "bool" = some false := by show kitB "NoneType" "bool" = _; decide +kernel
theorem kit_none_str : kitB (kindD .none) "str" = some false := by show kitB "NoneType" "str" = _; decide +kernel
theorem kit_none_list : kitB (kindD .none) "list" = some false := by show kitB "NoneType" "list" = _; decide +kernel
theorem kit_none_tuple : kitB (kindD .none) "tuple" = some false := by show kitB "NoneType" "tuple" = _; decide +kernel
theorem kit_bool_int {b : Bool} : kitB (kindD (.bool b)) "int" = some true := by show kitB "bool" "int" = _; decide +kernel
theorem kit_bool_bool {b : Bool} : kitB (kindD (.bool b)) "bool" = some true := by show kitB "bool" "bool" = _; decide +kernel
theorem kit_bool_str {b : Bool} : kitB (kindD (.bool b)) "str" = some false := by show kitB "bool" "str" = _; decide +kernel
theorem kit_bool_list {b : Bool} : kitB (kindD (.bool b)) "list" = some false := by show kitB "bool" "list" = _; decide +kernel
theorem kit_bool_tuple {b : Bool} : kitB (kindD (.bool b)) "tuple" = some false := by show kitB "bool" "tuple" = _; decide +kernel
theorem kit_int_int {i : Int} : kitB (kindD (.int i)) "int" = some true := by show kitB "int" "int" = _; decide +kernel
theorem kit_int_bool {i : Int} : kitB (kindD (.int i)) "bool" = some false := by show kitB "int" "bool" = _; decide +kernel
theorem kit_int_str {i : Int} : kitB (kindD (.int i)) "str" = some false := by show kitB "int" "str" = _; decide +kernel
theorem kit_int_list {i : Int} : kitB (kindD (.int i)) "list" = some false := by show kitB "int" "list" = _; decide +kernel
theorem kit_int_tuple {i : Int} : kitB (kindD (.int i)) "tuple" = some false := by show kitB "int" "tuple" = _; decide +kernel
theorem kit_str_int {s : Str} : kitB (kindD (.str s)) "int" = some false := by show kitB "str" "int" = _; decide +kernel
theorem kit_str_bool {s : Str} : kitB (kindD (.str s)) "bool" = some false := by show kitB "str" "bool" = _; decide +kernel
theorem kit_str_str {s : Str} : kitB (kindD (.str s)) "str" = some true := by show kitB "str" "str" = _; decide +kernel
theorem kit_str_list {s : Str} : kitB (kindD (.str s)) "list" = some false := by show kitB "str" "list" = _; decide +kernel
theorem kit_str_tuple {s : Str} : kitB (kindD (.str s)) "tuple" = some false := by show kitB "str" "tuple" = _; decide +kernel
theorem kit_list_int {l : List PyData} : kitB (kindD (.list l)) "int" = some false := by show kitB "list" "int" = _; decide +kernel
theorem kit_list_bool {l : List PyData} : kitB (kindD (.list l)) "bool" = some false := by show kitB "list" "bool" = _; decide +kernel
theorem kit_list_str {l : List PyData} : kitB (kindD (.list l)) "str" = some false := by show kitB "list" "str" = _; decide +kernel
theorem kit_list_list {l : List PyData} : kitB (kindD (.list l)) "list" = some true := by show kitB "list" "list" = _; decide +kernel
theorem kit_list_tuple {l : List PyData} : kitB (kindD (.list l)) "tuple" = some false := by show kitB "list" "tuple" = _; decide +kernel
theorem kit_tuple_int {l : List PyData} : kitB (kindD (.tuple l)) "int" = some false := by show kitB "tuple" "int" = _; decide +kernel
theorem kit_tuple_bool {l : List PyData} : kitB (kindD (.tuple l)) "bool" = some false := by show kitB "tuple" "bool" = _; decide +kernel
theorem kit_tuple_str {l : List PyData} : kitB (kindD (.tuple l)) "str" = some false := by show kitB "tuple" "str" = _; decide +kernel
theorem kit_tuple_list {l : List PyData} : kitB (kindD (.tuple l)) "list" = some false := by show kitB "tuple" "list" = _; decide +kernel
theorem kit_tuple_tuple {l : List PyData} : kitB (kindD (.tuple l)) "tuple" = some true := by show kitB "tuple" "tuple" = _; decide +kernel
/-- a comprehension that draws nothing: of xs those of which k tells something -/
theorem lc_map {α : Type} {g : FG} {ft : FT} {fe : FE} {vs : List Nat} {ρ : En} {P : List PyData → En → Prop} {ds : List PyData} (xs : List α) (e : α → PyData) (k : α → Option PyData) (hd : ds = xs.map e) (hv : vs.all (slotF ρ) = true) (hl : xs.length ≤ sizeLine)
    (st : ∀ (x : α) (R : List PyData → En → Prop) (acc : List PyData), x ∈ xs → acc.length < sizeLine → R (acc ++ (k x).toList) (wipeF ρ vs) →
      g (e x) (wipeF ρ vs) fun ρ3 => ft ρ3 fun b ρ4 => if b = true then fe ρ4 fun y ρ5 => acc.length < sizeLine ∧ vs.all (slotF ρ5) = true ∧ R (acc ++ [y]) (wipeF ρ5 vs) else vs.all (slotF ρ4) = true ∧ R acc (wipeF ρ4 vs))
    (q : P (xs.filterMap k) (wipeF ρ vs)) : lcW ds g ft fe vs ρ P := by
  subst hd
  refine ⟨hv, fun i acc ρ2 => acc = (xs.take i).filterMap k ∧ ρ2 = wipeF ρ vs, ⟨rfl, rfl⟩, ?_, ?_⟩
  · rintro i d acc ρ2 hd ⟨rfl, rfl⟩
    rw [List.getElem?_map] at hd
    cases ex : xs[i]? with
    | none => rw [ex] at hd; cases hd
    | some x =>
      rw [ex] at hd
      cases hd
      have hi := (List.getElem?_eq_some_iff.mp ex).1
      refine st x (fun acc ρ2 => acc = (xs.take (i + 1)).filterMap k ∧ ρ2 = wipeF ρ vs) _ (List.mem_of_getElem? ex) ?_ ⟨?_, rfl⟩
      · refine Nat.lt_of_le_of_lt (List.length_filterMap_le _ _) ?_
        rw [List.length_take]
        omega
      · rw [List.take_add_one, ex, List.filterMap_append]
        cases h : k x <;> simp [h]
  · rintro acc ρ2 ⟨rfl, h⟩
    rw [h, List.length_map, List.take_length]
    exact q
/-- a comprehension by its state: W of the turn, what is laid, the slots -/
theorem lc_inv {α : Type} {g : FG} {ft : FT} {fe : FE} {vs : List Nat} {ρ : En} {P : List PyData → En → Prop} {ds : List PyData} (xs : List α) (e : α → PyData) (W : Nat → List PyData → En → Prop) (hd : ds = xs.map e) (hv : vs.all (slotF ρ) = true) (h0 : W 0 [] (wipeF ρ vs))
    (st : ∀ (i : Nat) (x : α) (acc : List PyData) (ρ2 : En), xs[i]? = some x → i < xs.length → W i acc ρ2 →
      g (e x) ρ2 fun ρ3 => ft ρ3 fun b ρ4 => if b = true then fe ρ4 fun y ρ5 => acc.length < sizeLine ∧ vs.all (slotF ρ5) = true ∧ W (i + 1) (acc ++ [y]) (wipeF ρ5 vs) else vs.all (slotF ρ4) = true ∧ W (i + 1) acc (wipeF ρ4 vs))
    (q : ∀ acc ρ2, W xs.length acc (wipeF ρ2 vs) → P acc (wipeF ρ2 vs)) : lcW ds g ft fe vs ρ P := by
  subst hd
  refine ⟨hv, W, h0, ?_, by rw [List.length_map]; exact q⟩
  intro i d acc ρ2 hd w
  rw [List.getElem?_map] at hd
  cases ex : xs[i]? with
  | none => rw [ex] at hd; cases hd
  | some x =>
    rw [ex] at hd
    cases hd
    exact st i x acc ρ2 ex (List.getElem?_eq_some_iff.mp ex).1 w
theorem boolsF_f {α : Type} {f : α → Bool} {xs : List α} {k : List Bool → Prop} (h : k (xs.map f)) : boolsF (xs.map fun x => .bool (f x)) k := by
  have := boolsF_map (bs := xs.map f) (k := k) h
  rw [List.map_map] at this
  exact this
theorem intsF_f {α : Type} {f : α → Int} {xs : List α} {k : List Int → Prop} (h : k (xs.map f)) : intsF (xs.map fun x => .int (f x)) k := by
  have := intsF_map (bs := xs.map f) (k := k) h
  rw [List.map_map] at this
  exact this
theorem strsF_f {α : Type} {f : α → Str} {xs : List α} {k : List Str → Prop} (h : k (xs.map f)) : strsF (xs.map fun x => .str (f x)) k := by
  have := strsF_map (bs := xs.map f) (k := k) h
  rw [List.map_map] at this
  exact this
theorem filterMap_if {α β : Type} (k : α → Bool) (f : α → β) (xs : List α) : xs.filterMap (fun x => if k x = true then some (f x) else none) = (xs.filter k).map f := by
  induction xs with
  | nil => rfl
  | cons x r ih =>
    rw [List.filterMap_cons, List.filter_cons, ih]
    cases h : k x <;> simp
theorem filterMap_some {α β : Type} (f : α → β) (xs : List α) : xs.filterMap (fun x => some (f x)) = xs.map f := by
  induction xs with
  | nil => rfl
  | cons x r ih => rw [List.filterMap_cons, ih]; rfl
/-- a loop by its state -/
theorem for_map {α : Type} {us : List Nat} {g : FG} {b : FS} {E : FEnds} {ρ : En} {ds : List PyData} (xs : List α) (e : α → PyData) (W : Nat → En → Prop) (hd : ds = xs.map e) (h0 : W 0 (fgt ρ us))
    (st : ∀ (i : Nat) (x : α) (ρ2 : En), xs[i]? = some x → i < xs.length → W i ρ2 → g (e x) ρ2 fun ρ3 => b { E with nx := fun ρ4 => W (i + 1) (fgt ρ4 us), ct := fun ρ4 => W (i + 1) (fgt ρ4 us), bk := E.nx } ρ3) (q : ∀ ρ2, W xs.length ρ2 → E.nx ρ2) : forW us ds g b E ρ := by
  subst hd
  refine ⟨W, h0, ?_, by rw [List.length_map]; exact q⟩
  intro i d ρ2 hd w
  rw [List.getElem?_map] at hd
  cases ex : xs[i]? with
  | none => rw [ex] at hd; cases hd
  | some x =>
    rw [ex] at hd
    cases hd
    exact st i x ρ2 ex (List.getElem?_eq_some_iff.mp ex).1 w
/-- a loop over range(m) -/
theorem for_range {us : List Nat} {g : FG} {b : FS} {E : FEnds} {ρ : En} {lo : Int} {m : Nat} (W : Nat → En → Prop) (h0 : W 0 (fgt ρ us))
    (st : ∀ (i : Nat) (ρ2 : En), i < m → W i ρ2 → g (.int (lo + (i : Int))) ρ2 fun ρ3 => b { E with nx := fun ρ4 => W (i + 1) (fgt ρ4 us), ct := fun ρ4 => W (i + 1) (fgt ρ4 us), bk := E.nx } ρ3) (q : ∀ ρ2, W m ρ2 → E.nx ρ2) : forW us (rangeD lo m) g b E ρ := by
  refine for_map (List.range m) (fun k : Nat => .int (lo + (k : Int))) W rfl h0 (fun i x ρ2 hx hi w => ?_) (by rw [List.length_range]; exact q)
  rw [List.length_range] at hi
  rw [List.getElem?_range hi] at hx
  cases hx
  exact st i ρ2 hi w
/-- a draw -/
theorem take_step {ds : List PyData} {m : Int} {n : Nat} {P : Int → List PyData → Prop} (hb : BoxD ds n) (h0 : 0 < m) (h1 : m < 1073741824) (h2 : n < 1000000000) (k : ∀ r ds', 0 ≤ r → r < m → BoxD ds' (n + 1) → P r ds') : takeF ds m P := ⟨n, hb, h0, h1, h2, k⟩
theorem sz0 : (0 ≤ sizeLine) = True := eq_true (by decide)
theorem sz1 : (1 ≤ sizeLine) = True := eq_true (by decide)
theorem sz2 : (2 ≤ sizeLine) = True := eq_true (by decide)
theorem sz3 : (3 ≤ sizeLine) = True := eq_true (by decide)
theorem sz4 : (4 ≤ sizeLine) = True := eq_true (by decide)
theorem sz5 : (5 ≤ sizeLine) = True := eq_true (by decide)
theorem sz6 : (6 ≤ sizeLine) = True := eq_true (by decide)
theorem sz7 : (7 ≤ sizeLine) = True := eq_true (by decide)
theorem sz8 : (8 ≤ sizeLine) = True := eq_true (by decide)
theorem sz9 : (9 ≤ sizeLine) = True := eq_true (by decide)
theorem sz10 : (10 ≤ sizeLine) = True := eq_true (by decide)
theorem sz11 : (11 ≤ sizeLine) = True := eq_true (by decide)
theorem sz12 : (12 ≤ sizeLine) = True := eq_true (by decide)
theorem sz13 : (13 ≤ sizeLine) = True := eq_true (by decide)
theorem sz14 : (14 ≤ sizeLine) = True := eq_true (by decide)
theorem sz15 : (15 ≤ sizeLine) = True := eq_true (by decide)
theorem sz16 : (16 ≤ sizeLine) = True := eq_true (by decide)
theorem sz17 : (17 ≤ sizeLine) = True := eq_true (by decide)
theorem sz18 : (18 ≤ sizeLine) = True := eq_true (by decide)
theorem sz19 : (19 ≤ sizeLine) = True := eq_true (by decide)
theorem sz20 : (20 ≤ sizeLine) = True := eq_true (by decide)
theorem at0 {α : Type} {x : α} {xs : List α} : L2.atI (x :: xs) 0 = some x := by simp [L2.atI, ixN]
theorem at1 {α : Type} {x y : α} {xs : List α} : L2.atI (x :: y :: xs) 1 = some y := by
  unfold L2.atI ixN
  rw [if_pos (by decide), if_pos (by simp only [List.length_cons]; omega)]
  rfl
theorem at2 {α : Type} {x y z : α} {xs : List α} : L2.atI (x :: y :: z :: xs) 2 = some z := by
  unfold L2.atI ixN
  rw [if_pos (by decide), if_pos (by simp only [List.length_cons]; omega)]
  rfl
theorem at3 {α : Type} {x y z w : α} {xs : List α} : L2.atI (x :: y :: z :: w :: xs) 3 = some w := by
  unfold L2.atI ixN
  rw [if_pos (by decide), if_pos (by simp only [List.length_cons]; omega)]
  rfl
theorem at4 {α : Type} {x y z w v : α} {xs : List α} : L2.atI (x :: y :: z :: w :: v :: xs) 4 = some v := by
  unfold L2.atI ixN
  rw [if_pos (by decide), if_pos (by simp only [List.length_cons]; omega)]
  rfl
theorem at_last {α : Type} {xs : List α} {x : α} (h : xs[xs.length - 1]? = some x) : L2.atI xs (-1) = some x := by
  have hl : xs.length - 1 < xs.length := (List.getElem?_eq_some_iff.mp h).1
  unfold L2.atI
  rw [ixN_last (by omega)]
  exact h
/-- a drawn one of a written list -/
theorem at_mem {α : Type} {xs : List α} {r : Int} (h0 : 0 ≤ r) (h1 : r < xs.length) : ∃ v, L2.atI xs r = some v ∧ v ∈ xs := by
  obtain ⟨j, rfl⟩ := Int.eq_ofNat_of_zero_le h0
  have hj : j < xs.length := by omega
  refine ⟨xs[j], ?_, List.getElem_mem hj⟩
  unfold L2.atI
  rw [ixN_nat hj]
  exact List.getElem?_eq_getElem hj
theorem rangeD_eq (lo : Int) (m : Nat) : rangeD lo m = (List.range m).map fun k : Nat => .int (lo + (k : Int)) := rfl
theorem range_at {m i x : Nat} (h : (List.range m)[i]? = some x) : x = i ∧ i < m := by
  have hi := (List.getElem?_eq_some_iff.mp h).1
  rw [List.length_range] at hi
  rw [List.getElem?_range hi] at h
  exact ⟨(Option.some.inj h).symm, hi⟩
theorem zipD_map {α β : Type} (xs : List α) (ys : List β) (e : α → PyData) (f : β → PyData) : zipD (xs.map e) (ys.map f) = (xs.zip ys).map fun z => .tuple [e z.1, f z.2] := by
  unfold zipD
  rw [List.zip_map, List.map_map]
  rfl
theorem cutD_tail {α : Type} (xs : List α) (e : α → PyData) : cutD (xs.map e) (some 1) none = xs.tail.map e := by
  unfold cutD
  have h : HT.sIx (xs.map e).length 0 (some 1) = min 1 (xs.map e).length := HT.sIx_nat _ _ 1
  rw [h, HT.sIx_none, List.length_map]
  cases xs with
  | nil => rfl
  | cons x r =>
    rw [List.length_cons, Nat.min_eq_left (by omega), List.map_cons, List.drop_succ_cons, List.drop_zero, List.take_of_length_le (by rw [List.length_map]; omega)]
    rfl
theorem cutD_take {α : Type} (xs : List α) (e : α → PyData) (k : Nat) : cutD (xs.map e) none (some (k : Int)) = (xs.take k).map e := by
  unfold cutD
  rw [HT.sIx_nat, HT.sIx_none, List.drop_zero, Nat.sub_zero, List.length_map]
  by_cases h : k ≤ xs.length
  · rw [Nat.min_eq_left h, List.map_take]
  · rw [Nat.min_eq_right (by omega), List.take_of_length_le (by rw [List.length_map]; omega), List.take_of_length_le (by omega)]
theorem cutD_drop {α : Type} (xs : List α) (e : α → PyData) (k : Nat) : cutD (xs.map e) (some (k : Int)) none = (xs.drop k).map e := by
  unfold cutD
  rw [HT.sIx_nat, HT.sIx_none, List.length_map]
  by_cases h : k ≤ xs.length
  · rw [Nat.min_eq_left h, List.take_of_length_le (by rw [List.length_drop, List.length_map]; omega), List.map_drop]
  · rw [Nat.min_eq_right (by omega), List.drop_of_length_le (by rw [List.length_map]; omega), List.take_nil, List.drop_of_length_le (by omega)]
    rfl
theorem atI_nat' {α : Type} {xs : List α} {k : Nat} {x : α} (h : xs[k]? = some x) : L2.atI xs (k : Int) = some x := by
  unfold L2.atI
  rw [ixN_nat (List.getElem?_eq_some_iff.mp h).1]
  exact h
theorem atI_map {α β : Type} (f : α → β) (xs : List α) (k : Int) : L2.atI (xs.map f) k = (L2.atI xs k).map f := by
  unfold L2.atI
  rw [List.length_map]
  cases ixN xs.length k with
  | none => rfl
  | some j => exact List.getElem?_map ..
end DL
/-! objects that stay, keywords, own lists in a parallel assignment, more of own lists -/
namespace DL
open PySem L2 Z PySem.Spec PyProof.Rows
variable [Tbs]
section
variable {K : PySem.W.Frag} {n : Nat} {J : Jv n}
def objF (c : Str) (d : PyData) (k : List (PyData × PyData) → Prop) : Prop := match d with
  | .dict ((.str c', .none) :: fs) => c' = c ∧ k fs
  | _ => False
theorem objF_of {H : Hp} {c : Str} {C : Addr} {v : V} {d : PyData} {k : List (PyData × PyData) → Prop} (hc : PySem.W.nsIn K mainGlobals c = some (some (.ref C))) (q : Dq K H v d) (h : objF c d k) : ∃ a dx fv fs, v = .ref a ∧ H a = some (.ins C dx fv) ∧ DqFs K H fv fs ∧ k fs := by
  unfold objF at h
  split at h
  · obtain ⟨rfl, h⟩ := h
    cases q with
    | obj e1 e2 r =>
      rw [hc] at e1
      cases e1
      exact ⟨_, _, _, _, rfl, e2, r, h⟩
  · exact h.elim
/-- e.f -/
def fFld (c f : Str) (a : FE) : FE := fun ρ P => a ρ fun d ρ1 => objF c d fun fs => ∃ v, fldD f fs = some v ∧ P v ρ1
theorem re_fld {C : Addr} {c f : Str} {ta : TE} {a : FE} (hc : PySem.W.nsIn K mainGlobals c = some (some (.ref C))) (cl : Cls K C) (na : NoAttr K C f) (ha : RE K J ta a) : RE K J (tFld K ta f) (fFld c f a) := by
  intro O as σ H Q ρ P E q k
  refine ha O as σ H _ ρ _ E q fun d ρ1 v H1 q1 f1 E1 d1 => ?_
  obtain ⟨x, dx, fv, fs, rfl, e, r, u, hu, p⟩ := objF_of hc d1 q1
  obtain ⟨w, hw, dw⟩ := r.get hu
  exact ⟨x, C, dx, fv, w, rfl, (hp_some e).2, cl, na, hw, k _ _ _ _ p f1 E1 dw⟩
/-- how __init__ lays the fields -/
def RMk (K : PySem.W.Frag) (C : Addr) (sp : Sp) (G : List PyData → (List (PyData × PyData) → Prop) → Prop) : Prop := ∀ (A : Addr → Prop) (H : Hp) (x dx : Addr) (vs : List V) (ds : List PyData) (Q : VK) (E : XK) (P : List (PyData × PyData) → Prop),
  DqAll K (hp A H) vs ds → G ds P → H x = some (.ins C dx []) → (∀ fs fv H', P fs → (∀ a o, a ≠ x → H a = some o → H' a = some o) → H' x = some (.ins C dx fv) → DqFs K (hp A H') fv fs → Q .non H') → sp (.ref x :: vs) H Q E
theorem mk_core {O : Addr → Prop} {as : As} {H : Hs} {ρ : En} {σ : L2.St} {C x dx : Addr} {c : Str} {sp : Sp} {G : List PyData → (List (PyData × PyData) → Prop) → Prop} {vs : List V} {ds : List PyData} {Q : VK} {E0 : XK} {P : PyData → En → Prop}
    (hc : PySem.W.nsIn K mainGlobals c = some (some (.ref C))) (h : RMk K C sp G) (E : EnR K J O as H ρ σ) (dv : DqAll K (hq O as H) vs ds) (g : G ds fun fs => P (.dict ((.str c, .none) :: fs)) ρ) (hx : H x = none) (hd : H dx = none) (ne : dx ≠ x)
    (k : ∀ d ρ' v H', P d ρ' → Fr as H H' → EnR K J O as H' ρ' σ → Dq K (hq O as H') v d → Q v H') :
    sp (.ref x :: vs) (upd (upd H dx (.own x)) x (.ins C dx [])) (fun v H2 => v = .non ∧ Q (.ref x) H2) E0 := by
  have s1 : Same H.hp (upd (upd H dx (.own x)) x (.ins C dx [])) := fun a o e => by
    rw [upd_ne (ne_of_none e hx), upd_ne (ne_of_none e hd)]
    exact e
  refine h (Hid O as H) _ x dx vs ds _ _ _ (dv.mono (hp_grow s1)) g upd_same fun fs fv H' p fr e r => ⟨rfl, ?_⟩
  have s2 : Same H.hp H' := fun a o e => fr a o (ne_of_none e hx) (s1 a o e)
  exact k _ _ _ ⟨H', H.st⟩ p (E.frS s2) (E.grow s2) (.obj hc (hp_mk (fun z => E.fresh hx ((E.hidS s2).mp z)) e) (r.mono (E.toS s2)))
def fMk (c : Str) (G : List PyData → (List (PyData × PyData) → Prop) → Prop) (dv : List PyData) (f : FA) : FE := fun ρ P => f ρ fun ds ρ1 => G (ds ++ dv) fun fs => P (.dict ((.str c, .none) :: fs)) ρ1
theorem re_mk {C : Addr} {c : Str} {sp : Sp} {G : List PyData → (List (PyData × PyData) → Prop) → Prop} {dvs : List V} {dv : List PyData} {E0 : XK} {t : TA} {f : FA} (hc : PySem.W.nsIn K mainGlobals c = some (some (.ref C))) (h : RMk K C sp G) (hd : ∀ H, DqAll K H dvs dv) (ha : RA K J t f) : RE K J (tMake C sp dvs E0 t) (fMk c G dv f) := by
  intro O as σ H Q ρ P E q k
  refine ha O as σ H _ ρ _ E q fun ds ρ1 vs H1 q1 f1 E1 d1 => ?_
  intro x dx hx hdx ne
  exact mk_core hc h E1 (d1.append (hd _)) q1 hx hdx ne fun d ρ' v H' p fr E' q' => k d ρ' v H' p (f1.trans fr) E' q'
def fMkN (c : Str) (G : List PyData → (List (PyData × PyData) → Prop) → Prop) (n m : Nat) (gD : List PyData → List PyData → List PyData) (f fk : FA) : FE := fun ρ P => f ρ fun ds ρ1 => fk ρ1 fun es ρ2 => ds.length = n ∧ es.length = m ∧ G (gD ds es) fun fs => P (.dict ((.str c, .none) :: fs)) ρ2
theorem re_mkN {C : Addr} {c : Str} {sp : Sp} {G : List PyData → (List (PyData × PyData) → Prop) → Prop} {n m : Nat} {gV : List V → List V → List V} {gD : List PyData → List PyData → List PyData} {E0 : XK} {t tk : TA} {f fk : FA} (hc : PySem.W.nsIn K mainGlobals c = some (some (.ref C))) (h : RMk K C sp G)
    (hg : ∀ (x : Addr) (vs zs : List V) (ds es : List PyData) (H : Hp), DqAll K H vs ds → DqAll K H zs es → ∃ ws, gV (.ref x :: vs) zs = .ref x :: ws ∧ DqAll K H ws (gD ds es)) (ha : RA K J t f) (hk : RA K J tk fk) : RE K J (tMakeN C n m sp gV E0 t tk) (fMkN c G n m gD f fk) := by
  intro O as σ H Q ρ P E q k
  refine ha O as σ H _ ρ _ E q fun ds ρ1 vs H1 q1 f1 E1 d1 => ?_
  refine hk O as σ H1 _ ρ1 _ E1 q1 fun es ρ2 zs H2 q2 f2 E2 d2 => ?_
  obtain ⟨l1, l2, q2⟩ := q2
  refine ⟨by rw [d1.length]; exact l1, by rw [d2.length]; exact l2, fun x dx hx hdx ne => ?_⟩
  obtain ⟨ws, e, r⟩ := hg x vs zs ds es _ (d1.fr f2) d2
  rw [e]
  exact mk_core hc h E2 r q2 hx hdx ne fun d ρ' v H' p fr E' q' => k d ρ' v H' p ((f1.trans f2).trans fr) E' q'
/-- a call with keywords, data alone -/
def fCallN (F : FN) (n m : Nat) (gD : List PyData → List PyData → List PyData) (f fk : FA) : FE := fun ρ P => f ρ fun ds ρ1 => fk ρ1 fun es ρ2 => ds.length = n ∧ es.length = m ∧ F ((gD ds es).map .fz) fun d _ => P d ρ2
theorem ownIx_dat : ∀ ds : List PyData, ownIx (ds.map .dat) = []
  | [] => rfl
  | _ :: r => ownIx_dat r
theorem wb_dat (ρ : En) : ∀ (ds : List PyData) (r : List Sl), wb ρ (ds.map .dat) r = ρ
  | [], _ => rfl
  | _ :: ds, r => wb_dat ρ ds r.tail
theorem re_callN {l n m : Nat} {F : FN} {gV : List V → List V → List V} {gD : List PyData → List PyData → List PyData} {E0 : XK} {t tk : TA} {f fk : FA}
    (hl : ∀ ds es : List PyData, ds.length = n → es.length = m → (gD ds es).length = l)
    (hg : ∀ (vs zs : List V) (ds es : List PyData) (H : Hp), DqAll K H vs ds → DqAll K H zs es → DqAll K H (gV vs zs) (gD ds es)) (ha : RA K J t f) (hk : RA K J tk fk) : RE K J (tCallN n m (spF K l F) gV E0 t tk) (fCallN F n m gD f fk) := by
  intro O as σ H Q ρ P E q k
  refine ha O as σ H _ ρ _ E q fun ds ρ1 vs H1 q1 f1 E1 d1 => ?_
  refine hk O as σ H1 _ ρ1 _ E1 q1 fun es ρ2 zs H2 q2 f2 E2 d2 => ?_
  obtain ⟨l1, l2, q2⟩ := q2
  refine ⟨by rw [d1.length]; exact l1, by rw [d2.length]; exact l2, ?_⟩
  refine call_core (xs := (gD ds es).map .dat) E2 (fits_dat _) (dat_ars (hg _ _ _ _ _ (d1.fr f2) d2)).toT (by rw [(hg _ _ _ _ _ (d1.fr f2) d2).length]; exact hl _ _ l1 l2) (by rw [List.length_map]; exact hl _ _ l1 l2) (by rw [ownIx_dat]; exact .nil) ?_ fun d ρ' v H' p fr E' q' => k d ρ' v H' p ((f1.trans f2).trans fr) E' q'
  simp only [wb_dat]
  exact q2
/-! own lists in a parallel assignment -/
theorem EnR.ownNew {O : Addr → Prop} {as : As} {H : Hs} {ρ : En} {σ : L2.St} {p : Addr} {xs : List V} {ds : List PyData} {i : Nat} (E : EnR K J (plus O p) as H ρ σ) (hi : slotL ρ i = true) (hJ : J.P (upA as i (some (.lf p))) H) (hQ : J.Q O) (np : ¬ O p) (h : H p = some (.lst xs)) (d : DqAll K (hq (plus O p) as H) xs ds) :
    EnR K J O (upA as i (some (.lf p))) H (ρ.set i (.own ds)) (σ.set i (some (.ref p))) := E.setOwn hQ (E.ltB hi) hJ h d np
theorem same_plus {O : Addr → Prop} {as : As} {H H' : Hs} {p : Addr} (f : Fr as H H') (h : NewO as H p) : Same (hq O as H) (hq (plus O p) as H') := fun a o e => by
  obtain ⟨na, e⟩ := hp_some e
  refine hp_mk (fun z => ?_) (f.fr a o (fun z => na (.inr z)) e)
  rcases z with (z | z) | z
  · exact na (.inl z)
  · rw [z] at e na
    rcases h with h | h
    · rw [h] at e; cases e
    · exact na (.inr h)
  · rcases f.new a z with z | z
    · exact na (.inr z)
    · rw [z] at e; cases e
theorem ext_own {as : As} {H H' : Hs} {p : Addr} {i : Nat} (f : Fr as H H') (hi : n ≤ i) (ns : as i ≠ some .sto) (h : NewO as H p) : Ext n as (upA as i (some (.lf p))) H H' := by
  refine ⟨f.fr, fun a q => ?_, fun j hj => upA_ne (by omega), f.liv, upA_ks ns (fun z => by cases z), f.nst⟩
  rcases q.up with ⟨r, e, q⟩ | q
  · cases e
    rw [q.lf_of]; exact h.symm
  · exact f.new a q
theorem less_own {O : Addr → Prop} {as : As} {H : Hs} {p : Addr} {i : Nat} : Same (hq (plus O p) as H) (hq O (upA as i (some (.lf p))) H) := hp_less fun a z => by
  rcases z with z | z
  · exact .inl (.inl z)
  · rcases z.up with ⟨r, e, z⟩ | z
    · cases e
      exact .inl (.inr z.lf_of)
    · exact .inr z
/-- i, j = e, [..] -/
def fParO2 (i j : Nat) (a : FE) (b : FA) : FS := fun E ρ => a ρ fun d ρ1 => b ρ1 fun ds ρ2 => gN i d ρ2 fun ρ3 => slotL ρ3 j = true ∧ E.nx (ρ3.set j (.own ds))
theorem none_back {as : As} {H H1 : Hs} {p : Addr} (f : Fr as H H1) (h : NewO as H1 p) : NewO as H p := (Ext.of (n := 0) f).old h
theorem rs_parO2 {i j : Nat} {ta tn : TE} {a : FE} {b : FA} (hj : n ≤ j) (ha : RE K J ta a) (hb : RN K J tn b) : RS K J (tPar i j (tCons ta (tCons tn tNil))) (fParO2 i j a b) := by
  intro O as σ H D ρ E R f C
  refine ha O as σ H _ ρ _ R f fun d ρ1 v H1 q1 f1 E1 d1 => ?_
  refine hb O as σ H1 _ ρ1 _ E1 q1 fun ds ρ2 p xs H2 q2 f2 hp1 E2 hp2 d2 => ?_
  refine ⟨_, _, rfl, ?_⟩
  have E3 := E2.setFz q2.1 (d1.mono (same_plus f2 hp1))
  have x := ext_own (f1.trans f2) hj (E3.nst_at (E3.ltB q2.2.1)) (none_back f1 hp1)
  exact C.nx _ _ _ _ q2.2.2 x (E3.ownNew q2.2.1 (J.cl _ _ _ _ R.inv x) R.inq (E1.notO E2 hp1 hp2) hp2 d2)
/-- i, j = [..], e -/
def fParO1 (i j : Nat) (b : FA) (a : FE) : FS := fun E ρ => b ρ fun ds ρ1 => a ρ1 fun d ρ2 => slotL ρ2 i = true ∧ slotF (ρ2.set i (.own ds)) j = true ∧ E.nx ((ρ2.set i (.own ds)).set j (.fz d))
theorem rs_parO1 {i j : Nat} {ta tn : TE} {a : FE} {b : FA} (hi : n ≤ i) (hb : RN K J tn b) (ha : RE K J ta a) : RS K J (tPar i j (tCons tn (tCons ta tNil))) (fParO1 i j b a) := by
  intro O as σ H D ρ E R f C
  refine hb O as σ H _ ρ _ R f fun ds ρ1 p xs H1 q1 f1 hp1 E1 hp2 d1 => ?_
  refine ha (plus O p) as σ H1 _ ρ1 _ E1 q1 fun d ρ2 v H2 q2 f2 E2 d2 => ?_
  refine ⟨_, _, rfl, ?_⟩
  have np := R.notO E1 hp1 hp2
  have hp3 : H2 p = some (.lst xs) := f2.fr _ _ (E1.newp hp2) hp2
  have x := ext_own (f1.trans f2) hi (E2.nst_at (E2.ltB q2.1)) hp1
  have E3 := E2.ownNew (i := i) q2.1 (J.cl _ _ _ _ R.inv x) R.inq np hp3 (d1.fr f2)
  have E4 := E3.setFz (v := v) q2.2.1 (d2.mono less_own)
  exact C.nx _ _ _ _ q2.2.2 x E4
theorem slotL_set {ρ : En} {i j : Nat} {ds : List PyData} (h : slotL ρ i = true) : slotL (ρ.set j (.own ds)) i = true := by
  unfold slotL at h ⊢
  rw [List.getElem?_set]
  by_cases e : j = i
  · subst e
    rw [if_pos rfl]
    split at h
    · cases h
    · next sl _ hn => rw [if_pos (List.getElem?_eq_some_iff.mp hn).1]
    · cases h
  · rw [if_neg e]
    exact h
/-- i, j = [..], [..] -/
def fParOO (i j : Nat) (a b : FA) : FS := fun E ρ => a ρ fun ds ρ1 => b ρ1 fun es ρ2 => slotL ρ2 i = true ∧ slotL ρ2 j = true ∧ E.nx ((ρ2.set i (.own ds)).set j (.own es))
theorem EnR.ownTwo {O : Addr → Prop} {as : As} {H0 H : Hs} {ρ : En} {σ : L2.St} {p q : Addr} {xs ys : List V} {ds es : List PyData} {i j : Nat} (E : EnR K J (plus (plus O p) q) as H ρ σ) (hij : i ≠ j) (hi : slotL ρ i = true) (hj : slotL ρ j = true) (ni : n ≤ i) (nj : n ≤ j) (h0 : J.P as H0) (hq0 : J.Q O) (f : Fr as H0 H)
    (hp : NewO as H0 p) (hq : NewO as H0 q) (np : ¬ O p) (nq : ¬ plus O p q) (h1 : H p = some (.lst xs)) (h2 : H q = some (.lst ys)) (d1 : DqAll K (DL.hq (plus (plus O p) q) as H) xs ds) (d2 : DqAll K (DL.hq (plus (plus O p) q) as H) ys es) :
    ∃ as', Ext n as as' H0 H ∧ EnR K J O as' H ((ρ.set i (.own ds)).set j (.own es)) ((σ.set i (some (.ref p))).set j (some (.ref q))) := by
  have x1 : Ext n as (upA as j (some (.lf q))) H0 H := ext_own f nj (E.nst_at (E.ltB hj)) hq
  have E1 := E.ownNew (i := j) hj (J.cl _ _ _ _ h0 x1) (J.up _ _ (fun _ z => .inl z) hq0) nq h2 d2
  have x2 : Ext n as (upA (upA as j (some (.lf q))) i (some (.lf p))) H0 H := ⟨f.fr, fun a z => by
    rcases z.up with ⟨r, e, z⟩ | z
    · cases e
      rw [z.lf_of]; exact hp.symm
    · exact x1.new a z, fun k hk => by rw [upA_ne (by omega)]; exact x1.fix k hk, f.liv, fun k => (upA_ks (o := some (.lf p)) (fun z => E.nst_at (E.ltB hi) ((x1.ks i).mp z)) (fun z => by cases z) k).trans (x1.ks k), f.nst⟩
  have E2 := E1.ownNew (i := i) (slotL_set hi) (J.cl _ _ _ _ h0 x2) hq0 np h1 (d1.mono less_own)
  refine ⟨_, x2, ?_⟩
  rw [List.set_comm _ _ hij, List.set_comm _ _ hij]
  exact E2
theorem rs_parOO {i j : Nat} {ta tb : TE} {a b : FA} (hij : i ≠ j) (hi : n ≤ i) (hj : n ≤ j) (ha : RN K J ta a) (hb : RN K J tb b) : RS K J (tPar i j (tCons ta (tCons tb tNil))) (fParOO i j a b) := by
  intro O as σ H D ρ E R f C
  refine ha O as σ H _ ρ _ R f fun ds ρ1 p xs H1 q1 f1 hp1 E1 hp2 d1 => ?_
  refine hb (plus O p) as σ H1 _ ρ1 _ E1 q1 fun es ρ2 q ys H2 q2 f2 hq1 E2 hq2 d2 => ?_
  refine ⟨_, _, rfl, ?_⟩
  obtain ⟨as', x, E3⟩ := E2.ownTwo hij q2.1 q2.2.1 hi hj R.inv R.inq (f1.trans f2) hp1 (none_back f1 hq1) (R.notO E1 hp1 hp2) (E1.notO E2 hq1 hq2) (f2.fr _ _ (E1.newp hp2) hp2) hq2 (d1.mono (same_plus f2 hq1)) d2
  exact C.nx _ _ _ _ q2.2.2 x E3
/-- i, j, l = e, e', [..] -/
def fPar3O3 (i j l : Nat) (a a' : FE) (b : FA) : FS := fun E ρ => a ρ fun d ρ1 => a' ρ1 fun d' ρ2 => b ρ2 fun ds ρ3 => gN i d ρ3 fun ρ4 => gN j d' ρ4 fun ρ5 => slotL ρ5 l = true ∧ E.nx (ρ5.set l (.own ds))
theorem rs_par3O3 {i j l : Nat} {ta ta' tn : TE} {a a' : FE} {b : FA} (hl : n ≤ l) (ha : RE K J ta a) (ha' : RE K J ta' a') (hb : RN K J tn b) : RS K J (tPar3 i j l (tCons ta (tCons ta' (tCons tn tNil)))) (fPar3O3 i j l a a' b) := by
  intro O as σ H D ρ E R f C
  refine ha O as σ H _ ρ _ R f fun d ρ1 v H1 q1 f1 E1 d1 => ?_
  refine ha' O as σ H1 _ ρ1 _ E1 q1 fun d' ρ2 v' H2 q2 f2 E2 d2 => ?_
  refine hb O as σ H2 _ ρ2 _ E2 q2 fun ds ρ3 p xs H3 q3 f3 hp1 E3 hp2 d3 => ?_
  refine ⟨_, _, _, rfl, ?_⟩
  have E4 := (E3.setFz q3.1 ((d1.fr f2).mono (same_plus f3 hp1))).setFz q3.2.1 (d2.mono (same_plus f3 hp1))
  have x := ext_own ((f1.trans f2).trans f3) hl (E4.nst_at (E4.ltB q3.2.2.1)) (none_back f1 (none_back f2 hp1))
  exact C.nx _ _ _ _ q3.2.2.2 x (E4.ownNew q3.2.2.1 (J.cl _ _ _ _ R.inv x) R.inq (E2.notO E3 hp1 hp2) hp2 d3)
/-- own[k] += e -/
def fAugO (i : Nat) (b a : FE) (h : Int → Int → Int) : FS := fun E ρ => ownF ρ i fun _ => b ρ fun x ρ1 => intF x fun k => ownF ρ1 i fun ds => ∃ c, atI ds k = some (.int c) ∧ a ρ1 fun y ρ2 => intF y fun y => ownF ρ2 i fun es => ∃ j, ixN es.length k = some j ∧ E.nx (ρ2.set i (.own (es.set j (.int (h c y)))))
theorem rs_augO {i : Nat} {ti te : TE} {b a : FE} {h : Int → Int → Int} (hb : RE K J ti b) (ha : RE K J te a) : RS K J (tAugS (tVar i) ti te (rIxL K) (ipI h) rSetL) (fAugO i b a h) := by
  intro O as σ H D ρ E R f C
  obtain ⟨ds0, h0, f⟩ := ownF_of f
  obtain ⟨p, xs0, e1, e2, e3, _⟩ := R.own_at h0
  refine ⟨_, e1, ?_⟩
  refine hb O as σ H _ ρ _ R f fun x ρ1 v H1 q1 f1 E1 d1 => ?_
  unfold intF at q1
  split at q1
  · next z =>
    cases d1
    obtain ⟨ds, hds, c, hc, q1⟩ := ownF_of q1
    obtain ⟨p', xs, e1', e2', e3', e4'⟩ := E1.own_at hds
    rw [e2] at e2'
    cases e2'
    obtain ⟨u, hu, du⟩ := e4'.atI hc
    cases du
    refine ⟨p, xs, z, _, rfl, rfl, SqL.of e3', hu, ?_⟩
    refine ha O as σ H1 _ ρ1 _ E1 q1 fun y ρ2 w H2 q2 f2 E2 d2 => ?_
    unfold intF at q2
    split at q2
    · cases d2
      obtain ⟨es, hes, j, hj, q2⟩ := ownF_of q2
      obtain ⟨p'', ys, e1'', e2'', e3'', e4''⟩ := E2.own_at hes
      rw [e2] at e2''
      cases e2''
      refine ⟨_, _, rfl, rfl, p, ys, z, j, rfl, rfl, e3'', by rw [e4''.length]; exact hj, ?_⟩
      obtain ⟨E3, f3⟩ := E2.put e2 e3'' (e4''.set (.int _) j)
      exact C.nx _ _ _ _ q2 (.of ((f1.trans f2).trans f3)) E3
    · exact q2.elim
  · exact q1.elim
/-- i, j = e, [..] by way of the tuple -/
theorem rs_asgO2 {i j : Nat} {ta tn : TE} {a : FE} {b : FA} (hj : n ≤ j) (ha : RE K J ta a) (hb : RN K J tn b) : RS K J (tAsg (tTup (tCons ta (tCons tn tNil))) (gTup K 2 (gCons (gName i) (gCons (gName j) gNil)))) (fParO2 i j a b) := by
  intro O as σ H D ρ E R f C
  refine ha O as σ H _ ρ _ R f fun d ρ1 v H1 q1 f1 E1 d1 => ?_
  refine hb O as σ H1 _ ρ1 _ E1 q1 fun ds ρ2 p xs H2 q2 f2 hp1 E2 hp2 d2 => ?_
  refine ⟨by show 2 ≤ sizeLine; decide, fun T hT => ?_⟩
  have s3 := Same.new (o := .tup [v, .ref p]) hT
  refine ⟨T, _, rfl, SqT.of upd_same, rfl, _, _, rfl, _, _, rfl, rfl, ?_⟩
  have E3 := E2.grow s3
  have E4 := E3.setFz q2.1 ((d1.mono (same_plus f2 hp1)).mono (E2.hgrow s3))
  have x := ext_own ((f1.trans f2).trans (E2.frS s3)) hj (E4.nst_at (E4.ltB q2.2.1)) (none_back f1 hp1)
  exact C.nx _ _ _ _ q2.2.2 x (E4.ownNew q2.2.1 (J.cl _ _ _ _ R.inv x) R.inq (E1.notO E2 hp1 hp2) (s3 _ _ hp2) (d2.mono (E2.hgrow s3)))
/-- own == e, own != e -/
def fEqO (h : Bool → Bool) (i : Nat) (b : FE) : FE := fun ρ P => ownF ρ i fun _ => b ρ fun y ρ1 => ownF ρ1 i fun ds => SeqAt.shaped (.list ds) = true ∧ SeqAt.shaped y = true ∧ P (.bool (h (PyData.eqv (.list ds) y))) ρ1
theorem own_dp {O : Addr → Prop} {as : As} {H : Hs} {ρ : En} {σ : L2.St} {i : Nat} {ds : List PyData} (E : EnR K J O as H ρ σ) (h : ρ[i]? = some (.own ds)) (sh : SeqAt.shaped (.list ds) = true) : ∃ a, as i = some (.lf a) ∧ σ[i]? = some (some (.ref a)) ∧ Dp K H (.ref a) (.list ds) := by
  obtain ⟨a, xs, e1, e2, e3, e4⟩ := E.own_at h
  exact ⟨a, e2, e1, .lst (SqL.of e3) (DpAll.mono hp_same (e4.dp (plain_of sh)))⟩
theorem re_eqO {i : Nat} {tb : TE} {b : FE} (hb : RE K J tb b) : RE K J (tOp (rEqD K) (tVar i) tb) (fEqO id i b) := by
  intro O as σ H Q ρ P E q k
  obtain ⟨ds0, h0, q⟩ := ownF_of q
  obtain ⟨a, xs0, e1, e2, _, _⟩ := E.own_at h0
  refine ⟨_, e1, ?_⟩
  refine hb O as σ H _ ρ _ E q fun x ρ1 v H1 q1 f1 E1 d1 => ?_
  obtain ⟨ds, hds, s1, s2, p⟩ := ownF_of q1
  obtain ⟨a', e2', _, dp⟩ := own_dp E1 hds s1
  rw [e2] at e2'
  cases e2'
  exact ⟨_, _, dp, Dp.mono hp_same (d1.dp (plain_of s2)), s1, s2, k _ _ _ _ p f1 E1 (.bl _)⟩
theorem re_neO {i : Nat} {tb : TE} {b : FE} (hb : RE K J tb b) : RE K J (tOp (rNeD K) (tVar i) tb) (fEqO not i b) := by
  intro O as σ H Q ρ P E q k
  obtain ⟨ds0, h0, q⟩ := ownF_of q
  obtain ⟨a, xs0, e1, e2, _, _⟩ := E.own_at h0
  refine ⟨_, e1, ?_⟩
  refine hb O as σ H _ ρ _ E q fun x ρ1 v H1 q1 f1 E1 d1 => ?_
  obtain ⟨ds, hds, s1, s2, p⟩ := ownF_of q1
  obtain ⟨a', e2', _, dp⟩ := own_dp E1 hds s1
  rw [e2] at e2'
  cases e2'
  exact ⟨_, _, dp, Dp.mono hp_same (d1.dp (plain_of s2)), s1, s2, k _ _ _ _ p f1 E1 (.bl _)⟩
end
end DL
/-! new lists handed back; own lists changed by methods; more built-in calls -/
namespace DL
open PySem L2 Z PySem.Spec PyProof.Rows
variable [Tbs]
section
variable {K : PySem.W.Frag} {n : Nat} {J : Jv n}
/-- what a slot owns is held from now on -/
theorem EnR.release {O : Addr → Prop} {as : As} {H : Hs} {ρ : En} {σ : L2.St} {i : Nat} {ds : List PyData} (E : EnR K J O as H ρ σ) (hn : n ≤ i) (h : ρ[i]? = some (.own ds)) :
    ∃ p xs, as i = some (.lf p) ∧ H p = some (.lst xs) ∧ EnR K J (plus O p) (upA as i none) H (ρ.set i .no) σ ∧ DqAll K (hq (plus O p) (upA as i none) H) xs ds := by
  obtain ⟨p, xs, e1, e2, e3, e4⟩ := E.own_at h
  have hi := E.lt h fun _ z => by cases z
  have hS : Same (hq O as H) (hq (plus O p) (upA as i none) H) := hp_less fun a q => by
    rcases q with (q | q) | q
    · exact .inl q
    · exact .inr (.inl ⟨i, _, e2, q⟩)
    · rcases q.up with ⟨_, q, _⟩ | q
      · cases q
      · exact .inr q
  have sub : ∀ j r', upA as i none j = some r' → j ≠ i ∧ as j = some r' := fun j r' h => by
    by_cases e : j = i
    · rw [e, upA_at] at h; cases h
    · rw [upA_ne e] at h; exact ⟨e, h⟩
  refine ⟨p, xs, e2, e3, ⟨by rw [List.length_set]; exact E.len, fun j sl h1 h2 => ?_, fun j sl o h1 h2 => ?_, fun j h => ?_, fun j k r1 r2 b h1 h2 => E.inj j k r1 r2 b (sub j r1 h1).2 (sub k r2 h2).2, fun j r1 b h q z => ?_, fun j b h => by rw [List.length_set]; exact E.bnd j b (sub j b h).2, fun a q => ?_, J.cl _ _ _ _ E.inv (Ext.go hn (E.nst_at hi)), J.up _ _ (fun _ z => .inl z) E.inq, E.tab⟩, e4.mono hS⟩
  · rw [List.getElem?_set_ne (by omega)] at h1
    rw [upA_ne (by omega)]
    exact E.tl j sl h1 h2
  · rw [List.getElem?_set] at h1
    by_cases e : i = j
    · subst e
      rw [if_pos rfl] at h1
      split at h1
      · cases h1
        rw [upA_at]
        exact .no
      · cases h1
    · rw [if_neg e] at h1
      rw [upA_ne (fun z => e z.symm)]
      exact (E.at_ j sl o h1 h2).mono hS fun _ _ => rfl
  · obtain ⟨ne, h⟩ := sub j _ h
    obtain ⟨z1, z2, z3⟩ := E.sto j h
    refine ⟨z1, ?_, z3.move hS fun _ _ => rfl⟩
    rw [List.getElem?_set_ne (fun z => ne z.symm)]
    exact z2
  · obtain ⟨ne, h⟩ := sub j r1 h
    rcases z with z | z
    · exact E.out j r1 b h q z
    · exact ne (E.inj j i r1 _ b h e2 q z)
  · rcases q with q | q
    · exact E.occ a q
    · rw [q, e3]; exact Option.some_ne_none _
/-- return own -/
def fRetO (i : Nat) : FS := fun E ρ => ownF ρ i fun ds => E.ro ds (ρ.set i .no)
theorem rs_retO {i : Nat} (hi : n ≤ i) : RS K J (tRet (tVar i)) (fRetO i) := by
  intro O as σ H D ρ E R f C
  obtain ⟨ds, h, f⟩ := ownF_of f
  obtain ⟨p, xs, e2, e3, R', d⟩ := R.release hi h
  obtain ⟨a, ys, e1, e2', _, _⟩ := R.own_at h
  rw [e2] at e2'
  cases e2'
  exact ⟨_, e1, C.ro _ _ _ _ _ _ _ f (Ext.go hi (R.nst_at (R.lt h fun _ z => by cases z))) (.inr (.inl ⟨i, _, e2, .here⟩)) R' e3 d⟩
/-- return of a new list -/
def fRetW (f : FA) : FS := fun E ρ => f ρ fun ds ρ1 => E.ro ds ρ1
theorem rs_retW {te : TE} {f : FA} (h : RN K J te f) : RS K J (tRet te) (fRetW f) := by
  intro O as σ H D ρ E R q C
  exact h O as σ H _ ρ _ R q fun ds ρ1 p xs H2 q1 f1 hp1 E1 hp2 d1 => C.ro _ _ _ _ _ _ _ q1 (.of f1) hp1 E1 hp2 d1
abbrev FM := List Sl → (List PyData → List Sl → Prop) → Prop
/-- a def that hands back a new list -/
def spNG (K : PySem.W.Frag) (n e : Nat) (F : FM) : Sp := fun vs H Q _ => vs.length = n ∧ ∃ (O : Addr → Prop) (as : As) (S : Sto) (ρ : En) (P : List PyData → List Sl → Prop), EnR K (J0 : Jv 0) O as ⟨H, S⟩ ρ (vs.map some) ∧ ρ.length = n + e ∧ F ρ P ∧
  ∀ ds out p xs H', P ds out → Fr as ⟨H, S⟩ H' → NewO as ⟨H, S⟩ p → Bk K (plus O p) as H' out → H' p = some (.lst xs) → DqAll K (hq (plus O p) as H') xs ds → Q (.ref p) H'
abbrev spN (K : PySem.W.Frag) (n : Nat) (F : FM) : Sp := spNG K n 0 F
abbrev spNS (K : PySem.W.Frag) (n : Nat) (F : FM) : Sp := spNG K n 1 F
def fnM (n m : Nat) (b : FS) : FM := fun sls P => b { nx := fun _ => False, rt := fun _ _ => False, ro := fun ds ρ' => P ds (ρ'.take n) } (sls ++ List.replicate (m - n) .no)
def fnMS (n m : Nat) (b : FS) : FM := fun sls P => b { nx := fun _ => False, rt := fun _ _ => False, ro := fun ds ρ' => P ds (ρ'.take n ++ ρ'.drop m) } (sls.take n ++ List.replicate (m - n) .no ++ sls.drop n)
theorem Ext.newS {n N : Nat} {as : As} {H : Hs} {p : Addr} (h : NewO (shA as n N) H p) : NewO as H p := h.imp id fun z => by
  rcases z with ⟨j, r, hc, q⟩ | hc
  · unfold shA at hc
    split at hc
    · exact .inl ⟨j, r, hc, q⟩
    · split at hc
      · exact .inl ⟨n, r, hc, q⟩
      · cases hc
  · exact .inr hc
theorem fn_runN {m e : Nat} {N : List Str} {b : FS} {t : TS} (rs : ∀ J : Jv m, RS K J t b) {vs : List V} {H : Hp} {Q : VK} {E : XK} (hN : m ≤ N.length) {F : FM} (hF : F = fun sls P => b { nx := fun _ => False, rt := fun _ _ => False, ro := fun ds ρ' => P ds (outS e m N.length ρ') } (enS e m N.length sls)) (h : spNG K m e F vs H Q E) : t { nx := fun _ H' => Q .non H', rt := Q } (L2.start N vs) H := by
  obtain ⟨hv, O, as, S, ρ, P, R, hl, hf, q⟩ := h
  subst hF
  refine rs (Jst m O (shA as m N.length) ⟨H, S⟩) O _ _ ⟨H, S⟩ _ _ _ (fn_start R hv hl hN) hf ⟨fun _ _ _ _ p => p.elim, fun _ _ _ _ _ _ p => p.elim, fun _ _ _ _ p => p.elim, fun _ _ _ _ p => p.elim, fun ds ρ' p xs as' σ' H' pr x o R' e d => ?_⟩
  obtain ⟨h1, h2, h3⟩ := fn_back R hv hl hN x R'
  exact q _ _ _ _ _ pr h1 (Ext.newS o) h2 e (d.mono h3)
theorem fn_coreN {ps : List Str} {N : List Str} {b : FS} {t : TS} (hN : ps.length ≤ N.length) (rs : ∀ J : Jv ps.length, RS K J t b) {vs : List V} {H : Hp} {Q : VK} {E : XK} (h : spN K ps.length (fnM ps.length N.length b) vs H Q E) : t { nx := fun _ H' => Q .non H', rt := Q } (L2.start N vs) H := fn_runN rs hN rfl h
theorem fn_coreNS {ps : List Str} {N : List Str} {b : FS} {t : TS} (hN : ps.length ≤ N.length) (rs : ∀ J : Jv ps.length, RS K J t b) {vs : List V} {H : Hp} {Q : VK} {E : XK} (h : spNS K ps.length (fnMS ps.length N.length b) vs H Q E) : t { nx := fun _ H' => Q .non H', rt := Q } (L2.start N vs) H := fn_runN rs hN rfl h
section
variable {P : Program} {w : World} {mg : Str → Option Value} {base : Heap} {k : Nat} {f : Addr} {fd : FuncData} {ps : List Str} {x qual : Str} {st : Stmt} {N : List Str} {b : FS}
theorem okN (F : Fun K x qual st f fd) (S : FnScope N ps (defScope st))
    (body : ∀ (cdv : Value) (A : Around) (outer : List Env) (s : Shared) (H : Hp) (E : XK), Room k (A.deeper (envOfC qual (defScope st) s.heap.objs.size f cdv)) →
      (A.deeper (envOfC qual (defScope st) s.heap.objs.size f cdv)).guards = some [] →
      ∃ t, PSs (cxOf CX0 P w K mg base N qual (defScope st) f cdv A outer s H E).nox (defBody st) t ∧ ∀ J : Jv ps.length, RS K J t b) :
    FnG P w K mg base (k + 1) f fd ps (spN K ps.length (fnM ps.length N.length b)) := by
  refine okG F S (fun vs H Q E h => h.1) (fun cdv A outer s H vs Q E hr hg h => ?_)
  obtain ⟨t, pt, rs⟩ := body cdv A outer s H E hr hg
  exact ⟨t, pt, fn_coreN (scope_le S) rs h⟩
theorem okN0 (F : Fun K x qual st f fd) (S : FnScope N ps (defScope st))
    (body : ∀ (cdv : Value) (A : Around) (outer : List Env) (s : Shared) (H : Hp) (E : XK), Room k (A.deeper (envOfC qual (defScope st) s.heap.objs.size f cdv)) →
      ∃ t, PSs (cxOf CX0 P w K mg base N qual (defScope st) f cdv A outer s H E).nox (defBody st) t ∧ ∀ J : Jv ps.length, RS K J t b) :
    FnOk P w K mg base CX0 (k + 1) f fd ps (spN K ps.length (fnM ps.length N.length b)) := by
  refine F.ok S (fun vs H Q E h => h.1) (fun cdv A outer s H vs Q E hr h => ?_)
  obtain ⟨t, pt, rs⟩ := body cdv A outer s H E hr
  exact ⟨t, pt, fn_coreN (scope_le S) rs h⟩
theorem okND {params : Arguments} {bd : List Stmt} {scope : Scope} {dvs : List V} {kws : List (Str × V)} (F : FunD K x qual params bd scope dvs kws f fd) (S : FnScope N ps scope)
    (body : ∀ (cdv : Value) (A : Around) (outer : List Env) (s : Shared) (H : Hp) (E : XK), Room k (A.deeper (envOfC qual scope s.heap.objs.size f cdv)) →
      ∃ t, PSs (cxOf CX0 P w K mg base N qual scope f cdv A outer s H E).nox bd t ∧ ∀ J : Jv ps.length, RS K J t b) :
    FnOk P w K mg base CX0 (k + 1) f fd ps (spN K ps.length (fnM ps.length N.length b)) := by
  refine okD F S (fun vs H Q E h => h.1) (fun cdv A outer s H vs Q E hr h => ?_)
  obtain ⟨t, pt, rs⟩ := body cdv A outer s H E hr
  exact ⟨t, pt, fn_coreN (scope_le S) rs h⟩
theorem okNS (F : Fun K x qual st f fd) (S : FnScope N ps (defScope st))
    (body : ∀ (cdv : Value) (A : Around) (outer : List Env) (s : Shared) (H : Hp) (E : XK), Room k (A.deeper (envOfC qual (defScope st) s.heap.objs.size f cdv)) →
      (A.deeper (envOfC qual (defScope st) s.heap.objs.size f cdv)).guards = some [] →
      ∃ t, PSs (cxOf CX0 P w K mg base N qual (defScope st) f cdv A outer s H E).nox (defBody st) t ∧ ∀ J : Jv ps.length, RS K J t b) :
    FnG P w K mg base (k + 1) f fd ps (spNS K ps.length (fnMS ps.length N.length b)) := by
  refine okG F S (fun vs H Q E h => h.1) (fun cdv A outer s H vs Q E hr hg h => ?_)
  obtain ⟨t, pt, rs⟩ := body cdv A outer s H E hr hg
  exact ⟨t, pt, fn_coreNS (scope_le S) rs h⟩
theorem okNS0 (F : Fun K x qual st f fd) (S : FnScope N ps (defScope st))
    (body : ∀ (cdv : Value) (A : Around) (outer : List Env) (s : Shared) (H : Hp) (E : XK), Room k (A.deeper (envOfC qual (defScope st) s.heap.objs.size f cdv)) →
      ∃ t, PSs (cxOf CX0 P w K mg base N qual (defScope st) f cdv A outer s H E).nox (defBody st) t ∧ ∀ J : Jv ps.length, RS K J t b) :
    FnOk P w K mg base CX0 (k + 1) f fd ps (spNS K ps.length (fnMS ps.length N.length b)) := by
  refine F.ok S (fun vs H Q E h => h.1) (fun cdv A outer s H vs Q E hr h => ?_)
  obtain ⟨t, pt, rs⟩ := body cdv A outer s H E hr
  exact ⟨t, pt, fn_coreNS (scope_le S) rs h⟩
theorem okNSD {params : Arguments} {bd : List Stmt} {scope : Scope} {dvs : List V} {kws : List (Str × V)} (F : FunD K x qual params bd scope dvs kws f fd) (S : FnScope N ps scope)
    (body : ∀ (cdv : Value) (A : Around) (outer : List Env) (s : Shared) (H : Hp) (E : XK), Room k (A.deeper (envOfC qual scope s.heap.objs.size f cdv)) →
      ∃ t, PSs (cxOf CX0 P w K mg base N qual scope f cdv A outer s H E).nox bd t ∧ ∀ J : Jv ps.length, RS K J t b) :
    FnOk P w K mg base CX0 (k + 1) f fd ps (spNS K ps.length (fnMS ps.length N.length b)) := by
  refine okD F S (fun vs H Q E h => h.1) (fun cdv A outer s H vs Q E hr h => ?_)
  obtain ⟨t, pt, rs⟩ := body cdv A outer s H E hr
  exact ⟨t, pt, fn_coreNS (scope_le S) rs h⟩
end
/-- back from a def that hands back the place p -/
theorem call_backX {O : Addr → Prop} {p : Addr} {as : As} {H H' : Hs} {ρ : En} {σ : L2.St} {xs : List Ar} {vs : List V} {out : List Sl} (E : EnR K J O as H ρ σ) (ar : ArsT K (hq O as H) as vs xs) (nd : (ownIx xs).Nodup) (fr : Fr (adrs as xs) H H') (hX : NewO (adrs as xs) H p) (hL : H' p ≠ none) (bk : Bk K (plus (OutO O as xs H) p) (adrs as xs) H' out) :
    Fr as H H' ∧ EnR K J (plus O p) as H' (wb ρ xs out) σ ∧ ∀ a, Hid (plus O p) as H' a → Hid (plus (OutO O as xs H) p) (adrs as xs) H' a := by
  have bk0 : Bk K (OutO O as xs H) (adrs as xs) H' out := ⟨bk.tab, fun i r h => by
    obtain ⟨sl, e, q⟩ := bk.at_ i r h
    exact ⟨sl, e, q.mono (hp_less fun _ => hid_plus)⟩, bk.inj, fun i r b h q z => bk.out i r b h q (.inl z)⟩
  obtain ⟨fr', E', hid, st⟩ := call_back E ar nd fr bk0
  have hidX : ∀ a, Hid (plus O p) as H' a → Hid (plus (OutO O as xs H) p) (adrs as xs) H' a := fun a h => by
    rcases h with (h | h) | h
    · exact (hid a (.inl h)).imp .inl id
    · exact .inl (.inr h)
    · exact (hid a (.inr h)).imp .inl id
  have sX : Same (hq O as H) (hq (plus O p) as H') := fun a o e => by
    obtain ⟨na, e⟩ := hp_some e
    refine hp_mk (fun z => ?_) (fr'.fr a o (fun z => na (.inr z)) e)
    rcases z with (z | z) | z
    · exact na (.inl z)
    · rw [z] at e na
      rcases hX with h | h
      · rw [h] at e; cases e
      · exact na (.inr (adrs_sub h))
    · rcases fr'.new a z with z | z
      · exact na (.inr z)
      · rw [z] at e; cases e
  have np : ∀ i r b, as i = some r → Rgn H' r b → b ≠ p := fun i r b h q z => by
    by_cases m : i ∈ ownIx xs
    · obtain ⟨j, e⟩ := ownIx_mem m
      exact bk.out j r b (by unfold adrs; rw [e]; exact h) q (.inr z)
    · have q' : Rgn H r b := by
        cases r with
        | lf a => exact q
        | sto =>
          refine (Rgn.st (fr.nst fun j z => ?_)).mp q
          obtain ⟨i', e', h'⟩ := adrs_own z
          rw [(E.sto i' h').1, ← (E.sto i h).1] at e'
          exact m (mem_ownIx e')
      rw [z] at q'
      rcases hX with w | w
      · obtain ⟨o, e, _⟩ := E.nod h q'
        rw [show H.hp p = none from w] at e; cases e
      · exact (st i r p m h q').2 w
  refine ⟨fr', ⟨E'.len, E'.tl, fun i sl o h1 h2 => ?_, fun i h => ?_, E'.inj, fun i r b h q z => ?_, E'.bnd, fun a h => ?_, E'.inv, J.up _ _ (fun _ z => .inl z) E.inq, E'.tab⟩, hidX⟩
  · by_cases q : i ∈ ownIx xs
    · obtain ⟨j, e⟩ := ownIx_mem q
      have hi : i < ρ.length := by
        have := (List.getElem?_eq_some_iff.mp h1).1
        rw [wb_len] at this
        exact this
      obtain ⟨a, ha⟩ := ar.own_at e
      have hadr : adrs as xs j = some a := by unfold adrs; rw [e]; exact ha
      obtain ⟨sl', e1, e2⟩ := bk.at_ j a hadr
      rw [wb_own ρ hi nd e e1] at h1
      cases h1
      cases a with
      | sto =>
        have := (E.sto i ha).1
        have := (List.getElem?_eq_some_iff.mp h2).1
        omega
      | lf a =>
        obtain ⟨_, _, _, e4, _⟩ := E.is_own ha
        rw [e4] at h2
        cases h2
        rw [ha]
        exact RgR.mono (hp_less hidX) e2
    · rw [wb_other ρ xs out q] at h1
      exact (E.at_ i sl o h1 h2).mono sX fun b hb => (st i _ b q hb rfl).1
  · obtain ⟨e1, e2, e3⟩ := E'.sto i h
    refine ⟨e1, e2, ?_⟩
    by_cases q : i ∈ ownIx xs
    · obtain ⟨j, e⟩ := ownIx_mem q
      obtain ⟨sl', x1, x2⟩ := bk.at_ j .sto (by unfold adrs; rw [e]; exact h)
      exact x2.2.move (hp_less hidX) fun _ _ => rfl
    · have se : H'.st = H.st := fr.nst fun j z => by
        obtain ⟨i', e', h'⟩ := adrs_own z
        rw [(E.sto i' h').1, ← (E.sto i h).1] at e'
        exact q (mem_ownIx e')
      rw [se]
      exact (E.sto i h).2.2.move sX fun a z => (st i _ a q h z).1
  · rcases z with z | z
    · exact E'.out i r b h q z
    · exact np i r b h q z
  · rcases h with h | h
    · exact E'.occ a h
    · rw [h]; exact hL
theorem call_coreN {O : Addr → Prop} {as : As} {H : Hs} {ρ : En} {σ : L2.St} {xs : List Ar} {r : List Sl} {vs : List V} {m e : Nat} {F : FM} {P : List PyData → En → Prop} {Q : VK} {E0 : XK} (E : EnR K J O as H ρ σ) (fit : Fits ρ xs r) (ar : ArsT K (hq O as H) as vs xs) (hv : vs.length = m) (hm : xs.length = m + e) (nd : (ownIx xs).Nodup)
    (f : F r fun d out => P d (wb ρ xs out)) (k : ∀ ds ρ' p ys H', P ds ρ' → Fr as H H' → NewO as H p → EnR K J (plus O p) as H' ρ' σ → H' p = some (.lst ys) → DqAll K (hq (plus O p) as H') ys ds → Q (.ref p) H') : spNG K m e F vs H Q E0 := by
  refine ⟨hv, _, adrs as xs, H.st, r, _, call_in E fit ar nd, by rw [fit.len, hm], f, fun d out p ys H' pr fr hp1 bk hp2 dv => ?_⟩
  obtain ⟨fr', E', hid⟩ := call_backX E ar nd fr hp1 (by rw [hp2]; exact Option.some_ne_none _) bk
  exact k d _ p ys H' pr fr' (hp1.imp id adrs_sub) E' hp2 (dv.mono (hp_less hid))
def fCallW (m : Nat) (F : FM) (dv : List PyData) (a : FC) : FA := fun ρ P => a ρ fun xs ρ1 => xs.length + dv.length = m ∧ (ownIx xs).Nodup ∧ argF ρ1 xs fun r => F (r ++ dv.map .fz) fun d out => P d (wb ρ1 xs out)
theorem rn_call {m : Nat} {F : FM} {dvs : List V} {dv : List PyData} {E0 : XK} {t : TA} {f : FC} (hd : ∀ H, DqAll K H dvs dv) (ha : RC K J t f) : RN K J (tCall (spN K m F) dvs E0 t) (fCallW m F dv f) := by
  intro O as σ H Q ρ P E q k
  refine ha O as σ H _ ρ _ E q fun xs ρ1 vs H1 q1 f1 E1 d1 => ?_
  obtain ⟨hm, nd, q1⟩ := q1
  obtain ⟨r, fit, q1⟩ := argF_of q1
  refine call_coreN (xs := xs ++ dv.map .dat) E1 (fit.app (fits_dat dv)) (d1.app (dat_ars (hd _))).toT (by rw [List.length_append, d1.len, (hd H1).length]; exact hm) (by rw [List.length_append, List.length_map]; exact hm) (by rw [ownIx_app]; exact nd) ?_ fun ds ρ' p ys H' pr fr hp1 E' hp2 q' => k ds ρ' p ys H' pr (f1.trans fr) (none_back f1 hp1) E' hp2 q'
  simp only [wb_app]
  exact q1
/-- the same, handed the store, too -/
def fCallWS (sx m : Nat) (F : FM) (dv : List PyData) (a : FC) : FA := fun ρ P => a ρ fun xs ρ1 => xs.length + dv.length = m ∧ (ownIx xs ++ [sx]).Nodup ∧ argF ρ1 xs fun r => match ρ1[sx]? with
  | some (.st S) => F (r ++ dv.map .fz ++ [.st S]) fun d out => P d ((wb ρ1 xs out).set sx ((out.drop m).headD .no))
  | _ => False
theorem rn_callS {sx m : Nat} {F : FM} {dvs : List V} {dv : List PyData} {E0 : XK} {t : TA} {f : FC} (hd : ∀ H, DqAll K H dvs dv) (ha : RC K J t f) : RN K J (tCall (spNS K m F) dvs E0 t) (fCallWS sx m F dv f) := by
  intro O as σ H Q ρ P E q k
  refine ha O as σ H _ ρ _ E q fun xs ρ1 vs H1 q1 f1 E1 d1 => ?_
  obtain ⟨hm, nd, q1⟩ := q1
  obtain ⟨r, fit, q1⟩ := argF_of q1
  split at q1
  · next S hs =>
    have hl : (vs ++ dvs).length = m := by rw [List.length_append, d1.len, (hd H1).length]; exact hm
    have ni : sx ∉ ownIx xs := fun z => (List.nodup_append.mp nd).2.2 _ z _ (List.mem_singleton.mpr rfl) rfl
    refine call_coreN (xs := xs ++ dv.map .dat ++ [.own sx]) E1 ((fit.app (fits_dat dv)).app (.st hs .nil)) ((d1.app (dat_ars (hd _))).snoc (E1.st_at hs).1) hl (by rw [List.length_append, List.length_append, List.length_map, hm]; rfl) (by rw [ownIx_snoc, ownIx_app]; exact nd) ?_ fun ds ρ' p ys H' pr fr hp1 E' hp2 q' => k ds ρ' p ys H' pr (f1.trans fr) (none_back f1 hp1) E' hp2 q'
    · simp only [wb_snoc, wb_app, wb_set _ _ _ _ _ ni, List.length_append, List.length_map, hm]
      exact q1
  · exact q1.elim
def fCallNW (F : FM) (n m : Nat) (gD : List PyData → List PyData → List PyData) (f fk : FA) : FA := fun ρ P => f ρ fun ds ρ1 => fk ρ1 fun es ρ2 => ds.length = n ∧ es.length = m ∧ F ((gD ds es).map .fz) fun d _ => P d ρ2
theorem rn_callN {l n m : Nat} {F : FM} {gV : List V → List V → List V} {gD : List PyData → List PyData → List PyData} {E0 : XK} {t tk : TA} {f fk : FA}
    (hl : ∀ ds es : List PyData, ds.length = n → es.length = m → (gD ds es).length = l)
    (hg : ∀ (vs zs : List V) (ds es : List PyData) (H : Hp), DqAll K H vs ds → DqAll K H zs es → DqAll K H (gV vs zs) (gD ds es)) (ha : RA K J t f) (hk : RA K J tk fk) : RN K J (tCallN n m (spN K l F) gV E0 t tk) (fCallNW F n m gD f fk) := by
  intro O as σ H Q ρ P E q k
  refine ha O as σ H _ ρ _ E q fun ds ρ1 vs H1 q1 f1 E1 d1 => ?_
  refine hk O as σ H1 _ ρ1 _ E1 q1 fun es ρ2 zs H2 q2 f2 E2 d2 => ?_
  obtain ⟨l1, l2, q2⟩ := q2
  refine ⟨by rw [d1.length]; exact l1, by rw [d2.length]; exact l2, ?_⟩
  refine call_coreN (xs := (gD ds es).map .dat) E2 (fits_dat _) (dat_ars (hg _ _ _ _ _ (d1.fr f2) d2)).toT (by rw [(hg _ _ _ _ _ (d1.fr f2) d2).length]; exact hl _ _ l1 l2) (by rw [List.length_map]; exact hl _ _ l1 l2) (by rw [ownIx_dat]; exact .nil) ?_ fun ds ρ' p ys H' pr fr hp1 E' hp2 q' => k ds ρ' p ys H' pr ((f1.trans f2).trans fr) (none_back f1 (none_back f2 hp1)) E' hp2 q'
  simp only [wb_dat]
  exact q2
/-! built-in calls and operators that make a new list -/
def RBN (K : PySem.W.Frag) (r : List V → Hp → VK → Prop) (g : List PyData → (List PyData → Prop) → Prop) : Prop := ∀ (A : Addr → Prop) (H : Hp) (Q : VK) (xs : List V) (ds : List PyData) (P : List PyData → Prop),
  DqAll K (hp A H) xs ds → g ds P → (∀ es p ys, P es → H p = none → DqAll K (hp A H) ys es → Q (.ref p) (upd H p (.lst ys))) → r xs H Q
theorem new_step {O : Addr → Prop} {as : As} {H H1 : Hs} {ρ1 : En} {σ : L2.St} {p : Addr} {ys : List V} {es : List PyData} {P : List PyData → En → Prop} {Q : VK} (f1 : Fr as H H1) (E1 : EnR K J O as H1 ρ1 σ) (q : P es ρ1) (hp1 : H1 p = none) (d : DqAll K (hq O as H1) ys es)
    (k : ∀ ds ρ' p xs H', P ds ρ' → Fr as H H' → NewO as H p → EnR K J (plus O p) as H' ρ' σ → H' p = some (.lst xs) → DqAll K (hq (plus O p) as H') xs ds → Q (.ref p) H') : Q (.ref p) (H1.w (upd H1 p (.lst ys))) := by
  obtain ⟨E2, s2⟩ := E1.addO (o := .lst ys) hp1
  exact k _ _ _ _ _ q (f1.trans (E1.frS (Same.new hp1))) (none_back f1 (.inl hp1)) E2 upd_same (d.mono s2)
def fCBN (g : List PyData → (List PyData → Prop) → Prop) (a : FA) : FA := fun ρ P => a ρ fun ds ρ1 => g ds fun es => P es ρ1
theorem rn_cb {r : List V → Hp → VK → Prop} {g : List PyData → (List PyData → Prop) → Prop} {t : TA} {f : FA} (hr : RBN K r g) (ha : RA K J t f) : RN K J (tCB r t) (fCBN g f) := by
  intro O as σ H Q ρ P E q k
  refine ha O as σ H _ ρ _ E q fun ds ρ1 vs H1 q1 f1 E1 d1 => ?_
  exact hr (Hid O as H1) H1 _ vs ds _ d1 q1 fun es p ys pr hp1 d => new_step f1 E1 pr hp1 d k
def nList (ds : List PyData) (P : List PyData → Prop) : Prop := one ds fun d => seqF d P
theorem rbn_list : RBN K (fun xs H Q => ∃ p ys, xs = [.ref p] ∧ (SqL K H p ys ∨ SqT K H p ys) ∧ ∀ l, H l = none → Q (.ref l) (upd H l (.lst ys))) nList := by
  intro A H Q xs ds P r g k
  obtain ⟨v, d, rfl, q, g⟩ := one_of r g
  obtain ⟨p, ys, es, rfl, s, r, g⟩ := seqF_of q g
  exact ⟨p, ys, rfl, s, fun l hl => k _ _ _ g hl r⟩
def nSortI (ds : List PyData) (P : List PyData → Prop) : Prop := one ds fun d => listF d fun es => intsF es fun ns => ∀ ms : List Int, ms.Perm ns → ms.Pairwise (· ≤ ·) → P (ms.map .int)
theorem rbn_sortI : RBN K (rSortedI K) nSortI := by
  intro A H Q xs ds P r g k
  obtain ⟨v, d, rfl, q, g⟩ := one_of r g
  unfold listF at g
  split at g
  · obtain ⟨ns, e, g'⟩ := intsF_of g
    subst e
    obtain ⟨a, ys, rfl, s, r⟩ := q.list_of
    cases r.ints_of
    exact ⟨a, ns, rfl, SqL.mono hp_same s, fun ms p h1 h2 hp1 => k _ _ _ (g' ms h1 h2) hp1 (DqAll.ints _)⟩
  · exact g.elim
def nSortS (ds : List PyData) (P : List PyData → Prop) : Prop := one ds fun d => listF d fun es => strsF es fun ns => ns.length < 64 ∧ ∀ ms : List Str, ms.Perm ns → sortedS ms = true → P (ms.map .str)
theorem rbn_sortS : RBN K (rSortedS K) nSortS := by
  intro A H Q xs ds P r g k
  obtain ⟨v, d, rfl, q, g⟩ := one_of r g
  unfold listF at g
  split at g
  · obtain ⟨ns, e, hl, g'⟩ := strsF_of g
    subst e
    obtain ⟨a, ys, rfl, s, r⟩ := q.list_of
    cases r.strs_of
    exact ⟨a, ns, rfl, SqL.mono hp_same s, hl, fun ms p h1 h2 hp1 => k _ _ _ (g' ms h1 h2) hp1 (DqAll.strs _)⟩
  · exact g.elim
def RRN (K : PySem.W.Frag) (r : R2) (g : PyData → PyData → (List PyData → Prop) → Prop) : Prop := ∀ (A : Addr → Prop) (H : Hp) (Q : VK) (x y : V) (a b : PyData) (P : List PyData → Prop),
  Dq K (hp A H) x a → Dq K (hp A H) y b → g a b P → (∀ es p ys, P es → H p = none → DqAll K (hp A H) ys es → Q (.ref p) (upd H p (.lst ys))) → r x y H Q
def fOpN (g : PyData → PyData → (List PyData → Prop) → Prop) (a b : FE) : FA := fun ρ P => a ρ fun x ρ1 => b ρ1 fun y ρ2 => g x y fun es => P es ρ2
theorem rn_op {r : R2} {g : PyData → PyData → (List PyData → Prop) → Prop} {ta tb : TE} {fa fb : FE} (hr : RRN K r g) (ha : RE K J ta fa) (hb : RE K J tb fb) : RN K J (tOp r ta tb) (fOpN g fa fb) := by
  intro O as σ H Q ρ P E q k
  refine ha O as σ H _ ρ _ E q fun a ρ1 x H1 q1 f1 E1 d1 => ?_
  refine hb O as σ H1 _ ρ1 _ E1 q1 fun b ρ2 y H2 q2 f2 E2 d2 => ?_
  exact hr (Hid O as H2) H2 _ x y a b _ (d1.fr f2) d2 q2 fun es p ys pr hp1 d => new_step (f1.trans f2) E2 pr hp1 d k
def nCat : PyData → PyData → (List PyData → Prop) → Prop := fun a b P => match a, b with
  | .list xs, .list ys => xs.length + ys.length ≤ sizeLine ∧ P (xs ++ ys)
  | _, _ => False
theorem rrn_cat : RRN K (rCatK K) nCat := by
  intro A H Q x y a b P da db g k
  unfold nCat at g
  split at g
  · obtain ⟨p, xs, rfl, s, r⟩ := da.list_of
    obtain ⟨p', xs', rfl, s', r'⟩ := db.list_of
    exact ⟨p, p', xs, xs', rfl, rfl, SqL.mono hp_same s, SqL.mono hp_same s', by rw [r.length, r'.length]; exact g.1, fun l hl => k _ _ _ g.2 hl (r.append r')⟩
  · exact g.elim
theorem own_out {O : Addr → Prop} {as : As} {H : Hs} {ρ : En} {σ : L2.St} {p : Addr} {xs : List V} (E : EnR K J (plus O p) as H ρ σ) (e : H p = some (.lst xs)) : ¬ Own as H p := E.newp e
theorem plus_sub {O : Addr → Prop} {p : Addr} : ∀ a, O a → plus O p a := fun _ h => .inl h
/-- [..] * k, the list being written there -/
def fRep (a : FA) (b : FE) : FA := fun ρ P => a ρ fun ds ρ1 => b ρ1 fun y ρ2 => intF y fun k => -(2 ^ 63) ≤ k ∧ k < 2 ^ 63 ∧ ds.length * k.toNat ≤ sizeLine ∧ P (List.replicate k.toNat ds).flatten ρ2
theorem rn_rep {ta tb : TE} {a : FA} {b : FE} (ha : RN K J ta a) (hb : RE K J tb b) : RN K J (tOp rRep ta tb) (fRep a b) := by
  intro O as σ H Q ρ P E q k
  refine ha O as σ H _ ρ _ E q fun ds ρ1 p xs H1 q1 f1 hp1 E1 hp2 d1 => ?_
  refine hb (plus O p) as σ H1 _ ρ1 _ E1 q1 fun y ρ2 v H2 q2 f2 E2 d2 => ?_
  unfold intF at q2
  split at q2
  · cases d2
    refine ⟨p, _, xs, rfl, rfl, f2.fr _ _ (own_out E1 hp2) hp2, q2.1, q2.2.1, by rw [d1.length]; exact q2.2.2.1, fun l hl => ?_⟩
    have E3 := E2.lessO E.inq
    exact new_step (f1.trans f2) E3 q2.2.2.2 hl (((d1.fr f2).mono (hp_less fun _ => hid_plus)).rep _) k
  · exact q2.elim
def fSlN (a : FE) (lo hi : FO) : FA := fun ρ P => a ρ fun x ρ1 => lo ρ1 fun l ρ2 => hi ρ2 fun u ρ3 => listF x fun ds => P (cutD ds l u) ρ3
theorem rn_sl {te : TE} {tl th : TO} {a : FE} {lo hi : FO} (ha : RE K J te a) (hl : RO K J tl lo) (hh : RO K J th hi) : RN K J (tSl (rSlL K) te tl th) (fSlN a lo hi) := by
  intro O as σ H Q ρ P E q k
  refine ha O as σ H _ ρ _ E q fun x ρ1 v H1 q1 f1 E1 d1 => ?_
  refine hl O as σ H1 _ ρ1 _ E1 q1 fun l ρ2 H2 q2 f2 E2 => ?_
  refine hh O as σ H2 _ ρ2 _ E2 q2 fun u ρ3 H3 q3 f3 E3 => ?_
  unfold listF at q3
  split at q3
  · obtain ⟨p, xs, rfl, s, r⟩ := ((d1.fr f2).fr f3).list_of
    exact ⟨p, xs, rfl, SqL.mono hp_same s, fun l hl => new_step ((f1.trans f2).trans f3) E3 q3 hl (r.cut _ _) k⟩
  · exact q3.elim
/-- xs[::-1] -/
def fRev (a : FE) : FA := fun ρ P => a ρ fun x ρ1 => listF x fun ds => P ds.reverse ρ1
theorem rn_rev {te : TE} {a : FE} (ha : RE K J te a) : RN K J (tRevL K te) (fRev a) := by
  intro O as σ H Q ρ P E q k
  refine ha O as σ H _ ρ _ E q fun x ρ1 v H1 q1 f1 E1 d1 => ?_
  unfold listF at q1
  split at q1
  · obtain ⟨p, xs, rfl, s, r⟩ := d1.list_of
    exact ⟨p, xs, rfl, SqL.mono hp_same s, fun l hl => new_step f1 E1 q1 hl r.rev k⟩
  · exact q1.elim
/-! own lists changed by methods -/
/-- own.pop(k), its value -/
def fPopAt (i : Nat) (a : FE) : FE := fun ρ P => ownF ρ i fun _ => a ρ fun x ρ1 => intF x fun k => ownF ρ1 i fun ds => -(2 ^ 63) ≤ k ∧ k < 2 ^ 63 ∧ ∃ j d, seqIndex? k ds.length = some j ∧ ds[j]? = some d ∧ P d (ρ1.set i (.own (ds.eraseIdx j)))
theorem DqAll.erase {G : Hp} : ∀ {v : List V} {d : List PyData} (m : Nat), DqAll K G v d → DqAll K G (v.eraseIdx m) (d.eraseIdx m)
  | _, _, _, .nil => .nil
  | _, _, 0, .cons _ b => b
  | _, _, m + 1, .cons a b => .cons a (DqAll.erase m b)
theorem re_popAt {i : Nat} {te : TE} {a : FE} (ha : RE K J te a) : RE K J (tBM K "list" rPopAt (tVar i) (tCons te tNil)) (fPopAt i a) := by
  intro O as σ H Q ρ P E q kk
  obtain ⟨ds0, h0, q⟩ := ownF_of q
  obtain ⟨p, xs0, e1, e2, e3, _⟩ := E.own_at h0
  refine ⟨_, e1, .inl ⟨rfl, _, SqL.of e3⟩, ?_⟩
  refine ha O as σ H _ ρ _ E q fun x ρ1 v H1 q1 f1 E1 d1 => ?_
  unfold intF at q1
  split at q1
  · cases d1
    obtain ⟨ds, hds, b1, b2, j, d, hj, hd, pr⟩ := ownF_of q1
    obtain ⟨p', xs, e1', e2', e3', e4'⟩ := E1.own_at hds
    rw [e2] at e2'
    cases e2'
    obtain ⟨y, hy, dy⟩ := e4'.got hd
    obtain ⟨E2, f2⟩ := E1.put (i := i) e2 e3' (e4'.erase j)
    exact ⟨p, xs, _, j, y, rfl, rfl, e3', b1, b2, by rw [e4'.length]; exact hj, hy, kk _ _ _ _ pr (f1.trans f2) E2 (dy.fr f2)⟩
  · exact q1.elim
/-- own.pop(), its value -/
def fPop (i : Nat) : FE := fun ρ P => ownF ρ i fun ds => ∃ d, ds[ds.length - 1]? = some d ∧ P d (ρ.set i (.own ds.dropLast))
theorem DqAll.last {G : Hp} {v : List V} {d : List PyData} (h : DqAll K G v d) : DqAll K G v.dropLast d.dropLast := by
  rw [List.dropLast_eq_take, List.dropLast_eq_take, h.length]
  exact h.take _
theorem re_pop {i : Nat} : RE K J (tBM0 K "list" rPop (tVar i)) (fPop i) := by
  intro O as σ H Q ρ P E q k
  obtain ⟨ds, h0, d, hd, q⟩ := ownF_of q
  obtain ⟨p, xs, e1, e2, e3, e4⟩ := E.own_at h0
  obtain ⟨y, hy, dy⟩ := e4.got hd
  obtain ⟨E2, f2⟩ := E.put e2 e3 e4.last
  exact ⟨_, e1, .inl ⟨rfl, _, SqL.of e3⟩, p, xs, y, rfl, rfl, e3, by rw [e4.length]; exact hy, k _ _ _ _ q f2 E2 (dy.fr f2)⟩
/-- own.insert(k, e) -/
def fInsert (i : Nat) (a b : FE) : FS := fun E ρ => ownF ρ i fun _ => a ρ fun x ρ1 => intF x fun k => b ρ1 fun d ρ2 => ownF ρ2 i fun ds => ds.length < sizeLine ∧ 0 ≤ k ∧ k < 2 ^ 63 ∧ E.nx (ρ2.set i (.own (ds.take k.toNat ++ [d] ++ ds.drop k.toNat)))
theorem rs_insert {i : Nat} {ta tb : TE} {a b : FE} (ha : RE K J ta a) (hb : RE K J tb b) : RS K J (tDrop (tBM K "list" (fun x vs H Q => ∃ (l : Addr) (xs : List V) (i : Int) (y : V), x = .ref l ∧ vs = [.int i, y] ∧ H l = some (.lst xs) ∧ xs.length < sizeLine ∧ 0 ≤ i ∧ i < 2 ^ 63 ∧ Q .non (upd H l (.lst (xs.take i.toNat ++ [y] ++ xs.drop i.toNat)))) (tVar i) (tCons ta (tCons tb tNil)))) (fInsert i a b) := by
  intro O as σ H D ρ E R f C
  obtain ⟨ds0, h0, f⟩ := ownF_of f
  obtain ⟨p, xs0, e1, e2, e3, _⟩ := R.own_at h0
  refine ⟨_, e1, .inl ⟨rfl, _, SqL.of e3⟩, ?_⟩
  refine ha O as σ H _ ρ _ R f fun x ρ1 v H1 q1 f1 E1 d1 => ?_
  unfold intF at q1
  split at q1
  · cases d1
    refine hb O as σ H1 _ ρ1 _ E1 q1 fun d ρ2 w H2 q2 f2 E2 d2 => ?_
    obtain ⟨ds, hds, hl, k0, k1, q2⟩ := ownF_of q2
    obtain ⟨p', xs, e1', e2', e3', e4'⟩ := E2.own_at hds
    rw [e2] at e2'
    cases e2'
    obtain ⟨E3, f3⟩ := E2.put e2 e3' (((e4'.take _).append (.cons d2 .nil)).append (e4'.drop _))
    exact ⟨p, xs, _, w, rfl, rfl, e3', by rw [e4'.length]; exact hl, k0, k1, C.nx _ _ _ _ q2 (.of ((f1.trans f2).trans f3)) E3⟩
  · exact q1.elim
/-- own.extend(e), e being a list that is made there -/
def fExtend (i : Nat) (a : FA) : FS := fun E ρ => ownF ρ i fun _ => a ρ fun es ρ1 => ownF ρ1 i fun ds => ds.length + es.length ≤ sizeLine ∧ E.nx (ρ1.set i (.own (ds ++ es)))
theorem rs_extend {i : Nat} {te : TE} {a : FA} (ha : RN K J te a) : RS K J (tDrop (tBM K "list" rExtend (tVar i) (tCons te tNil))) (fExtend i a) := by
  intro O as σ H D ρ E R f C
  obtain ⟨ds0, h0, f⟩ := ownF_of f
  obtain ⟨p, xs0, e1, e2, e3, _⟩ := R.own_at h0
  refine ⟨_, e1, .inl ⟨rfl, _, SqL.of e3⟩, ?_⟩
  refine ha O as σ H _ ρ _ R f fun es ρ1 b zs H1 q1 f1 hb0 E1' hb1 r => ?_
  have E1 := E1'.lessO R.inq
  obtain ⟨ds, hds, hl, q1⟩ := ownF_of q1
  obtain ⟨p', xs, e1', e2', e3', e4'⟩ := E1.own_at hds
  rw [e2] at e2'
  cases e2'
  obtain ⟨E2, f2⟩ := E1.put e2 e3' (e4'.append (r.mono (hp_less fun _ => hid_plus)))
  exact ⟨p, b, xs, zs, rfl, rfl, e3', hb1, by rw [e4'.length, r.length]; exact hl, C.nx _ _ _ _ q1 (.of (f1.trans f2)) E2⟩
/-- own.reverse() -/
def fReverse (i : Nat) : FS := fun E ρ => ownF ρ i fun ds => E.nx (ρ.set i (.own ds.reverse))
theorem rs_reverse {i : Nat} : RS K J (tDrop (tBM0 K "list" rReverse (tVar i))) (fReverse i) := by
  intro O as σ H D ρ E R f C
  obtain ⟨ds, h0, f⟩ := ownF_of f
  obtain ⟨p, xs, e1, e2, e3, e4⟩ := R.own_at h0
  obtain ⟨E2, f2⟩ := R.put e2 e3 e4.rev
  exact ⟨_, e1, .inl ⟨rfl, _, SqL.of e3⟩, p, xs, rfl, rfl, e3, C.nx _ _ _ _ f (.of f2) E2⟩
/-! isinstance(x, (list, tuple)) -/
def fIsiLT (a : FE) : FE := fun ρ P => a ρ fun d ρ1 => isObjD d = false ∧ ∃ b c, kitB (kindD d) "list" = some b ∧ kitB (kindD d) "tuple" = some c ∧ P (.bool (b || c)) ρ1
theorem re_isiLT {ta : TE} {a : FE} (ha : RE K J ta a) : RE K J (tCB (rIsiT K) (tCons ta (tCons (tTup (tCons (tC (.ty "list")) (tCons (tC (.ty "tuple")) tNil))) tNil))) (fIsiLT a) := by
  intro O as σ H Q ρ P E q k
  refine ha O as σ H _ ρ _ E q fun d ρ1 v H1 q1 f1 E1 d1 => ?_
  obtain ⟨ho, b, c, hb, hc, q1⟩ := q1
  refine ⟨by show 2 ≤ sizeLine; decide, fun T hT => ?_⟩
  have s := Same.new (o := .tup [.ty "list", .ty "tuple"]) hT
  exact ⟨v, T, _, _, _, _, rfl, upd_same, ltC, (d1.mono (E1.hgrow s)).ty ho, kitLT _ b c hb hc, k _ _ _ _ q1 (f1.trans (E1.frS s)) (E1.grow s) (.bl _)⟩
/-! the greatest of three -/
def bMax3 (ds : List PyData) (P : PyData → Prop) : Prop := match ds with
  | [.int i, .int j, .int k] => P (.int (max3 i j k))
  | _ => False
theorem rb_max3 : RB K (fun xs H Q => ∃ i j k, xs = [.int i, .int j, .int k] ∧ Q (.int (max3 i j k)) H) bMax3 := by
  intro A H Q xs ds P oc r g k
  unfold bMax3 at g
  split at g
  · cases r with
    | cons a r => cases r with
      | cons b r => cases r with
        | cons c r => cases r; cases a; cases b; cases c; exact ⟨_, _, _, rfl, k _ _ _ g (Same.refl _) (.int _)⟩
  · exact g.elim
/-! the law's own likeness -/
def F__law_same : FN := fun sls P => match sls with
  | [.fz a, .fz b] => a = b ∧ SeqAt.shaped a = true ∧ a.depth < 8 ∧ nodes a ≤ 1000000 ∧ ∀ sl, P (.bool true) sl
  | _ => False
def spSame (K : PySem.W.Frag) (n : Nat) : Sp := fun vs H Q _ => ∃ (v1 v2 : V) (d : PyData), vs = [v1, v2] ∧ Dp K H v1 d ∧ Dp K H v2 d ∧ SeqAt.shaped d = true ∧ d.depth < n ∧ nodes d ≤ 1000000 ∧ ∀ H', Same H H' → Q (.bl true) H'
theorem same_of {vs : List V} {H : Hp} {Q : VK} {E : XK} (h : spF K 2 F__law_same vs H Q E) : spSame K 8 vs H Q E := by
  obtain ⟨hv, O, as, S, ρ, P, R, hl, hF, q⟩ := h
  match vs, hv with
  | [v0, v1], _ =>
    have hl : ρ.length = 2 := hl
    match ρ, hl with
    | [s0, s1], _ =>
      unfold F__law_same at hF
      split at hF
      · next a b e =>
        injection e with e1 e2
        injection e2 with e2 _
        subst e1
        subst e2
        obtain ⟨rfl, sh, dp, nd, hP⟩ := hF
        obtain ⟨v, y1, y2, y3⟩ := R.fz_at (i := 0) rfl
        obtain ⟨w, z1, z2, z3⟩ := R.fz_at (i := 1) rfl
        cases y1
        cases z1
        have no : ∀ i a, as i = some a → False := fun i a ha => by
          have hi := R.bnd i a ha
          match i, hi, ha with
          | 0, _, ha => rw [y2] at ha; cases ha
          | 1, _, ha => rw [z2] at ha; cases ha
        refine ⟨_, _, a, rfl, Dp.mono hp_same (y3.dp (plain_of sh)), Dp.mono hp_same (z3.dp (plain_of sh)), sh, dp, nd, fun H' s => ?_⟩
        exact q _ _ _ ⟨H', S⟩ (hP []) (R.frS s) ⟨R.tab.ext s, fun i a ha => (no i a ha).elim, fun i _ a _ _ ha => (no i a ha).elim, fun i a _ ha => (no i a ha).elim⟩ (.bl _)
      · exact hF.elim
end
end DL
/-! exceptions of own classes over any built-in one: made, raised, called for; those of __init__ -/
namespace DL
open PySem L2 Z PySem.Spec PyProof.Rows
variable [Tbs]
section
open Builtin Builtin.ObjectAttr
variable {prog : Program} {w : World} {A : Around} {E : Value → Shared → Prop} {R : Result → Shared → Prop} {hh : Heap} {g : Array GenState} {d : Drawn} {t : Nat} {os : OsState}
/-- what is known of an own exception's class C over B -/
structure OxB (K : PySem.W.Frag) (C : Addr) (B nI iI : String) (bm : List Value) : Prop where
  fb : ExcBaseFacts B nI iI bm
  st : StoreFacts B bm "object.__setattr__" "object"
  ci : PySem.W.excInitIn K C bm nI = true
  co : PySem.W.excOver K C bm = true
  hd : PySem.W.hasDictIn K C = true
  sa : PySem.W.findIn K (.ref C) "__setattr__" = some (some (.builtin "object.__setattr__"))
  exC : PySem.W.subIn K (.ref C) (.type "BaseException") = some true
  tyC : PySem.W.typeIn K (.ref C) = some (.type "type")
  kC : PySem.W.keepIn K (.ref C) = true
  nw : PySem.W.findIn K (.ref C) "what" = some none
/-- the first field of an exception -/
theorem ox_set {K : PySem.W.Frag} {tk : Tok} {v : Value} {x C : Addr} {fv : Array Value} {B nI iI : String} {bm : List Value} (T : OxB K C B nI iI bm) (X : K.In hh) (hx : hh.get? x = some ({ cls := .ref C, data := .fields fv } : Obj))
    (hq : ∀ h' tk' dx, (∀ b o, b ≠ x → hh.get? b = some o → h'.get? b = some o) → hh.objs.size ≤ dx → dx ≠ x → h'.get? x = some ({ cls := .ref C, dict := some dx, data := .fields fv } : Obj) →
      h'.Ns1 dx (fun y => if y = "what" then some v else none) → R (.ok (.ret .none)) ⟨h', g, d, tk', os⟩) :
    codeAny (model prog w) A (.call (.builtin "object.__setattr__") ⟨[.ref x, .str "what" tk, v], []⟩) R ⟨hh, g, d, t, os⟩ := by
  have lx : x ≠ hh.objs.size := Nat.ne_of_lt (Heap.lt_size hx)
  refine PySem.W.osa_openX (od := none) T.st X ⟨hx, rfl, rfl, trivial⟩ T.co (by unfold PySem.W.takerIn; rw [T.nw]; rfl) fun b => ?_
  obtain ⟨cd, hcd, hdc⟩ := PySem.W.any_some T.hd
  have lk : PySem.W.Looks (model prog w) hh (classData C) cd := PySem.W.looks_clsIn X hcd
  obtain ⟨nm, bs, mro, ns, qn, hd, sn, sb, ab, col, del⟩ := cd
  have hdc' : hd = true := hdc
  subst hdc'
  unfold storeInOwnDict ownDictForStores
  repeat (first
    | with_reducible refine HandSPX.store_in_new ?_ ?_
    | with_reducible refine wpAny_loadPart_at hx ?_
    | with_reducible refine lk.at ?_
    | wp_step)
  · refine ⟨_, #[], _, (Heap.get?_update_ne _ _ _ _ lx.symm).trans (Heap.get?_push_at rfl rfl), rfl, fun e he => ?_, fun _ => rfl⟩
    simp at he
  · intro h' tk' hn' hs
    have e1 : (hh.push ({ cls := .type "dict", data := .dict #[] } : Obj)).get? x = some ({ cls := .ref C, data := .fields fv } : Obj) := Heap.get?_push_of_some _ hx
    refine hq h' tk' _ (fun b o nb ho => ?_) (Nat.le_refl _) lx.symm ?_ hn'
    · rw [hs.2 b (Nat.ne_of_lt (Heap.lt_size ho)), Heap.get?_update_ne _ _ _ _ nb]
      exact Heap.get?_push_of_some _ ho
    · rw [hs.2 x lx]
      exact Heap.get?_update_self _ e1 rfl
end
section
variable {X : Cx} {pins : List (Addr × Obj)} {σ : L2.St} {H : Hp} {s : Shared} {a C : Addr} {y : V} {u : Value} {E : Value → Shared → Prop} {A : Around} {B nI iI : String} {bm : List Value}
/-- self.what = y -/
theorem ox_put {Q : Unit → Shared → Prop} (T : OxB X.K C B nI iI bm) (I : Inv X pins σ H s) (e : H a = some (exo a C none)) (ry : RelV y u)
    (h : ∀ dx s', H dx = none → dx ≠ a → Inv X pins σ (upd (upd H dx (exd dx [("what", y)])) a (exo a C (some dx))) s' → Q () s') : wpAny (model X.prog X.w) A (setAttr (.ref a) "what" u) Q E s := by
  obtain ⟨t1, ho⟩ := exo_at I.hok e
  obtain ⟨hh, g, d, t, os⟩ := s
  refine PySem.W.set_plain I.kIn (ox := ({ cls := .ref C, data := .fields #[.ref t1, .none, .none, .none, .bool false, .none] } : Obj)) (od := none) ⟨ho, rfl, rfl, trivial⟩ T.sa (ox_set T I.kIn ho fun h' tk' dx k dn dne hx hn => ?_)
  have fresh : H dx = none := I.hok.fresh dn
  have old : ∀ {b : Addr} {o : Obj}, hh.get? b = some o → b ≠ dx := fun q => Nat.ne_of_lt (Nat.lt_of_lt_of_le (Heap.lt_size q) dn)
  have noa : ∀ {b : Addr}, H b = none → b ≠ a := fun n z => by rw [z, e] at n; cases n
  refine h dx _ fresh dne (I.un (t' := tk') ⟨fun b o q n _ _ => k b o (noa n) q, fun b o q n _ _ => ⟨o.slots, k b o (noa n) q⟩, fun b o q n _ => (upd_ne (noa n)).trans ((upd_ne (old q)).trans n), fun b o q _ => ?_,
    fun b xs q => (upd_ne (at_ne e q exo_tup)).trans ((upd_ne (ne_of_none q fresh)).trans q), fun b o v q => (upd_ne (at_ne e q exo_frz)).trans ((upd_ne (ne_of_none q fresh)).trans q),
    fun b ps q => ⟨#[], (upd_ne (at_ne e q exo_tbl)).trans ((upd_ne (ne_of_none q fresh)).trans (by rw [q, Array.append_empty]))⟩⟩ fun b o q => ?_)
  · by_cases hb : b = a
    · exact ⟨_, by rw [hb]; exact hx⟩
    · exact ⟨o, k b o hb q⟩
  · by_cases hb : b = a
    · subst hb
      rw [upd_same] at q
      cases q
      exact exo_ok hx
    · rw [upd_ne hb] at q
      by_cases hd : b = dx
      · subst hd
        rw [upd_same] at q
        cases q
        exact exd_ok hn (relO_put (fs := []) ry fun _ => True.intro)
      · rw [upd_ne hd] at q
        refine (I.hok b o q).stay (fun c v hc z => k c v ?_ z) (fun c hc => (upd_ne (at_ne e hc exo_own)).trans ((upd_ne (ne_of_none hc fresh)).trans hc)) fun c xs hc => (upd_ne (at_ne e hc exo_tup)).trans ((upd_ne (ne_of_none hc fresh)).trans hc)
        rcases hc with rfl | hc
        · exact hb
        · exact at_ne e hc exo_own
/-- B.__init__(self, ..): nothing of it is told -/
theorem ox_init {us : List Value} {Q : Value → Shared → Prop} (T : OxB X.K C B nI iI bm) (I : Inv X pins σ H s) (e : H a = some (exo a C none)) (hl : us.length ≤ sizeLine) (h : ∀ s', Inv X pins σ H s' → Q .none s') :
    wpAny (model X.prog X.w) A (call (.builtin iI) (.ref a :: us)) Q E s := by
  obtain ⟨nm, N, qn, bs, bm', hdct, sn, sub, ab, col, dd, k0, k1, k2, k3, k5, hC, hT⟩ := PySem.W.excInit_of I.kIn T.ci
  obtain ⟨t1, ho⟩ := exo_at I.hok e
  obtain ⟨hh, g, d, t, os⟩ := s
  refine wpAny_call (HandSPX.init_base T.fb hT hC ho hl fun h' t2 k hx => h _ ?_)
  have z : upd H a (exo a C none) = H := funext fun b => by
    by_cases q : b = a
    · rw [q, upd_same, e]
    · exact upd_ne q
  have W := I.write (t' := t) (x := a) (e := a) (o := exo a C none) (by rw [e]; trivial) (.inl rfl) k ⟨_, hx⟩ (exo_ok hx)
  rwa [z] at W
end
def tBi (K : PySem.W.Frag) (B nI iI : String) (bm : List Value) (ta : TA) : TE := fun σ H Q => ta σ H fun vs H1 => ∃ (a C : Addr) (ws : List V), vs = .ref a :: ws ∧ ws.length ≤ 1000 ∧ OxB K C B nI iI bm ∧ H1 a = some (exo a C none) ∧ Q .non H1
def tOw (K : PySem.W.Frag) (to te : TE) : TS := fun D σ H => te σ H fun y H1 => to σ H1 fun x H2 => ∃ (a C : Addr) (B nI iI : String) (bm : List Value), x = .ref a ∧ OxB K C B nI iI bm ∧ H2 a = some (exo a C none) ∧
  ∀ dx, H2 dx = none → dx ≠ a → D.nx σ (upd (upd H2 dx (exd dx [("what", y)])) a (exo a C (some dx)))
section
variable {X : Cx} {o e : Expr} {es : List Expr} {to te : TE} {ta : TA} {p p' p1 p2 pos : Pos} {B nI iI : String} {bm : List Value} {b : Str}
theorem pe_bi {pl : Sem Bool} (hg : Gl X b) (hm : X.mg b = none) (hv : bootBuiltins b = some (.type B)) (hty : typeOf (.type B) = pure (.type "type")) (hf : PySem.W.findCls X.K (.type B) (.type "type") "__init__" = some (.val (.builtin iI))) (ha : PA X (e :: es) ta)
    (z1 : b ≠ "__name__" := by decide) (z2 : (b == ("__debug__" : Str)) = false := by decide) (hB : Manifest.isStub B = false := by decide +kernel) (hi : PySem.W.handedIn (.builtin iI) = true := by decide +kernel)
    (hc : eval (.Call (.Attribute (.Name b p1) "__init__" p2) (e :: es) [] pos) X.env = (do
      let ov ← eval (.Name b p1) X.env
      standAt p2.atName
      let (f, first) ← holding [ov] (getMethod ov "__init__" pl)
      callWith pos f first (backTo pos (starEach (e :: es) X.env)) (backToKw pos (keywordEach [] X.env))) := by rfl)
    (he : starEach (e :: es) X.env = (false, eval e X.env) :: starEach es X.env := by rfl) (hpl : (backTo pos (starEach es X.env)).any (·.1) = false := by rfl) :
    PE X (.Call (.Attribute (.Name b p1) "__init__" p2) (e :: es) [] pos) (tBi X.K B nI iI bm ta) := by
  refine ⟨fun pins s σ H Q I h => ?_⟩
  refine PySem.W.methodCall_KW (ld_blt I hg hm hv ?_ z1 z2) hc
  obtain ⟨m, fr⟩ := I.fr
  refine PySem.W.method_type fr I.ok.mod.kin hty hB hf hi ?_
  refine PyProof.Rows.callWith_method1 (thn (ha.run pos pins _ σ H _ (I.tok _) h) fun us s1 hh => ?_) he hpl
  obtain ⟨vs, H1, J, rs, a, C, ws, rfl, hz, T, ea, q⟩ := hh
  cases rs with
  | @cons _ u _ ur ra rr =>
    have eu : u = Value.ref a := ra
    subst eu
    exact ox_init T J ea (by rw [← Paired.length rr, sizeLine_eq]; omega) fun s' J' => ⟨.non, H1, J', rfl, q⟩
theorem ps_ow (ho : PE X o to) (he : PE X e te) (hs : swapsWith e (some (.Attribute o "what" p')) pos.line X.env = pure false := by rfl) : PS X (.Assign [.Attribute o "what" p'] e pos) (tOw X.K to te) := by
  refine ⟨fun pins s σ H D I h => plainObj_wpAny_Assign_Attribute (thn (he.run pins s σ H _ I h) fun v s1 q1 => ?_) hs⟩
  obtain ⟨y, H1, I1, r1, q1⟩ := q1
  refine thn (ho.run pins s1 σ H1 _ I1 q1) fun u s2 q2 => ?_
  obtain ⟨x, H2, I2, r2, a, C, B, nI, iI, bm, rfl, T, ea, q⟩ := q2
  have eu : u = Value.ref a := r2
  subst eu
  exact ox_put T I2 ea r1 fun dx s' n ne J => ⟨σ, _, J, q dx n ne⟩
/-- C(e), its __init__ keeping what it is told -/
def tMkB (C : Addr) (te : TE) : L2.St → Hp → XK → Prop := fun σ H Q => te σ H fun y H1 => ∀ d, H1 d = none → Q (.ref C) (some d) (upd H1 d (.xd [("what", y)]))
/-- what __init__ of such a class does -/
def spIn (K : PySem.W.Frag) (C : Addr) : Sp := fun vs H Q _ => ∃ (a : Addr) (y : V), vs = [.ref a, y] ∧ H a = some (exo a C none) ∧ ∀ dx, H dx = none → dx ≠ a → Q .non (upd (upd H dx (exd dx [("what", y)])) a (exo a C (some dx)))
theorem ox_call {C fI : Addr} {k : Nat} {fd : FuncData} {ps : List Str} {pins : List (Addr × Obj)} {σ : L2.St} {H : Hp} {s : Shared} {Q : XK} {y : V} {u : Value} (T : OxB X.K C B nI iI bm) (iC : PySem.W.findIn X.K (.ref C) "__init__" = some (some (.ref fI))) (tI : PySem.W.typeIn X.K (.ref fI) = some (.type "function"))
    (F1 : FnOk X.prog X.w X.K X.mg X.base CX0 k fI fd ps (spIn X.K C)) (hr : Room (k + 1) X.A) (hb : Binds X.K fd ps []) (I : Inv X pins σ H s) (ry : RelV y u) (q1 : ∀ d, H d = none → Q (.ref C) (some d) (upd H d (.xd [("what", y)]))) :
    wpAny (model X.prog X.w) X.A (call (.ref C) [u]) (MkP X pins σ Q) X.xe s := by
  obtain ⟨nm, N, qn, bs, bm', hdct, sn, sub, ab, col, dd, k0, k1, k2, k3, k5, hC, hT⟩ := PySem.W.excInit_of I.kIn T.ci
  obtain ⟨g0, g1, g2, g3, g4⟩ := s
  obtain ⟨z, ez⟩ : ∃ z, z = g0.objs.size + 1 := ⟨_, rfl⟩
  obtain ⟨h1, eh⟩ : ∃ h1, h1 = (g0.push (PySem.W.kdv_tup [u])).push (HandSPX.excO C g0.objs.size) := ⟨_, rfl⟩
  have big : g0.objs.size ≤ z := by rw [ez]; exact Nat.le_succ _
  have fresh : H z = none := I.hok.fresh big
  have kk : ∀ b o, g0.get? b = some o → h1.get? b = some o := fun b o q => by rw [eh]; exact Heap.get?_push_of_some _ (Heap.get?_push_of_some _ q)
  have hx : h1.get? z = some (HandSPX.excO C g0.objs.size) := by rw [ez, eh]; heap_get
  have I2 : Inv X pins σ (upd H z (exo z C none)) ⟨h1, g1, g2, g3, g4⟩ := I.laid (t' := g3) (a := z) (o := exo z C none) (h' := h1) kk big (exo_ok hx)
  have r2 : Vals [V.ref z, y] [Value.ref z, u] := .cons rfl (.cons ry .nil)
  have sp : spIn X.K C [.ref z, y] (upd H z (exo z C none)) (fun v H2 => v = .non ∧ ∃ dx, H2 z = some (exo z C (some dx)) ∧ H2 dx = some (exd dx [("what", y)]) ∧ H dx = none ∧ Q (.ref C) (some dx) (upd (del H2 z) dx (.xd [("what", y)]))) (fun _ _ _ => False) := by
    refine ⟨_, y, rfl, upd_same, fun dx n ne => ⟨rfl, dx, upd_same, (upd_ne ne).trans upd_same, (upd_ne ne).symm.trans n, ?_⟩⟩
    have w := q1 dx ((upd_ne ne).symm.trans n)
    have eq : upd (del (upd (upd (upd H z (exo z C none)) dx (exd dx [("what", y)])) z (exo z C (some dx))) z) dx (.xd [("what", y)]) = upd H dx (.xd [("what", y)]) := funext fun b => by
      by_cases h1 : b = dx
      · rw [h1, upd_same, upd_same]
      · rw [upd_ne h1, upd_ne h1]
        by_cases h2 : b = z
        · rw [h2, del_same, fresh]
        · rw [del_ne h2, upd_ne h2, upd_ne h1, upd_ne h2]
    rw [eq]
    exact w
  have hl : ([Value.ref z, u] ++ []).length = ps.length := by
    rw [List.append_nil, ← r2.length]
    exact F1.len _ _ _ _ sp
  have bd := hb _ [Value.ref z, u] I2.kIn hl
  have run := F1.run _ X.stack _ _ ⟨[Value.ref z, u], []⟩ [Value.ref z, u] _ _ (fun _ _ _ => False) (hr.make C [u] []) (I2.env0.make C [u] []) bd r2 sp
  subst eh
  subst ez
  refine wpAny_call (HandSPX.call_own T.fb hT hC (PySem.W.looks_findIn I.kIn iC) (fun self => PySem.W.bind_fn I.kIn self tI) (by show 1 ≤ sizeLine; rw [sizeLine_eq]; omega) (codeAny_mono run fun r s' hq' => ?_))
  cases r with
  | error er => exact False.elim hq'
  | ok fl =>
    cases fl with
    | ret z =>
      obtain ⟨v, H2, os2, bare2, un2, hok2, rv, rfl, dx, ea, ed, hd1, q2⟩ := hq'
      obtain ⟨f0, f1, f2, f3, f4⟩ := s'
      exact ⟨rv, mk_end (raises_own T.exC T.tyC) I big kk un2 hok2 os2 bare2 ea ed hd1 q2⟩
    | _ => exact False.elim hq'
def one1 : List V → (V → Prop) → Prop
  | [y], k => k y
  | _, _ => False
theorem one1_of {vs : List V} {k : V → Prop} (h : one1 vs k) : ∃ y, vs = [y] ∧ k y := by
  unfold one1 at h
  split at h
  · exact ⟨_, rfl, h⟩
  · exact h.elim
theorem pmk_b {x : Str} {C fI : Addr} {k : Nat} {fd : FuncData} {ps : List Str} (T : OxB X.K C B nI iI bm) (iC : PySem.W.findIn X.K (.ref C) "__init__" = some (some (.ref fI))) (tI : PySem.W.typeIn X.K (.ref fI) = some (.type "function"))
    (F1 : FnOk X.prog X.w X.K X.mg X.base CX0 k fI fd ps (spIn X.K C)) (hr : Room (k + 1) X.A) (hb : Binds X.K fd ps []) (hg : Gl X x) (hm : X.mg x = some (.ref C)) (ha : PE X e te)
    (hdb : (x == ("__debug__" : Str)) = false := by decide) (he : starEach [e] X.env = (false, eval e X.env) :: starEach [] X.env := by rfl) :
    PMk X (.Call (.Name x p) [e] [] pos) (tMkB C te) := by
  intro pins s σ H Q I h
  refine wpAny_Call_Name_kw (ld_glob I hg hm ?_ hdb)
  have pa : PA X [e] (tCons te tNil) := pa_cons ha pa_nil he
  have h' : tCons te tNil σ H fun vs H1 => one1 vs fun y => ∀ d, H1 d = none → Q (.ref C) (some d) (upd H1 d (.xd [("what", y)])) := h
  refine PySem.W.callWith_K (h₀ := X.base) I.ok.mod.kin T.kC (thn (pa.run pos pins s σ H _ I h') fun us s1 hh => ?_) he
  obtain ⟨vs, H1, I1, r1, q1⟩ := hh
  obtain ⟨y, rfl, q1⟩ := one1_of q1
  cases r1 with
  | cons ry rr =>
    cases rr
    exact ⟨I1.kIn, ox_call T iC tI F1 hr hb I1 ry q1⟩
end
end DL
/-! try .. except (C, ..) as e: what is caught is kept -/
namespace DL
open PySem PySem.W
variable [Tbs]
/-- a loop that looks at each and goes on -/
theorem loop_all {M : Model} {A : Around} {E : Value → Shared → Prop} {f : Value → PUnit → Sem (ForInStep PUnit)} {s : Shared} {Q : PUnit → Shared → Prop} : ∀ {cs : List Value}, (∀ c ∈ cs, ∀ Q' : ForInStep PUnit → Shared → Prop, Q' (.yield ⟨⟩) s → wpAny M A (f c ⟨⟩) Q' E s) → Q ⟨⟩ s → wpAny M A (forIn cs ⟨⟩ f) Q E s
  | [], _, q => by rw [List.forIn_nil]; exact wpAny_pure q
  | c :: r, h, q => by
    rw [List.forIn_cons]
    exact wpAny_bind (h c List.mem_cons_self _ (loop_all (fun x hx => h x (List.mem_cons_of_mem _ hx)) q))
/-- a loop that ends at the first one -/
theorem loop_any {M : Model} {A : Around} {E : Value → Shared → Prop} {K : Frag} {cls : Value} {f : Value → Option Bool × Unit → Sem (ForInStep (Option Bool × Unit))} {s : Shared} {Q : Option Bool × Unit → Shared → Prop}
    (hf : ∀ c b, exmOne K cls c = some b → ∀ Q' : ForInStep (Option Bool × Unit) → Shared → Prop, Q' (if b = true then .done (some true, ()) else .yield (none, ())) s → wpAny M A (f c (none, ())) Q' E s) : ∀ {cs : List Value} {b : Bool}, exmAny K cls cs = some b → Q (if b = true then some true else none, ()) s → wpAny M A (forIn cs (none, ()) f) Q E s
  | [], b, e, q => by
    cases (Option.some.inj (show some false = some b from e))
    rw [List.forIn_nil]; exact wpAny_pure q
  | c :: r, b, e, q => by
    obtain ⟨b1, d1, e1, e2, rfl⟩ := exmAny_cons e
    rw [List.forIn_cons]
    refine wpAny_bind (hf c b1 e1 _ ?_)
    cases b1
    · exact loop_any hf e2 (by simpa using q)
    · exact wpAny_pure (by simpa using q)
theorem exm_mem {K : Frag} {cls : Value} : ∀ {cs : List Value} {b : Bool}, exmAny K cls cs = some b → ∀ c ∈ cs, ∃ b1, exmOne K cls c = some b1
  | [], _, _, _, h => by cases h
  | c :: r, b, e, x, h => by
    obtain ⟨b1, d1, e1, e2, _⟩ := exmAny_cons e
    rcases List.mem_cons.mp h with rfl | h
    · exact ⟨b1, e1⟩
    · exact exm_mem e2 x h
theorem exm_all {K : Frag} {M : Model} {cls : Value} {tp e : Addr} {b : Bool} {h : Heap} {cs : List Value} (X : K.In h) (LT : Looks M h (typeOf (.ref e)) cls) (hp : h.get? tp = some { cls := .type "tuple", data := .seq cs.toArray }) (hx : exmAny K cls cs = some b) :
    Looks M h (excMatches (.ref e) (.ref tp)) b := by
  intro A Q E s kk q
  have L0 : Looks M h (isInstance (.ref tp) (.type "tuple")) true := ((Looks.ld hp).andThen .now).andThen (Looks.of_pure isSubtype_tuple_tuple)
  have hp' := kk _ _ hp
  unfold excMatches
  refine wpAny_bind ((L0.keeps kk).here ?_)
  dsimp only
  rw [if_pos rfl]
  refine wpAny_bind (wpAny_seqItems hp' rfl (wpAny_bind (wpAny_pure ?_)))
  dsimp only [Option.getD_some, Option.getD]
  refine wpAny_bind (loop_all (fun c hc Q' q' => ?_) ?_)
  · obtain ⟨b1, e1⟩ := exm_mem hx c hc
    refine wpAny_bind (((exm_cls (M := M) X e1).1.keeps kk).here ?_)
    rw [if_neg (by decide)]
    exact wpAny_pure q'
  · refine wpAny_bind ((LT.keeps kk).here ?_)
    refine wpAny_bind (loop_any (K := K) (cls := cls) (fun c b1 e1 Q' q' => ?_) hx ?_)
    · refine wpAny_bind (((exm_cls (M := M) X e1).2.keeps kk).here ?_)
      cases b1
      · exact wpAny_pure q'
      · exact wpAny_pure q'
    · cases b <;> exact wpAny_pure q
end DL
namespace DL
open PySem L2 Z PySem.Spec PyProof.Rows
variable [Tbs]
/-- the classes that an except clause names -/
inductive ExT (X : Cx) : Expr → List Value → Prop
  | one {x : Str} {c : Value} {p : Pos} : Names X x c → ExT X (.Name x p) [c]
  | many {xs : List (Str × Pos × Value)} {k : Nat} {p : Pos} : (∀ q ∈ xs, Names X q.1 q.2.2) → xs.length ≤ 1000 → ExT X (.Tuple (xs.map fun q => .Name q.1 q.2.1) k p) (xs.map (·.2.2))
section
variable {X : Cx} {pins : List (Addr × Obj)} {σ : L2.St} {H : Hp} {s : Shared} {E : Value → Shared → Prop}
theorem name_run {x : Str} {c : Value} {p : Pos} {Q : Value → Shared → Prop} (I : Inv X pins σ H s) (n : Names X x c) (q : Q c s) : wpAny (model X.prog X.w) X.A (eval (.Name x p) X.env) Q E s := by
  obtain ⟨g, db, m | ⟨m, v, nn⟩⟩ := n
  · exact ld_glob I g m q db
  · exact ld_blt I g m v q nn db
theorem names_run {pos : Pos} (I : Inv X pins σ H s) : ∀ {xs : List (Str × Pos × Value)} {Q : List Value → Shared → Prop}, (∀ q ∈ xs, Names X q.1 q.2.2) → Q (xs.map (·.2.2)) s → wpAny (model X.prog X.w) X.A (spliced (backTo pos (starEach (xs.map fun q => Expr.Name q.1 q.2.1) X.env))) Q E s
  | [], Q, _, q => wpAny_items_nil q
  | z :: r, Q, h, q => wpAny_items_cons (name_run I (h z List.mem_cons_self) (names_run I (fun y hy => h y (List.mem_cons_of_mem _ hy)) q))
/-- the test of an except clause -/
theorem ExT.run {T : Expr} {cs : List Value} {a : Addr} {cls : Value} {b : Bool} {Q : Bool → Shared → Prop} (t : ExT X T cs) (I : Inv X pins σ H s) (LT : PySem.W.Looks (model X.prog X.w) s.heap (typeOf (.ref a)) cls) (e : PySem.W.exmAny X.K cls cs = some b)
    (q : ∀ h', (∀ b o, s.heap.get? b = some o → h'.get? b = some o) → Q b { s with heap := h' }) : wpAny (model X.prog X.w) X.A (eval T X.env) (fun c s₁ => wpAny (model X.prog X.w) X.A (excMatches (.ref a) c) Q E s₁) E s := by
  cases t with
  | one n =>
    obtain ⟨b1, d1, e1, e2, rfl⟩ := PySem.W.exmAny_cons e
    cases (Option.some.inj (show some false = some d1 from e2))
    rw [Bool.or_false] at q
    exact name_run I n ((PySem.W.exm_one I.kIn LT e1).here (q s.heap fun _ _ z => z))
  | @many xs kk pp n l =>
    refine wpAny_Tuple (names_run I n ⟨by rw [List.length_map, sizeLine_eq]; omega, ?_⟩)
    have kp : ∀ b o, s.heap.get? b = some o → (s.heap.push ({ cls := .type "tuple", data := .seq (xs.map (·.2.2)).toArray } : Obj)).get? b = some o := fun _ _ z => Heap.get?_push_of_some _ z
    exact (exm_all (I.kIn.keeps kp) (LT.keeps kp) (Heap.get?_push_size s.heap rfl) e).here (q _ kp)
theorem fly_keeps {B : Heap} {l : List Env} {a : Addr} {Z : Obj → Prop} {h h' : Heap} (f : HandSPX.FlyingZ B l a Z h) (k : ∀ b o, h.get? b = some o → h'.get? b = some o) : HandSPX.FlyingZ B l a Z h' := by
  obtain ⟨z1, z2, z3, oe, vs, T, oT, ts, y1, y2, y3, y4, y5, y6, y7, y8⟩ := f
  exact ⟨fun b o e => k b o (z1 b o e), z2, Heap.FunFrames.of_keeps (fun b o e _ => ⟨o, k b o e, rfl⟩) z3, oe, vs, T, oT, ts, k _ _ y1, y2, y3, y4, y5, y6, k _ _ y7, y8⟩
/-- the pinned exception, tracked from now on -/
theorem absorb {a C dx : Addr} {oe : Obj} {vs : Array Value} (I : Inv X ((a, oe) :: pins) σ H s) (ne : ∀ p ∈ X.pn ++ pins, p.1 ≠ a) (new : X.s_0.heap.get? a = none) (hz : Zc (.ref C) (some dx) oe) (hd : oe.data = .fields vs) : Inv X pins σ (upd H a (exk a C dx)) s := by
  obtain ⟨g, n, nL, nF, nc⟩ := I.pin (a, oe) (List.mem_append.mpr (.inr List.mem_cons_self))
  have na : ∀ {b : Addr} {u : HO}, H b = some u → b ≠ a := fun e => ne_of_none e n
  refine ⟨I.ok, I.os, I.bare, ⟨I.base.keep, I.base.slot, fun b o e n' x => ?_, I.base.there, fun b xs e => ?_, fun b o u e => ?_, fun b ps e => ?_⟩, I.loc, I.cell, ?_, fun x c e => ?_, fun p hp => ?_, fun b u e => ?_, I.len⟩
  · rw [upd_ne (fun z => by rw [z, new] at e; cases e)]
    exact I.base.free b o e n' x
  · have := I.base.tups b xs e
    rw [upd_ne (na this)]; exact this
  · have := I.base.frzs b o u e
    rw [upd_ne (na this)]; exact this
  · obtain ⟨more, this⟩ := I.base.tbls b ps e
    exact ⟨more, by rw [upd_ne (na this)]; exact this⟩
  · rw [upd_ne (Ne.symm nL)]; exact I.free
  · rw [upd_ne]
    · exact I.freeC x c e
    · rintro rfl
      obtain ⟨v, o, e1, e2⟩ := I.cell x _ e
      rw [g] at e1
      cases e1
      exact nc v e2
  · obtain ⟨z1, z2, z3⟩ := I.pin p (by
      rcases List.mem_append.mp hp with h | h
      · exact List.mem_append.mpr (.inl h)
      · exact List.mem_append.mpr (.inr (List.mem_cons_of_mem _ h)))
    exact ⟨z1, by rw [upd_ne (ne p hp)]; exact z2, z3⟩
  · by_cases hb : b = a
    · subst hb
      rw [upd_same] at e
      cases e
      exact ⟨⟨oe, vs, g, hz.1, hz.2, hd⟩, ⟨oe, g⟩, fun h1 h2 ⟨o, v, e1, e2⟩ k => ⟨o, v, k _ e1, e2⟩⟩
    · rw [upd_ne hb] at e
      exact (I.hok b u e).stay (fun c v _ z => z) (fun c z => by rw [upd_ne (na z)]; exact z) fun c xs z => by rw [upd_ne (na z)]; exact z
/-- what the clause 'except T as n' wishes of an exception of the body: what is caught stays -/
def wKeep (K : PySem.W.Frag) (cs : List Value) (i : Nat) (ts : Addr → TS) (Wout : WX) (D : Ends) : WX := fun cls d σ H =>
  ∃ b, PySem.W.exmAny K cls cs = some b ∧ (b = true → ∃ C dx, cls = .ref C ∧ d = some dx ∧ ∀ a, H a = none → ts a { nx := fun σ' H' => D.nx (σ'.set i none) (upd H' a (exk a C dx)), rt := fun v H' => D.rt v (upd H' a (exk a C dx)), bk := fun σ' H' => D.bk (σ'.set i none) (upd H' a (exk a C dx)), ct := fun σ' H' => D.ct (σ'.set i none) (upd H' a (exk a C dx)) } (σ.set i (some (.ref a))) H) ∧
    (b = false → Wout cls d σ H)
theorem keepSuite {a : Addr} {q : Addr × Obj} (I : Inv (X.suite a (q :: (X.pn ++ pins))) [] σ H s) (ok : X.Ok) : Inv X (q :: pins) σ H s :=
  ⟨ok, I.os, I.bare, I.base, I.loc, I.cell, I.free, I.freeC, fun p hp => I.pin p (by
    rw [List.append_nil]
    rcases List.mem_append.mp hp with h | h
    · exact List.mem_cons_of_mem _ (List.mem_append.mpr (.inl h))
    · rcases List.mem_cons.mp h with h | h
      · rw [h]; exact List.mem_cons_self
      · exact List.mem_cons_of_mem _ (List.mem_append.mpr (.inr h))), I.hok, I.len⟩
end
section
variable {X : Cx} {n : Str} {T : Expr} {cs : List Value} {i : Nat} {body suite : List Stmt} {b₀ : Stmt} {pos pos' : Pos} {tb : WX → TS} {ts : Addr → TS} {Wout : WX}
theorem ps_try_keep (hs : X.stack = X.env :: X.outer) (hf : X.env.frame = some X.env.locals) (hex : X.ex = []) (hN : X.N.Nodup) (hi : X.N[i]? = some n) (hln : X.env.kindOf n = some .local) (ht : ExT X T cs) (tk : Takes X Wout)
    (hb : ∀ (W : WX) (pn : List (Addr × Obj)) (xe : Value → Shared → Prop), Takes (X.tr pn xe) W → PassesOwn (model X.prog X.w) X.A X.env xe → PSs (X.tr pn xe) body (tb W))
    (hsu : ∀ (a : Addr) (pn : List (Addr × Obj)), PSs (X.suite a pn) (b₀ :: suite) (ts a)) :
    PS X (.Try body [.ExceptHandler (some T) (some n) (b₀ :: suite) pos'] [] [] pos) (fun D σ H => tb (wKeep X.K cs i ts Wout D) D σ H) := by
  refine ⟨fun pins s σ H D I h => wpAny_Try_except ?_⟩
  have ok := I.ok
  have hfr : X.A.frames = some (X.env :: X.outer) := hs ▸ ok.frames
  refine wpAny_mono ((hb _ (X.pn ++ pins) _ (fun u s' xx => ?_) PassesOwn.looking).run [] s σ H D (I.toTry _) h) (fun f s1 hsp => ?_) (fun e s1 he => he)
  · obtain ⟨a, B, sI, pins', σ', H', cls, d, rfl, J', nb, up, sky, na, os, ag, b, hb1, hyes, hno⟩ := xx
    have J : Inv X pins σ' H' sI := J'.ofTry ok
    rw [show (X.tr (X.pn ++ pins) _).stack = X.env :: X.outer from hs] at sky
    refine Sky.land Zc.steady hfr hf sky fun h3 fl3 up3 => ?_
    have J3 : Inv X pins σ' H' { s' with heap := h3 } := J.landed nb fl3.1 (up.trans up3) os ag
    obtain ⟨o3, v3, g3, z3, d3⟩ := fl3.there
    have out : a ∉ frs (X.env :: X.outer) := fun hm => by
      obtain ⟨_, o', e', hnf⟩ := fl3.2.2.1.mem hm
      rw [g3] at e'
      cases e'
      exact hnf _ d3
    have nL : a ≠ X.env.locals := fun z => out (List.mem_filterMap.mpr ⟨X.env, List.mem_cons_self, by rw [hf, z]⟩)
    have nF : a ∉ X.fs := fun hm => by
      obtain ⟨e, he, q⟩ := List.mem_filterMap.mp hm
      exact out (List.mem_filterMap.mpr ⟨e, List.mem_cons_of_mem _ he, q⟩)
    have inB : ∀ b o, sI.heap.get? b = some o → b ∉ frs (X.env :: X.outer) → b ≠ a := fun b o e hb z => by
      have y := nb b o e (by show b ∉ frs X.stack; rw [hs]; exact hb)
      rw [z, fl3.2.1] at y
      cases y
    have new : X.s_0.heap.get? a = none := by
      cases e : X.s_0.heap.get? a with
      | none => rfl
      | some o =>
        obtain ⟨o', e'⟩ := J.base.there a o e (by rw [hex]; exact List.not_mem_nil)
        exact absurd rfl (inB a o' e' out)
    have pne : ∀ p ∈ X.pn ++ pins, p.1 ≠ a := fun p hp => by
      obtain ⟨z1, _, z3, z4, _⟩ := J.pin p hp
      refine inB _ _ z1 fun hm => ?_
      obtain ⟨e, he, q⟩ := List.mem_filterMap.mp hm
      rcases List.mem_cons.mp he with he | he
      · rw [he, hf] at q
        exact z3 (Option.some.inj q).symm
      · exact z4 (List.mem_filterMap.mpr ⟨e, he, q⟩)
    have S3 := J3.suite g3 d3 na nL nF
    refine wpAny_handleBy_cons (codeAny_handlers_test ?_) (by intro q; cases q)
    refine ExT.run (X := X.suite a _) (by cases ht with | one n => exact .one n | many n l => exact .many n l) S3 (fun A Q E s k q => wpAny_typeOf_ref (k _ _ g3) (by rw [z3.1]; exact q)) hb1 fun h5 k5 => ?_
    have fl5 := fly_keeps fl3 k5
    have up5 : sI.heap.UpToSlots h5 := (up.trans up3).trans (Heap.UpToSlots.of_keeps k5)
    cases b with
    | true =>
      refine codeAny_handlers_suite_as (HandSPX.lands_againZ fl5 fun h4 fl4 up4 => ?_)
      obtain ⟨o4, v4, g4, z4, d4⟩ := fl4.there
      have J4 : Inv X pins σ' H' { s' with heap := h4 } := J.landed nb fl4.1 (up5.trans up4) os ag
      obtain ⟨C, dx, rfl, rfl, hy⟩ := hyes rfl
      refine store_ok (X := X.suite a ((a, o4) :: (X.pn ++ pins))) (v := .ref a) (J4.suite g4 d4 na nL nF) hN hi (.inl hln) rfl (fun s5 S5 => ?_) (.inr hln)
      refine wpAny_mono ((hsu a _).run [] s5 _ H' _ S5 (hy a na)) (fun f s6 hsp => ?_) (fun _ _ z => False.elim z)
      have fin : ∀ {σ6 : L2.St} {H6 : Hp} {Q : Shared → Prop}, Inv (X.suite a ((a, o4) :: (X.pn ++ pins))) [] σ6 H6 s6 → (∀ s7, Inv X pins (σ6.set i none) (upd H6 a (exk a C dx)) s7 → Q s7) →
          wpAny (model X.prog X.w) X.A (do bindName X.env n .none; unbindBehindTheSuite X.env n pos') (fun _ s7 => Q s7) X.xe s6 := fun S6 hq => gone_ok (keepSuite S6 ok) hN hi hln fun s7 J7 => hq s7 (absorb J7 pne new z4 d4)
      cases f with
      | ret u =>
        obtain ⟨v6, σ6, H6, S6, r6, q6⟩ := hsp
        exact fin S6 fun s7 J7 => ⟨_, _, _, J7, r6, q6⟩
      | _ =>
        obtain ⟨σ6, H6, S6, q6⟩ := hsp
        exact fin S6 fun s7 J7 => ⟨_, _, J7, q6⟩
    | false =>
      refine wpAny_handleBy_nil ?_
      obtain ⟨_, _, _, oe, vs, T0, oT, ts', he, hz, hd, h1, _⟩ := id fl5
      unfold PySem.passOn
      refine wpAny_bind (wpAny_field he hd h1 ?_)
      rw [if_neg (show ¬ ((Value.ref T0 == Value.none) = true) from by simp)]
      refine wpAny_bind ?_
      rw [hf]
      refine HandSPX.setFlight_upZ fl5 fun h4 hh4 up4 => wpAny_throw (tk _ _ ⟨a, B, sI, pins, σ', H', cls, d, rfl, J, nb, up5.trans up4, .inr (.inr ?_), na, os, ag, hno rfl⟩)
      rw [hs]
      exact hh4
  · cases f with
    | next =>
      obtain ⟨σ', H', J', q⟩ := hsp
      exact wpAny_execs_nil ⟨σ', H', J'.ofTry ok, q⟩
    | ret u =>
      obtain ⟨v, σ', H', J', r, q⟩ := hsp
      exact ⟨v, σ', H', J'.ofTry ok, r, q⟩
    | _ =>
      obtain ⟨σ', H', J', q⟩ := hsp
      exact ⟨σ', H', J'.ofTry ok, q⟩
end
end DL
/-! kept exceptions asked; what is raised, over data -/
namespace DL
open PySem L2 Z PySem.Spec PyProof.Rows
variable [Tbs]
/-- what is known of the class of a kept exception -/
structure ExK (K : PySem.W.Frag) (C : Addr) : Prop where
  cl : (PySem.W.clsIn K C).isSome = true
  ga : PySem.W.findIn K (.ref C) "__getattribute__" = some (some (.builtin "BaseException.__getattribute__"))
  gt : PySem.W.findIn K (.ref C) "__getattr__" = some none
  ex : PySem.W.subIn K (.ref C) (.type "BaseException") = some true
  ca : PySem.W.findIn K (.ref C) "__class__" = some (some (.builtin "object.__class__"))
  dg : PySem.W.specialIn K (.builtin "object.__class__") "__get__" = some (some (.builtin "getset_descriptor.__get__"))
  tk : PySem.W.takesIn K (.builtin "object.__class__") = some true
  ob : PySem.W.mroIn K C (.type "object") = some true
  hd : PySem.W.hasDictIn K C = true
  nw : PySem.W.findIn K (.ref C) "what" = some none
section
variable {X : Cx} {pins : List (Addr × Obj)} {σ : L2.St} {H : Hp} {s : Shared} {a C dx : Addr} {fv : List (Str × V)}
theorem exk_at (I : Inv X pins σ H s) (ea : H a = some (exk a C dx)) (ed : H dx = some (.xd fv)) : ∃ ox od mA, PySem.W.InstAt s.heap a ox C (some od) ∧ s.heap.Ns1 dx mA ∧ (∀ f, RelO (fv.lookup f) (mA f)) ∧ s.heap.get? dx = some od := by
  obtain ⟨⟨o, vs, e1, e2, e3, e4⟩, _⟩ := (show ObjOk X.prog X.w H s.heap a (exk a C dx) from I.hok a _ ea)
  obtain ⟨mA, hn, hr⟩ := (show ObjOk X.prog X.w H s.heap dx (.xd fv) from I.hok dx _ ed)
  obtain ⟨od, es, ep, e5, e6⟩ := id hn
  refine ⟨o, od, mA, ⟨e1, e2, ?_, ?_⟩, hn, hr, e5⟩
  · unfold PySem.W.notCls
    rw [e4] <;> rfl
  · rw [e3]
    exact e5
/-- isinstance(e, c) of a kept exception -/
def rIsX (K : PySem.W.Frag) : List V → Hp → VK → Prop := fun xs H Q => ∃ (a C dx : Addr) (fv : List (Str × V)) (c : V) (u : Value) (b : Bool), xs = [.ref a, c] ∧ ClsV c u ∧ ExK K C ∧ H a = some (exk a C dx) ∧ H dx = some (.xd fv) ∧ PySem.W.kitOne K (.ref C) u = some b ∧ Q (.bl b) H
theorem call_isX : CallR X (.builtin "isinstance") (rIsX X.K) := by
  intro pins s σ H xs us Q I r h
  obtain ⟨a, C, dx, fv, c, u, b, rfl, k, T, ea, ed, e, q⟩ := h
  obtain ⟨u1, u2, rfl, r1, r2⟩ := vals2 r
  have := k.eq r2
  subst this
  cases (show u1 = Value.ref a from r1)
  obtain ⟨ox, od, mA, J, _⟩ := exk_at I ea ed
  exact PySem.W.kia_one (PySem.W.kitx_exc T.cl T.ga T.gt T.ex T.ca T.dg T.tk T.ob) I.kIn J e (fun z => nomatch z) fun tk => ⟨.bl b, H, I.tok tk, rfl, q⟩
def rIsXT (K : PySem.W.Frag) : List V → Hp → VK → Prop := fun xs H Q => ∃ (a C dx tp : Addr) (fv : List (Str × V)) (cs : List V) (us : List Value) (b : Bool), xs = [.ref a, .ref tp] ∧ H tp = some (.tup cs) ∧ Paired ClsV cs us ∧ ExK K C ∧ H a = some (exk a C dx) ∧ H dx = some (.xd fv) ∧ PySem.W.kitAny K (.ref C) us = some b ∧ Q (.bl b) H
theorem call_isXT : CallR X (.builtin "isinstance") (rIsXT X.K) := by
  intro pins s σ H xs us Q I r h
  obtain ⟨a, C, dx, tp, fv, cs, ws, b, rfl, hT, k, T, ea, ed, e, q⟩ := h
  obtain ⟨u1, u2, rfl, r1, r2⟩ := vals2 r
  cases (show u1 = Value.ref a from r1)
  cases (show u2 = Value.ref tp from r2)
  obtain ⟨ox, od, mA, J, _⟩ := exk_at I ea ed
  obtain ⟨_, its, rv, o, h1, h2, n, h3⟩ := (show ObjOk X.prog X.w H s.heap tp (.tup cs) from I.hok tp _ hT)
  have := ClsV.all k rv
  subst this
  obtain ⟨oc, od', dt, sl⟩ := o
  cases h2
  cases h3
  exact PySem.W.kia_tup (PySem.W.kitx_exc T.cl T.ga T.gt T.ex T.ca T.dg T.tk T.ob) I.kIn J h1 e (fun z => nomatch z) fun tk => ⟨.bl b, H, I.tok tk, rfl, q⟩
/-- e.what -/
def tWhat (K : PySem.W.Frag) (te : TE) : TE := fun σ H Q => te σ H fun x H1 => ∃ (a C dx : Addr) (fv : List (Str × V)) (v : V), x = .ref a ∧ ExK K C ∧ H1 a = some (exk a C dx) ∧ H1 dx = some (.xd fv) ∧ fv.lookup ("what" : Str) = some v ∧ Q v H1
theorem pe_what {e : Expr} {te : TE} {pos : Pos} (he : PE X e te) (hb : attributeBase e "what" X.env (eval e X.env) = eval e X.env := by rfl) : PE X (.Attribute e "what" pos) (tWhat X.K te) := by
  refine ⟨fun pins s σ H Q I h => attr_of hb (thn (he.run pins s σ H _ I h) fun u s1 hh => ?_)⟩
  obtain ⟨x, H1, I1, rx, a, C, dx, fv, v, rfl, T, ea, ed, l, q⟩ := hh
  cases (show u = Value.ref a from rx)
  obtain ⟨ox, od, mA, J, hn, hr, e5⟩ := exk_at I1 ea ed
  obtain ⟨od', e6, hl⟩ := lookIn_ns hn
  rw [e5] at e6
  cases e6
  obtain ⟨w, hw, rw'⟩ := RelO.some_of (v := v) (o := mA "what") (by rw [← l]; exact hr "what")
  exact HandSPX.exc_get I1.kIn J T.ga T.gt T.ex (PySem.W.findObj_own T.hd T.nw rfl (by rw [hl, hw])) (handed_of rw') ⟨v, H1, I1.tok _, rw', q⟩
end
/-! over data -/
section
variable {K : PySem.W.Frag} {n : Nat} {J : Jv n}
def excF (d : PyData) (k : Str → List (PyData × PyData) → Prop) : Prop := match d with
  | .dict ((.str c, .bool true) :: fs) => k c fs
  | _ => False
theorem excF_of {G : Hp} {v : V} {d : PyData} {k : Str → List (PyData × PyData) → Prop} (q : Dq K G v d) (h : excF d k) : ∃ a C dx c fv fs, v = .ref a ∧ PySem.W.nsIn K mainGlobals c = some (some (.ref C)) ∧ G a = some (exk a C dx) ∧ G dx = some (.xd fv) ∧ DqFs K G fv fs ∧ k c fs := by
  unfold excF at h
  split at h
  · cases q with
    | exc c h1 h2 r => exact ⟨_, _, _, _, _, _, rfl, c, h1, h2, r, h⟩
  · exact h.elim
def fIsX (tab : Str → Option Bool) (a : FE) : FE := fun ρ P => a ρ fun d ρ1 => excF d fun c _ => ∃ b, tab c = some b ∧ P (.bool b) ρ1
theorem re_isX {tab : Str → Option Bool} {cv : V} {u : Value} {ta : TE} {a : FE} (hc : ClsV cv u) (ht : ∀ c C b, tab c = some b → PySem.W.nsIn K mainGlobals c = some (some (.ref C)) → ExK K C ∧ PySem.W.kitOne K (.ref C) u = some b) (ha : RE K J ta a) :
    RE K J (tCB (rIsX K) (tCons ta (tCons (tC cv) tNil))) (fIsX tab a) := by
  intro O as σ H Q ρ P E q k
  refine ha O as σ H _ ρ _ E q fun d ρ1 v H1 q1 f1 E1 d1 => ?_
  obtain ⟨p, C, dx, c, fv, fs, rfl, hn, h1, h2, _, b, e, q1⟩ := excF_of d1 q1
  obtain ⟨T, e'⟩ := ht c C b e hn
  exact ⟨p, C, dx, fv, cv, u, b, rfl, hc, T, (hp_some h1).2, (hp_some h2).2, e', k _ _ _ _ q1 f1 E1 (.bl _)⟩
@[reducible] def taC : List V → TA
  | [] => tNil
  | c :: r => tCons (tC c) (taC r)
theorem taC_run {σ : L2.St} {H : Hp} : ∀ {cs : List V} {Q : List V → Hp → Prop}, Q cs H → taC cs σ H Q
  | [], _, q => q
  | _ :: r, Q, q => taC_run (cs := r) (Q := fun xs H2 => Q (_ :: xs) H2) q
theorem re_isXT {tab : Str → Option Bool} {cs : List V} {us : List Value} {ta : TE} {a : FE} (hc : Paired ClsV cs us) (hl : cs.length ≤ sizeLine) (ht : ∀ c C b, tab c = some b → PySem.W.nsIn K mainGlobals c = some (some (.ref C)) → ExK K C ∧ PySem.W.kitAny K (.ref C) us = some b) (ha : RE K J ta a) :
    RE K J (tCB (rIsXT K) (tCons ta (tCons (tTup (taC cs)) tNil))) (fIsX tab a) := by
  intro O as σ H Q ρ P E q k
  refine ha O as σ H _ ρ _ E q fun d ρ1 v H1 q1 f1 E1 d1 => ?_
  refine taC_run ⟨hl, fun T hT => ?_⟩
  have s := Same.new (o := .tup cs) hT
  obtain ⟨p, C, dx, c, fv, fs, rfl, hn, h1, h2, _, b, e, q1⟩ := excF_of (d1.mono (E1.hgrow s)) q1
  obtain ⟨T', e'⟩ := ht c C b e hn
  exact ⟨p, C, dx, T, fv, cs, us, b, rfl, upd_same, hc, T', (hp_some h1).2, (hp_some h2).2, e', k _ _ _ _ q1 (f1.trans (E1.frS s)) (E1.grow s) (.bl _)⟩
def fWhat (L : List Str) (a : FE) : FE := fun ρ P => a ρ fun d ρ1 => excF d fun c fs => c ∈ L ∧ ∃ w, fldD "what" fs = some w ∧ P w ρ1
theorem re_what {L : List Str} {ta : TE} {a : FE} (ht : ∀ c C, c ∈ L → PySem.W.nsIn K mainGlobals c = some (some (.ref C)) → ExK K C) (ha : RE K J ta a) : RE K J (tWhat K ta) (fWhat L a) := by
  intro O as σ H Q ρ P E q k
  refine ha O as σ H _ ρ _ E q fun d ρ1 v H1 q1 f1 E1 d1 => ?_
  obtain ⟨p, C, dx, c, fv, fs, rfl, hn, h1, h2, r, hL, w, e, q1⟩ := excF_of d1 q1
  obtain ⟨x, hx, dq⟩ := r.get e
  exact ⟨p, C, dx, fv, x, rfl, ht c C hL hn, (hp_some h1).2, (hp_some h2).2, hx, k _ _ _ _ q1 f1 E1 dq⟩
/-- an exception, raised: its class, its dict, as data -/
def XcAt (K : PySem.W.Frag) (G : Hp) (cls : Value) (dd : Option Addr) (d : PyData) : Prop := ∃ (c : Str) (C dx : Addr) (fv : List (Str × V)) (fs : List (PyData × PyData)), d = .dict ((.str c, .bool true) :: fs) ∧ cls = .ref C ∧ dd = some dx ∧ PySem.W.nsIn K mainGlobals c = some (some (.ref C)) ∧ G dx = some (.xd fv) ∧ DqFs K G fv fs
theorem XcAt.mono {G G' : Hp} {cls : Value} {dd : Option Addr} {d : PyData} (x : XcAt K G cls dd d) (s : Same G G') : XcAt K G' cls dd d := by
  obtain ⟨c, C, dx, fv, fs, e1, e2, e3, e4, e5, r⟩ := x
  exact ⟨c, C, dx, fv, fs, e1, e2, e3, e4, s _ _ e5, DqFs.mono s r⟩
/-- a wish over data carries the wish -/
def Lk (K : PySem.W.Frag) {n : Nat} (J : Jv n) (X : PyData → En → Prop) (W : WX) : Prop := ∀ (O : Addr → Prop) (as : As) (σ : L2.St) (H : Hs) (ρ : En) (cls : Value) (dd : Option Addr) (d : PyData), EnR K J O as H ρ σ → XcAt K (hq O as H) cls dd d → X d ρ → W cls dd σ H
theorem Lk.le {J' : Jv n} {X : PyData → En → Prop} {W : WX} (l : Lk K J X W) (h : J'.le J) : Lk K J' X W := fun O as σ H ρ cls dd d E => l O as σ H ρ cls dd d (E.reJ (h.1 _ _ E.inv) (h.2 _ E.inq))
def excD (c : Str) (w : PyData) : PyData := .dict [(.str c, .bool true), (.str "what", w)]
def fRaise (c : Str) (a : FE) (X : PyData → En → Prop) : FS := fun _ ρ => a ρ fun d ρ1 => X (excD c d) ρ1
theorem rs_raise {c : Str} {C : Addr} {te : TE} {a : FE} {X : PyData → En → Prop} {W : WX} (hn : PySem.W.nsIn K mainGlobals c = some (some (.ref C))) (l : Lk K J X W) (ha : RE K J te a) : RS K J (fun _ σ H => tMkB C te σ H fun cls d H' => W cls d σ H') (fRaise c a X) := by
  intro O as σ H D ρ E R q C'
  refine ha O as σ H _ ρ _ R q fun d ρ1 v H1 q1 f1 E1 d1 => fun dx hdx => ?_
  have s := Same.new (o := .xd [("what", v)]) hdx
  exact l O as σ _ ρ1 _ _ _ (E1.grow s) ⟨c, C, dx, _, _, rfl, rfl, rfl, hn, hp_mk (E1.fresh1 hdx) upd_same, .cons (d1.mono (E1.hgrow s)) .nil⟩ q1
end
end DL
/-! defs that raise, over data; try -/
namespace DL
open PySem L2 Z PySem.Spec PyProof.Rows
variable [Tbs]
abbrev FX := List Sl → (PyData → List Sl → Prop) → (PyData → List Sl → Prop) → Prop
def spXG (K : PySem.W.Frag) (n e : Nat) (F : FX) : Sp := fun vs H Q E => vs.length = n ∧ ∃ (O : Addr → Prop) (as : As) (S : Sto) (ρ : En) (P X : PyData → List Sl → Prop), EnR K (J0 : Jv 0) O as ⟨H, S⟩ ρ (vs.map some) ∧ ρ.length = n + e ∧ F ρ P X ∧
  (∀ d out v H', P d out → Fr as ⟨H, S⟩ H' → Bk K O as H' out → Dq K (hq O as H') v d → Q v H') ∧
  ∀ d out cls dd H', X d out → Fr as ⟨H, S⟩ H' → Bk K O as H' out → XcAt K (hq O as H') cls dd d → E cls dd H'
abbrev spX (K : PySem.W.Frag) (n : Nat) (F : FX) : Sp := spXG K n 0 F
abbrev spXS (K : PySem.W.Frag) (n : Nat) (F : FX) : Sp := spXG K n 1 F
def fnX (n m : Nat) (b : (PyData → En → Prop) → FS) : FX := fun sls P X => b (fun d ρ' => X d (ρ'.take n)) { nx := fun ρ' => P .none (ρ'.take n), rt := fun d ρ' => P d (ρ'.take n) } (sls ++ List.replicate (m - n) .no)
def fnXS (n m : Nat) (b : (PyData → En → Prop) → FS) : FX := fun sls P X => b (fun d ρ' => X d (ρ'.take n ++ ρ'.drop m)) { nx := fun ρ' => P .none (ρ'.take n ++ ρ'.drop m), rt := fun d ρ' => P d (ρ'.take n ++ ρ'.drop m) } (sls.take n ++ List.replicate (m - n) .no ++ sls.drop n)
section
variable {K : PySem.W.Frag} {n : Nat} {J : Jv n}
theorem EnR.sub {O O2 : Addr → Prop} {as : As} {H : Hs} {ρ : En} {σ : L2.St} (E : EnR K J O2 as H ρ σ) (h : ∀ a, O a → O2 a) (hq : J.Q O) : EnR K J O as H ρ σ :=
  ⟨E.len, E.tl, fun i sl o h1 h2 => (E.at_ i sl o h1 h2).mono (hp_less fun a z => z.imp (h a) id) fun _ _ => rfl, fun i z => ⟨(E.sto i z).1, (E.sto i z).2.1, (E.sto i z).2.2.move (hp_less fun a z => z.imp (h a) id) fun _ _ => rfl⟩, E.inj, fun i r b e q z => E.out i r b e q (h b z), E.bnd, fun a q => E.occ a (h a q), E.inv, hq, E.tab⟩
theorem Car.le {J' : Jv n} {O : Addr → Prop} {as : As} {H : Hs} {E : FEnds} {D : Ends} (C : Car K J O as H E D) (h : J'.le J) : Car K J' O as H E D :=
  ⟨fun ρ' as' σ' H' p x R => C.nx ρ' as' σ' H' p x (R.reJ (h.1 _ _ R.inv) (h.2 _ R.inq)), fun d ρ' v as' σ' H' p x R => C.rt d ρ' v as' σ' H' p x (R.reJ (h.1 _ _ R.inv) (h.2 _ R.inq)), fun ρ' as' σ' H' p x R => C.bk ρ' as' σ' H' p x (R.reJ (h.1 _ _ R.inv) (h.2 _ R.inq)),
    fun ρ' as' σ' H' p x R => C.ct ρ' as' σ' H' p x (R.reJ (h.1 _ _ R.inv) (h.2 _ R.inq)), fun ds ρ' p xs as' σ' H' q x o R => C.ro ds ρ' p xs as' σ' H' q x o (R.reJ (h.1 _ _ R.inv) (h.2 _ R.inq))⟩
theorem lkF {W : WX} : Lk K J (fun _ _ => False) W := fun _ _ _ _ _ _ _ _ _ _ h => h.elim
/-- the body of a def that raises -/
theorem fn_runX {m e : Nat} {N : List Str} {b : (PyData → En → Prop) → FS} {t : WX → TS} (hN : m ≤ N.length) (rs : ∀ (J : Jv m) (X : PyData → En → Prop) (W : WX), Lk K J X W → RS K J (t W) (b X)) {vs : List V} {H : Hp} {Q : VK} {E : XK} {F : FX}
    (hF : F = fun sls P X => b (fun d ρ' => X d (outS e m N.length ρ')) { nx := fun ρ' => P .none (outS e m N.length ρ'), rt := fun d ρ' => P d (outS e m N.length ρ') } (enS e m N.length sls)) (h : spXG K m e F vs H Q E) :
    t (fun cls d _ H => E cls d H) { nx := fun _ H' => Q .non H', rt := Q } (L2.start N vs) H := by
  obtain ⟨hv, O, as, S, ρ, P, X, R, hl, hf, q, qx⟩ := h
  subst hF
  refine rs (Jst m O (shA as m N.length) ⟨H, S⟩) (fun d ρ' => X d (outS e m N.length ρ')) _ (fun O' as' σ' H' ρ' cls dd d R' xc hx => ?_) O _ _ ⟨H, S⟩ _ _ _ (fn_start R hv hl hN) hf ⟨fun ρ' as' σ' H' p x R' => ?_, fun d ρ' v as' σ' H' p x R' dv => ?_, fun _ _ _ _ p => p.elim, fun _ _ _ _ p => p.elim, fun _ _ _ _ _ _ _ p => p.elim⟩
  · have R2 : EnR K (Jst m O (shA as m N.length) ⟨H, S⟩) O as' H' ρ' σ' := R'.sub R'.inq fun _ h => h
    obtain ⟨h1, h2, h3⟩ := fn_back R hv hl hN R'.inv R2
    exact qx d _ cls dd H' hx h1 h2 ((xc.mono (hp_less fun a z => z.imp (R'.inq a) id)).mono h3)
  · obtain ⟨h1, h2, _⟩ := fn_back R hv hl hN x R'
    exact q _ _ _ _ p h1 h2 .non
  · obtain ⟨h1, h2, h3⟩ := fn_back R hv hl hN x R'
    exact q _ _ _ _ p h1 h2 (dv.mono h3)
theorem fn_coreX {ps : List Str} {N : List Str} {b : (PyData → En → Prop) → FS} {t : WX → TS} (hN : ps.length ≤ N.length) (rs : ∀ (J : Jv ps.length) (X : PyData → En → Prop) (W : WX), Lk K J X W → RS K J (t W) (b X)) {vs : List V} {H : Hp} {Q : VK} {E : XK} (h : spX K ps.length (fnX ps.length N.length b) vs H Q E) :
    t (fun cls d _ H => E cls d H) { nx := fun _ H' => Q .non H', rt := Q } (L2.start N vs) H := fn_runX hN rs rfl h
theorem fn_coreXS {ps : List Str} {N : List Str} {b : (PyData → En → Prop) → FS} {t : WX → TS} (hN : ps.length ≤ N.length) (rs : ∀ (J : Jv ps.length) (X : PyData → En → Prop) (W : WX), Lk K J X W → RS K J (t W) (b X)) {vs : List V} {H : Hp} {Q : VK} {E : XK} (h : spXS K ps.length (fnXS ps.length N.length b) vs H Q E) :
    t (fun cls d _ H => E cls d H) { nx := fun _ H' => Q .non H', rt := Q } (L2.start N vs) H := fn_runX hN rs rfl h
/-- a call that may raise -/
theorem call_coreX {O : Addr → Prop} {as : As} {H : Hs} {ρ : En} {σ : L2.St} {xs : List Ar} {r : List Sl} {vs : List V} {m e : Nat} {F : FX} {P X : PyData → En → Prop} {Q : VK} {W : WX} (E : EnR K J O as H ρ σ) (fit : Fits ρ xs r) (ar : ArsT K (hq O as H) as vs xs) (hv : vs.length = m) (hm : xs.length = m + e) (nd : (ownIx xs).Nodup)
    (f : F r (fun d out => P d (wb ρ xs out)) fun d out => X d (wb ρ xs out)) (l : Lk K J X W) (k : ∀ d ρ' v H', P d ρ' → Fr as H H' → EnR K J O as H' ρ' σ → Dq K (hq O as H') v d → Q v H') : spXG K m e F vs H Q (WE W σ) := by
  refine ⟨hv, _, adrs as xs, H.st, r, _, _, call_in E fit ar nd, by rw [fit.len, hm], f, fun d out v H' p fr bk dv => ?_, fun d out cls dd H' p fr bk xc => ?_⟩
  · obtain ⟨fr', E', hid, _⟩ := call_back E ar nd fr bk
    exact k d _ v H' p fr' E' (dv.mono (hp_less hid))
  · obtain ⟨fr', E', hid, _⟩ := call_back E ar nd fr bk
    exact l O as σ H' _ cls dd d E' (xc.mono (hp_less hid)) p
def fCallX (m : Nat) (F : FX) (dv : List PyData) (X : PyData → En → Prop) (a : FC) : FE := fun ρ P => a ρ fun xs ρ1 => xs.length + dv.length = m ∧ (ownIx xs).Nodup ∧ argF ρ1 xs fun r => F (r ++ dv.map .fz) (fun d out => P d (wb ρ1 xs out)) fun d out => X d (wb ρ1 xs out)
theorem re_callX {m : Nat} {F : FX} {dvs : List V} {dv : List PyData} {X : PyData → En → Prop} {W : WX} {t : TA} {f : FC} (l : Lk K J X W) (hd : ∀ H, DqAll K H dvs dv) (ha : RC K J t f) : RE K J (tCallSD (spX K m F) dvs (WE W) t) (fCallX m F dv X f) := by
  intro O as σ H Q ρ P E q k
  refine ha O as σ H _ ρ _ E q fun xs ρ1 vs H1 q1 f1 E1 d1 => ?_
  obtain ⟨hm, nd, q1⟩ := q1
  obtain ⟨r, fit, q1⟩ := argF_of q1
  refine call_coreX (xs := xs ++ dv.map .dat) E1 (fit.app (fits_dat dv)) (d1.app (dat_ars (hd _))).toT (by rw [List.length_append, d1.len, (hd H1).length]; exact hm) (by rw [List.length_append, List.length_map]; exact hm) (by rw [ownIx_app]; exact nd) ?_ l fun d ρ' v H' p fr E' q' => k d ρ' v H' p (f1.trans fr) E' q'
  simp only [wb_app]
  exact q1
def fCallXS (sx m : Nat) (F : FX) (dv : List PyData) (X : PyData → En → Prop) (a : FC) : FE := fun ρ P => a ρ fun xs ρ1 => xs.length + dv.length = m ∧ (ownIx xs ++ [sx]).Nodup ∧ argF ρ1 xs fun r => match ρ1[sx]? with
  | some (.st S) => F (r ++ dv.map .fz ++ [.st S]) (fun d out => P d ((wb ρ1 xs out).set sx ((out.drop m).headD .no))) fun d out => X d ((wb ρ1 xs out).set sx ((out.drop m).headD .no))
  | _ => False
theorem re_callXS {sx m : Nat} {F : FX} {dvs : List V} {dv : List PyData} {X : PyData → En → Prop} {W : WX} {t : TA} {f : FC} (l : Lk K J X W) (hd : ∀ H, DqAll K H dvs dv) (ha : RC K J t f) : RE K J (tCallSD (spXS K m F) dvs (WE W) t) (fCallXS sx m F dv X f) := by
  intro O as σ H Q ρ P E q k
  refine ha O as σ H _ ρ _ E q fun xs ρ1 vs H1 q1 f1 E1 d1 => ?_
  obtain ⟨hm, nd, q1⟩ := q1
  obtain ⟨r, fit, q1⟩ := argF_of q1
  split at q1
  · next S hs =>
    have hl : (vs ++ dvs).length = m := by rw [List.length_append, d1.len, (hd H1).length]; exact hm
    have ni : sx ∉ ownIx xs := fun z => (List.nodup_append.mp nd).2.2 _ z _ (List.mem_singleton.mpr rfl) rfl
    refine call_coreX (xs := xs ++ dv.map .dat ++ [.own sx]) E1 ((fit.app (fits_dat dv)).app (.st hs .nil)) ((d1.app (dat_ars (hd _))).snoc (E1.st_at hs).1) hl (by rw [List.length_append, List.length_append, List.length_map, hm]; rfl) (by rw [ownIx_snoc, ownIx_app]; exact nd) ?_ l fun d ρ' v H' p fr E' q' => k d ρ' v H' p (f1.trans fr) E' q'
    · simp only [wb_snoc, wb_app, wb_set _ _ _ _ _ ni, List.length_append, List.length_map, hm]
      exact q1
  · exact q1.elim
/-- try: body except T as i: j = i -/
def fTryK (i j : Nat) (tab : Str → Option Bool) (X : PyData → En → Prop) (b : (PyData → En → Prop) → FS) : FS := fun E ρ => b (fun d ρ' => excF d fun c _ => ∃ k, tab c = some k ∧ if k = true then slotF ρ' i = true ∧ slotF (ρ'.set i .no) j = true ∧ E.nx ((ρ'.set i .no).set j (.fz d)) else X d ρ') E ρ
theorem rs_tryK {i j : Nat} {tab : Str → Option Bool} {cs : List Value} {X : PyData → En → Prop} {Wout : WX} {tb : WX → TS} {b : (PyData → En → Prop) → FS} (hij : i ≠ j) (l : Lk K J X Wout) (ht : ∀ c C k, tab c = some k → PySem.W.nsIn K mainGlobals c = some (some (.ref C)) → PySem.W.exmAny K (.ref C) cs = some k)
    (hb : ∀ (J' : Jv n) (X' : PyData → En → Prop) (W' : WX), J'.le J → Lk K J' X' W' → RS K J' (tb W') (b X')) : RS K J (fun D σ H => tb (wKeep K cs i (fun _ => tAsg (tVar i) (gName j)) Wout D) D σ H) (fTryK i j tab X b) := by
  intro O as σ H D ρ E R f C
  have le : (J.and (Jst n O as H)).le J := ⟨fun _ _ h => h.1, fun _ h => h.1⟩
  refine hb (J.and (Jst n O as H)) _ _ le (fun O2 as2 σ2 H2 ρ2 cls dd d E2 xc x2 => ?_) O as σ H D ρ E (R.reJ ⟨R.inv, Ext.refl⟩ ⟨R.inq, fun _ h => h⟩) f (C.le le)
  obtain ⟨c, Cc, dx, fv, fs, rfl, rfl, rfl, hn, hd, r⟩ := xc
  obtain ⟨k, ek, x2⟩ := x2
  refine ⟨k, ht c Cc k ek hn, fun hk => ?_, fun hk => ?_⟩
  · rw [if_pos hk] at x2
    obtain ⟨s1, s2, nx⟩ := x2
    refine ⟨Cc, dx, rfl, rfl, fun a ha => ?_⟩
    have s := Same.new (o := exk a Cc dx) ha
    have E3 : EnR K J O as2 H2 ρ2 σ2 := (E2.reJ (E2.inv.1) (E2.inq.1)).sub E2.inq.2 R.inq
    have gs : Same (hq O2 as2 H2) (hq O as2 (H2.w (upd H2 a (exk a Cc dx)))) := fun b o e => hp_mk (fun z => (hp_some e).1 (((E3.hidS s).mp z).imp (E2.inq.2 b) id)) (s _ _ (hp_some e).2)
    have dq : Dq K (hq O as2 (H2.w (upd H2 a (exk a Cc dx)))) (.ref a) (.dict ((.str c, .bool true) :: fs)) := .exc hn (hp_mk (E3.fresh1 ha) upd_same) (gs _ _ hd) (DqFs.mono gs r)
    have E4 := ((E3.grow s).setNo s1 none).setFz s2 dq
    have hi : i < σ2.length := by
      obtain ⟨sl, e, _, ns⟩ := slotF_of s1
      exact E3.lt e ns
    refine ⟨.ref a, by rw [List.getElem?_set_self hi], ?_⟩
    show D.nx (((σ2.set i (some (.ref a))).set j (some (.ref a))).set i none) _
    rw [List.set_comm _ _ (Ne.symm hij), List.set_set]
    exact C.nx _ _ _ _ nx (E2.inv.2.trans (.of (E3.frS s))) E4
  · rw [hk, if_neg (by decide)] at x2
    exact l O2 as2 σ2 H2 ρ2 _ _ _ (E2.reJ E2.inv.1 E2.inq.1) ⟨c, Cc, dx, fv, fs, rfl, rfl, rfl, hn, hd, r⟩ x2
end
end DL
/-! defs that raise: the promise; calls by keywords -/
namespace DL
open PySem L2 Z PySem.Spec PyProof.Rows
variable [Tbs]
section
variable {P : Program} {w : World} {K : PySem.W.Frag} {mg : Str → Option Value} {base : Heap} {k : Nat} {f : Addr} {fd : FuncData} {ps : List Str} {x qual : Str} {st : Stmt} {N : List Str} {b : (PyData → En → Prop) → FS}
theorem okX0 (F : Fun K x qual st f fd) (S : FnScope N ps (defScope st))
    (body : ∀ (cdv : Value) (A : Around) (outer : List Env) (s : Shared) (H : Hp) (E : XK), Room k (A.deeper (envOfC qual (defScope st) s.heap.objs.size f cdv)) →
      ∃ t : WX → TS, (∀ W, Takes (cxOf (L2.CX P w) P w K mg base N qual (defScope st) f cdv A outer s H E) W → PSs (cxOf (L2.CX P w) P w K mg base N qual (defScope st) f cdv A outer s H E) (defBody st) (t W)) ∧ ∀ (J : Jv ps.length) (X : PyData → En → Prop) (W : WX), Lk K J X W → RS K J (t W) (b X)) :
    FnOk P w K mg base (L2.CX P w) (k + 1) f fd ps (spX K ps.length (fnX ps.length N.length b)) := by
  refine F.okX S (fun vs H Q E h => h.1) (fun cdv A outer s H vs Q E hr h => ?_)
  obtain ⟨t, pt, rs⟩ := body cdv A outer s H E hr
  exact ⟨_, pt _ (takes_of (E := E) rfl rfl rfl rfl), fn_coreX (scope_le S) rs h⟩
theorem okXD {params : Arguments} {bd : List Stmt} {scope : Scope} {dvs : List V} {kws : List (Str × V)} (F : FunD K x qual params bd scope dvs kws f fd) (S : FnScope N ps scope)
    (body : ∀ (cdv : Value) (A : Around) (outer : List Env) (s : Shared) (H : Hp) (E : XK), Room k (A.deeper (envOfC qual scope s.heap.objs.size f cdv)) →
      ∃ t : WX → TS, (∀ W, Takes (cxOf (L2.CX P w) P w K mg base N qual scope f cdv A outer s H E) W → PSs (cxOf (L2.CX P w) P w K mg base N qual scope f cdv A outer s H E) bd (t W)) ∧ ∀ (J : Jv ps.length) (X : PyData → En → Prop) (W : WX), Lk K J X W → RS K J (t W) (b X)) :
    FnOk P w K mg base (L2.CX P w) (k + 1) f fd ps (spX K ps.length (fnX ps.length N.length b)) := by
  refine F.ok S (fun vs H Q E h => h.1) (fun cdv A outer s H vs Q E hr h => ?_)
  obtain ⟨t, pt, rs⟩ := body cdv A outer s H E hr
  exact ⟨_, pt _ (takes_of (E := E) rfl rfl rfl rfl), fn_coreX (scope_le S) rs h⟩
theorem okXS0 (F : Fun K x qual st f fd) (S : FnScope N ps (defScope st))
    (body : ∀ (cdv : Value) (A : Around) (outer : List Env) (s : Shared) (H : Hp) (E : XK), Room k (A.deeper (envOfC qual (defScope st) s.heap.objs.size f cdv)) →
      ∃ t : WX → TS, (∀ W, Takes (cxOf (L2.CX P w) P w K mg base N qual (defScope st) f cdv A outer s H E) W → PSs (cxOf (L2.CX P w) P w K mg base N qual (defScope st) f cdv A outer s H E) (defBody st) (t W)) ∧ ∀ (J : Jv ps.length) (X : PyData → En → Prop) (W : WX), Lk K J X W → RS K J (t W) (b X)) :
    FnOk P w K mg base (L2.CX P w) (k + 1) f fd ps (spXS K ps.length (fnXS ps.length N.length b)) := by
  refine F.okX S (fun vs H Q E h => h.1) (fun cdv A outer s H vs Q E hr h => ?_)
  obtain ⟨t, pt, rs⟩ := body cdv A outer s H E hr
  exact ⟨_, pt _ (takes_of (E := E) rfl rfl rfl rfl), fn_coreXS (scope_le S) rs h⟩
theorem okXSD {params : Arguments} {bd : List Stmt} {scope : Scope} {dvs : List V} {kws : List (Str × V)} (F : FunD K x qual params bd scope dvs kws f fd) (S : FnScope N ps scope)
    (body : ∀ (cdv : Value) (A : Around) (outer : List Env) (s : Shared) (H : Hp) (E : XK), Room k (A.deeper (envOfC qual scope s.heap.objs.size f cdv)) →
      ∃ t : WX → TS, (∀ W, Takes (cxOf (L2.CX P w) P w K mg base N qual scope f cdv A outer s H E) W → PSs (cxOf (L2.CX P w) P w K mg base N qual scope f cdv A outer s H E) bd (t W)) ∧ ∀ (J : Jv ps.length) (X : PyData → En → Prop) (W : WX), Lk K J X W → RS K J (t W) (b X)) :
    FnOk P w K mg base (L2.CX P w) (k + 1) f fd ps (spXS K ps.length (fnXS ps.length N.length b)) := by
  refine F.ok S (fun vs H Q E h => h.1) (fun cdv A outer s H vs Q E hr h => ?_)
  obtain ⟨t, pt, rs⟩ := body cdv A outer s H E hr
  exact ⟨_, pt _ (takes_of (E := E) rfl rfl rfl rfl), fn_coreXS (scope_le S) rs h⟩
/-- a def that raises is passed by its own context -/
theorem passX {cdv : Value} {A : Around} {outer : List Env} {s : Shared} {H : Hp} {E : XK} {scope : Scope} : PassesOwn (model P w) (cxOf (L2.CX P w) P w K mg base N qual scope f cdv A outer s H E).A (cxOf (L2.CX P w) P w K mg base N qual scope f cdv A outer s H E).env (cxOf (L2.CX P w) P w K mg base N qual scope f cdv A outer s H E).xe :=
  passes_of (X := cxOf (L2.CX P w) P w K mg base N qual scope f cdv A outer s H E) rfl
end
/-! the call with keywords, where it may raise -/
def tCallNS (n m : Nat) (sp : Sp) (gV : List V → List V → List V) (E : L2.St → XK) (t tk : TA) : TE := fun σ H Q => t σ H fun vs H1 => tk σ H1 fun zs H2 => vs.length = n ∧ zs.length = m ∧ sp (gV vs zs) H2 Q (E σ)
section
variable {X : Cx} {CX : CXT} {k n : Nat} {f : Addr} {fd : FuncData} {ps ks : List Str} {sp : Sp} {E : L2.St → XK} {x : Str} {p pos : Pos} {e : Expr} {es : List Expr} {kws : List Keyword} {t tk : TA} {g : List Value → List Value → List Value} {gV : List V → List V → List V}
theorem pe_callNS (F : FnOk X.prog X.w X.K X.mg X.base CX k f fd ps sp) (hr : Room k X.A) (hg : Gl X x) (hm : X.mg x = some (.ref f)) (hk : PySem.W.keepIn X.K (.ref f) = true) (hb : KBn X.K fd ps n ks g gV) (hx : ∀ σ, PassesAt CX X σ (E σ))
    (ha : PA X (e :: es) t) (hkw : PK X kws tk) (hall : (backToKw pos (keywordEach kws X.env)).all (·.1.isSome) = true := by rfl) (hks : (backToKw pos (keywordEach kws X.env)).filterMap (·.1) = ks := by rfl)
    (hdb : (x == ("__debug__" : Str)) = false := by decide) (he : starEach (e :: es) X.env = (false, eval e X.env) :: starEach es X.env := by rfl)
    (hpl : ((backTo pos (starEach (e :: es) X.env)).any (·.1) || (backToKw pos (keywordEach kws X.env)).any (·.1.isNone)) = false := by rfl) :
    PE X (.Call (.Name x p) (e :: es) kws pos) (tCallNS n ks.length sp gV E t tk) := by
  refine ⟨fun pins s σ H Q I h => wpAny_Call_Name_kw (ld_glob I hg hm ?_ hdb)⟩
  refine PySem.W.callWith_KW (h₀ := X.base) I.ok.mod.kin hk hall (thn (ha.run pos pins s σ H _ I h) fun us s1 hh => ?_) hpl he
  obtain ⟨vs, H1, I1, r, q⟩ := hh
  refine thn (hkw.run pos pins s1 σ H1 _ I1 q) fun ws s2 hh => ?_
  obtain ⟨zs, H2, I2, rz, l1, l2, q2⟩ := hh
  rw [hks]
  refine ⟨I2.kIn, wpAny_call (codeAny_mono (F.run X.A X.stack s2 H2 ⟨us, ks.zip ws⟩ (g us ws) (gV vs zs) Q (E σ) hr I2.env0 (hb.to s2 us ws I2.kIn (r.length.symm.trans l1) (rz.length.symm.trans l2)) (hb.rel r rz) q2) fun y s' hq => ?_)⟩
  cases y with
  | error er => exact hx σ pins H2 s2 er s' I2 hq
  | ok fl =>
    cases fl with
    | ret u => exact I2.after hq
    | _ => exact False.elim hq
end
section
variable {K : PySem.W.Frag} {n : Nat} {J : Jv n}
def fCallNX (F : FX) (n m : Nat) (gD : List PyData → List PyData → List PyData) (X : PyData → En → Prop) (f fk : FA) : FE := fun ρ P => f ρ fun ds ρ1 => fk ρ1 fun es ρ2 => ds.length = n ∧ es.length = m ∧ F ((gD ds es).map .fz) (fun d _ => P d ρ2) fun d _ => X d ρ2
theorem re_callNX {l n m : Nat} {F : FX} {gV : List V → List V → List V} {gD : List PyData → List PyData → List PyData} {X : PyData → En → Prop} {W : WX} {t tk : TA} {f fk : FA} (lk : Lk K J X W)
    (hl : ∀ ds es : List PyData, ds.length = n → es.length = m → (gD ds es).length = l)
    (hg : ∀ (vs zs : List V) (ds es : List PyData) (H : Hp), DqAll K H vs ds → DqAll K H zs es → DqAll K H (gV vs zs) (gD ds es)) (ha : RA K J t f) (hk : RA K J tk fk) : RE K J (tCallNS n m (spX K l F) gV (WE W) t tk) (fCallNX F n m gD X f fk) := by
  intro O as σ H Q ρ P E q k
  refine ha O as σ H _ ρ _ E q fun ds ρ1 vs H1 q1 f1 E1 d1 => ?_
  refine hk O as σ H1 _ ρ1 _ E1 q1 fun es ρ2 zs H2 q2 f2 E2 d2 => ?_
  obtain ⟨l1, l2, q2⟩ := q2
  refine ⟨by rw [d1.length]; exact l1, by rw [d2.length]; exact l2, ?_⟩
  refine call_coreX (xs := (gD ds es).map .dat) E2 (fits_dat _) (dat_ars (hg _ _ _ _ _ (d1.fr f2) d2)).toT (by rw [(hg _ _ _ _ _ (d1.fr f2) d2).length]; exact hl _ _ l1 l2) (by rw [List.length_map]; exact hl _ _ l1 l2) (by rw [ownIx_dat]; exact .nil) ?_ lk fun d ρ' v H' p fr E' q' => k d ρ' v H' p ((f1.trans f2).trans fr) E' q'
  simp only [wb_dat]
  exact q2
/-- calls by keywords of defs that are handed the store -/
def fCallNXS (sx l : Nat) (F : FX) (n m : Nat) (gD : List PyData → List PyData → List PyData) (X : PyData → En → Prop) (f fk : FA) : FE := fun ρ P => f ρ fun ds ρ1 => fk ρ1 fun es ρ2 => ds.length = n ∧ es.length = m ∧ match ρ2[sx]? with
  | some (.st S) => F ((gD ds es).map .fz ++ [.st S]) (fun d out => P d (ρ2.set sx ((out.drop l).headD .no))) fun d out => X d (ρ2.set sx ((out.drop l).headD .no))
  | _ => False
theorem re_callNXS {sx l n m : Nat} {F : FX} {gV : List V → List V → List V} {gD : List PyData → List PyData → List PyData} {X : PyData → En → Prop} {W : WX} {t tk : TA} {f fk : FA} (lk : Lk K J X W)
    (hl : ∀ ds es : List PyData, ds.length = n → es.length = m → (gD ds es).length = l)
    (hg : ∀ (vs zs : List V) (ds es : List PyData) (H : Hp), DqAll K H vs ds → DqAll K H zs es → DqAll K H (gV vs zs) (gD ds es)) (ha : RA K J t f) (hk : RA K J tk fk) : RE K J (tCallNS n m (spXS K l F) gV (WE W) t tk) (fCallNXS sx l F n m gD X f fk) := by
  intro O as σ H Q ρ P E q k
  refine ha O as σ H _ ρ _ E q fun ds ρ1 vs H1 q1 f1 E1 d1 => ?_
  refine hk O as σ H1 _ ρ1 _ E1 q1 fun es ρ2 zs H2 q2 f2 E2 d2 => ?_
  obtain ⟨l1, l2, q2⟩ := q2
  refine ⟨by rw [d1.length]; exact l1, by rw [d2.length]; exact l2, ?_⟩
  have L := hl _ _ l1 l2
  have D := hg _ _ _ _ _ (d1.fr f2) d2
  split at q2
  · next S hs =>
    refine call_coreX (xs := (gD ds es).map .dat ++ [.own sx]) E2 ((fits_dat _).app (.st hs .nil)) ((dat_ars D).snoc (E2.st_at hs).1) (by rw [D.length]; exact L) (by rw [List.length_append, List.length_map, L]; rfl) (by rw [ownIx_snoc, ownIx_dat]; exact List.nodup_cons.mpr ⟨List.not_mem_nil, .nil⟩) ?_ lk fun d ρ' v H' p fr E' q' => k d ρ' v H' p ((f1.trans f2).trans fr) E' q'
    simp only [wb_snoc, wb_dat, List.length_map, L]
    exact q2
  · exact q2.elim
def fCallNS (sx l : Nat) (F : FN) (n m : Nat) (gD : List PyData → List PyData → List PyData) (f fk : FA) : FE := fun ρ P => f ρ fun ds ρ1 => fk ρ1 fun es ρ2 => ds.length = n ∧ es.length = m ∧ match ρ2[sx]? with
  | some (.st S) => F ((gD ds es).map .fz ++ [.st S]) fun d out => P d (ρ2.set sx ((out.drop l).headD .no))
  | _ => False
theorem re_callNS {sx l n m : Nat} {F : FN} {gV : List V → List V → List V} {gD : List PyData → List PyData → List PyData} {E0 : XK} {t tk : TA} {f fk : FA}
    (hl : ∀ ds es : List PyData, ds.length = n → es.length = m → (gD ds es).length = l)
    (hg : ∀ (vs zs : List V) (ds es : List PyData) (H : Hp), DqAll K H vs ds → DqAll K H zs es → DqAll K H (gV vs zs) (gD ds es)) (ha : RA K J t f) (hk : RA K J tk fk) : RE K J (tCallN n m (spS K l F) gV E0 t tk) (fCallNS sx l F n m gD f fk) := by
  intro O as σ H Q ρ P E q k
  refine ha O as σ H _ ρ _ E q fun ds ρ1 vs H1 q1 f1 E1 d1 => ?_
  refine hk O as σ H1 _ ρ1 _ E1 q1 fun es ρ2 zs H2 q2 f2 E2 d2 => ?_
  obtain ⟨l1, l2, q2⟩ := q2
  refine ⟨by rw [d1.length]; exact l1, by rw [d2.length]; exact l2, ?_⟩
  have L := hl _ _ l1 l2
  have D := hg _ _ _ _ _ (d1.fr f2) d2
  split at q2
  · next S hs =>
    refine call_core (xs := (gD ds es).map .dat ++ [.own sx]) E2 ((fits_dat _).app (.st hs .nil)) ((dat_ars D).snoc (E2.st_at hs).1) (by rw [D.length]; exact L) (by rw [List.length_append, List.length_map, L]; rfl) (by rw [ownIx_snoc, ownIx_dat]; exact List.nodup_cons.mpr ⟨List.not_mem_nil, .nil⟩) ?_ fun d ρ' v H' p fr E' q' => k d ρ' v H' p ((f1.trans f2).trans fr) E' q'
    simp only [wb_snoc, wb_dat, List.length_map, L]
    exact q2
  · exact q2.elim
/-- a def that raises, where it doesn't -/
def noX (F : FX) : FN := fun ss P => F ss P fun _ _ => False
theorem noX_of {m : Nat} {F : FX} {vs : List V} {H : Hp} {Q : VK} {E : XK} (h : spF K m (noX F) vs H Q E) : spX K m F vs H Q E := by
  obtain ⟨hv, O, as, S, ρ, P, R, hl, hF, q⟩ := h
  exact ⟨hv, O, as, S, ρ, P, _, R, hl, hF, q, fun _ _ _ _ _ z => z.elim⟩
end
/-! is True, is False -/
theorem op_isB {X : Cx} : OpR X (compareOp .Is) (fun x y H Q => ∃ b, y = .bl b ∧ (∀ n, x ≠ .ty n) ∧ Q (.bl (decide (x = .bl b))) H) := by
  intro pins s σ H x y v u Q I rx ry h
  obtain ⟨b, rfl, nt, q⟩ := h
  cases ry
  have key : ∀ c : Bool, decide (x = V.bl b) = c → wpAny (model X.prog X.w) X.A (pure (.bool c)) (EP X pins σ Q) X.xe s := fun c e => wpAny_pure ⟨.bl c, H, I, rfl, by rw [← e]; exact q⟩
  cases x with
  | non => cases rx; exact key false rfl
  | bl c => cases rx; cases c <;> cases b <;> first | exact key true rfl | exact key false rfl
  | int i => obtain ⟨t, rfl⟩ := rx; exact key false rfl
  | str i => obtain ⟨t, rfl⟩ := rx; exact key false rfl
  | byt i => obtain ⟨t, rfl⟩ := rx; exact key false rfl
  | flt i => obtain ⟨t, rfl⟩ := rx; exact key false rfl
  | ref a => cases rx; exact key false rfl
  | ty n => exact absurd rfl (nt n)
def isBool (b : Bool) : PyData → Bool
  | .bool c => c == b
  | _ => false
def oIsT : G2 := fun a d P => match d with
  | .bool b => P (.bool (isBool b a))
  | _ => False
section
variable {K : PySem.W.Frag}
theorem rr_isB : RR K (fun x y H Q => ∃ b, y = .bl b ∧ (∀ n, x ≠ .ty n) ∧ Q (.bl (decide (x = .bl b))) H) oIsT := by
  intro A H Q x y a c P oc da db g k
  unfold oIsT at g
  split at g
  · next b =>
    cases db
    refine ⟨b, rfl, fun n => ?_, ?_⟩
    · cases da <;> exact fun z => nomatch z
    · have e : decide (x = V.bl b) = isBool b a := by
        cases da <;> first | rfl | (next z => cases z <;> cases b <;> rfl)
      rw [e]
      exact k _ _ _ g (Same.refl _) (.bl _)
  · exact g.elim
end
/-! what the printed texts use -/
theorem names_nil {X : Cx} : ∀ q ∈ ([] : List (Str × Pos × Value)), Names X q.1 q.2.2 := fun _ h => by cases h
theorem names_cons {X : Cx} {x : Str} {p : Pos} {c : Value} {r : List (Str × Pos × Value)} (h : Names X x c) (t : ∀ q ∈ r, Names X q.1 q.2.2) : ∀ q ∈ (x, p, c) :: r, Names X q.1 q.2.2 := fun q hq => by
  rcases List.mem_cons.mp hq with rfl | hq
  · exact h
  · exact t q hq
def tabL : List (Str × Bool) → Str → Option Bool
  | [], _ => none
  | (x, b) :: r, c => if c = x then some b else tabL r c
section
variable {K : PySem.W.Frag} {p : Addr → Bool → Prop}
theorem tab_nil : ∀ c C b, tabL [] c = some b → PySem.W.nsIn K mainGlobals c = some (some (.ref C)) → p C b := fun _ _ _ h => by cases h
theorem tab_cons {x : Str} {C0 : Addr} {b0 : Bool} {l : List (Str × Bool)} (q : PySem.W.nsIn K mainGlobals x = some (some (.ref C0))) (h : p C0 b0) (r : ∀ c C b, tabL l c = some b → PySem.W.nsIn K mainGlobals c = some (some (.ref C)) → p C b) :
    ∀ c C b, tabL ((x, b0) :: l) c = some b → PySem.W.nsIn K mainGlobals c = some (some (.ref C)) → p C b := fun c C b e n => by
  unfold tabL at e
  split at e
  · next z =>
    subst z
    cases e
    rw [q] at n
    cases n
    exact h
  · exact r c C b e n
theorem cls_nil {q : Addr → Prop} : ∀ c C, c ∈ ([] : List Str) → PySem.W.nsIn K mainGlobals c = some (some (.ref C)) → q C := fun _ _ h => by cases h
theorem cls_cons {q : Addr → Prop} {x : Str} {C0 : Addr} {l : List Str} (n0 : PySem.W.nsIn K mainGlobals x = some (some (.ref C0))) (h : q C0) (r : ∀ c C, c ∈ l → PySem.W.nsIn K mainGlobals c = some (some (.ref C)) → q C) : ∀ c C, c ∈ x :: l → PySem.W.nsIn K mainGlobals c = some (some (.ref C)) → q C := fun c C hc n => by
  rcases List.mem_cons.mp hc with rfl | hc
  · rw [n0] at n
    cases n
    exact h
  · exact r c C hc n
end
end DL
/-! the law's def over data; functions as data -/
namespace DL
open PySem L2 Z PySem.Spec PyProof.Rows
variable [Tbs]
section
variable {P : Program} {w : World} {K : PySem.W.Frag} {mg : Str → Option Value} {base : Heap} {k : Nat} {f : Addr} {fd : FuncData} {ps : List Str} {sp sp' : Sp}
theorem _root_.Z.FnG.imp (F : FnG P w K mg base k f fd ps sp) (h : ∀ vs H Q E, sp' vs H Q E → sp vs H Q E) : FnG P w K mg base k f fd ps sp' :=
  ⟨fun vs H Q E q => F.size vs H Q E (h vs H Q E q), fun A outer s H args us vs Q E hr c e b v q => F.goes A outer s H args us vs Q E hr c e b v (h vs H Q E q)⟩
def spLaw (K : PySem.W.Frag) : Sp := fun vs H Q _ => ∃ (a : Addr) (ns : List Int), vs = [.ref a] ∧ SqL K H a (ns.map V.int) ∧ ns.length ≤ 63 ∧ TabsOk H ∧ ∀ H', Q (.bl true) H'
/-- the store at the law's begin -/
def noS : Sto := fun _ => none
theorem sqL_noT {as : As} {H : Hp} {a : Addr} {xs : List V} (t : TabsOk H) (ha : ∀ i r, as i = some r → r = .sto) (h : SqL K H a xs) : SqL K (hq (fun _ => False) as ⟨H, noS⟩) a xs := by
  have no : ∀ o, H a = some o → (∀ ps, o ≠ .tbl ps) → ¬ Hid (fun _ => False) as ⟨H, noS⟩ a := fun o e n q => by
    rcases q with q | ⟨_, _, q, w⟩ | ⟨p, hp, q⟩
    · exact q
    · rw [ha _ _ q] at w
      exact w rfl
    · obtain ⟨ps, h1, _⟩ := t p hp
      rw [q, e] at h1
      exact n ps (Option.some.inj h1)
  rcases h with (h | ⟨o, h⟩) | h
  · exact .inl (.inl (hp_mk (no _ h fun _ z => by cases z) h))
  · exact .inl (.inr ⟨o, hp_mk (no _ h fun _ z => by cases z) h⟩)
  · exact .inr h
/-- the law's def -/
theorem law_of {F : FN} (hF : ∀ ns : List Int, ns.length ≤ 63 → F [.fz (.list (ns.map .int))] fun d _ => d = .bool true) {vs : List V} {H : Hp} {Q : VK} {E : XK} (h : spLaw K vs H Q E) : spF K 1 F vs H Q E := by
  obtain ⟨a, ns, rfl, hS, hl, tb, q⟩ := h
  refine ⟨rfl, fun _ => False, fun _ => none, noS, [.fz (.list (ns.map .int))], _, ⟨⟨Nat.le_refl _, Nat.le_succ _⟩, fun i sl e1 e2 => ?_, fun i sl o e1 e2 => ?_, fun i h => (by cases h), fun i j a _ _ h1 => (by cases h1), fun _ _ _ h _ => (by cases h), fun i a h => (by cases h), fun a z => z.elim, trivial, trivial, tb⟩, rfl, hF ns hl, fun d out v H' hd fr _ dv => ?_⟩
  · have h1 : i < 1 := (List.getElem?_eq_some_iff.mp e1).1
    have h2 : 1 ≤ i := e2
    omega
  · match i, e1, e2 with
    | 0, e1, e2 =>
      cases e1
      cases e2
      exact .fz (.lst (sqL_noT tb (fun _ _ z => by cases z) hS) (DqAll.ints _))
  · subst hd
    cases dv
    exact q _
/-- the law's def, which begins with an empty store -/
theorem law_ofS {F : FN} (hF : ∀ ns : List Int, ns.length ≤ 63 → F [.fz (.list (ns.map .int)), .st noS] fun d _ => d = .bool true) {vs : List V} {H : Hp} {Q : VK} {E : XK} (h : spLaw K vs H Q E) : spS K 1 F vs H Q E := by
  obtain ⟨a, ns, rfl, hS, hl, tb, q⟩ := h
  have as1 : ∀ i r, (if i = 1 then some Rg.sto else none) = some r → i = 1 ∧ r = .sto := fun i r h => by
    split at h
    · next z => cases h; exact ⟨z, rfl⟩
    · cases h
  refine ⟨rfl, fun _ => False, fun i => if i = 1 then some .sto else none, noS, [.fz (.list (ns.map .int)), .st noS], _, ⟨⟨Nat.le_succ _, Nat.le_refl _⟩, fun i sl e1 e2 => ?_, fun i sl o e1 e2 => ?_, fun i h => ?_, fun i j r r' b h1 h2 _ _ => by rw [(as1 i r h1).1, (as1 j r' h2).1], fun i r b h w => ?_, fun i r h => by rw [(as1 i r h).1]; exact Nat.lt_succ_self 1, fun a z => z.elim, trivial, trivial, tb⟩, rfl, hF ns hl, fun d out v H' hd fr _ dv => ?_⟩
  · have h1 : i < 2 := (List.getElem?_eq_some_iff.mp e1).1
    have h2 : 1 ≤ i := e2
    rw [if_pos (by omega)]
  · match i, e1, e2 with
    | 0, e1, e2 =>
      cases e1
      cases e2
      exact .fz (.lst (sqL_noT tb (fun i r z => (as1 i r z).2) hS) (DqAll.ints _))
  · rw [(as1 i _ h).1]
    exact ⟨rfl, rfl, fun a o e => by cases e⟩
  · rw [(as1 i r h).2] at w
    exact absurd rfl w
  · subst hd
    cases dv
    exact q _
end
/-! a local name that holds a def which may raise -/
structure HeldX (P : Program) (w : World) (K : PySem.W.Frag) (mg : Str → Option Value) (base : Heap) (k : Nat) (f : Addr) (sp : Sp) : Prop where
  ex : ∃ (fd : FuncData) (ps : List Str), FnOk P w K mg base (L2.CX P w) k f fd ps sp ∧ PySem.W.keepIn K (.ref f) = true ∧ Binds K fd ps []
def tCallV (i : Nat) (S : Addr → Sp → Prop) (E : L2.St → XK) (t : TA) : TE := fun σ H Q => ∃ f sp, σ[i]? = some (some (.ref f)) ∧ S f sp ∧ t σ H fun vs H1 => sp vs H1 Q (E σ)
section
variable {X : Cx} {k i : Nat} {E : L2.St → XK} {x : Str} {p pos : Pos} {e : Expr} {es : List Expr} {t : TA}
theorem pe_callV {S : Addr → Sp → Prop} (A : ∀ f sp, S f sp → HeldX X.prog X.w X.K X.mg X.base k f sp) (hr : Room k X.A) (hN : X.N[i]? = some x) (hv : Vis X.env.scope x) (hx : ∀ σ, PassesAt (L2.CX X.prog X.w) X σ (E σ)) (ha : PA X (e :: es) t)
    (hdb : (x == ("__debug__" : Str)) = false := by decide) (hcd : (x == ("__classdict__" : Str)) = false := by decide)
    (he : starEach (e :: es) X.env = (false, eval e X.env) :: starEach es X.env := by rfl) (hpl : (backTo pos (starEach es X.env)).any (·.1) = false := by rfl) : PE X (.Call (.Name x p) (e :: es) [] pos) (tCallV i S E t) := by
  refine ⟨fun pins s σ H Q I h => ?_⟩
  obtain ⟨f, sp, hs, hS, ht⟩ := h
  obtain ⟨fd, ps, F, hk, hb⟩ := (A f sp hS).ex
  refine wpAny_Call_Name_kw (thn ((pe_var (pos := p) hN hv hdb hcd).run pins s σ H (fun v H1 => v = .ref f ∧ H1 = H) I ⟨.ref f, hs, rfl, rfl⟩) fun u s1 ⟨v, H1, I1, r1, q1⟩ => ?_)
  obtain ⟨rfl, rfl⟩ := q1
  cases r1
  refine PySem.W.callWith_K (h₀ := X.base) I.ok.mod.kin hk (thn (ha.run pos pins s1 σ _ _ I1 ht) fun us s2 ⟨vs, H2, I2, r, q⟩ => ⟨I2.kIn, ?_⟩) he hpl
  exact run_fnSD F hr hb .nil (hx σ) I2 r (by rw [List.append_nil]; exact q)
end
section
variable {K : PySem.W.Frag} {n : Nat} {J : Jv n}
def fnD (x : Str) : PyData := .dict [(.str x, .int 0)]
def funF (ρ : En) (i : Nat) (k : Str → Prop) : Prop := match ρ[i]? with
  | some (.fz (.dict [(.str x, .int 0)])) => k x
  | _ => False
theorem funF_of {ρ : En} {i : Nat} {k : Str → Prop} (h : funF ρ i k) : ∃ x, ρ[i]? = some (.fz (fnD x)) ∧ k x := by
  unfold funF at h
  split at h
  · next x e => exact ⟨x, e, h⟩
  · exact h.elim
def tabF : List (Str × Nat × FX) → Str → (Nat → FX → Prop) → Prop
  | [], _, _ => False
  | (y, m, F) :: l, x, k => if y = x then k m F else tabF l x k
theorem tabF_of {x : Str} {k : Nat → FX → Prop} : ∀ {l : List (Str × Nat × FX)}, tabF l x k → ∃ m F, (x, m, F) ∈ l ∧ k m F
  | [], h => h.elim
  | (y, m, F) :: l, h => by
    unfold tabF at h
    split at h
    · next e => subst e; exact ⟨m, F, List.mem_cons_self, h⟩
    · obtain ⟨m', F', hm, hk⟩ := tabF_of h
      exact ⟨m', F', List.mem_cons_of_mem _ hm, hk⟩
theorem Dq.fn_of {G : Hp} {v : V} {x : Str} (q : Dq K G v (fnD x)) : ∃ f, v = .ref f ∧ PySem.W.nsIn K mainGlobals x = some (some (.ref f)) := by
  unfold fnD at q
  cases q with
  | fnc h => exact ⟨_, rfl, h⟩
/-- the def that a slot holds, called -/
def fCallV (i : Nat) (tab : List (Str × Nat × FX)) (X : PyData → En → Prop) (a : FC) : FE := fun ρ P => funF ρ i fun x => tabF tab x fun m F => a ρ fun xs ρ1 => xs.length = m ∧ (ownIx xs).Nodup ∧ argF ρ1 xs fun r => F r (fun d out => P d (wb ρ1 xs out)) fun d out => X d (wb ρ1 xs out)
theorem re_callV {i : Nat} {S : Addr → Sp → Prop} {tab : List (Str × Nat × FX)} {X : PyData → En → Prop} {W : WX} {t : TA} {f : FC} (l : Lk K J X W) (hS : ∀ x m F a, (x, m, F) ∈ tab → PySem.W.nsIn K mainGlobals x = some (some (.ref a)) → S a (spX K m F)) (ha : RC K J t f) : RE K J (tCallV i S (WE W) t) (fCallV i tab X f) := by
  intro O as σ H Q ρ P E q k
  obtain ⟨x, hx, q⟩ := funF_of q
  obtain ⟨m, F, hm, q⟩ := tabF_of q
  obtain ⟨v, e1, _, d0⟩ := E.fz_at hx
  obtain ⟨a, rfl, hn⟩ := Dq.fn_of d0
  refine ⟨a, _, e1, hS x m F a hm hn, ?_⟩
  refine ha O as σ H _ ρ _ E q fun xs ρ1 vs H1 q1 f1 E1 d1 => ?_
  obtain ⟨hm, nd, q1⟩ := q1
  obtain ⟨r, fit, q1⟩ := argF_of q1
  exact call_coreX (e := 0) E1 fit d1.toT (by rw [d1.len]; exact hm) hm nd q1 l fun d ρ' v H' p fr E' q' => k d ρ' v H' p (f1.trans fr) E' q'
theorem held_nil {S : Addr → Sp → Prop} : ∀ x m F a, (x, m, F) ∈ ([] : List (Str × Nat × FX)) → PySem.W.nsIn K mainGlobals x = some (some (.ref a)) → S a (spX K m F) := fun _ _ _ _ h => by cases h
theorem held_cons {S : Addr → Sp → Prop} {x0 : Str} {m0 : Nat} {F0 : FX} {a0 : Addr} {l : List (Str × Nat × FX)} (q : PySem.W.nsIn K mainGlobals x0 = some (some (.ref a0))) (h : S a0 (spX K m0 F0)) (r : ∀ x m F a, (x, m, F) ∈ l → PySem.W.nsIn K mainGlobals x = some (some (.ref a)) → S a (spX K m F)) :
    ∀ x m F a, (x, m, F) ∈ (x0, m0, F0) :: l → PySem.W.nsIn K mainGlobals x = some (some (.ref a)) → S a (spX K m F) := fun x m F a hm hn => by
  rcases List.mem_cons.mp hm with e | e
  · cases e
    rw [q] at hn
    cases hn
    exact h
  · exact r x m F a e hn
end
/-! a list or a tuple, walked -/
def iAny (K : PySem.W.Frag) (tl : TE) : TI := fun σ H R => tl σ H fun x H1 => ∃ a, x = .ref a ∧ (((∃ xs, SqL K H1 a xs) ∧ R (Itl K a) H1) ∨ ((∃ xs, SqT K H1 a xs) ∧ R (Itt K a) H1))
theorem pi_any {X : Cx} {tg l : Expr} {tl : TE} (hl : PE X l tl) : PI X tg l (iAny X.K tl) := by
  refine ⟨fun pins s σ H R I h => ?_⟩
  refine thn (hl.run pins s σ H _ I h) fun v s1 ⟨x, H1, I1, r1, q1⟩ => ?_
  obtain ⟨a, e, q1⟩ := q1
  subst e
  cases r1
  rcases q1 with ⟨⟨xs, hq⟩, q⟩ | ⟨⟨xs, hq⟩, q⟩
  · obtain ⟨its, rv, p, hz⟩ := I1.list hq
    refine wpAny_pyIter_list p.isList ?_
    refine ⟨s1.heap.objs.size, [s1.heap.objs.size], _, _, H1, rfl, I1.kept (t' := s1.toks) fun b o e => Heap.get?_push_of_some _ e, turn_list a _, ⟨_, Heap.get?_push_size _ rfl, rfl, rfl⟩, fun b hb => ?_, q⟩
    have e : b = s1.heap.objs.size := by simpa using hb
    subst e
    exact I1.fpOk (Nat.le_refl _) (I1.hok.fresh (Nat.le_refl _))
  · obtain ⟨its, rv, p, hz⟩ := I1.tuple hq
    refine wpAny_pyIter_tuple (show s1.heap.IsTuple a its.toArray from p) ?_
    refine ⟨s1.heap.objs.size, [s1.heap.objs.size], _, _, H1, rfl, I1.kept (t' := s1.toks) fun b o e => Heap.get?_push_of_some _ e, turn_tuple a _, ⟨_, Heap.get?_push_size _ rfl, rfl, rfl⟩, fun b hb => ?_, q⟩
    have e : b = s1.heap.objs.size := by simpa using hb
    subst e
    exact I1.fpOk (Nat.le_refl _) (I1.hok.fresh (Nat.le_refl _))
section
variable {K : PySem.W.Frag} {n : Nat} {J : Jv n}
def iA (f : FE) : FA := fun ρ P => f ρ fun d ρ1 => seqF d fun ds => P ds ρ1
theorem ri_any {tl : TE} {f : FE} (h : RE K J tl f) : RI K J (iAny K tl) (iA f) := by
  intro O as σ H R ρ P E q k
  refine h O as σ H _ ρ _ E q fun d ρ1 v H1 q1 f1 E1 d1 => ?_
  unfold seqF at q1
  split at q1
  · next ds =>
    obtain ⟨a, xs, rfl, s, r⟩ := d1.list_of
    refine ⟨a, rfl, .inl ⟨⟨_, SqL.mono hp_same s⟩, k _ _ _ _ q1 f1 E1 ?_⟩⟩
    refine ⟨_, _, by rw [← r.length]; exact walk_list (xs := xs), fun A' H2 s2 => SqL.mono hp_same (SqL.mono s2 s), fun i d A' H2 x H3 hd s2 oc y => ?_⟩
    obtain ⟨rfl, hx⟩ := y
    obtain ⟨d', e, q⟩ := r.get hx
    rw [hd] at e
    cases e
    exact ⟨Same.refl _, q.mono s2⟩
  · next ds =>
    obtain ⟨a, xs, rfl, s, r⟩ := d1.tuple_of
    refine ⟨a, rfl, .inr ⟨⟨_, SqT.mono hp_same s⟩, k _ _ _ _ q1 f1 E1 ?_⟩⟩
    refine ⟨_, _, by rw [← r.length]; exact walk_tup (xs := xs), fun A' H2 s2 => SqT.mono hp_same (SqT.mono s2 s), fun i d A' H2 x H3 hd s2 oc y => ?_⟩
    obtain ⟨rfl, hx⟩ := y
    obtain ⟨d', e, q⟩ := r.get hx
    rw [hd] at e
    cases e
    exact ⟨Same.refl _, q.mono s2⟩
  · exact q1.elim
end
end DL
/-! texts and tuples turned about -/
namespace DL
open PySem L2 Z PySem.Spec PyProof.Rows
variable [Tbs]
section
variable {X : Cx}
def revS (z : Str) : Str := ⟨z.cps.toList.reverse.toArray⟩
theorem rev_picked (z : Str) : ((Builtin.Str.strSliceIndices none none (-1) z.length).filterMap (z.cps[·]?)) = z.cps.toList.reverse := by
  show ((sliceRange ((z.length : Int) - 1) (-1) (-1)).filterMap (z.cps[·]?)) = _
  rw [PySem.W.krv_sliceRange, PySem.W.krv_range, List.filterMap_reverse]
  exact congrArg List.reverse (PySem.W.krv_all z.cps)
def tRevS (te : TE) : TE := fun σ H Q => te σ H fun x H1 => ∃ z, x = .str z ∧ z.length ≤ sizeLine ∧ Q (.str (revS z)) H1
theorem pe_revS {e : Expr} {te : TE} {k : Nat} {p1 p2 p3 pos : Pos} (he : PE X e te) : PE X (.Subscript e (.Slice none none (some (.UnaryOp .USub (.Constant (.int 1) k p1) p2)) p3) pos) (tRevS te) := by
  refine ⟨fun pins s σ H Q I h => ?_⟩
  refine Subscript_ (thn (he.run pins s σ H _ I h) fun v s1 ⟨x, H1, I1, r1, q1⟩ => ?_)
  obtain ⟨z, ex, hz, q⟩ := q1
  subst ex
  obtain ⟨t, rfl⟩ := r1
  have hst : PO X (some (.UnaryOp .USub (.Constant (.int 1) k p1) p2)) (tPart (tUn (rU fun i => .int (-i)) (tC (.int 1)))) := po_some (pe_un un_neg pe_int)
  refine wpAny_Slice (thn (po_none.run pins s1 σ H1 (fun o H2 => o = none ∧ H2 = H1) I1 ⟨rfl, rfl⟩) fun vl s2 ⟨l, H2, I2, pl, el, e2⟩ => ?_)
  subst el e2
  refine thn (po_none.run pins s2 σ H2 (fun o H3 => o = none ∧ H3 = H2) I2 ⟨rfl, rfl⟩) fun vu s3 ⟨u, H3, I3, pu, eu, e3⟩ => ?_
  subst eu e3
  refine thn (hst.run pins s3 σ H3 (fun o H4 => o = some (-1) ∧ H4 = H3) I3 ⟨1, rfl, -1, rfl, rfl, rfl⟩) fun vs s4 ⟨o, H4, I4, ps, eo, e4⟩ => ?_
  subst eo e4
  have I5 : Inv X pins σ H4 { s4 with heap := s4.heap.push { cls := .type "slice", data := .fields #[vl, vu, vs] } } := I4.kept (t' := s4.toks) fun b ob q => Heap.get?_push_of_some _ q
  obtain ⟨l, rfl, hl⟩ := IsPart.raw pl
  obtain ⟨u, rfl, hu⟩ := IsPart.raw pu
  obtain ⟨st, rfl, hs⟩ := IsPart.raw ps
  cases l with
  | some _ => cases hl
  | none =>
  cases u with
  | some _ => cases hu
  | none =>
  cases st with
  | none => cases hs
  | some st =>
  obtain ⟨i, tk⟩ := st
  cases hs
  show wpAny (model X.prog X.w) X.A (subscriptTail e (.Slice none none (some (.UnaryOp .USub (.Constant (.int 1) k p1) p2)) p3) (.str z t) (.ref s4.heap.objs.size)) (EP X pins σ Q) X.xe _
  refine tail_any (ops := [.str z t, .ref s4.heap.objs.size]) (typeIs_str _ _ _) F.slot_str_getitem.lookup ?_ (by with_unfolding_all rfl)
  refine wpAny_getItem_str_slice (l := none) (u := none) (st := some (-1, tk)) ⟨_, Heap.get?_push_size _ rfl, rfl, rfl⟩ rfl ?_
  show Made.post (Made.str ⟨((Builtin.Str.strSliceIndices none none (-1) z.length).filterMap (z.cps[·]?)).toArray⟩) (EP X pins σ Q) _
  rw [rev_picked]
  exact ⟨by show z.cps.toList.reverse.toArray.size ≤ _; rw [List.size_toArray, List.length_reverse]; exact hz, .str _, H4, I5.tok _, ⟨_, rfl⟩, q⟩
end
section
variable {K : PySem.W.Frag} {n : Nat} {J : Jv n}
def fRevS (a : FE) : FE := fun ρ P => a ρ fun d ρ1 => strF d fun z => z.length ≤ sizeLine ∧ P (.str (revS z)) ρ1
theorem re_revS {te : TE} {a : FE} (ha : RE K J te a) : RE K J (tRevS te) (fRevS a) := by
  intro O as σ H Q ρ P E q k
  refine ha O as σ H _ ρ _ E q fun d ρ1 v H1 q1 f1 E1 d1 => ?_
  unfold strF at q1
  split at q1
  · cases d1
    exact ⟨_, rfl, q1.1, k _ _ _ _ q1.2 f1 E1 (.str _)⟩
  · exact q1.elim
end
end DL
/-! numbers and truths; repr and str of any data; tuples turned about -/
namespace DL
open PySem L2 Z PySem.Spec PyProof.Rows
variable [Tbs]
section
variable {X : Cx}
def numV : V → Option Int
  | .int i => some i
  | .bl b => some (b2i b)
  | _ => none
def rNum (f : Int → Int → Int) : R2 := fun x y H Q => ∃ i j, numV x = some i ∧ numV y = some j ∧ Q (.int (f i j)) H
theorem op_addN : OpR X (binaryOp .Add) (rNum (· + ·)) := by
  intro pins s σ H x y v u Q I rx ry h
  obtain ⟨i, j, h1, h2, q⟩ := h
  cases x with
  | bl b =>
    cases h1
    cases rx
    cases y with
    | bl c => cases h2; cases ry; exact add_bool ⟨.int _, H, I.tok _, ⟨_, rfl⟩, q⟩
    | int c => cases h2; obtain ⟨t, rfl⟩ := ry; exact PySem.IntBool.add_bool_int ⟨.int _, H, I.tok _, ⟨_, rfl⟩, q⟩
    | _ => cases h2
  | int b =>
    cases h1
    cases y with
    | bl c => cases h2; obtain ⟨t, rfl⟩ := rx; cases ry; exact add_int_bool ⟨.int _, H, I.tok _, ⟨_, rfl⟩, q⟩
    | int c => cases h2; exact op_add pins s σ H _ _ v u Q I rx ry ⟨_, _, rfl, rfl, q⟩
    | _ => cases h2
  | _ => cases h1
theorem op_subN : OpR X (binaryOp .Sub) (rNum (· - ·)) := by
  intro pins s σ H x y v u Q I rx ry h
  obtain ⟨i, j, h1, h2, q⟩ := h
  cases x with
  | bl b =>
    cases h1
    cases rx
    cases y with
    | bl c => cases h2; cases ry; exact sub_bool ⟨.int _, H, I.tok _, ⟨_, rfl⟩, q⟩
    | int c => cases h2; obtain ⟨t, rfl⟩ := ry; exact PySem.IntBool.sub_bool_int ⟨.int _, H, I.tok _, ⟨_, rfl⟩, q⟩
    | _ => cases h2
  | int b =>
    cases h1
    cases y with
    | bl c => cases h2; obtain ⟨t, rfl⟩ := rx; cases ry; exact PySem.IntBool.sub_int_bool ⟨.int _, H, I.tok _, ⟨_, rfl⟩, q⟩
    | int c => cases h2; exact op_sub pins s σ H _ _ v u Q I rx ry ⟨_, _, rfl, rfl, q⟩
    | _ => cases h2
  | _ => cases h1
/-- repr(x), x any data -/
theorem call_reprV (calm : X.A.guards = some []) (hu : X.A.units + 64 < cLine) : CallR X (.builtin "repr") (fun xs H Q => ∃ (v : V) (d : PyData), xs = [v] ∧ Dp X.K H v d ∧
    d.showable = true ∧ d.depth ≤ 60 ∧ d.shown.length ≤ sizeLine ∧ Q (.str d.shown) H) := by
  intro pins s σ H xs us Q I r h
  obtain ⟨v, d, rfl, hd, sh, dp, sz, q⟩ := h
  obtain ⟨u, rfl, rx⟩ := vals1 r
  clear r
  cases hd with
  | non => cases rx; exact PySem.P.repr_of_none ⟨.str _, H, I.tok _, ⟨_, rfl⟩, q⟩
  | bl b => cases rx; exact PySem.P.repr_of_bool ⟨.str _, H, I.tok _, ⟨_, rfl⟩, q⟩
  | int i => obtain ⟨t, rfl⟩ := rx; exact PySem.P.repr_of_int (of_decide_eq_true sh) ⟨.str _, H, I.tok _, ⟨_, rfl⟩, q⟩
  | str z => obtain ⟨t, rfl⟩ := rx; exact PySem.P.repr_of_str ⟨.str _, H, I.tok _, ⟨_, rfl⟩, q⟩ sz
  | lst h r =>
    obtain ⟨as, rd⟩ := Dp.reads I (.list _) _ u (.lst h r) rx
    cases rx
    exact repr_of_reads' rd sh (PyData.noDict_hsm (Dp.plain (.lst h r))) calm (by omega) (fun _ _ e => e) (fun h' u tk hk => ⟨.str _, H, I.kept (t' := tk) hk, ⟨u, rfl⟩, q⟩) sz
  | tup h r =>
    obtain ⟨as, rd⟩ := Dp.reads I (.tuple _) _ u (.tup h r) rx
    cases rx
    exact repr_of_reads' rd sh (PyData.noDict_hsm (Dp.plain (.tup h r))) calm (by omega) (fun _ _ e => e) (fun h' u tk hk => ⟨.str _, H, I.kept (t' := tk) hk, ⟨u, rfl⟩, q⟩) sz
/-- str(x) of what stands by itself -/
def strV : V → Option Str
  | .non => some "None"
  | .bl b => some (if b then "True" else "False")
  | .int i => if i.natAbs.log2 < 1920 then some (toString i) else none
  | .str z => some z
  | _ => none
theorem call_strV : CallR X (.type "str") (fun xs H Q => ∃ v z, xs = [v] ∧ strV v = some z ∧ Q (.str z) H) := by
  intro pins s σ H xs us Q I r h
  obtain ⟨v, z, rfl, hz, q⟩ := h
  obtain ⟨u, rfl, rx⟩ := vals1 r
  cases v with
  | non => cases hz; cases rx; exact PySem.P.str_of_none ⟨.str _, H, I.tok _, ⟨_, rfl⟩, q⟩
  | bl b => cases hz; cases rx; exact PySem.P.str_of_bool ⟨.str _, H, I.tok _, ⟨_, rfl⟩, q⟩
  | int i =>
    obtain ⟨t, rfl⟩ := rx
    have hz' : (if i.natAbs.log2 < 1920 then some (Str.ofString (toString i)) else none) = some z := hz
    split at hz'
    · next hl => cases hz'; exact PySem.P.str_of_int hl ⟨.str _, H, I.tok _, ⟨_, rfl⟩, q⟩
    · cases hz'
  | str x => cases hz; obtain ⟨t, rfl⟩ := rx; exact PySem.P.str_of_str ⟨.str _, H, I, ⟨_, rfl⟩, q⟩
  | _ => cases hz
/-! ### t[::-1] -/
theorem places_rev (n : Nat) : Builtin.Slice.sliceAdjust none none (-1) (n : Int) = ((n : Int) - 1, -1) ∧ Builtin.Slice.slicePlaces ((n : Int) - 1) (-1) (-1) = n := by
  refine ⟨rfl, ?_⟩
  unfold Builtin.Slice.slicePlaces
  have h1 : ¬ ((-1 : Int) > 0) := by decide
  rw [if_neg h1]
  split
  · rw [show (- -1 : Int) = 1 from rfl, Int.ediv_one]
    omega
  · omega
theorem pick_rev (xs : Array Value) : ((List.range xs.size).filterMap fun (m : Nat) => xs[(((xs.size : Int) - 1) + (m : Int) * (-1)).toNat]?) = xs.toList.reverse := by
  have e : ((List.range xs.size).filterMap fun (m : Nat) => xs[(((xs.size : Int) - 1) + (m : Int) * (-1)).toNat]?) = ((List.range xs.size).map fun m => xs.size - 1 - m).filterMap (xs[·]?) := by
    rw [List.filterMap_map]
    have gen : ∀ l : List Nat, (∀ m ∈ l, m < xs.size) → (l.filterMap fun (m : Nat) => xs[(((xs.size : Int) - 1) + (m : Int) * (-1)).toNat]?) = l.filterMap ((fun x => xs[x]?) ∘ fun m => xs.size - 1 - m) := by
      intro l
      induction l with
      | nil => intro _; rfl
      | cons m l ih =>
        intro h
        have hm := h m List.mem_cons_self
        have e : (((xs.size : Int) - 1) + (m : Int) * (-1)).toNat = xs.size - 1 - m := by omega
        rw [List.filterMap_cons, List.filterMap_cons, ih fun k hk => h k (List.mem_cons_of_mem _ hk), e]
        rfl
    exact gen _ fun m hm => List.mem_range.mp hm
  rw [e, PySem.W.krv_range, List.filterMap_reverse, PySem.W.krv_all]
theorem getItem_tuple_rev {prog : Program} {w : World} {A : Around} {E : Value → Shared → Prop} {s : Shared} {t sl : Addr} {items : Array Value} {vl vu vs : Value} {Q : Value → Shared → Prop} (ht : IsTup s.heap t items) (hs : s.heap.IsSliceOf sl vl vu vs) (pl : IsPart vl none) (pu : IsPart vu none) (ps : IsPart vs (some (-1)))
    (h : Q (.ref s.heap.objs.size) { s with heap := s.heap.push { cls := .type "tuple", data := .seq items.toList.reverse.toArray } })
    (hsz : items.size ≤ sizeLine) : wpAny (model prog w) A (getItem (.ref t) (.ref sl)) Q E s := by
  have htake : sizeOk (.seq items.toList.reverse.toArray) := by
    show items.toList.reverse.toArray.size ≤ sizeLine
    rw [List.size_toArray, List.length_reverse, Array.length_toList]
    exact hsz
  obtain ⟨os, hos, hcs, hds⟩ := id hs
  have hTs : s.TypeIs (.ref sl) "slice" := ⟨os, hos, hcs⟩
  unfold getItem
  try with_reducible refine wpAny_holding ?_
  first | refine wpAny_bind (wpAny_pure ?_) | skip
  refine wpAny_bind (wpAny_sequenceKey ht.typeIs (by decide) ?_)
  refine wpAny_bind (wpAny_callSpecial?_slot (name := Str.ofString "__getitem__") ht.typeIs PyProof.Rows.slot_tuple_getitem
    (wpAny_call_entry PyProof.Rows.slot_tuple_getitem ht.typeIs entry_tuple_getitem ?_ (args_tuple_getitem _ _)))
  show wpAny _ _ (Builtin.Tuple.tupleItemsOf (.ref t) >>= _) _ _ s
  refine wpAny_bind (tupleItemsOf_ ht ?_)
  refine wpAny_bind (wpAny_typeOf hTs ?_)
  rw [if_pos (by decide)]
  refine wpAny_bind ?_
  unfold Builtin.Slice.sliceApplied Builtin.Slice.sliceFields
  refine wpAny_bind (wpAny_bind (wpAny_field hos hds (x := vl) rfl (wpAny_bind (wpAny_field hos hds (x := vu) rfl (wpAny_bind (wpAny_field hos hds (x := vs) rfl (wpAny_pure ?_)))))))
  refine wpAny_bind (HT.slicePart_ ps ?_)
  show wpAny _ _ (if ((-1 : Int) == 0) = true then _ else _) _ _ s
  rw [if_neg (by decide)]
  refine wpAny_bind (HT.slicePart_ pl (wpAny_bind (HT.slicePart_ pu (wpAny_bind (wpAny_pure ?_)))))
  show wpAny _ _ (match Builtin.Slice.sliceAdjust none none (-1) (items.size : Int) with | (lo, hi) => pure (lo, (-1 : Int), Builtin.Slice.slicePlaces lo hi (-1))) _ _ s
  rw [(places_rev _).1]
  show wpAny _ _ (pure (((items.size : Int) - 1), (-1 : Int), Builtin.Slice.slicePlaces ((items.size : Int) - 1) (-1) (-1))) _ _ s
  rw [(places_rev _).2]
  refine wpAny_pure ?_
  show wpAny _ _ (if (((items.size : Int) - 1) == 0 && (-1 : Int) == 1 && items.size == items.size) = true then _ else _) _ _ s
  rw [if_neg (by rw [show ((-1 : Int) == 1) = false from rfl, Bool.and_false, Bool.false_and]; decide), pick_rev]
  first
    | exact wpAny_bind (m := Builtin.Tuple.tupleExact _) (wpAny_newObj_type (wpAny_pure ⟨_, rfl, wpAny_pure h⟩) htake)
    | exact wpAny_bind (m := Builtin.Tuple.tupleExact _) (wpAny_newObj_type (wpAny_bind (wpAny_pure (wpAny_pure ⟨_, rfl, wpAny_pure h⟩))) htake)
    | exact wpAny_bind (wpAny_bind (m := Builtin.Tuple.tupleExact _) (wpAny_newObj_type (wpAny_pure (wpAny_pure ⟨_, rfl, wpAny_pure h⟩)) htake))
    | exact wpAny_bind (wpAny_bind (m := Builtin.Tuple.tupleExact _) (wpAny_newObj_type (wpAny_pure ⟨_, rfl, wpAny_pure h⟩) htake))
def tRevT (K : PySem.W.Frag) (te : TE) : TE := fun σ H Q => te σ H fun x H1 => ∃ a xs, x = .ref a ∧ SqT K H1 a xs ∧ ∀ p, H1 p = none → Q (.ref p) (upd H1 p (.tup xs.reverse))
theorem pe_revT {e : Expr} {te : TE} {k : Nat} {p1 p2 p3 pos : Pos} (he : PE X e te) : PE X (.Subscript e (.Slice none none (some (.UnaryOp .USub (.Constant (.int 1) k p1) p2)) p3) pos) (tRevT X.K te) := by
  refine ⟨fun pins s σ H Q I h => ?_⟩
  refine Subscript_ (thn (he.run pins s σ H _ I h) fun v s1 ⟨x, H1, I1, r1, q1⟩ => ?_)
  obtain ⟨a, xs, ex, hx, q⟩ := q1
  subst ex
  cases r1
  have hst : PO X (some (.UnaryOp .USub (.Constant (.int 1) k p1) p2)) (tPart (tUn (rU fun i => .int (-i)) (tC (.int 1)))) := po_some (pe_un un_neg pe_int)
  refine wpAny_Slice (thn (po_none.run pins s1 σ H1 (fun o H2 => o = none ∧ H2 = H1) I1 ⟨rfl, rfl⟩) fun vl s2 ⟨l, H2, I2, pl, el, e2⟩ => ?_)
  subst el e2
  refine thn (po_none.run pins s2 σ H2 (fun o H3 => o = none ∧ H3 = H2) I2 ⟨rfl, rfl⟩) fun vu s3 ⟨u, H3, I3, pu, eu, e3⟩ => ?_
  subst eu e3
  refine thn (hst.run pins s3 σ H3 (fun o H4 => o = some (-1) ∧ H4 = H3) I3 ⟨1, rfl, -1, rfl, rfl, rfl⟩) fun vs s4 ⟨o, H4, I4, ps, eo, e4⟩ => ?_
  subst eo e4
  have I5 : Inv X pins σ H4 { s4 with heap := s4.heap.push { cls := .type "slice", data := .fields #[vl, vu, vs] } } := I4.kept (t' := s4.toks) fun b ob q => Heap.get?_push_of_some _ q
  obtain ⟨its, r, ht, hz⟩ := I5.tuple hx
  have hlen := r.length
  show wpAny (model X.prog X.w) X.A (subscriptTail e (.Slice none none (some (.UnaryOp .USub (.Constant (.int 1) k p1) p2)) p3) (.ref a) (.ref s4.heap.objs.size)) (EP X pins σ Q) X.xe { s4 with heap := s4.heap.push { cls := .type "slice", data := .fields #[vl, vu, vs] } }
  refine tail_any (ops := [.ref a, .ref s4.heap.objs.size]) ht.typeIs (PyProof.Rows.slot_tuple_getitem.lookup) ?_ (by with_unfolding_all rfl)
  refine getItem_tuple_rev ht (Heap.IsSliceOf.new _ vl vu vs) pl pu ps ?_ (by rw [List.size_toArray]; omega)
  refine ⟨.ref _, _, I5.laid (t' := s4.toks) (o := .tup xs.reverse) (fun b ob q => Heap.get?_push_of_some _ q) (Nat.le_refl _) ?_, rfl, q _ (I5.hok.fresh (Nat.le_refl _))⟩
  exact ⟨by rw [List.length_reverse]; exact hz, _, r.reverse, IsTup.new _ _⟩
end
section
variable {K : PySem.W.Frag} {n : Nat} {J : Jv n}
def fRevT (a : FE) : FE := fun ρ P => a ρ fun d ρ1 => tupleF d fun ds => P (.tuple ds.reverse) ρ1
theorem re_revT {te : TE} {a : FE} (ha : RE K J te a) : RE K J (tRevT K te) (fRevT a) := by
  intro O as σ H Q ρ P E q k
  refine ha O as σ H _ ρ _ E q fun d ρ1 v H1 q1 f1 E1 d1 => ?_
  unfold tupleF at q1
  split at q1
  · obtain ⟨a, xs, rfl, s, r⟩ := d1.tuple_of
    refine ⟨a, xs, rfl, SqT.mono hp_same s, fun p hp1 => ?_⟩
    have sm := Same.new (o := .tup xs.reverse) hp1
    exact k _ _ _ _ q1 (f1.trans (E1.frS sm)) (E1.grow sm) (.tup (SqT.of (hp_mk (E1.fresh1 hp1) upd_same)) ((r.mono (E1.hgrow sm)).rev))
  · exact q1.elim
def numD : PyData → Option Int
  | .int i => some i
  | .bool b => some (if b then 1 else 0)
  | _ => none
def oNumD (f : Int → Int → Int) : G2 := fun a b P => match numD a, numD b with
  | some i, some j => P (.int (f i j))
  | _, _ => False
theorem numD_of {H : Hp} {x : V} {a : PyData} (d : Dq K H x a) {i : Int} (h : numD a = some i) : numV x = some i := by
  cases d <;> first | cases h; rfl | cases h
theorem rr_num {f : Int → Int → Int} : RR K (rNum f) (oNumD f) := by
  intro A H Q x y a b P oc da db g k
  unfold oNumD at g
  split at g
  · next i j h1 h2 => exact ⟨i, j, numD_of da h1, numD_of db h2, k _ _ _ g (Same.refl _) (.int _)⟩
  · exact g.elim
abbrev oAddN : G2 := oNumD (· + ·)
abbrev oSubN : G2 := oNumD (· - ·)
def bReprV (ds : List PyData) (P : PyData → Prop) : Prop := one ds fun d => d.hasDict = false ∧ d.showable = true ∧ d.depth ≤ 60 ∧ d.shown.length ≤ sizeLine ∧ P (.str d.shown)
theorem rb_reprV : RB K (fun xs H Q => ∃ (v : V) (d : PyData), xs = [v] ∧ Dp K H v d ∧ d.showable = true ∧ d.depth ≤ 60 ∧ d.shown.length ≤ sizeLine ∧ Q (.str d.shown) H) bReprV := by
  intro A H Q xs ds P oc r g k
  obtain ⟨v, d, rfl, q, g⟩ := one_of r g
  exact ⟨v, d, rfl, Dp.mono hp_same (q.dp g.1), g.2.1, g.2.2.1, g.2.2.2.1, k _ _ _ g.2.2.2.2 (Same.refl _) (.str _)⟩
def strD : PyData → Option Str
  | .none => some "None"
  | .bool b => some (if b then "True" else "False")
  | .int i => if i.natAbs.log2 < 1920 then some (toString i) else none
  | .str z => some z
  | _ => none
def bStrV (ds : List PyData) (P : PyData → Prop) : Prop := one ds fun d => ∃ z, strD d = some z ∧ P (.str z)
theorem rb_strV : RB K (fun xs H Q => ∃ v z, xs = [v] ∧ strV v = some z ∧ Q (.str z) H) bStrV := by
  intro A H Q xs ds P oc r g k
  obtain ⟨v, d, rfl, q, z, hz, g⟩ := one_of r g
  refine ⟨v, z, rfl, ?_, k _ _ _ g (Same.refl _) (.str _)⟩
  cases q <;> first | exact hz | cases hz
end
end DL
/-! sorted(places, key=lambda place: parts[place][1], reverse=True) -/
namespace DL
open PySem L2 Z PySem.Spec PyProof.Rows
section
variable {X : Cx} {pins : List (Addr × Obj)} {σ : L2.St} {H : Hp} {s : Shared}
/-- a lambda is made: but for the table, all stays -/
theorem lam_mk {T : List (Addr × Str)} {c P : Addr} {params : Arguments} {body : Expr} {scope : Scope} {pos : Pos} {E Q : Value → Shared → Prop} (I : Inv X pins σ H s) (TB : LamX.TabB X.base X.mg c P) (hcode : X.env.code = .ref c)
    (hm : (P, X.env.qual ++ "<lambda>") ∈ T) (hu : ∀ p ∈ T, p.1 = P → p.2 = X.env.qual ++ "<lambda>") (hT : LamX.Tabs T H) (hdef : defaultsOf params X.env = ([], [])) (hfree : ∀ y ∈ scope.names, y.2 = .free → ∃ c, X.env.cells.lookup y.1 = some c)
    (h : ∀ (f c' : Addr) (pm ctv : Value) (H1 : Hp) (s' : Shared), Inv X pins σ H1 s' → (∀ b o, b ≠ P → H b = some o → H1 b = some o) → LamX.Tabs T H1 →
      s'.heap.get? f = some (PySem.W.kla_obj "<lambda>" (X.env.qual ++ "<lambda>") params body scope (cloFrom X.env.cells scope.names []) pm c' ctv) → H1 c' = some (LamX.CodeO c' (X.env.qual ++ "<lambda>")) → Q (.ref f) s') :
    wpAny (model X.prog X.w) X.A (eval (.Lambda params body scope pos) X.env) Q E s := by
  obtain ⟨ps, hP, ht, ha⟩ := hT _ hm
  refine PySem.W.kla_eval hdef ?_
  have bP : s.heap.BuiltinsAt X.mg P := TB.bm.keeps I.bk
  have hP' : s.heap.get? P = some { cls := .none, data := .fields ps } := I.hok P _ hP
  cases hc : codeAmong pos ps.toList with
  | some cv =>
    obtain ⟨c', e, hco⟩ := ha pos cv hc
    subst e
    refine PySem.W.kla_makeFunctionHit (mg := X.mg) (c := c) (P := P) (ps := ps) (closure_ok hfree) I.ok.glob (I.mod.glob.keeps I.bk) hcode (TB.code.keeps I.bk) hP' ht hc bP fun ctv h' tk hx hsz => ?_
    exact h h'.objs.size c' ((X.mg "__name__").getD .none) ctv H _ (I.kept fun b o e => Heap.get?_push_of_some _ (hx b o e)) (fun _ _ _ e => e) hT (Heap.get?_push_size _ rfl) hco
  | none =>
    refine PySem.W.kla_makeFunction (mg := X.mg) (c := c) (P := P) (ps := ps) (closure_ok hfree) I.ok.glob (I.mod.glob.keeps I.bk) hcode (TB.code.keeps I.bk) hP' ht hc TB.gP bP fun c' ctv h' tk hx hge hlt hrec htb => ?_
    obtain ⟨c2, oc, vs, t, e2, hoc, hd, hv⟩ := hrec
    cases e2
    have nC : H c' = none := I.hok.fresh hge
    have J := LamX.inv_table (t' := tk) (more := #[rawInt pos.line, rawInt pos.col, .ref c']) (h' := h'.push (PySem.W.kla_obj "<lambda>" (X.env.qual ++ "<lambda>") params body scope (cloFrom X.env.cells scope.names []) ((X.mg "__name__").getD .none) c' ctv)) I hP
      (fun b o hb e => Heap.get?_push_of_some _ (hx b o hb e)) (Heap.get?_push_of_some _ htb) hge ⟨oc, vs, t, Heap.get?_push_of_some _ hoc, hd, hv⟩
    have keep : ∀ b o, b ≠ P → H b = some o → upd (upd H P (.tbl (ps ++ #[rawInt pos.line, rawInt pos.col, .ref c']))) c' (LamX.CodeO c' (X.env.qual ++ "<lambda>")) b = some o := fun b o hb e => by
      rw [upd_ne (ne_of_none e nC), upd_ne hb]
      exact e
    have eL : (ps ++ #[rawInt pos.line, rawInt pos.col, .ref c']).toList = ps.toList ++ [rawInt pos.line, rawInt pos.col, .ref c'] := by simp
    refine h h'.objs.size c' ((X.mg "__name__").getD .none) ctv _ _ J keep (fun p hp => ?_) (Heap.get?_push_size _ rfl) upd_same
    have known : ∀ {c0 : Addr} {q : Str}, H c0 = some (LamX.CodeO c0 q) → c0 ≠ P := fun {c0 q} e z => by
      rw [z, hP] at e
      exact LamX.codeO_ne _ (Option.some.inj e).symm
    by_cases hb : p.1 = P
    · rw [hu p hp hb, hb]
      refine ⟨_, by rw [upd_ne (ne_of_none hP nC), upd_same], by rw [eL]; exact PySem.TriplesOk_snoc _ _ _ _ ht, fun p' cv hcv => ?_⟩
      rw [eL] at hcv
      rcases LamX.among_app _ ht hcv with z | z
      · obtain ⟨c0, e1, e2⟩ := ha p' cv z
        exact ⟨c0, e1, keep _ _ (known e2) e2⟩
      · exact ⟨c', z, upd_same⟩
    · obtain ⟨ps', a1, a2, a3⟩ := hT p hp
      refine ⟨ps', keep _ _ hb a1, a2, fun p' cv hcv => ?_⟩
      obtain ⟨c0, e1, e2⟩ := a3 p' cv hcv
      exact ⟨c0, e1, keep _ _ (known e2) e2⟩
/-- all that stands in a heap but at L -/
def newsOf (h : Heap) (L : Addr) : List (Addr × Obj) := (List.range h.objs.size).filterMap fun a => if a = L then none else (h.get? a).map fun o => (a, o)
theorem mem_newsOf {h : Heap} {L b : Addr} {o : Obj} (hb : b ≠ L) (e : h.get? b = some o) : (b, o) ∈ newsOf h L :=
  List.mem_filterMap.mpr ⟨b, List.mem_range.mpr (Heap.lt_size e), by rw [if_neg hb, e]; rfl⟩
theorem of_newsOf {h : Heap} {L : Addr} {p : Addr × Obj} (hp : p ∈ newsOf h L) : p.1 ≠ L ∧ h.get? p.1 = some p.2 := by
  obtain ⟨a, _, e⟩ := List.mem_filterMap.mp hp
  split at e
  · cases e
  · next n =>
    cases q : h.get? a with
    | none => rw [q] at e; cases e
    | some o => rw [q] at e; cases e; exact ⟨n, q⟩
theorem ns_one {h : Heap} {L : Addr} {m m' : Str → Option Value} (a : h.Ns L m) (b : h.Ns L m') : m' = m := by
  obtain ⟨o, es, ep, e1, e2, _, e3⟩ := a
  obtain ⟨o', es', ep', f1, f2, _, f3⟩ := b
  rw [e1] at f1
  cases f1
  rw [e2] at f2
  cases f2
  funext n
  exact (f3 n).symm.trans (e3 n)
/-- the heap read anew, but for the frame's names, with one more object -/
theorem inv_again {h' : Heap} {tk : Nat} {m : Str → Option Value} {H' : Hp} (I : Inv X pins σ H s) (hm : s.heap.Ns X.env.locals m) (hn : h'.Ns X.env.locals m) (kp : ∀ b o, b ≠ X.env.locals → s.heap.get? b = some o → h'.get? b = some o)
    (old : ∀ b o, s.heap.get? b = some o → H' b = H b) (ok : ∀ b u, H' b = some u → s.heap.get? b = none → ObjOk X.prog X.w H' h' b u) : Inv X pins σ H' { s with heap := h', toks := tk } := by
  have sm : ∀ b u, H b = some u → H' b = some u := fun b u e => by
    cases q : s.heap.get? b with
    | none => rw [I.hok.gone q] at e; cases e
    | some o => rw [old b o q]; exact e
  have nL : ∀ b u, H b = some u → b ≠ X.env.locals := fun b u e z => by
    rw [z, I.free] at e
    cases e
  refine I.step (g' := s.gens) (d' := s.drawn) (ch := []) (fun b hb => absurd hb (by simp)) (fun b o hb _ _ e _ => kp b o hb e) (fun b o hb _ _ e _ => ⟨o.slots, kp b o hb e⟩) (fun b o _ e n => by rw [old b o e]; exact n) (fun b o _ e => ?_) (fun b xs e => sm b _ e) (fun b o u e => sm b _ e)
    (fun b ps e => ⟨#[], by rw [sm b _ e]; simp⟩) (fun m' hn' => by rw [ns_one hm hn']; exact hn) (fun b u e => ?_) I.bare
  · by_cases hb : b = X.env.locals
    · obtain ⟨o', _, _, e', _⟩ := hn
      rw [hb]
      exact ⟨o', e'⟩
    · exact ⟨o, kp b o hb e⟩
  · cases q : s.heap.get? b with
    | none => exact ok b u e q
    | some o =>
      rw [old b o q] at e
      refine (I.hok b u e).stay (fun d v hd z => kp d v ?_ z) (fun d z => sm d _ z) fun d xs z => sm d _ z
      rcases hd with z' | z'
      · rw [z']; exact nL b u e
      · exact nL d _ z'
/-- what a lambda by one name asks -/
structure Lam1 (sc scope : Scope) (px x : Str) : Prop where
  kind : scope.kind = .function
  co : scope.isCoroutine = false
  gen : scope.isGenerator = false
  nocell : ∀ y ∈ scope.names, y.2 ≠ .cell
  here : scope.names.lookup x = some .local
  caught : scope.names.lookup px = some .free
  cell : sc.names.lookup px = some .cell
  free : ∀ y ∈ scope.names, y.2 = .free → sc.names.lookup y.1 = some .cell ∨ sc.names.lookup y.1 = some .free
def lam1B (sc scope : Scope) (px x : Str) : Bool :=
  decide (scope.kind = .function) && !scope.isCoroutine && !scope.isGenerator && decide (scope.names.lookup x = some .local) && decide (scope.names.lookup px = some .free) && decide (sc.names.lookup px = some .cell) &&
    scope.names.all fun y => !decide (y.2 = .cell) && (!decide (y.2 = .free) || decide (sc.names.lookup y.1 = some .cell) || decide (sc.names.lookup y.1 = some .free))
theorem lam1_by {sc scope : Scope} {px x : Str} (h : lam1B sc scope px x = true) : Lam1 sc scope px x := by
  unfold lam1B at h
  simp only [Bool.and_eq_true, Bool.or_eq_true, Bool.not_eq_true', decide_eq_true_eq, decide_eq_false_iff_not, List.all_eq_true] at h
  obtain ⟨⟨⟨⟨⟨⟨h1, h2⟩, h3⟩, h4⟩, h5⟩, h6⟩, h7⟩ := h
  refine ⟨h1, h2, h3, fun y hy => (h7 y hy).1, h4, h5, h6, fun y hy e => ?_⟩
  rcases (h7 y hy).2 with (z | z) | z
  · exact absurd e z
  · exact .inl z
  · exact .inr z
theorem Lam1.has {scope : Scope} {px x : Str} (L : Lam1 X.env.scope scope px x) (ok : X.Ok) : ∀ y ∈ scope.names, y.2 = .free → ∃ c, X.env.cells.lookup y.1 = some c := fun y hy e => by
  rcases L.free y hy e with k | k
  · exact ok.has _ (.inl k)
  · exact ok.has _ (.inr k)
/-- one asking of the key: all stays -/
theorem key_run {A : Around} {R : Result → Shared → Prop} {f c' pa : Addr} {pm ctv : Value} {params : Arguments} {scope : Scope} {px x : Str} {p1 p2 p3 p4 p5 : Pos} {j jp : Nat} {n k : Int} {t : Tok} {vps xs : List V} {q : Addr} (I : Inv X pins σ H s) (L : Lam1 X.env.scope scope px x) (hroom : A.depth < recursionLimit)
    (hbind : ∀ (q : Str) (cl : List (Str × Addr)) (pm cv ctv u : Value), bindArgs (PySem.W.kla_fn "<lambda>" q params (.Subscript (.Subscript (.Name px p1) (.Name x p2) p3) (.Constant (.int 1) j p4) p5) scope cl pm cv ctv) ⟨[u], []⟩ = pure [(x, u)])
    (hf : s.heap.get? f = some (PySem.W.kla_obj "<lambda>" (X.env.qual ++ "<lambda>") params (.Subscript (.Subscript (.Name px p1) (.Name x p2) p3) (.Constant (.int 1) j p4) p5) scope (cloFrom X.env.cells scope.names []) pm c' ctv)) (hc : H c' = some (LamX.CodeO c' (X.env.qual ++ "<lambda>")))
    (hN : X.N[jp]? = some px) (hσ : σ[jp]? = some (some (.ref pa))) (hp : SqL X.K H pa vps) (h0 : 0 ≤ n) (hv : vps[n.toNat]? = some (.ref q)) (hq : SqT X.K H q xs) (hx : xs[1]? = some (.int k))
    (h : ∀ h' tk t', (∀ b o, s.heap.get? b = some o → h'.get? b = some o) → R (.ok (.ret (.int k t'))) { s with heap := h', toks := tk })
    (hd : (px == ("__debug__" : Str)) = false := by decide) (hcd : (px == ("__classdict__" : Str)) = false := by decide) (hd2 : (x == ("__debug__" : Str)) = false := by decide) :
    codeAny (model X.prog X.w) A (.call (.ref f) ⟨[.int n t], []⟩) R s := by
  obtain ⟨⟨oc, vs, tt, hoc, hdc, hvc⟩, _, _⟩ := I.hok c' _ hc
  obtain ⟨m, hn, hl⟩ := I.loc
  obtain ⟨u, r, lk⟩ := hl jp px _ hN hσ (.inr (.inl L.cell))
  cases r
  rcases lk with ⟨hk, _⟩ | ⟨_, cc, hcc, hcell⟩
  · have hk : X.env.scope.names.lookup px = some .local := hk
    rw [L.cell] at hk
    cases hk
  obtain ⟨its, ri, pl, hz⟩ := I.list hp
  obtain ⟨w1, ew1, rw1⟩ := ri.get hv
  cases rw1
  obtain ⟨jts, rj, pt, hz2⟩ := I.tuple hq
  obtain ⟨w2, ew2, rw2⟩ := rj.get hx
  obtain ⟨t2, rfl⟩ := rw2
  have hll := ri.length
  have hjl := rj.length
  have hn63 := line63
  have hlt : n.toNat < vps.length := (List.getElem?_eq_some_iff.mp hv).1
  have hlt2 : 1 < xs.length := (List.getElem?_eq_some_iff.mp hx).1
  refine PySem.W.kla_callFunE hroom hf rfl L.co L.gen rfl ⟨c', oc, vs, tt, rfl, hoc, hdc, hvc⟩ ?_
  rw [hbind]
  refine wpAny_pure (wpAny_newFunctionEnv L.nocell (fun y hy => by rw [List.mem_singleton.mp hy]; exact L.here) (fun h₁ hns hsb => ⟨I.nolimit.fresh _ hsb, ?_⟩) L.kind)
  show codeAny _ _ (.expr _ (LamX.lamEnv X scope s.heap.objs.size f c')) _ _
  have kp : ∀ b o, s.heap.get? b = some o → h₁.get? b = some o := fun b o e => hsb.extBut b o (Nat.ne_of_lt (Heap.lt_size e)) (Heap.get?_push_of_some _ e)
  have hcl : (cloFrom X.env.cells scope.names []).lookup px = some cc := by
    obtain ⟨c1, h1⟩ := mem_lookup (cloFrom_has (cells := X.env.cells) (acc := []) (PySem.mem_of_lookup L.caught))
    rcases cloFrom_mem (PySem.mem_of_lookup h1) with z | ⟨_, z⟩
    · cases z
    · rw [h1, z, hcc]
      rfl
  have cellK : h₁.IsCell cc (some (.ref pa)) := by
    obtain ⟨o, ho, hd⟩ := hcell
    exact ⟨o, kp _ _ ho, hd⟩
  have pl1 : h₁.IsList pa its.toArray := by
    obtain ⟨o, e, r⟩ := pl.isList
    exact ⟨o, kp _ _ e, r⟩
  have pt1 : IsTup h₁ q jts.toArray := by
    obtain ⟨o, e, r⟩ := pt
    exact ⟨o, kp _ _ e, r⟩
  refine PySem.W.kla_codeExpr (Subscript_ (Subscript_ (wpAny_Name (wpAny_loadName_free L.kind L.caught hcl cellK ?_ hcd) hd)))
  refine wpAny_Name (wpAny_loadName_local L.kind L.here hns (v := .int n t) (by show ([(x, Value.int n t)].reverse.lookup x) = _; simp) ?_) hd2
  refine item_listR pl1 h0 (by omega) (x := .ref q) (by simpa using ew1) ?_ rfl
  refine wpAny_Constant_int ?_
  exact subscriptTail_builtinR (x := .int k t2) pt1.typeIs slot_tuple_getitem.lookup (getItem_tuple (j := 1) (Q := fun r s' => r = .int k t2 ∧ R (.ok (.ret r)) s') pt1 (by decide) (by decide) (by rw [List.size_toArray, ← hjl]; unfold seqIndex?; simp; omega) (by simpa using ew2) ⟨rfl, h _ _ _ kp⟩) rfl
/-- sorted(l, key=.., reverse=True) -/
theorem sorted_lam {f c' l pa : Addr} {pm ctv : Value} {params : Arguments} {scope : Scope} {px x : Str} {p1 p2 p3 p4 p5 : Pos} {j jp : Nat} {ns : List Int} {g : Int → Int} {vps : List V} {Q : VK} (I : Inv X pins σ H s) (L : Lam1 X.env.scope scope px x) (hr : Room 3 X.A)
    (hbind : ∀ (q : Str) (cl : List (Str × Addr)) (pm cv ctv u : Value), bindArgs (PySem.W.kla_fn "<lambda>" q params (.Subscript (.Subscript (.Name px p1) (.Name x p2) p3) (.Constant (.int 1) j p4) p5) scope cl pm cv ctv) ⟨[u], []⟩ = pure [(x, u)])
    (hf : s.heap.get? f = some (PySem.W.kla_obj "<lambda>" (X.env.qual ++ "<lambda>") params (.Subscript (.Subscript (.Name px p1) (.Name x p2) p3) (.Constant (.int 1) j p4) p5) scope (cloFrom X.env.cells scope.names []) pm c' ctv)) (hc : H c' = some (LamX.CodeO c' (X.env.qual ++ "<lambda>")))
    (hs : SqL X.K H l (ns.map V.int)) (hN : X.N[jp]? = some px) (hσ : σ[jp]? = some (some (.ref pa))) (hp : SqL X.K H pa vps) (hx : ∀ n ∈ ns, 0 ≤ n ∧ ∃ q xs, vps[n.toNat]? = some (.ref q) ∧ SqT X.K H q xs ∧ xs[1]? = some (.int (g n)))
    (q : ∀ (ns' : List Int) (p : Addr), ns'.Perm ns → ns'.Pairwise (fun x y => g y ≤ g x) → (∀ z, ns'.filter (fun x => g x == z) = ns.filter (fun x => g x == z)) → H p = none → Q (.ref p) (upd H p (.lst (ns'.map V.int))))
    (hd : (px == ("__debug__" : Str)) = false := by decide) (hcd : (px == ("__classdict__" : Str)) = false := by decide) (hd2 : (x == ("__debug__" : Str)) = false := by decide) :
    wpAny (model X.prog X.w) X.A (call (.builtin "sorted") [.ref l] [(Str.ofString "key", .ref f), (Str.ofString "reverse", .bool true)]) (EP X pins σ Q) X.xe s := by
  obtain ⟨its, rv, pl, hz⟩ := I.list hs
  have hi := rv.ints
  obtain ⟨m, hm, _⟩ := I.loc
  have hz' : ns.length ≤ sizeLine := by rw [List.length_map] at hz; exact hz
  have gone : ∀ b, (⟨#[], {}⟩ : Heap).get? b = none := fun b => Heap.get?_none_of_le (Nat.zero_le b)
  have kept : ∀ {h : Heap} {own : List (Addr × Obj)}, News ⟨#[], {}⟩ X.env.locals h (newsOf s.heap X.env.locals ++ own) → ∀ b o, b ≠ X.env.locals → s.heap.get? b = some o → h.get? b = some o := fun N b o hb e => (N (b, o) (List.mem_append_left _ (mem_newsOf hb e))).1
  refine ksk_letterSt (h₀ := ⟨#[], {}⟩) (L := X.env.locals) (m := m) (news := newsOf s.heap X.env.locals) (b := true) (ns := ns) (f := .ref f) (kw := [(Str.ofString "key", .ref f), (Str.ofString "reverse", .bool true)]) g
    ⟨hm, fun b o e => (by rw [gone] at e; cases e), Nat.zero_le _⟩ (fun p hp => ⟨(of_newsOf hp).2, (of_newsOf hp).1, gone _⟩) pl.isList hi hz' (ksk_s2 _ _ _) (fun _ => ksk_l2 _ _ _) (fun x => ksk_t2 f x true) (fun n t h tk own hn F N => ?_) fun D vs' ns' c h' tk F N lt hI hlen hP hO _ hS => ?_
  · have J : Inv X pins σ H { s with heap := h, toks := tk } := inv_again I hm F.ns (kept N) (fun _ _ _ => rfl) fun b u e z => by
      rw [I.hok.gone z] at e
      cases e
    have nfl : f ≠ X.env.locals := fun z => by
      obtain ⟨o, es, ep, e1, e2, _⟩ := hm
      rw [z, e1] at hf
      cases hf
      cases e2
    obtain ⟨h0, qa, xs, e1, e2, e3⟩ := hx n hn
    refine wpAny_call (codeAny_mono (key_run (R := fun r s' => ∃ v, r = .ok (.ret v) ∧ KskEnd ⟨#[], {}⟩ X.env.locals m (newsOf s.heap X.env.locals ++ own) (g n) { s with heap := h, toks := tk } v s') J L (hr.in1.in1).depth hbind (kept N f _ nfl hf) hc hN hσ hp h0 e1 e2 e3 (fun h2 tk2 t2 kp => ?_) hd hcd hd2) fun r s' hq => ?_)
    · refine ⟨_, rfl, h2, tk2, t2, rfl, rfl, ⟨?_, fun b o e => (by rw [gone] at e; cases e), Nat.zero_le _⟩, fun p hp => ⟨kp _ _ (N p hp).1, (N p hp).2⟩⟩
      obtain ⟨o, es, ep, e1, r⟩ := F.ns
      exact ⟨o, es, ep, kp _ _ e1, r⟩
    · obtain ⟨v, rfl, k⟩ := hq
      exact k
  · have nD : D ≠ X.env.locals := (N _ (.head _)).2.1
    have oldD : s.heap.get? D = none := by
      cases e : s.heap.get? D with
      | none => rfl
      | some o => exact absurd (lt (D, o) (mem_newsOf nD e)) (Nat.lt_irrefl _)
    have hD : H D = none := I.hok.gone oldD
    refine ⟨.ref D, upd H D (.lst (ns'.map V.int)), inv_again I hm F.ns (fun b o hb e => (N (b, o) (List.mem_cons_of_mem _ (mem_newsOf hb e))).1) (fun b o e => ?_) (fun b u e z => ?_), rfl, q ns' D hP hO hS hD⟩
    · rw [upd_ne]
      rintro rfl
      rw [oldD] at e
      cases e
    · by_cases hb : b = D
      · rw [hb, upd_same] at e
        cases e
        rw [hb]
        exact ⟨by rw [List.length_map, hlen]; exact hz', vs', c, vals_of_ints hI, (N _ (.head _)).1⟩
      · rw [upd_ne hb, I.hok.gone z] at e
        cases e
def SortQ (T : List (Addr × Str)) (K : PySem.W.Frag) (jp : Nat) (σ : L2.St) (Q : VK) : List V → Hp → Prop
  | [v], H1 => ∃ (l pa : Addr) (ns : List Int) (vps : List V) (g : Int → Int), v = .ref l ∧ SqL K H1 l (ns.map V.int) ∧ σ[jp]? = some (some (.ref pa)) ∧ SqL K H1 pa vps ∧
    (∀ n ∈ ns, 0 ≤ n ∧ ∃ q xs, vps[n.toNat]? = some (.ref q) ∧ SqT K H1 q xs ∧ xs[1]? = some (.int (g n))) ∧ LamX.Tabs T H1 ∧
    ∀ H2, (∀ b o, (∀ p ∈ T, p.1 ≠ b) → H1 b = some o → H2 b = some o) → LamX.Tabs T H2 → ∀ (ns' : List Int) (p : Addr), ns'.Perm ns → ns'.Pairwise (fun x y => g y ≤ g x) → (∀ z, ns'.filter (fun x => g x == z) = ns.filter (fun x => g x == z)) → H2 p = none →
      Q (.ref p) (upd H2 p (.lst (ns'.map V.int)))
  | _, _ => False
def tSortLam (T : List (Addr × Str)) (K : PySem.W.Frag) (jp : Nat) (ta : TE) : TE := fun σ H Q => ta σ H fun v H1 => SortQ T K jp σ Q [v] H1
theorem sqL_out {K : PySem.W.Frag} {H H' : Hp} {T : List (Addr × Str)} {a : Addr} {xs : List V} (t : LamX.Tabs T H) (e : ∀ b o, (∀ p ∈ T, p.1 ≠ b) → H b = some o → H' b = some o) (h : SqL K H a xs) : SqL K H' a xs := by
  have no : ∀ o, H a = some o → (∀ ps, o ≠ .tbl ps) → ∀ p ∈ T, p.1 ≠ a := fun o h n p hp z => by
    obtain ⟨ps, h1, _⟩ := t p hp
    rw [z, h] at h1
    exact n ps (Option.some.inj h1)
  rcases h with (h | ⟨o, h⟩) | h
  · exact .inl (.inl (e _ _ (no _ h fun _ z => by cases z) h))
  · exact .inl (.inr ⟨o, e _ _ (no _ h fun _ z => by cases z) h⟩)
  · exact .inr h
theorem sqT_out {K : PySem.W.Frag} {H H' : Hp} {T : List (Addr × Str)} {a : Addr} {xs : List V} (t : LamX.Tabs T H) (e : ∀ b o, (∀ p ∈ T, p.1 ≠ b) → H b = some o → H' b = some o) (h : SqT K H a xs) : SqT K H' a xs := by
  have no : ∀ o, H a = some o → (∀ ps, o ≠ .tbl ps) → ∀ p ∈ T, p.1 ≠ a := fun o h n p hp z => by
    obtain ⟨ps, h1, _⟩ := t p hp
    rw [z, h] at h1
    exact n ps (Option.some.inj h1)
  rcases h with h | h
  · first
      | exact .inl (e _ _ (no _ h fun _ z => by cases z) h)
      | (rcases h with h | ⟨o, h⟩
         · exact .inl (.inl (e _ _ (no _ h fun _ z => by cases z) h))
         · exact .inl (.inr ⟨o, e _ _ (no _ h fun _ z => by cases z) h⟩))
  · exact .inr h
theorem pe_sortLam {T : List (Addr × Str)} {c P : Addr} {params : Arguments} {scope : Scope} {px x : Str} {p p1 p2 p3 p4 p5 lpos kp1 kp2 pos cp : Pos} {j j2 jp : Nat} {a : Expr} {ta : TE} (hg : Gl X "sorted") (hmg : X.mg "sorted" = none) (TB : LamX.TabB X.base X.mg c P) (hcode : X.env.code = .ref c)
    (hm : (P, X.env.qual ++ "<lambda>") ∈ T) (hu : ∀ p ∈ T, p.1 = P → p.2 = X.env.qual ++ "<lambda>") (L : Lam1 X.env.scope scope px x) (hr : Room 3 X.A) (hdef : defaultsOf params X.env = ([], []))
    (hbind : ∀ (q : Str) (cl : List (Str × Addr)) (pm cv ctv u : Value), bindArgs (PySem.W.kla_fn "<lambda>" q params (.Subscript (.Subscript (.Name px p1) (.Name x p2) p3) (.Constant (.int 1) j p4) p5) scope cl pm cv ctv) ⟨[u], []⟩ = pure [(x, u)])
    (hN : X.N[jp]? = some px) (ha : PE X a ta) (hd : (px == ("__debug__" : Str)) = false := by decide) (hcd : (px == ("__classdict__" : Str)) = false := by decide) (hd2 : (x == ("__debug__" : Str)) = false := by decide)
    (he : backTo pos (starEach [a] X.env) = (false, eval a X.env) :: backTo pos (starEach [] X.env) := by rfl) (hst : starEach [a] X.env = (false, eval a X.env) :: starEach [] X.env := by rfl) (hpl : (backTo pos (starEach [a] X.env)).any (·.1) = false := by rfl) :
    PE X (.Call (.Name "sorted" p) [a] [⟨some "key", .Lambda params (.Subscript (.Subscript (.Name px p1) (.Name x p2) p3) (.Constant (.int 1) j p4) p5) scope lpos, kp1⟩, ⟨some "reverse", .Constant (.bool true) j2 cp, kp2⟩] pos) (tSortLam T X.K jp ta) := by
  refine ⟨fun pins s σ H Q I h => ?_⟩
  refine wpAny_Call_Name_kw (ld_blt I hg hmg (u := .builtin "sorted") rfl ?_)
  refine PyProof.Rows.callWith_kw (thn ((pa_cons ha pa_nil hst).run pos pins s σ H (SortQ T X.K jp σ Q) I h) fun us s1 ⟨vs, H1, I1, r1, q1⟩ => ?_) he hpl rfl rfl
  match vs, r1, q1 with
  | [v], r1, q1 =>
    obtain ⟨l, pa, ns, vps, g, rfl, hl, hs, hp, hx, hT, k⟩ := q1
    obtain rfl := Vals.ref1 r1
    show wpAny _ _ (evalAll [(do let v ← eval (.Lambda params (.Subscript (.Subscript (.Name px p1) (.Name x p2) p3) (.Constant (.int 1) j p4) p5) scope lpos) X.env; standAt pos; pure v), (do let v ← eval (.Constant (.bool true) j2 cp) X.env; standAt pos; pure v)]) _ _ s1
    refine wpAny_evalAll_cons (wpAny_bind (lam_mk I1 TB hcode hm hu hT hdef (L.has I1.ok) fun f c' pm ctv H2 s2 I2 keep T2 hf hc => wpAny_bind (wpAny_standAt (wpAny_pure ?_))))
    refine wpAny_evalAll_cons (wpAny_bind (Constant_bool (wpAny_bind (wpAny_standAt (wpAny_pure (wpAny_evalAll_nil ?_))))))
    have keep' : ∀ b o, (∀ p ∈ T, p.1 ≠ b) → H1 b = some o → H2 b = some o := fun b o n e => keep b o (fun z => n _ hm z.symm) e
    exact sorted_lam I2 L hr hbind hf hc (sqL_out hT keep' hl) hN hs (sqL_out hT keep' hp) (fun n hn => by
      obtain ⟨h0, q, xs, e1, e2, e3⟩ := hx n hn
      exact ⟨h0, q, xs, e1, sqT_out hT keep' e2, e3⟩) (fun ns' p h1 h2 h3 h4 => k H2 keep' T2 ns' p h1 h2 h3 h4) hd hcd hd2
end
end DL
namespace DL
open PySem L2 Z PySem.Spec PyProof.Rows
variable [Tbs]
section
variable {K : PySem.W.Frag} {n : Nat} {J : Jv n}
/-- tables alone have changed -/
theorem EnR.tabs {O : Addr → Prop} {as : As} {H : Hs} {H' : Hp} {ρ : En} {σ : L2.St} (E : EnR K J O as H ρ σ) (k : ∀ b o, (∀ p ∈ Tbs.T, p.1 ≠ b) → H b = some o → H' b = some o) (t : TabsOk H') : EnR K J O as (H.w H') ρ σ ∧ Fr as H (H.w H') := by
  have st : Stay as H (H.w H') := ⟨fun i r b h q => by
    have nd := E.nod h q
    obtain ⟨o, e, _⟩ := id nd
    rw [e]
    exact k _ _ (fun p hp z => E.tab.nod nd ⟨p, hp, z⟩) e, rfl⟩
  have f : Fr as H (H.w H') := by
    refine ⟨fun b o nb e => k b o (fun p hp z => nb (.inr ⟨p, hp, z⟩)) e, fun a h => .inl (st.own.mp h), fun a h => ?_, fun _ => rfl⟩
    by_cases z : ∃ p ∈ Tbs.T, p.1 = a
    · obtain ⟨p, hp, z⟩ := z
      rw [← z]
      exact t.full hp
    · obtain ⟨o, e⟩ := Option.ne_none_iff_exists'.mp h
      show H' a ≠ none
      rw [k a o (fun p hp w => z ⟨p, hp, w⟩) e]
      exact Option.some_ne_none _
  exact ⟨E.keepS st f t, f⟩
/-- sorted(places, key=lambda place: parts[place][1], reverse=True) -/
def fSortLam (jp : Nat) (a : FE) : FA := fun ρ P => a ρ fun d ρ1 => ∃ (ns : List Int) (ds : List PyData) (g : Int → Int), d = .list (ns.map .int) ∧ ρ1[jp]? = some (.fz (.list ds)) ∧ (∀ n ∈ ns, 0 ≤ n ∧ ∃ es, ds[n.toNat]? = some (.tuple es) ∧ es[1]? = some (.int (g n))) ∧
  ∀ ns' : List Int, ns'.Perm ns → ns'.Pairwise (fun x y => g y ≤ g x) → (∀ z, ns'.filter (fun x => g x == z) = ns.filter (fun x => g x == z)) → P (ns'.map .int) ρ1
theorem rn_sortLam {jp : Nat} {ta : TE} {a : FE} (ha : RE K J ta a) : RN K J (tSortLam Tbs.T K jp ta) (fSortLam jp a) := by
  intro O as σ H Q ρ P E q k
  refine ha O as σ H _ ρ _ E q fun d ρ1 v H1 q1 f1 E1 d1 => ?_
  obtain ⟨ns, ds, g, rfl, hρ, hx, q1⟩ := q1
  obtain ⟨l, xs, rfl, sl, dl⟩ := d1.list_of
  obtain rfl := dl.ints_of
  obtain ⟨v, e1, e2, dv⟩ := E1.fz_at hρ
  obtain ⟨pa, vps, rfl, sp, dp⟩ := dv.list_of
  refine ⟨l, pa, ns, vps, g, rfl, SqL.mono hp_same sl, e1, SqL.mono hp_same sp, fun n hn => ?_, E1.tab, fun H2 keep T2 ns' p h1 h2 h3 h4 => ?_⟩
  · obtain ⟨h0, es, e3, e4⟩ := hx n hn
    obtain ⟨y, e5, dy⟩ := dp.got e3
    obtain ⟨q, ys, rfl, st, dt⟩ := dy.tuple_of
    obtain ⟨z, e6, dz⟩ := dt.got e4
    cases dz
    exact ⟨h0, q, ys, e5, SqT.mono hp_same st, e6⟩
  · obtain ⟨E2, f2⟩ := E1.tabs keep T2
    exact new_step (f1.trans f2) E2 (q1 ns' h1 h2 h3) h4 (DqAll.ints ns') k
end
end DL
namespace DL
open PySem L2 Z PySem.Spec PyProof.Rows
variable [Tbs]
section
variable {P : Program} {w : World} {K : PySem.W.Frag} {mg : Str → Option Value} {base : Heap} {k : Nat} {f : Addr} {fd : FuncData} {ps : List Str} {x qual : Str} {st : Stmt} {N : List Str}
/-- a def that raises, its code known -/
theorem okX0c {b : (PyData → En → Prop) → FS} (F : Fun K x qual st f fd) (S : FnScope N ps (defScope st))
    (body : ∀ (cdv : Value), fd.code = cdv → ∀ (A : Around) (outer : List Env) (s : Shared) (H : Hp) (E : XK), Room k (A.deeper (envOfC qual (defScope st) s.heap.objs.size f cdv)) →
      ∃ t : WX → TS, (∀ W, Takes (cxOf (L2.CX P w) P w K mg base N qual (defScope st) f cdv A outer s H E) W → PSs (cxOf (L2.CX P w) P w K mg base N qual (defScope st) f cdv A outer s H E) (defBody st) (t W)) ∧ ∀ (J : Jv ps.length) (X : PyData → En → Prop) (W : WX), Lk K J X W → RS K J (t W) (b X)) :
    FnOk P w K mg base (L2.CX P w) (k + 1) f fd ps (spX K ps.length (fnX ps.length N.length b)) := by
  obtain ⟨oc, od, kV, doc, pm, an, cdv, ct, osl, rfl, lk, hcd⟩ := F.ex
  refine fn_of lk hcd S (fun vs H Q E h => h.1) fun A outer s H vs Q E hr h => ?_
  obtain ⟨t, pt, rs⟩ := body cdv rfl A outer s H E hr
  exact ⟨_, pt _ (takes_of (E := E) rfl rfl rfl rfl), fn_coreX (scope_le S) rs h⟩
theorem okF0c {b : FS} (F : Fun K x qual st f fd) (S : FnScope N ps (defScope st))
    (body : ∀ (cdv : Value), fd.code = cdv → ∀ (A : Around) (outer : List Env) (s : Shared) (H : Hp) (E : XK), Room k (A.deeper (envOfC qual (defScope st) s.heap.objs.size f cdv)) →
      ∃ t, PSs (cxOf CX0 P w K mg base N qual (defScope st) f cdv A outer s H E).nox (defBody st) t ∧ ∀ J : Jv ps.length, RS K J t b) :
    FnOk P w K mg base CX0 (k + 1) f fd ps (spF K ps.length (fnF ps.length N.length b)) := by
  obtain ⟨oc, od, kV, doc, pm, an, cdv, ct, osl, rfl, lk, hcd⟩ := F.ex
  refine fn_of lk hcd S (fun vs H Q E h => h.1) fun A outer s H vs Q E hr h => ?_
  obtain ⟨t, pt, rs⟩ := body cdv rfl A outer s H E hr
  exact ⟨_, pt.nox, fn_core (scope_le S) rs h⟩
end
section
variable {K : PySem.W.Frag} {n : Nat} {J : Jv n}
/-- sum(own) -/
def fSumO (i : Nat) : FE := fun ρ P => ownF ρ i fun ds => intsF ds fun ns => P (.int ns.sum) ρ
theorem re_sumO {i : Nat} : RE K J (tCB (rSum K) (tCons (tVar i) tNil)) (fSumO i) := by
  intro O as σ H Q ρ P E q k
  obtain ⟨ds, h, q⟩ := ownF_of q
  obtain ⟨ns, e, g⟩ := intsF_of q
  subst e
  obtain ⟨p, xs, e1, e2, e3, e4⟩ := E.own_at h
  cases e4.ints_of
  exact ⟨_, e1, p, ns, rfl, SqL.of e3, k _ _ _ _ g (Fr.refl) E (.int _)⟩
end
/-- xs[i] -/
theorem get_list {X : Cx} : PGet X (rIxL X.K) := by
  intro pins s σ H x y v u Q I rx ry h
  obtain ⟨p, xs, i, z, rfl, rfl, hq, he, q⟩ := h
  cases rx
  obtain ⟨t, rfl⟩ := ry
  obtain ⟨its, r, pl, hz⟩ := I.list hq
  obtain ⟨j, h1, h2, h3, h4, h5⟩ := atI_get he
  obtain ⟨w, ew, rw'⟩ := r.get h2
  have hl := r.length
  have hn := line63
  have fin : EP X pins σ Q w s := ⟨z, H, I, rw', q⟩
  by_cases h0 : 0 ≤ i
  · have hj : i.toNat = j := by
      rw [seqIndex_of h0 h5] at h1
      exact Option.some.inj h1
    exact wpAny_getItem_list pl.isList h0 (by omega) (by rw [hj]; simpa using ew) fin
  · have hj : (i + (its.toArray.size : Int)).toNat = j := by
      rw [seqIndex_neg (by omega) h4] at h1
      rw [List.size_toArray, ← hl]
      exact Option.some.inj h1
    exact wpAny_getItem_list_neg pl.isList (by omega) (by rw [List.size_toArray] <;> omega) (by omega) (by rw [hj]; simpa using ew) fin
end DL
/-! sorted of pairs; a new list handed on at once; defs that raise or hand back a new list -/
namespace DL
open PySem L2 Z PySem.Spec PyProof.Rows
variable [Tbs]
/-! pairs of numbers, sorted -/
def PrAt (K : PySem.W.Frag) (H : Hp) (x : V) (p : Int × Int) : Prop := ∃ t, x = V.ref t ∧ SqT K H t [.int p.1, .int p.2]
inductive PrsAt (K : PySem.W.Frag) (H : Hp) : List V → List (Int × Int) → Prop
  | nil : PrsAt K H [] []
  | cons {x : V} {p : Int × Int} {xs : List V} {ps : List (Int × Int)} : PrAt K H x p → PrsAt K H xs ps → PrsAt K H (x :: xs) (p :: ps)
def lexLe (p q : Int × Int) : Prop := p.1 < q.1 ∨ (p.1 = q.1 ∧ p.2 ≤ q.2)
def rSortedPD (K : PySem.W.Frag) : List V → Hp → VK → Prop := fun vs H Q => ∃ (a : Addr) (xs : List V) (ps : List (Int × Int)), vs = [V.ref a] ∧ SqL K H a xs ∧ PrsAt K H xs ps ∧
  ∀ (zs : List (V × Int × Int)) p, zs.Perm (xs.zip ps) → zs.Pairwise (fun x y => lexLe x.2 y.2) → H p = none → Q (.ref p) (upd H p (.lst (zs.map (·.1))))
theorem zip_map_self {α β : Type} (k : α → β) : ∀ xs : List α, xs.zip (xs.map k) = xs.map fun x => (x, k x)
  | [] => rfl
  | x :: xs => by show (x, k x) :: xs.zip (xs.map k) = _; rw [zip_map_self k xs]; rfl
theorem PrsAt.all {K : PySem.W.Frag} {H : Hp} {k : V → Int × Int} (u : ∀ x p, PrAt K H x p → k x = p) : ∀ {xs : List V} {ps : List (Int × Int)}, PrsAt K H xs ps → ps = xs.map k ∧ ∀ x ∈ xs, PrAt K H x (k x)
  | _, _, .nil => ⟨rfl, fun _ h => by cases h⟩
  | _, _, .cons a b => by
    obtain ⟨e, r⟩ := PrsAt.all u b
    refine ⟨by rw [List.map_cons, u _ _ a, ← e], fun y hy => ?_⟩
    rcases List.mem_cons.mp hy with rfl | hy
    · rw [u _ _ a]; exact a
    · exact r y hy
section
variable {X : Cx}
theorem cr_sortedPD : CallR X (.builtin "sorted") (rSortedPD X.K) := by
  intro pins s σ H vs us Q I r h
  obtain ⟨a, xs, ps, rfl, hs, hx, q⟩ := h
  obtain ⟨its, rv, hl, hz⟩ := I.list hs
  obtain ⟨u, rfl, ru⟩ := vals1 r
  obtain rfl : u = Value.ref a := ru
  let kr : Value → Int × Int := fun u => ((TS.intsOf s.heap u).getD 0 0, (TS.intsOf s.heap u).getD 1 0)
  let k : V → Int × Int := fun x => match x with
    | .ref t => kr (.ref t)
    | _ => (0, 0)
  have raw : ∀ {t : Addr} {p : Int × Int}, SqT X.K H t [.int p.1, .int p.2] → TS.TupInts s.heap (.ref t) [p.1, p.2] := fun {t p} h => by
    obtain ⟨its, rv, hT, _⟩ := I.tuple h
    have rv' : Vals (([p.1, p.2] : List Int).map V.int) its := rv
    exact ⟨t, its.toArray, rfl, hT, by simpa using rv'.ints⟩
  have uq : ∀ x p, PrAt X.K H x p → k x = p := fun x p ⟨t, e, h⟩ => by
    subst e
    show kr (.ref t) = p
    have := (raw h).ints
    simp only [kr, this]
    rfl
  obtain ⟨eps, hall⟩ := hx.all uq
  obtain ⟨e1, e2⟩ := refs_back rv fun x m => by
    obtain ⟨t, e, _⟩ := hall x m
    exact ⟨t, e⟩
  refine SrtO.sorted_pairsO (k := kr) hl.isList (by rw [← rv.length]; exact hz) (fun v hv => ?_) fun h' d out h1 h2 kp hd hn => ?_
  · obtain ⟨t, rfl⟩ := e2 v hv
    have hm : V.ref t ∈ xs := by rw [e1]; exact List.mem_map.mpr ⟨_, hv, rfl⟩
    obtain ⟨t', e, ht⟩ := hall _ hm
    cases e
    obtain ⟨its2, r2, ⟨o, ho, hc, n, hd⟩, _⟩ := I.tuple ht
    obtain ⟨u1, u2, rfl, ri, rj⟩ := vals2 r2
    obtain ⟨t1, rfl⟩ := ri
    obtain ⟨t2, rfl⟩ := rj
    exact ⟨t, o, t1, t2, n, rfl, ho, hc, hd⟩
  · have h3 : ∀ u ∈ out, ∃ a, u = Value.ref a := fun u hu => e2 u (h2.perm.mem_iff.mp hu)
    obtain ⟨n, hn⟩ := hn
    have kk : ∀ u ∈ out, k (backV u) = kr u := fun u hu => by
      obtain ⟨t, rfl⟩ := h3 u hu
      rfl
    have pm : (out.map backV).Perm xs := by rw [e1]; exact h2.perm.map backV
    have ez : xs.zip ps = xs.map fun x => (x, k x) := by rw [eps]; exact zip_map_self k xs
    have em : ((out.map backV).map fun x => (x, k x)).map (·.1) = out.map backV := by rw [List.map_map]; exact List.map_id _
    refine ⟨.ref d, upd H d (.lst (out.map backV)), I.laid (t' := s.toks) kp hd ⟨?_, out, n, vals_back h3, hn⟩, rfl, ?_⟩
    · rw [pm.length_eq]; exact hz
    · rw [← em]
      refine q ((out.map backV).map fun x => (x, k x)) d (by rw [ez]; exact pm.map _) ?_ (I.hok.fresh hd)
      rw [List.map_map, List.pairwise_map]
      refine List.Pairwise.imp_of_mem (fun {u v} hu hv huv => ?_) h1
      have : SrtO.lexB (kr v) (kr u) = false := huv
      show lexLe (k (backV u)) (k (backV v))
      rw [kk u hu, kk v hv]
      have := SrtO.lexB_no.mp this
      unfold lexLe
      omega
end
section
variable {K : PySem.W.Frag} {n : Nat} {J : Jv n}
abbrev prD (p : Int × Int) : PyData := .tuple [.int p.1, .int p.2]
theorem prs_of {G : Hp} : ∀ {ps : List (Int × Int)} {xs : List V}, DqAll K G xs (ps.map prD) → PrsAt K G xs ps
  | [], _, .nil => .nil
  | p :: ps, _, .cons a b => by
    obtain ⟨t, ys, rfl, s, r⟩ := a.tuple_of
    refine .cons ⟨t, rfl, ?_⟩ (prs_of b)
    cases r with
    | cons r1 r =>
      cases r with
      | cons r2 r => cases r; cases r1; cases r2; exact s
/-- data that is a list of pairs of numbers -/
def prsF (es : List PyData) (k : List (Int × Int) → Prop) : Prop := ∃ ps : List (Int × Int), es = ps.map prD ∧ k ps
theorem dq_zip {G : Hp} : ∀ {ps : List (Int × Int)} {xs : List V}, DqAll K G xs (ps.map prD) → ∀ z ∈ xs.zip ps, Dq K G z.1 (prD z.2)
  | [], _, .nil, _, h => by cases h
  | p :: ps, _, .cons a b, z, h => by
    rcases List.mem_cons.mp (show z ∈ _ :: _ from h) with rfl | h
    · exact a
    · exact dq_zip b z h
theorem dq_map {G : Hp} : ∀ {zs : List (V × Int × Int)}, (∀ z ∈ zs, Dq K G z.1 (prD z.2)) → DqAll K G (zs.map (·.1)) ((zs.map (·.2)).map prD)
  | [], _ => .nil
  | z :: zs, h => .cons (h z List.mem_cons_self) (dq_map fun y hy => h y (List.mem_cons_of_mem _ hy))
theorem prs_mono {H H' : Hp} (s : Same H H') : ∀ {xs : List V} {ps : List (Int × Int)}, PrsAt K H xs ps → PrsAt K H' xs ps
  | _, _, .nil => .nil
  | _, _, .cons ⟨t, e, h⟩ b => .cons ⟨t, e, SqT.mono s h⟩ (prs_mono s b)
def nSortP (ds : List PyData) (P : List PyData → Prop) : Prop := one ds fun d => listF d fun es => prsF es fun ps => ∀ qs : List (Int × Int), qs.Perm ps → qs.Pairwise lexLe → P (qs.map prD)
theorem rbn_sortP : RBN K (rSortedPD K) nSortP := by
  intro A H Q xs ds P r g k
  obtain ⟨v, d, rfl, q, g⟩ := one_of r g
  unfold listF at g
  split at g
  · obtain ⟨ps, e, g'⟩ := g
    subst e
    obtain ⟨a, ys, rfl, s, r⟩ := q.list_of
    have hl : ys.length = ps.length := by rw [r.length, List.length_map]
    refine ⟨a, ys, ps, rfl, SqL.mono hp_same s, prs_mono hp_same (prs_of r), fun zs p pm pw hp1 => ?_⟩
    refine k _ _ _ (g' (zs.map (·.2)) ?_ ?_) hp1 (dq_map fun z hz => dq_zip r z (pm.mem_iff.mp hz))
    · have := pm.map (·.2)
      rw [show (ys.zip ps).map (·.2) = ps from List.map_snd_zip (by omega)] at this
      exact this
    · rw [List.pairwise_map]
      exact pw
  · exact g.elim
/-! a new list handed on at once -/
theorem wb_app2 (ρ τ : En) : ∀ (ys : List Ar) (r : List Sl), (∀ i ∈ ownIx ys, i < ρ.length) → wb (ρ ++ τ) ys r = wb ρ ys r ++ τ
  | [], _, _ => rfl
  | .dat _ :: ys, r, h => by rw [wb, wb]; exact wb_app2 ρ τ ys r.tail h
  | .own i :: ys, r, h => by
    rw [wb, wb, wb_app2 ρ τ ys r.tail fun j hj => h j (List.mem_cons_of_mem _ hj), List.set_append_left]
    rw [wb_len]
    exact h i List.mem_cons_self
theorem Fits.moved {ρ ρ' : En} {n : Nat} (h : ∀ i, i < n → ρ'[i]? = ρ[i]?) : ∀ {ys : List Ar} {r : List Sl}, Fits ρ ys r → (∀ i ∈ ownIx ys, i < n) → Fits ρ' ys r
  | _, _, .nil, _ => .nil
  | _, _, .dat f, k => .dat (f.moved h k)
  | _, _, .own e f, k => .own (by rw [h _ (k _ List.mem_cons_self)]; exact e) (f.moved h fun j hj => k j (List.mem_cons_of_mem _ hj))
  | _, _, .st e f, k => .st (by rw [h _ (k _ List.mem_cons_self)]; exact e) (f.moved h fun j hj => k j (List.mem_cons_of_mem _ hj))
theorem ArsR.imp {G G' : Hp} {as as' : As} {n : Nat} (s : Same G G') (h : ∀ i, i < n → as' i = as i) : ∀ {vs : List V} {ys : List Ar}, ArsR K G as vs ys → (∀ i ∈ ownIx ys, i < n) → ArsR K G' as' vs ys
  | _, _, .nil, _ => .nil
  | _, _, .cons (.dat q) r, k => .cons (.dat (q.mono s)) (ArsR.imp s h r k)
  | _, _, .cons (.own q) r, k => .cons (.own (by rw [h _ (k _ List.mem_cons_self)]; exact q)) (ArsR.imp s h r fun j hj => k j (List.mem_cons_of_mem _ hj))
theorem ArsR.ix {O : Addr → Prop} {as : As} {H : Hs} {ρ : En} {σ : L2.St} (E : EnR K J O as H ρ σ) {G : Hp} : ∀ {vs : List V} {ys : List Ar}, ArsR K G as vs ys → ∀ i ∈ ownIx ys, i < σ.length
  | _, _, .nil, _, h => by cases h
  | _, _, .cons (.dat q) r, i, h => ArsR.ix E r i h
  | _, _, .cons (.own q) r, i, h => by
    rcases List.mem_cons.mp (show i ∈ _ :: _ from h) with rfl | h
    · obtain ⟨_, _, e, _⟩ := E.is_own q
      exact E.lt e fun _ z => by cases z
    · exact ArsR.ix E r i h
/-- a held list in a slot of its own, ahead of the store -/
theorem EnR.push {O : Addr → Prop} {as : As} {H : Hs} {ρ : En} {σ : L2.St} {p : Addr} {xs : List V} {ds : List PyData} {l : Nat} (E : EnR K J (plus O p) as H ρ σ) (hl : σ.length = l) (hp : H p = some (.lst xs)) (d : DqAll K (hq (plus O p) as H) xs ds) (np : ¬ O p) :
    EnR K (J0 : Jv 0) O (upA (shA as l (l + 1)) l (some (.lf p))) H (ρ.take l ++ [.own ds] ++ ρ.drop l) (σ ++ [some (.ref p)]) := by
  have E2 := E.more (J' := (J0 : Jv 0)) (N := l + 1) hl (Nat.le_succ _) trivial trivial
  rw [show l + 1 - l = 1 from by omega] at E2
  have L := E.len
  have tk : (ρ.take l).length = l := by rw [List.length_take]; omega
  have hS : Same (hq (plus O p) as H) (hq (plus O p) (shA as l (l + 1)) H) := hp_less fun a h => h.imp id fun h => by
    rcases h with ⟨j, r, hc, q⟩ | hc
    · unfold shA at hc
      split at hc
      · exact .inl ⟨j, r, hc, q⟩
      · split at hc
        · exact .inl ⟨l, r, hc, q⟩
        · cases hc
    · exact .inr hc
  have E3 := E2.setOwn (i := l) (p := p) (xs := xs) (ds := ds) trivial (by rw [List.length_append, hl]; exact Nat.lt_succ_self _) trivial hp (d.mono hS) np
  have e1 : (ρ.take l ++ List.replicate 1 Sl.no ++ ρ.drop l).set l (.own ds) = ρ.take l ++ [.own ds] ++ ρ.drop l := by
    rw [List.append_assoc, List.set_append_right _ _ (by omega), tk, Nat.sub_self, List.append_assoc]
    rfl
  have e2 : (σ ++ List.replicate 1 none).set l (some (.ref p)) = σ ++ [some (.ref p)] := by
    rw [List.set_append_right _ _ (by omega), hl, Nat.sub_self]
    rfl
  rw [e1, e2] at E3
  exact E3
/-- that slot forgotten -/
theorem EnR.pop {O : Addr → Prop} {as as3 : As} {H H' : Hs} {ρ ρ' : En} {σ : L2.St} {o : Option V} {l : Nat} (E : EnR K J O as H ρ σ) (E' : EnR K (J0 : Jv 0) O as3 H' ρ' (σ ++ [o])) (hl : σ.length = l) (h1 : ∀ i, i < l → as3 i = as i) (h2 : as3 (l + 1) = some .sto ↔ as l = some .sto) (f : FrA (Own as H) H H') (nw : ∀ a, Own as3 H' a → Own as H a ∨ H a = none) (lv : ∀ a, H a ≠ none → H' a ≠ none) (ns : NoSto as → H'.st = H.st) :
    Fr as H H' ∧ EnR K J O as H' (ρ'.take l ++ ρ'.drop (l + 1)) σ ∧ Same (hq O as3 H') (hq O as H') := by
  have hb : ∀ i r, as i = some r → (i < l ∧ r ≠ .sto) ∨ (i = l ∧ r = .sto) := fun i r h => by
    rcases E.is_reg h with ⟨a, ds, xs, rfl, e1, e2, _⟩ | ⟨rfl, e, _⟩
    · have := E.lt e1 (fun _ z => by cases z)
      rw [hl] at this
      exact .inl ⟨this, fun z => by cases z⟩
    · rw [hl] at e
      exact .inr ⟨e, rfl⟩
  obtain ⟨B, s⟩ := E'.back (Nat.le_succ l) hb h1 h2
  have fr : Fr as H H' := ⟨f, fun a h => nw a (by
    rcases h with ⟨j, r, hc, q⟩ | hc
    · rcases hb j r hc with ⟨z, _⟩ | ⟨z, e⟩
      · exact .inl ⟨j, r, by rw [h1 j z]; exact hc, q⟩
      · subst e
        exact .inl ⟨l + 1, .sto, h2.mpr (by rw [← z]; exact hc), q⟩
    · exact .inr hc), lv, ns⟩
  have L := E'.len
  rw [List.length_append, hl] at L
  have L : l + 1 ≤ ρ'.length ∧ ρ'.length ≤ l + 1 + 1 := L
  have tk : (ρ'.take l).length = l := by rw [List.length_take]; omega
  have ix : ∀ i, i < l → (ρ'.take l ++ ρ'.drop (l + 1))[i]? = ρ'[i]? := fun i h => by rw [List.getElem?_append_left (by omega), List.getElem?_take, if_pos h]
  have ix2 : ∀ i, l ≤ i → (ρ'.take l ++ ρ'.drop (l + 1))[i]? = ρ'[i + 1]? := fun i h => by rw [List.getElem?_append_right (by omega), tk, List.getElem?_drop, show l + 1 + (i - l) = i + 1 from by omega]
  have st : as l = some .sto → ρ'[l + 1]? = some (.st H'.st) ∧ StoR K (hq O as3 H') H'.hp H'.st := fun h => (E'.sto (l + 1) (h2.mpr h)).2
  refine ⟨fr, ⟨by rw [List.length_append, tk, List.length_drop, hl]; omega, fun i sl e1 e2 => ?_, fun i sl o' e1 e2 => ?_, fun i h => ?_, B.inj, B.out, fun i r h => ?_, E'.occ, J.fr E.inv fr, E.inq, E'.tab⟩, s⟩
  · rw [hl] at e2
    rw [ix2 i e2] at e1
    have z := E'.tl (i + 1) sl e1 (by rw [List.length_append, hl]; show l + 1 ≤ i + 1; omega)
    have : i + 1 = l + 1 := by
      have := (E'.sto (i + 1) z).1
      rw [List.length_append, hl] at this
      exact this
    have : i = l := by omega
    subst this
    exact h2.mp z
  · have hi : i < l := by rw [← hl]; exact (List.getElem?_eq_some_iff.mp e2).1
    rw [ix i hi] at e1
    have := E'.at_ i sl o' e1 (by rw [List.getElem?_append_left (by omega)]; exact e2)
    rw [h1 i hi] at this
    exact this.mono s fun _ _ => rfl
  · rcases hb i _ h with z | z
    · exact absurd rfl z.2
    · rw [z.1] at h ⊢
      obtain ⟨s1, s2⟩ := st h
      exact ⟨hl.symm, by rw [ix2 l (Nat.le_refl _)]; exact s1, s2.move s fun _ _ => rfl⟩
  · rw [List.length_append, tk, List.length_drop]
    rcases hb i r h with z | z
    · omega
    · rw [z.1, z.2] at h
      have := (List.getElem?_eq_some_iff.mp (st h).1).1
      omega
def fCallT (m : Nat) (F : FN) (dv : List PyData) (a0 : FA) (a : FC) : FE := fun ρ P => a0 ρ fun ds ρ1 => a ρ1 fun xs ρ2 => xs.length + 1 + dv.length = m ∧ (ownIx xs).Nodup ∧ argF ρ2 xs fun r => F (.own ds :: (r ++ dv.map .fz)) fun d out => P d (wb ρ2 xs out.tail)
/-- what is owned behind a push -/
theorem own_push {as : As} {H H' : Hs} {p : Addr} {l : Nat} (hb : ∀ i r, as i = some r → (i < l ∧ r ≠ .sto) ∨ (i = l ∧ r = .sto)) {a : Addr} : Own (upA (shA as l (l + 1)) l (some (.lf p))) H a ↔ a = p ∨ Own as H a := by
  constructor
  · rintro h
    rcases h.up with ⟨r, e, q⟩ | h
    · cases e; exact .inl q.lf_of
    · refine .inr ?_
      rcases h with ⟨j, r, hc, q⟩ | hc
      · unfold shA at hc
        split at hc
        · exact .inl ⟨j, r, hc, q⟩
        · split at hc
          · exact .inl ⟨l, r, hc, q⟩
          · cases hc
      · exact .inr hc
  · rintro (h | ⟨j, r, hc, q⟩ | hc)
    · exact .inl ⟨l, .lf p, upA_at, h⟩
    · rcases hb j r hc with ⟨z, _⟩ | ⟨z, _⟩
      · exact .inl ⟨j, r, by rw [upA_ne (by omega)]; unfold shA; rw [if_pos z]; exact hc, q⟩
      · exact .inl ⟨l + 1, r, by rw [upA_ne (by omega)]; unfold shA; rw [if_neg (by omega), if_pos rfl, ← z]; exact hc, q⟩
    · exact .inr hc
theorem callT_core {O : Addr → Prop} {as : As} {H0 H : Hs} {ρ0 ρ : En} {σ : L2.St} {p : Addr} {zs : List V} {ds : List PyData} {ys : List Ar} {r : List Sl} {vs : List V} {m : Nat} {F : FN} {P : PyData → En → Prop} {Q : VK} {E0 : XK} {dv : List PyData} {dvs : List V} (E00 : EnR K J O as H0 ρ0 σ) (f0 : Fr as H0 H) (hp0 : NewO as H0 p) (E : EnR K J (plus O p) as H ρ σ) (hp : H p = some (.lst zs)) (d : DqAll K (hq (plus O p) as H) zs ds) (np : ¬ O p)
    (ar : ArsR K (hq (plus O p) as H) as vs ys) (hd : ∀ H, DqAll K H dvs dv) (fit : Fits ρ ys r) (hm : ys.length + 1 + dv.length = m) (nd : (ownIx ys).Nodup) (f : F (.own ds :: (r ++ dv.map .fz)) fun d out => P d (wb ρ ys out.tail))
    (k : ∀ d ρ' v H', P d ρ' → Fr as H0 H' → EnR K J O as H' ρ' σ → Dq K (hq O as H') v d → Q v H') : spF K m F (.ref p :: (vs ++ dvs)) H Q E0 := by
  generalize hl : σ.length = l
  have E3 := E.push hl hp d np
  have L := E.len
  have tk : (ρ.take l).length = l := by rw [List.length_take]; omega
  have ix := ar.ix E
  rw [hl] at ix
  have ixA : ∀ i ∈ ownIx (ys ++ dv.map .dat), i < l := fun i hi => ix i (by rw [ownIx_app] at hi; exact hi)
  have hb : ∀ i r, as i = some r → (i < l ∧ r ≠ .sto) ∨ (i = l ∧ r = .sto) := fun i r h => by
    rcases E.is_reg h with ⟨a, ds, xs, rfl, e1, e2, _⟩ | ⟨rfl, e, _⟩
    · have := E.lt e1 (fun _ z => by cases z)
      rw [hl] at this
      exact .inl ⟨this, fun z => by cases z⟩
    · rw [hl] at e
      exact .inr ⟨e, rfl⟩
  have own : ∀ {H' : Hs} a, Own (upA (shA as l (l + 1)) l (some (.lf p))) H' a ↔ a = p ∨ Own as H' a := fun {H'} a => own_push (H' := H') hb
  have asE : ∀ i, i < l → upA (shA as l (l + 1)) l (some (.lf p)) i = as i := fun i hi => by
    rw [upA_ne (by omega)]
    unfold shA
    rw [if_pos hi]
  have hS : Same (hq (plus O p) as H) (hq O (upA (shA as l (l + 1)) l (some (.lf p))) H) := hp_less fun a h => by
    rcases h with h | h
    · exact .inl (.inl h)
    · rcases (own a).mp h with h | h
      · exact .inl (.inr h)
      · exact .inr h
  have at3 : ∀ i, i < l → (ρ.take l ++ [Sl.own ds] ++ ρ.drop l)[i]? = ρ[i]? := fun i h => by
    rw [List.append_assoc, List.getElem?_append_left (by omega), List.getElem?_take, if_pos h]
  have hL : (ρ.take l ++ [Sl.own ds] ++ ρ.drop l)[l]? = some (.own ds) := by
    rw [List.append_assoc, List.getElem?_append_right (by omega), tk, Nat.sub_self]
    rfl
  have ρe : ρ = ρ.take l ++ ρ.drop l := (List.take_append_drop l ρ).symm
  have wbe : ∀ out : List Sl, wb (ρ.take l ++ [Sl.own ds] ++ ρ.drop l) (.own l :: (ys ++ dv.map .dat)) out = wb (ρ.take l) ys out.tail ++ ([out.headD .no] ++ ρ.drop l) := fun out => by
    rw [wb, wb_app, List.append_assoc, wb_app2 _ _ _ _ (fun i hi => by rw [tk]; exact ix i hi), List.set_append_right _ _ (by rw [wb_len, tk]; exact Nat.le_refl _), wb_len, tk, Nat.sub_self]
    rfl
  have wb2 : ∀ out : List Sl, wb ρ ys out.tail = wb (ρ.take l) ys out.tail ++ ρ.drop l := fun out => by
    have := wb_app2 (ρ.take l) (ρ.drop l) ys out.tail (fun i hi => by rw [tk]; exact ix i hi)
    rw [List.take_append_drop] at this
    exact this
  refine call_core (e := 0) (P := fun d ρ' => P d (ρ'.take l ++ ρ'.drop (l + 1))) (xs := .own l :: (ys ++ dv.map .dat)) (r := .own ds :: (r ++ dv.map .fz)) E3 (.own hL ((fit.app (fits_dat dv)).moved at3 ixA)) (.cons (.own upA_at) ((ar.imp hS asE ix).app (dat_ars (hd _))).toT) ?_ ?_ ?_ ?_ fun d ρ' v H' pr fr E' q' => ?_
  · rw [List.length_cons, List.length_append, ar.len, (hd H).length]; omega
  · rw [List.length_cons, List.length_append, List.length_map]; omega
  · show (l :: ownIx (ys ++ dv.map .dat)).Nodup
    exact List.nodup_cons.mpr ⟨fun z => Nat.lt_irrefl _ (ixA _ z), by rw [ownIx_app]; exact nd⟩
  · have e : (fun d out => P d ((wb (ρ.take l ++ [Sl.own ds] ++ ρ.drop l) (.own l :: (ys ++ dv.map .dat)) out).take l ++ (wb (ρ.take l ++ [Sl.own ds] ++ ρ.drop l) (.own l :: (ys ++ dv.map .dat)) out).drop (l + 1))) = fun d out => P d (wb ρ ys out.tail) := by
      funext d out
      rw [wbe, wb2, List.take_left' (by rw [wb_len, tk]), List.drop_append, List.drop_of_length_le (by rw [wb_len, tk]; omega), wb_len, tk, show l + 1 - l = 1 from by omega]
      rfl
    show F _ (fun d out => P d ((wb (ρ.take l ++ [Sl.own ds] ++ ρ.drop l) (.own l :: (ys ++ dv.map .dat)) out).take l ++ (wb (ρ.take l ++ [Sl.own ds] ++ ρ.drop l) (.own l :: (ys ++ dv.map .dat)) out).drop (l + 1)))
    rw [e]
    exact f
  · have nsE : NoSto as → NoSto (upA (shA as l (l + 1)) l (some (.lf p))) := fun h j z => by
      by_cases e : j = l
      · rw [e, upA_at] at z; cases z
      · rw [upA_ne e] at z
        unfold shA at z
        split at z
        · exact h _ z
        · split at z
          · exact h _ z
          · cases z
    have old : ∀ a, Own (upA (shA as l (l + 1)) l (some (.lf p))) H a → Own as H0 a ∨ H0 a = none := fun a h => by
      rcases (own a).mp h with h | h
      · rw [h]; exact hp0.symm
      · exact f0.new a h
    have keep : ∀ a o, ¬ Own as H0 a → H0 a = some o → H' a = some o := fun a o na e => fr.fr a o (fun z => by
      rcases old a z with w | w
      · exact na w
      · rw [w] at e; cases e) (f0.fr a o na e)
    obtain ⟨fr', E4, s4⟩ := E00.pop E' hl asE (by rw [upA_ne (by omega)]; unfold shA; rw [if_neg (by omega), if_pos rfl]) keep (fun a h => by
      rcases fr.new a h with z | z
      · exact old a z
      · by_cases w : Own as H0 a
        · exact .inl w
        · cases e : H0 a with
          | none => exact .inr rfl
          | some o => rw [f0.fr a o w e] at z; cases z) (fun a h => fr.liv a (f0.liv a h)) fun h => (fr.nst (nsE h)).trans (f0.nst h)
    exact k d _ v H' pr fr' E4 (q'.mono s4)
theorem re_callT {m : Nat} {F : FN} {dvs : List V} {dv : List PyData} {E0 : XK} {ta : TE} {t : TA} {fa : FA} {f : FC} (hd : ∀ H, DqAll K H dvs dv) (h0 : RN K J ta fa) (ha : RC K J t f) : RE K J (tCall (spF K m F) dvs E0 (tCons ta t)) (fCallT m F dv fa f) := by
  intro O as σ H Q ρ P E q k
  refine h0 O as σ H _ ρ _ E q fun ds ρ1 p xs H1 q1 f1 hp0 E1 hp1 d1 => ?_
  refine ha (plus O p) as σ H1 _ ρ1 _ E1 q1 fun ys ρ2 vs H2 q2 f2 E2 d2 => ?_
  obtain ⟨hm, nd, q2⟩ := q2
  obtain ⟨r, fit, q2⟩ := argF_of q2
  exact callT_core E (f1.trans f2) hp0 E2 (f2.fr _ _ (E1.newp hp1) hp1) (d1.fr f2) (E.notO E1 hp0 hp1) d2 hd fit hm nd q2 k
theorem callTS_core {O : Addr → Prop} {as : As} {H0 H : Hs} {ρ0 ρ : En} {σ : L2.St} {p : Addr} {zs : List V} {ds : List PyData} {ys : List Ar} {r : List Sl} {vs : List V} {m : Nat} {F : FN} {P : PyData → En → Prop} {Q : VK} {E0 : XK} {dv : List PyData} {dvs : List V} {sx : Nat} {S : Sto} (E00 : EnR K J O as H0 ρ0 σ) (f0 : Fr as H0 H) (hp0 : NewO as H0 p) (E : EnR K J (plus O p) as H ρ σ) (hp : H p = some (.lst zs)) (d : DqAll K (hq (plus O p) as H) zs ds) (np : ¬ O p)
    (ar : ArsR K (hq (plus O p) as H) as vs ys) (hd : ∀ H, DqAll K H dvs dv) (fit : Fits ρ ys r) (hm : ys.length + 1 + dv.length = m) (nd : (ownIx ys).Nodup) (hs : ρ[sx]? = some (.st S)) (f : F (.own ds :: (r ++ dv.map .fz) ++ [.st S]) fun d out => P d ((wb ρ ys out.tail).set sx ((out.drop m).headD .no)))
    (k : ∀ d ρ' v H', P d ρ' → Fr as H0 H' → EnR K J O as H' ρ' σ → Dq K (hq O as H') v d → Q v H') : spS K m F (.ref p :: (vs ++ dvs)) H Q E0 := by
  obtain ⟨hsx, _⟩ := E.sto sx (E.st_at hs).1
  generalize hl : σ.length = l
  rw [hl] at hsx
  subst hsx
  have E3 := E.push hl hp d np
  have L := E.len
  have tk : (ρ.take sx).length = sx := by rw [List.length_take]; omega
  have ix := ar.ix E
  rw [hl] at ix
  have ixA : ∀ i ∈ ownIx (ys ++ dv.map .dat), i < sx := fun i hi => ix i (by rw [ownIx_app] at hi; exact hi)
  have hb : ∀ i r, as i = some r → (i < sx ∧ r ≠ .sto) ∨ (i = sx ∧ r = .sto) := fun i r h => by
    rcases E.is_reg h with ⟨a, ds, xs, rfl, e1, e2, _⟩ | ⟨rfl, e, _⟩
    · have := E.lt e1 (fun _ z => by cases z)
      rw [hl] at this
      exact .inl ⟨this, fun z => by cases z⟩
    · rw [hl] at e
      exact .inr ⟨e, rfl⟩
  have own : ∀ {H' : Hs} a, Own (upA (shA as sx (sx + 1)) sx (some (.lf p))) H' a ↔ a = p ∨ Own as H' a := fun {H'} a => own_push (H' := H') hb
  have asE : ∀ i, i < sx → upA (shA as sx (sx + 1)) sx (some (.lf p)) i = as i := fun i hi => by
    rw [upA_ne (by omega)]
    unfold shA
    rw [if_pos hi]
  have hS : Same (hq (plus O p) as H) (hq O (upA (shA as sx (sx + 1)) sx (some (.lf p))) H) := hp_less fun a h => by
    rcases h with h | h
    · exact .inl (.inl h)
    · rcases (own a).mp h with h | h
      · exact .inl (.inr h)
      · exact .inr h
  have at3 : ∀ i, i < sx → (ρ.take sx ++ [Sl.own ds] ++ ρ.drop sx)[i]? = ρ[i]? := fun i h => by
    rw [List.append_assoc, List.getElem?_append_left (by omega), List.getElem?_take, if_pos h]
  have hL : (ρ.take sx ++ [Sl.own ds] ++ ρ.drop sx)[sx]? = some (.own ds) := by
    rw [List.append_assoc, List.getElem?_append_right (by omega), tk, Nat.sub_self]
    rfl
  have dl : ρ.drop sx = [.st S] := by
    have h1 : (ρ.drop sx).length = 1 := by
      have := (List.getElem?_eq_some_iff.mp hs).1
      rw [List.length_drop]; omega
    obtain ⟨z, hz⟩ := List.length_eq_one_iff.mp h1
    have h2 : (ρ.drop sx)[0]? = some (.st S) := by rw [List.getElem?_drop]; exact hs
    rw [hz] at h2
    cases h2
    exact hz
  have hL2 : (ρ.take sx ++ [Sl.own ds] ++ ρ.drop sx)[sx + 1]? = some (.st S) := by
    rw [List.getElem?_append_right (by rw [List.length_append, tk]; exact Nat.le_refl _), List.length_append, tk, dl]
    rw [show sx + 1 - (sx + [Sl.own ds].length) = 0 from Nat.sub_self _]
    rfl
  have a0 := (E.st_at hs).1
  have wbe : ∀ out : List Sl, wb (ρ.take sx ++ [Sl.own ds] ++ ρ.drop sx) (.own sx :: (ys ++ dv.map .dat) ++ [.own (sx + 1)]) out = wb (ρ.take sx) ys out.tail ++ ([out.headD .no] ++ [(out.drop m).headD .no]) := fun out => by
    have hlen : (Ar.own sx :: (ys ++ dv.map .dat)).length = m := by rw [List.length_cons, List.length_append, List.length_map]; omega
    rw [wb_snoc, hlen, List.set_append_right _ _ (by rw [List.length_append, tk]; exact Nat.le_refl _), List.length_append, tk, dl, show sx + 1 - (sx + [Sl.own ds].length) = 0 from Nat.sub_self _]
    show wb (ρ.take sx ++ [Sl.own ds] ++ [_]) _ _ = _
    rw [wb, wb_app, List.append_assoc, wb_app2 _ _ _ _ (fun i hi => by rw [tk]; exact ix i hi), List.set_append_right _ _ (by rw [wb_len, tk]; exact Nat.le_refl _), wb_len, tk, Nat.sub_self]
    rfl
  have wb2 : ∀ (out : List Sl) (z : Sl), (wb ρ ys out.tail).set sx z = wb (ρ.take sx) ys out.tail ++ [z] := fun out z => by
    have := wb_app2 (ρ.take sx) (ρ.drop sx) ys out.tail (fun i hi => by rw [tk]; exact ix i hi)
    rw [List.take_append_drop] at this
    rw [this, List.set_append_right _ _ (by rw [wb_len, tk]; exact Nat.le_refl _), wb_len, tk, Nat.sub_self, dl]
    rfl
  refine call_core (e := 1) (P := fun d ρ' => P d (ρ'.take sx ++ ρ'.drop (sx + 1))) (xs := .own sx :: (ys ++ dv.map .dat) ++ [.own (sx + 1)]) (r := .own ds :: (r ++ dv.map .fz) ++ [.st S]) E3 (.own hL (((fit.app (fits_dat dv)).moved at3 ixA).app (.st hL2 .nil))) (.cons (.own upA_at) (((ar.imp hS asE ix).app (dat_ars (hd _))).snoc (by rw [upA_ne (by omega)]; unfold shA; rw [if_neg (by omega), if_pos rfl]; exact a0))) ?_ ?_ ?_ ?_ fun d ρ' v H' pr fr E' q' => ?_
  · rw [List.length_cons, List.length_append, ar.len, (hd H).length]; omega
  · rw [List.length_append, List.length_cons, List.length_append, List.length_map, List.length_singleton]; omega
  · rw [ownIx_snoc]
    show (sx :: ownIx (ys ++ dv.map .dat) ++ [sx + 1]).Nodup
    rw [List.nodup_append]
    refine ⟨List.nodup_cons.mpr ⟨fun z => Nat.lt_irrefl _ (ixA _ z), by rw [ownIx_app]; exact nd⟩, List.nodup_cons.mpr ⟨List.not_mem_nil, .nil⟩, fun a ha b hb' e => ?_⟩
    rw [List.mem_singleton] at hb'
    rcases List.mem_cons.mp ha with z | z
    · omega
    · have := ixA _ z; omega
  · have e : (fun d out => P d ((wb (ρ.take sx ++ [Sl.own ds] ++ ρ.drop sx) (.own sx :: (ys ++ dv.map .dat) ++ [.own (sx + 1)]) out).take sx ++ (wb (ρ.take sx ++ [Sl.own ds] ++ ρ.drop sx) (.own sx :: (ys ++ dv.map .dat) ++ [.own (sx + 1)]) out).drop (sx + 1))) = fun d out => P d ((wb ρ ys out.tail).set sx ((out.drop m).headD .no)) := by
      funext d out
      rw [wbe, wb2, List.take_left' (by rw [wb_len, tk]), List.drop_append, List.drop_of_length_le (by rw [wb_len, tk]; omega), wb_len, tk, show sx + 1 - sx = 1 from by omega]
      rfl
    show F _ (fun d out => P d ((wb (ρ.take sx ++ [Sl.own ds] ++ ρ.drop sx) (.own sx :: (ys ++ dv.map .dat) ++ [.own (sx + 1)]) out).take sx ++ (wb (ρ.take sx ++ [Sl.own ds] ++ ρ.drop sx) (.own sx :: (ys ++ dv.map .dat) ++ [.own (sx + 1)]) out).drop (sx + 1)))
    rw [e]
    exact f
  · have nsE : NoSto as → NoSto (upA (shA as sx (sx + 1)) sx (some (.lf p))) := fun h j z => by
      by_cases e : j = sx
      · rw [e, upA_at] at z; cases z
      · rw [upA_ne e] at z
        unfold shA at z
        split at z
        · exact h _ z
        · split at z
          · exact h _ z
          · cases z
    have old : ∀ a, Own (upA (shA as sx (sx + 1)) sx (some (.lf p))) H a → Own as H0 a ∨ H0 a = none := fun a h => by
      rcases (own a).mp h with h | h
      · rw [h]; exact hp0.symm
      · exact f0.new a h
    have keep : ∀ a o, ¬ Own as H0 a → H0 a = some o → H' a = some o := fun a o na e => fr.fr a o (fun z => by
      rcases old a z with w | w
      · exact na w
      · rw [w] at e; cases e) (f0.fr a o na e)
    obtain ⟨fr', E4, s4⟩ := E00.pop E' hl asE (by rw [upA_ne (by omega)]; unfold shA; rw [if_neg (by omega), if_pos rfl]) keep (fun a h => by
      rcases fr.new a h with z | z
      · exact old a z
      · by_cases w : Own as H0 a
        · exact .inl w
        · cases e : H0 a with
          | none => exact .inr rfl
          | some o => rw [f0.fr a o w e] at z; cases z) (fun a h => fr.liv a (f0.liv a h)) fun h => (fr.nst (nsE h)).trans (f0.nst h)
    exact k d _ v H' pr fr' E4 (q'.mono s4)
def fCallTS (sx m : Nat) (F : FN) (dv : List PyData) (a0 : FA) (a : FC) : FE := fun ρ P => a0 ρ fun ds ρ1 => a ρ1 fun xs ρ2 => xs.length + 1 + dv.length = m ∧ (ownIx xs).Nodup ∧ argF ρ2 xs fun r => match ρ2[sx]? with
  | some (.st S) => F (.own ds :: (r ++ dv.map .fz) ++ [.st S]) fun d out => P d ((wb ρ2 xs out.tail).set sx ((out.drop m).headD .no))
  | _ => False
theorem re_callTS {sx m : Nat} {F : FN} {dvs : List V} {dv : List PyData} {E0 : XK} {ta : TE} {t : TA} {fa : FA} {f : FC} (hd : ∀ H, DqAll K H dvs dv) (h0 : RN K J ta fa) (ha : RC K J t f) : RE K J (tCall (spS K m F) dvs E0 (tCons ta t)) (fCallTS sx m F dv fa f) := by
  intro O as σ H Q ρ P E q k
  refine h0 O as σ H _ ρ _ E q fun ds ρ1 p xs H1 q1 f1 hp0 E1 hp1 d1 => ?_
  refine ha (plus O p) as σ H1 _ ρ1 _ E1 q1 fun ys ρ2 vs H2 q2 f2 E2 d2 => ?_
  obtain ⟨hm, nd, q2⟩ := q2
  obtain ⟨r, fit, q2⟩ := argF_of q2
  split at q2
  · next S hs => exact callTS_core E (f1.trans f2) hp0 E2 (f2.fr _ _ (E1.newp hp1) hp1) (d1.fr f2) (E.notO E1 hp0 hp1) d2 hd fit hm nd hs q2 k
  · exact q2.elim
/-! defs that raise or hand back a new list -/
abbrev FXM := List Sl → (List PyData → List Sl → Prop) → (PyData → List Sl → Prop) → Prop
def spXNG (K : PySem.W.Frag) (n e : Nat) (F : FXM) : Sp := fun vs H Q E => vs.length = n ∧ ∃ (O : Addr → Prop) (as : As) (S : Sto) (ρ : En) (P : List PyData → List Sl → Prop) (X : PyData → List Sl → Prop), EnR K (J0 : Jv 0) O as ⟨H, S⟩ ρ (vs.map some) ∧ ρ.length = n + e ∧ F ρ P X ∧
  (∀ ds out p xs H', P ds out → Fr as ⟨H, S⟩ H' → NewO as ⟨H, S⟩ p → Bk K (plus O p) as H' out → H' p = some (.lst xs) → DqAll K (hq (plus O p) as H') xs ds → Q (.ref p) H') ∧
  ∀ d out cls dd H', X d out → Fr as ⟨H, S⟩ H' → Bk K O as H' out → XcAt K (hq O as H') cls dd d → E cls dd H'
abbrev spXN (K : PySem.W.Frag) (n : Nat) (F : FXM) : Sp := spXNG K n 0 F
abbrev spXNS (K : PySem.W.Frag) (n : Nat) (F : FXM) : Sp := spXNG K n 1 F
def fnXM (n m : Nat) (b : (PyData → En → Prop) → FS) : FXM := fun sls P X => b (fun d ρ' => X d (ρ'.take n)) { nx := fun _ => False, rt := fun _ _ => False, ro := fun ds ρ' => P ds (ρ'.take n) } (sls ++ List.replicate (m - n) .no)
def fnXMS (n m : Nat) (b : (PyData → En → Prop) → FS) : FXM := fun sls P X => b (fun d ρ' => X d (ρ'.take n ++ ρ'.drop m)) { nx := fun _ => False, rt := fun _ _ => False, ro := fun ds ρ' => P ds (ρ'.take n ++ ρ'.drop m) } (sls.take n ++ List.replicate (m - n) .no ++ sls.drop n)
theorem fn_runXN {m e : Nat} {N : List Str} {b : (PyData → En → Prop) → FS} {t : WX → TS} (hN : m ≤ N.length) (rs : ∀ (J : Jv m) (X : PyData → En → Prop) (W : WX), Lk K J X W → RS K J (t W) (b X)) {vs : List V} {H : Hp} {Q : VK} {E : XK} {F : FXM}
    (hF : F = fun sls P X => b (fun d ρ' => X d (outS e m N.length ρ')) { nx := fun _ => False, rt := fun _ _ => False, ro := fun ds ρ' => P ds (outS e m N.length ρ') } (enS e m N.length sls)) (h : spXNG K m e F vs H Q E) :
    t (fun cls d _ H => E cls d H) { nx := fun _ H' => Q .non H', rt := Q } (L2.start N vs) H := by
  obtain ⟨hv, O, as, S, ρ, P, X, R, hl, hf, q, qx⟩ := h
  subst hF
  refine rs (Jst m O (shA as m N.length) ⟨H, S⟩) (fun d ρ' => X d (outS e m N.length ρ')) _ (fun O' as' σ' H' ρ' cls dd d R' xc hx => ?_) O _ _ ⟨H, S⟩ _ _ _ (fn_start R hv hl hN) hf ⟨fun _ _ _ _ p => p.elim, fun _ _ _ _ _ _ p => p.elim, fun _ _ _ _ p => p.elim, fun _ _ _ _ p => p.elim, fun ds ρ' p xs as' σ' H' pr x o R' e d => ?_⟩
  · have R2 : EnR K (Jst m O (shA as m N.length) ⟨H, S⟩) O as' H' ρ' σ' := R'.sub R'.inq fun _ h => h
    obtain ⟨h1, h2, h3⟩ := fn_back R hv hl hN R'.inv R2
    exact qx d _ cls dd H' hx h1 h2 ((xc.mono (hp_less fun a z => z.imp (R'.inq a) id)).mono h3)
  · obtain ⟨h1, h2, h3⟩ := fn_back R hv hl hN x R'
    exact q _ _ _ _ _ pr h1 (Ext.newS o) h2 e (d.mono h3)
theorem fn_coreXN {ps : List Str} {N : List Str} {b : (PyData → En → Prop) → FS} {t : WX → TS} (hN : ps.length ≤ N.length) (rs : ∀ (J : Jv ps.length) (X : PyData → En → Prop) (W : WX), Lk K J X W → RS K J (t W) (b X)) {vs : List V} {H : Hp} {Q : VK} {E : XK} (h : spXN K ps.length (fnXM ps.length N.length b) vs H Q E) :
    t (fun cls d _ H => E cls d H) { nx := fun _ H' => Q .non H', rt := Q } (L2.start N vs) H := fn_runXN hN rs rfl h
theorem fn_coreXNS {ps : List Str} {N : List Str} {b : (PyData → En → Prop) → FS} {t : WX → TS} (hN : ps.length ≤ N.length) (rs : ∀ (J : Jv ps.length) (X : PyData → En → Prop) (W : WX), Lk K J X W → RS K J (t W) (b X)) {vs : List V} {H : Hp} {Q : VK} {E : XK} (h : spXNS K ps.length (fnXMS ps.length N.length b) vs H Q E) :
    t (fun cls d _ H => E cls d H) { nx := fun _ H' => Q .non H', rt := Q } (L2.start N vs) H := fn_runXN hN rs rfl h
section
variable {P : Program} {w : World} {mg : Str → Option Value} {base : Heap} {k : Nat} {f : Addr} {fd : FuncData} {ps : List Str} {x qual : Str} {st : Stmt} {N : List Str}
theorem okXNc {b : (PyData → En → Prop) → FS} (F : Fun K x qual st f fd) (S : FnScope N ps (defScope st))
    (body : ∀ (cdv : Value), fd.code = cdv → ∀ (A : Around) (outer : List Env) (s : Shared) (H : Hp) (E : XK), Room k (A.deeper (envOfC qual (defScope st) s.heap.objs.size f cdv)) →
      ∃ t : WX → TS, (∀ W, Takes (cxOf (L2.CX P w) P w K mg base N qual (defScope st) f cdv A outer s H E) W → PSs (cxOf (L2.CX P w) P w K mg base N qual (defScope st) f cdv A outer s H E) (defBody st) (t W)) ∧ ∀ (J : Jv ps.length) (X : PyData → En → Prop) (W : WX), Lk K J X W → RS K J (t W) (b X)) :
    FnOk P w K mg base (L2.CX P w) (k + 1) f fd ps (spXN K ps.length (fnXM ps.length N.length b)) := by
  obtain ⟨oc, od, kV, doc, pm, an, cdv, ct, osl, rfl, lk, hcd⟩ := F.ex
  refine fn_of lk hcd S (fun vs H Q E h => h.1) fun A outer s H vs Q E hr h => ?_
  obtain ⟨t, pt, rs⟩ := body cdv rfl A outer s H E hr
  exact ⟨_, pt _ (takes_of (E := E) rfl rfl rfl rfl), fn_coreXN (scope_le S) rs h⟩
theorem okXN0 {b : (PyData → En → Prop) → FS} (F : Fun K x qual st f fd) (S : FnScope N ps (defScope st))
    (body : ∀ (cdv : Value) (A : Around) (outer : List Env) (s : Shared) (H : Hp) (E : XK), Room k (A.deeper (envOfC qual (defScope st) s.heap.objs.size f cdv)) →
      ∃ t : WX → TS, (∀ W, Takes (cxOf (L2.CX P w) P w K mg base N qual (defScope st) f cdv A outer s H E) W → PSs (cxOf (L2.CX P w) P w K mg base N qual (defScope st) f cdv A outer s H E) (defBody st) (t W)) ∧ ∀ (J : Jv ps.length) (X : PyData → En → Prop) (W : WX), Lk K J X W → RS K J (t W) (b X)) :
    FnOk P w K mg base (L2.CX P w) (k + 1) f fd ps (spXN K ps.length (fnXM ps.length N.length b)) := okXNc F S fun cdv _ => body cdv
theorem okXNSc {b : (PyData → En → Prop) → FS} (F : Fun K x qual st f fd) (S : FnScope N ps (defScope st))
    (body : ∀ (cdv : Value), fd.code = cdv → ∀ (A : Around) (outer : List Env) (s : Shared) (H : Hp) (E : XK), Room k (A.deeper (envOfC qual (defScope st) s.heap.objs.size f cdv)) →
      ∃ t : WX → TS, (∀ W, Takes (cxOf (L2.CX P w) P w K mg base N qual (defScope st) f cdv A outer s H E) W → PSs (cxOf (L2.CX P w) P w K mg base N qual (defScope st) f cdv A outer s H E) (defBody st) (t W)) ∧ ∀ (J : Jv ps.length) (X : PyData → En → Prop) (W : WX), Lk K J X W → RS K J (t W) (b X)) :
    FnOk P w K mg base (L2.CX P w) (k + 1) f fd ps (spXNS K ps.length (fnXMS ps.length N.length b)) := by
  obtain ⟨oc, od, kV, doc, pm, an, cdv, ct, osl, rfl, lk, hcd⟩ := F.ex
  refine fn_of lk hcd S (fun vs H Q E h => h.1) fun A outer s H vs Q E hr h => ?_
  obtain ⟨t, pt, rs⟩ := body cdv rfl A outer s H E hr
  exact ⟨_, pt _ (takes_of (E := E) rfl rfl rfl rfl), fn_coreXNS (scope_le S) rs h⟩
theorem okXNS0 {b : (PyData → En → Prop) → FS} (F : Fun K x qual st f fd) (S : FnScope N ps (defScope st))
    (body : ∀ (cdv : Value) (A : Around) (outer : List Env) (s : Shared) (H : Hp) (E : XK), Room k (A.deeper (envOfC qual (defScope st) s.heap.objs.size f cdv)) →
      ∃ t : WX → TS, (∀ W, Takes (cxOf (L2.CX P w) P w K mg base N qual (defScope st) f cdv A outer s H E) W → PSs (cxOf (L2.CX P w) P w K mg base N qual (defScope st) f cdv A outer s H E) (defBody st) (t W)) ∧ ∀ (J : Jv ps.length) (X : PyData → En → Prop) (W : WX), Lk K J X W → RS K J (t W) (b X)) :
    FnOk P w K mg base (L2.CX P w) (k + 1) f fd ps (spXNS K ps.length (fnXMS ps.length N.length b)) := okXNSc F S fun cdv _ => body cdv
end
/-- the same with the list as data -/
def toX (F : FXM) : FX := fun ss P X => F ss (fun ds out => P (.list ds) out) X
theorem toX_of {m e : Nat} {F : FXM} {vs : List V} {H : Hp} {Q : VK} {E : XK} (h : spXG K m e (toX F) vs H Q E) : spXNG K m e F vs H Q E := by
  obtain ⟨hv, O, as, S, ρ, P, X, R, hl, hF, q, qx⟩ := h
  refine ⟨hv, O, as, S, ρ, _, X, R, hl, hF, fun ds out p xs H' pr fr hp0 bk hp1 d => ?_, qx⟩
  have np : ¬ Hid O as H' p := fun z => by
    rcases z with z | ⟨i, r, h, z⟩ | z
    · rcases hp0 with h | ⟨i, r, h, w⟩ | h
      · exact R.occ p z h
      · exact R.out i r p h w z
      · exact bk.tab.no hp1 h
    · exact bk.out i r p h z (.inr rfl)
    · exact bk.tab.no hp1 z
  have s : Same (hq (plus O p) as H') (hq O as H') := hp_less fun a h => hid_plus h
  refine q _ out _ H' pr fr ⟨bk.tab, fun i a h => ?_, bk.inj, fun i r b h w z => bk.out i r b h w (.inl z)⟩ (.lst (SqL.of (hp_mk np hp1)) (d.mono s))
  obtain ⟨sl, e1, e2⟩ := bk.at_ i a h
  exact ⟨sl, e1, e2.mono s⟩
theorem call_coreXN {O : Addr → Prop} {as : As} {H : Hs} {ρ : En} {σ : L2.St} {xs : List Ar} {r : List Sl} {vs : List V} {m e : Nat} {F : FXM} {P : List PyData → En → Prop} {X : PyData → En → Prop} {Q : VK} {W : WX} (E : EnR K J O as H ρ σ) (fit : Fits ρ xs r) (ar : ArsT K (hq O as H) as vs xs) (hv : vs.length = m) (hm : xs.length = m + e) (nd : (ownIx xs).Nodup)
    (f : F r (fun d out => P d (wb ρ xs out)) fun d out => X d (wb ρ xs out)) (l : Lk K J X W) (k : ∀ ds ρ' p ys H', P ds ρ' → Fr as H H' → NewO as H p → EnR K J (plus O p) as H' ρ' σ → H' p = some (.lst ys) → DqAll K (hq (plus O p) as H') ys ds → Q (.ref p) H') : spXNG K m e F vs H Q (WE W σ) := by
  refine ⟨hv, _, adrs as xs, H.st, r, _, _, call_in E fit ar nd, by rw [fit.len, hm], f, fun d out p ys H' pr fr hp1 bk hp2 dv => ?_, fun d out cls dd H' p fr bk xc => ?_⟩
  · obtain ⟨fr', E', hid⟩ := call_backX E ar nd fr hp1 (by rw [hp2]; exact Option.some_ne_none _) bk
    exact k d _ p ys H' pr fr' (hp1.imp id adrs_sub) E' hp2 (dv.mono (hp_less hid))
  · obtain ⟨fr', E', hid, _⟩ := call_back E ar nd fr bk
    exact l O as σ H' _ cls dd d E' (xc.mono (hp_less hid)) p
def fCallXW (m : Nat) (F : FXM) (dv : List PyData) (X : PyData → En → Prop) (a : FC) : FA := fun ρ P => a ρ fun xs ρ1 => xs.length + dv.length = m ∧ (ownIx xs).Nodup ∧ argF ρ1 xs fun r => F (r ++ dv.map .fz) (fun d out => P d (wb ρ1 xs out)) fun d out => X d (wb ρ1 xs out)
theorem rn_callX {m : Nat} {F : FXM} {dvs : List V} {dv : List PyData} {X : PyData → En → Prop} {W : WX} {t : TA} {f : FC} (l : Lk K J X W) (hd : ∀ H, DqAll K H dvs dv) (ha : RC K J t f) : RN K J (tCallSD (spXN K m F) dvs (WE W) t) (fCallXW m F dv X f) := by
  intro O as σ H Q ρ P E q k
  refine ha O as σ H _ ρ _ E q fun xs ρ1 vs H1 q1 f1 E1 d1 => ?_
  obtain ⟨hm, nd, q1⟩ := q1
  obtain ⟨r, fit, q1⟩ := argF_of q1
  refine call_coreXN (xs := xs ++ dv.map .dat) E1 (fit.app (fits_dat dv)) (d1.app (dat_ars (hd _))).toT (by rw [List.length_append, d1.len, (hd H1).length]; exact hm) (by rw [List.length_append, List.length_map]; exact hm) (by rw [ownIx_app]; exact nd) ?_ l fun ds ρ' p ys H' pr fr hp1 E' hp2 q' => k ds ρ' p ys H' pr (f1.trans fr) (none_back f1 hp1) E' hp2 q'
  simp only [wb_app]
  exact q1
end
end DL
/-! zip of a list and a tuple in any mix -/
namespace ZM
open PySem PySem.Spec PyProof.Rows L2
def SqK (K : PySem.W.Frag) (H : Hp) (k : Bool) (a : Addr) (xs : List V) : Prop := match k with
  | true => SqL K H a xs
  | false => SqT K H a xs
def itK (h : Heap) (k : Bool) (it a : Addr) (i : Nat) : Prop := match k with
  | true => h.IsListIter it a i
  | false => h.IsTupleIter it a i
def isK (h : Heap) (k : Bool) (a : Addr) (items : Array Value) : Prop := match k with
  | true => h.IsList a items
  | false => h.IsTuple a items
def objK (k : Bool) (a : Addr) : Obj := match k with
  | true => { cls := .type "list_iterator", data := .fields #[.ref a, .int 0 0] }
  | false => { cls := .type "tuple_iterator", data := .fields #[.ref a, .int 0 0] }
theorem drawsK {prog : Program} {w : World} {A : Around} (hh : A.handled = none) (k : Bool) (it a : Addr) (ne : a ≠ it) (items : Array Value) :
    Draws prog w A it [it, a] items.size (fun i v => items[i]? = some v) (fun i h => itK h k it a i ∧ isK h k a items) := by
  cases k
  · exact Draws.tuple hh it a ne items
  · exact Draws.list hh it a ne items
theorem beginsK (k : Bool) (a : Addr) (items : Array Value) : Begins (.ref a) (objK k a) fun h => isK h k a items := by
  cases k
  · exact begins_tuple a items
  · exact begins_list a items
theorem itK.at {h h' : Heap} {k : Bool} {it a : Addr} {i : Nat} (q : itK h k it a i) (e : ∀ o, h.get? it = some o → h'.get? it = some o) : itK h' k it a i := by
  cases k
  · exact Heap.IsTupleIter.at q e
  · exact Heap.IsListIter.at q e
theorem itK.obj {h : Heap} {k : Bool} {it a : Addr} {i : Nat} (q : itK h k it a i) : ∃ o, h.get? it = some o ∧ ∀ v, o.data ≠ .cell v := by
  cases k
  · obtain ⟨o, e, _, d⟩ := q
    exact ⟨o, e, fun v z => by rw [d] at z; cases z⟩
  · obtain ⟨o, e, _, d⟩ := q
    exact ⟨o, e, fun v z => by rw [d] at z; cases z⟩
section
variable {X : Cx} {pins : List (Addr × Obj)} {σ : L2.St} {H : Hp} {s : Shared}
theorem sqK (I : Inv X pins σ H s) {k : Bool} {a : Addr} {xs : List V} (h : SqK X.K H k a xs) : ∃ its : List Value, Vals xs its ∧ isK s.heap k a its.toArray ∧ a < s.heap.objs.size := by
  cases k
  · obtain ⟨its, rv, p, _⟩ := I.tuple h
    obtain ⟨o, e, _⟩ := id p
    exact ⟨its, rv, p, Heap.lt_size e⟩
  · obtain ⟨its, rv, p, _⟩ := I.list h
    exact ⟨its, rv, p.isList, p.lt⟩
theorem sqK_inj (I : Inv X pins σ H s) {k : Bool} {a : Addr} {xs ys : List V} (h : SqK X.K H k a xs) (h' : SqK X.K H k a ys) : xs = ys := by
  cases k
  · exact I.tuple_inj h h'
  · exact I.list_inj h h'
end
def ItzM (K : PySem.W.Frag) (k1 k2 : Bool) (a b : Addr) : It :=
  ⟨fun i H => ∃ (xs ys : List V) (x y : V), SqK K H k1 a xs ∧ SqK K H k2 b ys ∧ xs[i]? = some x ∧ ys[i]? = some y,
    fun i H v H' => ∃ T x y, v = .ref T ∧ H T = none ∧ H' = upd H T (.tup [x, y]) ∧ (∀ xs, SqK K H k1 a xs → xs[i]? = some x) ∧ ∀ ys, SqK K H k2 b ys → ys[i]? = some y,
    fun i H => ∃ xs ys : List V, SqK K H k1 a xs ∧ SqK K H k2 b ys ∧ i ≤ xs.length ∧ i ≤ ys.length ∧ (xs.length = i ∨ ys.length = i)⟩
theorem nn {a b : Nat} (h : a ≠ b) : @Ne Addr a b := h
theorem n2 {z a b : Nat} (h : z ≠ a) (h' : z ≠ b) : ¬ @Membership.mem Addr (List Addr) _ [a, b] z := fun q => by
  rcases List.mem_cons.mp q with q | q
  · exact h q
  · rcases List.mem_cons.mp q with q | q
    · exact h' q
    · cases q
theorem nc5 {n c : Nat} (h : ¬ (n ≤ c ∧ c ≤ n + 4)) : c ≠ n + 4 ∧ c ≠ n + 3 ∧ c ≠ n ∧ c ≠ n + 1 := by omega
theorem mem5 {n c : Nat} : c ∈ ([n + 4, n + 2, n + 3, n, n + 1] : List Nat) ↔ n ≤ c ∧ c ≤ n + 4 := by
  simp only [List.mem_cons, List.not_mem_nil, or_false]
  omega
theorem turn_zipM {P : Program} {w : World} {K : PySem.W.Frag} {elts : List Expr} {kk : Nat} {tpos : Pos} {k1 k2 : Bool} {a b n : Nat} (ha : a < n) (hb : b < n) :
    Turn P w K (.Tuple elts kk tpos) (ItzM K k1 k2 a b) [n + 4, n + 2, n + 3, n, n + 1] (n + 4) (fun i h => IsZip h (n + 4) (n + 2) (n + 3) .none ∧ IsTupOf2 h (n + 2) (.ref n) (.ref (n + 1)) ∧ (∃ x y, IsTupOf2 h (n + 3) x y) ∧ itK h k1 n a i ∧ itK h k2 (n + 1) b i) := by
  have S : ZipSep2 (n + 4) (n + 2) (n + 3) n (n + 1) [n, a] [n + 1, b] := by
    exact ⟨nn (by omega), nn (by omega), nn (by omega), nn (by omega), List.mem_cons_self, n2 (by omega) (by omega), n2 (by omega) (by omega), nn (by omega), List.mem_cons_self, n2 (by omega) (by omega), n2 (by omega) (by omega), n2 (by omega) (by omega), n2 (by omega) (by omega)⟩
  refine ⟨by simp, ?_, ?_, ?_, ?_, ?_⟩
  · rintro i h ⟨hz, hI, ⟨x, y, hO⟩, q1, q2⟩ c hc
    simp only [List.mem_cons, List.not_mem_nil, or_false] at hc
    rcases hc with rfl | rfl | rfl | rfl | rfl
    · exact ⟨_, hz, fun v q => nomatch q⟩
    · exact ⟨_, hI, fun v q => nomatch q⟩
    · exact ⟨_, hO, fun v q => nomatch q⟩
    · exact q1.obj
    · exact q2.obj
  · rintro i h h' ⟨hz, hI, ⟨x, y, hO⟩, q1, q2⟩ kp
    exact ⟨kp _ (by simp) _ hz, kp _ (by simp) _ hI, ⟨x, y, kp _ (by simp) _ hO⟩, q1.at fun o => kp _ (by simp) o, q2.at fun o => kp _ (by simp) o⟩
  · intro X hP hw hK hc i pins s σ H E I hf st hg
    subst hP hw hK
    obtain ⟨hz, hI, ⟨x0, y0, hO⟩, q1, q2⟩ := st
    obtain ⟨xs, ys, x, y, hqx, hqy, hx, hy⟩ := hg
    obtain ⟨its, rv, p1, _⟩ := sqK I hqx
    obtain ⟨jts, rv2, p2, _⟩ := sqK I hqy
    obtain ⟨u, hu, ru⟩ := rv.get hx
    obtain ⟨v, hv, rv'⟩ := rv2.get hy
    have lz : (n + 4 : Nat) < s.heap.objs.size := Heap.lt_size hz
    have l1 : i < its.toArray.size := by simpa using (List.getElem?_eq_some_iff.mp hu).1
    have l2 : i < jts.toArray.size := by simpa using (List.getElem?_eq_some_iff.mp hv).1
    have hh : X.A.in1.handled = none := I.ok.hd hc
    refine wpAny_pyNext_zipD2_item S (drawsK hh k1 n a (nn (by omega)) its.toArray) (drawsK hh k2 (n + 1) b (nn (by omega)) jts.toArray) hz hI hO ⟨q1, p1⟩ ⟨q2, p2⟩ l1 l2 fun u1 u2 h' tk e1 e2 z' _ s1 s2 hT _ kp => ?_
    have eu : u1 = u := by
      have : its.toArray[i]? = some u := by simpa using hu
      rw [this] at e1
      exact (Option.some.inj e1).symm
    have ev : u2 = v := by
      have : jts.toArray[i]? = some v := by simpa using hv
      rw [this] at e2
      exact (Option.some.inj e2).symm
    subst eu ev
    refine ⟨_, rfl, wpAny_letOwnedTupleGo_zip (s := { s with heap := h', toks := tk }) z' fun h2 z2 sb => ?_⟩
    have sb' : ∀ c, c ≠ n + 4 → h2.get? c = h'.get? c := fun c hc => sb.2 c hc
    have hT2 : h2.get? s.heap.objs.size = some { cls := .type "tuple", data := .seq #[u1, u2] } := (sb' _ (nn (by omega))).trans hT
    have new : ObjOk X.prog X.w (upd H s.heap.objs.size (.tup [x, y])) h2 s.heap.objs.size (.tup [x, y]) :=
      ⟨Nat.le_of_ble_eq_true rfl, [u1, u2], .cons ru (.cons rv' .nil), ⟨_, hT2, rfl, _, rfl⟩⟩
    have I1 : Inv X pins σ (upd H s.heap.objs.size (.tup [x, y])) { s with heap := h2, toks := tk } := by
      refine I.turnedNew (t' := tk) (ch := [n + 4, n + 2, n + 3, n, n + 1]) (fun c o hb q => ?_) hf (Nat.le_refl _) new
      obtain ⟨c1, c2, c3, c4⟩ := nc5 fun z => hb (mem5.mpr z)
      exact (sb' c c1).trans (kp c o c1 c2 c3 c4 q)
    refine ⟨.ref s.heap.objs.size, _, I1, rfl, ⟨_, x, y, rfl, I.hok.fresh (Nat.le_refl _), rfl, fun l hl => by rw [sqK_inj I hl hqx]; exact hx, fun l hl => by rw [sqK_inj I hl hqy]; exact hy⟩, ⟨z2, ?_, ?_, ?_, ?_⟩, fun c hcm => ?_⟩
    · exact (sb' _ (nn (by omega))).trans (kp _ _ (nn (by omega)) (nn (by omega)) (nn (by omega)) (nn (by omega)) hI)
    · refine ⟨u1, u2, ?_⟩
      show h2.get? (n + 3) = _
      rw [sb' _ (nn (by omega))]
      assumption
    · exact s1.1.at fun o q => (sb' _ (nn (by omega))).trans q
    · exact s2.1.at fun o q => (sb' _ (nn (by omega))).trans q
    · have := mem5.mp hcm
      rw [upd_ne (nn (a := c) (b := s.heap.objs.size) (by omega))]
      exact (hf c hcm).1
  · intro X hP hw hK hc i pins s σ H E I hf st hg
    subst hP hw hK
    obtain ⟨hz, hI, ⟨x0, y0, hO⟩, q1, q2⟩ := st
    obtain ⟨xs, ys, hqx, hqy, g1, g2, ge⟩ := hg
    obtain ⟨its, rv, p1, _⟩ := sqK I hqx
    obtain ⟨jts, rv2, p2, _⟩ := sqK I hqy
    have l1 := rv.length
    have l2 := rv2.length
    have z1 : its.toArray.size = its.length := by simp
    have z2 : jts.toArray.size = jts.length := by simp
    have hh : X.A.in1.handled = none := I.ok.hd hc
    refine wpAny_pyNext_zipD2_end S (drawsK hh k1 n a (nn (by omega)) its.toArray) (drawsK hh k2 (n + 1) b (nn (by omega)) jts.toArray) hz hI hO ⟨q1, p1⟩ ⟨q2, p2⟩ (by omega) (by omega) (by omega) fun h' tk kp => ⟨rfl, I.turnedL (t' := tk) (ch := [n + 4, n + 2, n + 3, n, n + 1]) (fun c o hb q => ?_) hf⟩
    obtain ⟨c1, c2, c3, c4⟩ := nc5 fun z => hb (mem5.mpr z)
    exact kp c o c1 c2 c3 c4 q
  · exact fun A i s Q E st h => wpAny_pyIter_zip st.1 h
def iZipM (K : PySem.W.Frag) (ta : TA) : TI := fun σ H R => ta σ H fun vs H1 => ∃ k1 k2 a b xs ys, vs = [.ref a, .ref b] ∧ SqK K H1 k1 a xs ∧ SqK K H1 k2 b ys ∧ R (ItzM K k1 k2 a b) H1
theorem pi_zipM {X : Cx} {e e2 : Expr} {ta : TA} {p pos tpos : Pos} {elts : List Expr} {kk : Nat} (hg : Gl X "zip") (hm : X.mg "zip" = none) (ha : PA X [e, e2] ta)
    (hs : starEach [e, e2] X.env = (false, eval e X.env) :: starEach [e2] X.env := by rfl) (hpl : (backTo pos (starEach [e2] X.env)).any (·.1) = false := by rfl) : PI X (.Tuple elts kk tpos) (.Call (.Name "zip" p) [e, e2] [] pos) (iZipM X.K ta) := by
  refine ⟨fun pins s σ H R I h => ?_⟩
  refine Call_ (ld_blt I hg hm PyProof.Rows.boot_zip (PyProof.Rows.callWith_type1 (thn (ha.run pos pins s σ H _ I h) fun us s1 q => ?_) hs hpl))
  obtain ⟨vs, H1, I1, r1, k1, k2, a, b, xs, ys, rfl, hqx, hqy, q⟩ := q
  obtain ⟨u1, u2, rfl, r1, r2⟩ := vals2 r1
  obtain rfl : u1 = Value.ref a := r1
  obtain rfl : u2 = Value.ref b := r2
  obtain ⟨its, rv, p1, la⟩ := sqK I1 hqx
  obtain ⟨jts, rv2, p2, lb⟩ := sqK I1 hqy
  refine zip_begins2 (beginsK k1 a its.toArray) (beginsK k2 b jts.toArray) p1 p2 fun h' hz hI hO g1 g2 _ kp => wpAny_pyIter_zip hz ?_
  have I2 : Inv X pins σ H1 { s1 with heap := h' } := I1.kept (t' := s1.toks) kp
  refine ⟨s1.heap.objs.size + 4, [s1.heap.objs.size + 4, s1.heap.objs.size + 2, s1.heap.objs.size + 3, s1.heap.objs.size, s1.heap.objs.size + 1], _, ItzM X.K k1 k2 a b, H1, rfl, I2, turn_zipM la lb, ⟨hz, hI, ⟨_, _, hO⟩, ?_, ?_⟩, fun c hc => ?_, q⟩
  · cases k1 <;> exact ⟨_, g1, rfl, rfl⟩
  · cases k2 <;> exact ⟨_, g2, rfl, rfl⟩
  · have : s1.heap.objs.size ≤ c := (mem5.mp hc).1
    exact I1.fpOk this (I1.hok.fresh this)
theorem walk_zipM {K : PySem.W.Frag} {k1 k2 : Bool} {a b : Addr} {xs ys : List V} {n : Nat} (hn : n = min xs.length ys.length) :
    Walk (ItzM K k1 k2 a b) n (fun H => SqK K H k1 a xs ∧ SqK K H k2 b ys) (YPair (fun i => xs[i]?) (fun i => ys[i]?)) := by
  refine ⟨fun i H hi q => ?_, fun H q => ⟨xs, ys, q.1, q.2, by omega, by omega, by omega⟩, fun i H v H' hi q y => ?_⟩
  · exact ⟨xs, ys, xs[i]'(by omega), ys[i]'(by omega), q.1, q.2, List.getElem?_eq_getElem (by omega), List.getElem?_eq_getElem (by omega)⟩
  · obtain ⟨t, x, z, e1, e2, e3, e4, e5⟩ := y
    exact ⟨t, x, z, e1, e2, e3, e4 xs q.1, e5 ys q.2⟩
theorem SqK.mono {K : PySem.W.Frag} {H H' : Hp} {k : Bool} {a : Addr} {xs : List V} (s : Same H H') (h : SqK K H k a xs) : SqK K H' k a xs := by
  cases k
  · exact Z.SqT.mono s h
  · exact Z.SqL.mono s h
end ZM
namespace DL
open PySem L2 Z PySem.Spec PyProof.Rows
variable [Tbs]
section
variable {K : PySem.W.Frag} {n : Nat} {J : Jv n}
theorem seqK_of {G : Hp} {v : V} {d : PyData} {P : List PyData → Prop} (q : Dq K G v d) (h : seqF d P) : ∃ k a xs ds, v = .ref a ∧ ZM.SqK K G k a xs ∧ DqAll K G xs ds ∧ P ds := by
  unfold seqF at h
  split at h
  · next ds =>
    obtain ⟨a, xs, rfl, s, r⟩ := q.list_of
    exact ⟨true, a, xs, ds, rfl, s, r, h⟩
  · next ds =>
    obtain ⟨a, xs, rfl, s, r⟩ := q.tuple_of
    exact ⟨false, a, xs, ds, rfl, s, r, h⟩
  · exact h.elim
def iZM (f : FA) : FA := fun ρ P => f ρ fun ds ρ1 => match ds with
  | [x, y] => seqF x fun es => seqF y fun gs => P (zipD es gs) ρ1
  | _ => False
theorem ri_zipM {ta : TA} {f : FA} (h : RA K J ta f) : RI K J (ZM.iZipM K ta) (iZM f) := by
  intro O as σ H R ρ P E q k
  refine h O as σ H _ ρ _ E q fun ds ρ1 vs H1 q1 f1 E1 d1 => ?_
  split at q1
  · next x y =>
    cases d1 with
    | cons d1 b => cases b with
      | cons d2 b =>
        cases b
        obtain ⟨k1, a, xs, es, rfl, s, r, q1⟩ := seqK_of d1 q1
        obtain ⟨k2, a', xs', gs, rfl, s', r', q1⟩ := seqK_of d2 q1
        refine ⟨k1, k2, a, a', xs, xs', rfl, ZM.SqK.mono hp_same s, ZM.SqK.mono hp_same s', k _ _ _ _ q1 f1 E1 ?_⟩
        refine ⟨_, _, ZM.walk_zipM (xs := xs) (ys := xs') (n := (zipD es gs).length) (by rw [zipD_len, ← r.length, ← r'.length]), fun A' H2 s2 => ⟨ZM.SqK.mono hp_same (ZM.SqK.mono s2 s), ZM.SqK.mono hp_same (ZM.SqK.mono s2 s')⟩, fun i d A' H2 x H3 hd s2 oc y => ?_⟩
        obtain ⟨T, x1, y1, rfl, hT, e, e1, e2⟩ := y
        obtain ⟨c1, g1, q1'⟩ := r.get e1
        obtain ⟨c2, g2, q2'⟩ := r'.get e2
        rw [zipD_get hd g1 g2]
        exact yPair (A := fun _ => False) (H := H) hT e oc (q1'.mono s2) (q2'.mono s2)
  · exact q1.elim
end
/-! is not True -/
theorem op_notB {X : Cx} : OpR X (compareOp .IsNot) (fun x y H Q => ∃ b, y = .bl b ∧ (∀ n, x ≠ .ty n) ∧ Q (.bl (!decide (x = .bl b))) H) := by
  intro pins s σ H x y v u Q I rx ry h
  obtain ⟨b, rfl, nt, q⟩ := h
  cases ry
  have key : ∀ c : Bool, (!decide (x = V.bl b)) = c → wpAny (model X.prog X.w) X.A (pure (.bool c)) (EP X pins σ Q) X.xe s := fun c e => wpAny_pure ⟨.bl c, H, I, rfl, by rw [← e]; exact q⟩
  cases x with
  | non => cases rx; exact key true rfl
  | bl c => cases rx; cases c <;> cases b <;> first | exact key true rfl | exact key false rfl
  | int i => obtain ⟨t, rfl⟩ := rx; exact key true rfl
  | str i => obtain ⟨t, rfl⟩ := rx; exact key true rfl
  | byt i => obtain ⟨t, rfl⟩ := rx; exact key true rfl
  | flt i => obtain ⟨t, rfl⟩ := rx; exact key true rfl
  | ref a => cases rx; exact key true rfl
  | ty n => exact absurd rfl (nt n)
def oIsntT : G2 := fun a d P => match d with
  | .bool b => P (.bool (!isBool b a))
  | _ => False
theorem rr_notB {K : PySem.W.Frag} : RR K (fun x y H Q => ∃ b, y = .bl b ∧ (∀ n, x ≠ .ty n) ∧ Q (.bl (!decide (x = .bl b))) H) oIsntT := by
  intro A H Q x y a c P oc da db g k
  unfold oIsntT at g
  split at g
  · next b =>
    cases db
    refine ⟨b, rfl, fun n => ?_, ?_⟩
    · cases da <;> exact fun z => nomatch z
    · have e : decide (x = V.bl b) = isBool b a := by
        cases da <;> first | rfl | (next z => cases z <;> cases b <;> rfl)
      rw [e]
      exact k _ _ _ g (Same.refl _) (.bl _)
  · exact g.elim
end DL
/-! own lists and things of the store read as data while they stay -/
namespace DL
open PySem L2 Z PySem.Spec PyProof.Rows
variable [Tbs]
mutual
/-- a thing with what stands in the store now laid open -/
inductive Res (S : Sto) : PyData → PyData → Prop
  | refl (d : PyData) : Res S d d
  | lst {a : Addr} {ds ds' : List PyData} : S a = some (.lst ds) → ResAll S ds ds' → Res S (hdl a) (.list ds')
  | obj {a : Addr} {c : Str} {fs fs' : List (PyData × PyData)} : S a = some (.obj c fs) → ResFs S fs fs' → Res S (hdl a) (.dict ((.str c, .none) :: fs'))
  | tup {ds ds' : List PyData} : ResAll S ds ds' → Res S (.tuple ds) (.tuple ds')
  | list {ds ds' : List PyData} : ResAll S ds ds' → Res S (.list ds) (.list ds')
  | objF {c : Str} {fs fs' : List (PyData × PyData)} : ResFs S fs fs' → Res S (.dict ((.str c, .none) :: fs)) (.dict ((.str c, .none) :: fs'))
inductive ResAll (S : Sto) : List PyData → List PyData → Prop
  | nil : ResAll S [] []
  | cons {d d' : PyData} {ds ds' : List PyData} : Res S d d' → ResAll S ds ds' → ResAll S (d :: ds) (d' :: ds')
inductive ResFs (S : Sto) : List (PyData × PyData) → List (PyData × PyData) → Prop
  | nil : ResFs S [] []
  | cons {f : Str} {d d' : PyData} {ds ds' : List (PyData × PyData)} : Res S d d' → ResFs S ds ds' → ResFs S ((.str f, d) :: ds) ((.str f, d') :: ds')
end
theorem ResAll.refl {S : Sto} : ∀ ds : List PyData, ResAll S ds ds
  | [] => .nil
  | d :: r => .cons (.refl d) (ResAll.refl r)
inductive ResSl (S : Sto) : Sl → Sl → Prop
  | fz {d d' : PyData} : Res S d d' → ResSl S (.fz d) (.fz d')
  | own {ds ds' : List PyData} : ResAll S ds ds' → ResSl S (.own ds) (.fz (.list ds'))
  | no : ResSl S .no .no
  | fgt {d : PyData} : ResSl S (.fz d) .no
  | fgo {ds : List PyData} : ResSl S (.own ds) .no
/-- what is seen of the slots while nothing changes -/
inductive ResEn (S : Sto) : En → En → Prop
  | nil : ResEn S [.st S] []
  | cons {s s' : Sl} {ρ ρ' : En} : ResSl S s s' → ResEn S ρ ρ' → ResEn S (s :: ρ) (s' :: ρ')
section
variable {K : PySem.W.Frag} {n : Nat} {J : Jv n}
section
variable {S : Sto} {G G' : Hp} {H : Hp}
theorem Dq.hdl_of {v : V} {a : Addr} (h : Dq K G v (DL.hdl a)) : v = .ref a := by
  unfold DL.hdl at h
  generalize e : PyData.dict [(PyData.none, PyData.int ↑a)] = d at h
  cases h <;> first | (cases e; done) | skip
  rename_i b
  unfold DL.hdl at e
  injection e with e
  injection e with e _
  injection e with _ e
  injection e with e
  rw [Int.ofNat.inj e]
mutual
theorem Res.dq (st : StoR K G H S) (s : Same G G') (k : ∀ a, S a ≠ none → G' a = H a) : ∀ {d d' : PyData} {v : V}, Res S d d' → Dq K G v d → Dq K G' v d'
  | _, _, _, .refl _, q => q.mono s
  | _, _, _, .lst e r, q => by
    rw [q.hdl_of]
    obtain ⟨u, e1, q1⟩ := st _ _ e
    cases q1 with
    | lst q1 => exact .lst (SqL.of (by rw [k _ (by rw [e]; exact Option.some_ne_none _)]; exact e1)) (ResAll.dq st s k r q1)
  | _, _, _, .obj e r, q => by
    rw [q.hdl_of]
    obtain ⟨u, e1, q1⟩ := st _ _ e
    cases q1 with
    | obj h q1 => exact .obj h (by rw [k _ (by rw [e]; exact Option.some_ne_none _)]; exact e1) (ResFs.dq st s k r q1)
  | _, _, _, .tup r, .tup h q => .tup (SqT.mono s h) (ResAll.dq st s k r q)
  | _, _, _, .list r, .lst h q => .lst (SqL.mono s h) (ResAll.dq st s k r q)
  | _, _, _, .objF r, q => by
    cases q with
    | obj h e q => exact .obj h (s _ _ e) (ResFs.dq st s k r q)
theorem ResAll.dq (st : StoR K G H S) (s : Same G G') (k : ∀ a, S a ≠ none → G' a = H a) : ∀ {d d' : List PyData} {v : List V}, ResAll S d d' → DqAll K G v d → DqAll K G' v d'
  | _, _, _, .nil, .nil => .nil
  | _, _, _, .cons a r, .cons b q => .cons (Res.dq st s k a b) (ResAll.dq st s k r q)
theorem ResFs.dq (st : StoR K G H S) (s : Same G G') (k : ∀ a, S a ≠ none → G' a = H a) : ∀ {d d' : List (PyData × PyData)} {v : List (Str × V)}, ResFs S d d' → DqFs K G v d → DqFs K G' v d'
  | _, _, _, .nil, .nil => .nil
  | _, _, _, .cons a r, .cons b q => .cons (Res.dq st s k a b) (ResFs.dq st s k r q)
end
end
def frz : Sl → Sl
  | .own ds => .fz (.list ds)
  | s => s
def noA : As := fun _ => none
theorem own_no {a : Addr} {as : As} {H : Hs} (h : Own noA H a) : Own as H a := by
  rcases h with ⟨_, _, h, _⟩ | h
  · cases h
  · exact .inr h
theorem EnR.vis {O : Addr → Prop} {as : As} {H : Hs} {ρ : En} {σ : L2.St} (E : EnR K J O as H ρ σ) : ∀ i r b, as i = some r → Rgn H r b → ¬ Hid O noA H b := fun i r b h q w => by
  rcases w with w | ⟨_, _, w, _⟩ | w
  · exact E.out i r b h q w
  · cases w
  · exact E.tab.nod (E.nod h q) w
theorem EnR.visS {O : Addr → Prop} {as : As} {H : Hs} {ρ : En} {σ : L2.St} (_E : EnR K J O as H ρ σ) : Same (hq O as H) (hq O noA H) := hp_less fun a h => by
  rcases h with h | h
  · exact .inl h
  · exact .inr (own_no h)
/-- own lists seen as data, no store -/
theorem EnR.view {O : Addr → Prop} {as : As} {H : Hs} {ρ : En} {σ : L2.St} (E : EnR K J O as H ρ σ) (ns : ∀ S, Sl.st S ∉ ρ) : EnR K (J0 : Jv n) O noA H (ρ.map frz) σ := by
  have hl : ρ.length = σ.length := by
    have L := E.len
    rcases Nat.lt_or_ge σ.length ρ.length with z | z
    · have e := E.sto σ.length (E.tl σ.length _ (List.getElem?_eq_getElem z) (Nat.le_refl _))
      exact absurd (List.mem_of_getElem? e.2.1) (ns _)
    · omega
  refine ⟨by rw [List.length_map]; exact E.len, fun i sl h1 h2 => ?_, fun i sl o h1 h2 => ?_, fun i h => (by cases h), fun i j _ _ _ h1 => (by cases h1), fun i _ _ h => (by cases h), fun i a h => (by cases h), E.occ, trivial, trivial, E.tab⟩
  · have := (List.getElem?_eq_some_iff.mp h1).1
    rw [List.length_map] at this
    omega
  · rw [List.getElem?_map] at h1
    cases e : ρ[i]? with
    | none => rw [e] at h1; cases h1
    | some s =>
      rw [e] at h1
      cases h1
      have r := E.at_ i s o e h2
      show SlR K _ _ none _ _
      have no := E.vis i
      generalize as i = z at r no
      cases r with
      | no => exact .no
      | fz q => exact .fz (q.mono E.visS)
      | own q z => exact .fz (.lst (SqL.of (hp_mk (no _ _ rfl .here) q)) (z.mono E.visS))
/-- .. and the store -/
theorem ResEn.at_ {S : Sto} {i : Nat} {s' : Sl} : ∀ {ρ ρ' : En}, ResEn S ρ ρ' → ρ'[i]? = some s' → ∃ s, ρ[i]? = some s ∧ ResSl S s s' := fun {ρ ρ'} h => by
  induction h generalizing i with
  | nil => intro z; cases z
  | cons a r ih =>
    intro z
    cases i with
    | zero => cases z; exact ⟨_, rfl, a⟩
    | succ i => exact ih z
theorem ResEn.last {S : Sto} {ρ ρ' : En} (h : ResEn S ρ ρ') : ρ[ρ'.length]? = some (.st S) ∧ ρ.length = ρ'.length + 1 := by
  induction h with
  | nil => exact ⟨rfl, rfl⟩
  | cons a r ih => exact ⟨ih.1, by rw [List.length_cons, List.length_cons, ih.2]⟩
theorem EnR.viewS {O : Addr → Prop} {as : As} {H : Hs} {ρ ρ' : En} {σ : L2.St} {S : Sto} (E : EnR K J O as H ρ σ) (r : ResEn S ρ ρ') : EnR K (J0 : Jv n) O noA H ρ' σ := by
  obtain ⟨h1, h2⟩ := r.last
  obtain ⟨a1, e, st⟩ := E.st_at h1
  have hl : ρ'.length = σ.length := (E.sto _ a1).1
  have k : ∀ a, S a ≠ none → hq O noA H a = H.hp a := fun a h => hp_of (E.vis _ .sto a a1 (by show H.st a ≠ none; rw [← e]; exact h))
  refine ⟨by omega, fun i sl h1 h2 => ?_, fun i sl o h1 h2 => ?_, fun i h => (by cases h), fun i j _ _ _ h1 => (by cases h1), fun i _ _ h => (by cases h), fun i a h => (by cases h), E.occ, trivial, trivial, E.tab⟩
  · have := (List.getElem?_eq_some_iff.mp h1).1
    omega
  · obtain ⟨s, e1, rs⟩ := r.at_ h1
    have q := E.at_ i s o e1 h2
    show SlR K _ _ none _ _
    have no := E.vis i
    generalize as i = z at q no
    cases rs with
    | fz r =>
      cases q with
      | fz q => exact .fz (r.dq st E.visS k q)
    | own r =>
      cases q with
      | own q z => exact .fz (.lst (SqL.of (hp_mk (no _ _ rfl .here) q)) (r.dq st E.visS k z))
    | no => exact .no
    | fgt => exact .no
    | fgo => exact .no
/-- but for tables nothing is changed -/
theorem EnR.still {O : Addr → Prop} {as : As} {H H' : Hs} {ρ : En} {σ : L2.St} (E : EnR K J O as H ρ σ) (f : Fr noA H H') (t : TabsOk H'.hp) : EnR K J O as H' ρ σ ∧ Fr as H H' := by
  have st : Stay as H H' := ⟨fun i r b h q => by
    have nd := E.nod h q
    obtain ⟨o, e, _⟩ := id nd
    rw [e]
    refine f.fr _ _ (fun z => ?_) e
    rcases z with ⟨_, _, z, _⟩ | z
    · cases z
    · exact E.tab.nod nd z, f.nst fun _ z => by cases z⟩
  have f' : Fr as H H' := ⟨f.fr.up fun a h => own_no h, fun a h => .inl (st.own.mp h), f.liv, fun _ => st.st⟩
  exact ⟨E.keepS st f' t, f'⟩
def noSt (ρ : En) : Bool := ρ.all fun s => match s with
  | .st _ => false
  | _ => true
theorem noSt_of {ρ : En} (h : noSt ρ = true) : ∀ S, Sl.st S ∉ ρ := fun S z => by
  have := List.all_eq_true.mp h _ z
  cases this
def fBorT (f : FT) : FT := fun ρ P => noSt ρ = true ∧ f (ρ.map frz) fun b _ => P b ρ
theorem rt_bor {t : TT} {f : FT} (h : RT K (J0 : Jv n) t f) : RT K J t (fBorT f) := by
  intro O as σ H Q ρ P E q k
  refine h O noA σ H _ _ _ (E.view (noSt_of q.1)) q.2 fun b ρ' H' p fr E' => ?_
  exact k b ρ H' p (E.still fr E'.tab).2 (E.still fr E'.tab).1
mutual
/-- data that never changes, whatever does -/
def immD : PyData → Bool
  | .none => true
  | .bool _ => true
  | .int _ => true
  | .str _ => true
  | .tuple ds => immAll ds
  | _ => false
def immAll : List PyData → Bool
  | [] => true
  | d :: r => immD d && immAll r
end
mutual
theorem Dq.imm {G G' : Hp} (k : ∀ a xs, SqT K G a xs → SqT K G' a xs) : ∀ {v : V} {d : PyData}, immD d = true → Dq K G v d → Dq K G' v d
  | _, _, _, .non => .non
  | _, _, _, .bl b => .bl b
  | _, _, _, .int i => .int i
  | _, _, _, .str x => .str x
  | _, _, h, .tup s q => .tup (k _ _ s) (DqAll.imm k (by rw [immD] at h; exact h) q)
  | _, _, h, .lst _ _ => by cases h
  | _, _, h, .obj _ _ _ => by cases h
  | _, _, h, .exc _ _ _ _ => by cases h
  | _, _, h, .fnc _ => by cases h
  | _, _, h, .hdl => by cases h
  | _, _, h, .tn _ _ _ => by cases h
theorem DqAll.imm {G G' : Hp} (k : ∀ a xs, SqT K G a xs → SqT K G' a xs) : ∀ {v : List V} {d : List PyData}, immAll d = true → DqAll K G v d → DqAll K G' v d
  | _, _, _, .nil => .nil
  | _, _, h, .cons a r => by
    rw [immAll, Bool.and_eq_true] at h
    exact .cons (Dq.imm k h.1 a) (DqAll.imm k h.2 r)
end
theorem EnR.noTup {O : Addr → Prop} {as : As} {H : Hs} {ρ : En} {σ : L2.St} (E : EnR K J O as H ρ σ) {a : Addr} {xs : List V} {u : HO} (h : H a = some u) (hu : u = .tup xs ∨ ∃ o, u = .frz o (.tup xs)) : ¬ Own as H a := fun q => by
  rcases q with ⟨i, r, e, q⟩ | q
  · rcases E.is_reg e with ⟨b, ds, ys, rfl, _, _, h3, _⟩ | ⟨rfl, _, _, st⟩
    · rw [q.lf_of, h3] at h
      cases h
      rcases hu with z | ⟨_, z⟩ <;> cases z
    · obtain ⟨o, e⟩ := Option.ne_none_iff_exists'.mp (show H.st a ≠ none from q)
      obtain ⟨u, e1, q1⟩ := st a o e
      rw [e1] at h
      cases h
      rcases hu with z | ⟨_, z⟩ <;> (subst z; cases q1)
  · obtain ⟨p, hp, z⟩ := q
    obtain ⟨ps, h1, _⟩ := E.tab p hp
    rw [z, h] at h1
    cases h1
    rcases hu with z | ⟨_, z⟩ <;> cases z
theorem EnR.tupS {O : Addr → Prop} {as : As} {H : Hs} {ρ : En} {σ : L2.St} (E : EnR K J O as H ρ σ) : ∀ a xs, SqT K (hq O noA H) a xs → SqT K (hq O as H) a xs := fun a xs h => by
  rcases h with (h | ⟨o, h⟩) | h
  · obtain ⟨n, e⟩ := hp_some h
    refine .inl (.inl (hp_mk (fun z => ?_) e))
    rcases z with z | z
    · exact n (.inl z)
    · exact E.noTup e (.inl rfl) z
  · obtain ⟨n, e⟩ := hp_some h
    refine .inl (.inr ⟨o, hp_mk (fun z => ?_) e⟩)
    rcases z with z | z
    · exact n (.inl z)
    · exact E.noTup e (.inr ⟨o, rfl⟩) z
  · exact .inr h
theorem EnR.tupO {O : Addr → Prop} {p : Addr} {as : As} {H : Hs} {ρ : En} {σ : L2.St} (E : EnR K J O as H ρ σ) : ∀ a xs, SqT K (hq (plus O p) noA H) a xs → SqT K (hq (plus O p) as H) a xs := fun a xs h => by
  rcases h with (h | ⟨o, h⟩) | h
  · obtain ⟨n, e⟩ := hp_some h
    refine .inl (.inl (hp_mk (fun z => ?_) e))
    rcases z with z | z
    · exact n (.inl z)
    · exact E.noTup e (.inl rfl) z
  · obtain ⟨n, e⟩ := hp_some h
    refine .inl (.inr ⟨o, hp_mk (fun z => ?_) e⟩)
    rcases z with z | z
    · exact n (.inl z)
    · exact E.noTup e (.inr ⟨o, rfl⟩) z
  · exact .inr h
def plainD (d : PyData) : Bool := immD d
def fBorE (f : FE) : FE := fun ρ P => noSt ρ = true ∧ f (ρ.map frz) fun d _ => immD d = true ∧ P d ρ
theorem re_bor {t : TE} {f : FE} (h : RE K (J0 : Jv n) t f) : RE K J t (fBorE f) := by
  intro O as σ H Q ρ P E q k
  refine h O noA σ H _ _ _ (E.view (noSt_of q.1)) q.2 fun d ρ' v H' p fr E' dv => ?_
  obtain ⟨E2, f2⟩ := E.still fr E'.tab
  exact k d ρ v H' p.2 f2 E2 (dv.imm E2.tupS p.1)
/-- seen with the store laid open -/
def fOpnT (f : FT) : FT := fun ρ P => ∃ S ρ', ResEn S ρ ρ' ∧ f ρ' fun b _ => P b ρ
theorem rt_opn {t : TT} {f : FT} (h : RT K (J0 : Jv n) t f) : RT K J t (fOpnT f) := by
  intro O as σ H Q ρ P E q k
  obtain ⟨S, ρ', r, q⟩ := q
  refine h O noA σ H _ _ _ (E.viewS r) q fun b ρ' H' p fr E' => ?_
  exact k b ρ H' p (E.still fr E'.tab).2 (E.still fr E'.tab).1
def fOpnE (f : FE) : FE := fun ρ P => ∃ S ρ', ResEn S ρ ρ' ∧ f ρ' fun d _ => immD d = true ∧ P d ρ
theorem re_opn {t : TE} {f : FE} (h : RE K (J0 : Jv n) t f) : RE K J t (fOpnE f) := by
  intro O as σ H Q ρ P E q k
  obtain ⟨S, ρ', r, q⟩ := q
  refine h O noA σ H _ _ _ (E.viewS r) q fun d ρ' v H' p fr E' dv => ?_
  obtain ⟨E2, f2⟩ := E.still fr E'.tab
  exact k d ρ v H' p.2 f2 E2 (dv.imm E2.tupS p.1)
/-- the same of an expression that makes a new list -/
def fOpnN (f : FA) : FA := fun ρ P => ∃ S ρ', ResEn S ρ ρ' ∧ f ρ' fun ds _ => immAll ds = true ∧ P ds ρ
theorem still_held {O : Addr → Prop} {as : As} {H H' : Hs} {ρ ρ' : En} {σ : L2.St} {p : Addr} {xs : List V} (E : EnR K J O as H ρ σ) (fr : Fr noA H H') (hn : NewO noA H p) (E' : EnR K (J0 : Jv n) (plus O p) noA H' ρ' σ) (hp : H' p = some (.lst xs)) : EnR K J (plus O p) as H' ρ σ ∧ Fr as H H' ∧ NewO as H p := by
  obtain ⟨E2, f2⟩ := E.still fr E'.tab
  have h0 : H p = none := hn.resolve_right fun z => by
    rcases z with ⟨_, _, z, _⟩ | z
    · cases z
    · exact E'.tab.no hp z
  have np : ∀ i r b, as i = some r → Rgn H' r b → b ≠ p := fun i r b h q z => by
    have st : H'.st = H.st := fr.nst fun _ z => by cases z
    obtain ⟨o, e, _⟩ := E.nod h ((Rgn.st st).mp q)
    rw [z, h0] at e
    cases e
  have hS : Same (hq O as H) (hq (plus O p) as H') := same_plus f2 (.inl h0)
  refine ⟨⟨E2.len, E2.tl, fun i sl o h1 h2 => (E.at_ i sl o h1 h2).mono hS fun b hb => ?_, fun i h => ?_, E2.inj, fun i r b h q z => ?_, E2.bnd, fun a q => ?_, E2.inv, J.up _ _ (fun _ z => .inl z) E.inq, E2.tab⟩, f2, .inl h0⟩
  · obtain ⟨o, e, nt⟩ := E.nod hb (Rgn.here)
    rw [e]
    refine fr.fr _ _ (fun z => ?_) e
    rcases z with ⟨_, _, z, _⟩ | z
    · cases z
    · exact E.tab.nod ⟨o, e, nt⟩ z
  · obtain ⟨e1, e2, e3⟩ := E.sto i h
    have st : H'.st = H.st := fr.nst fun _ z => by cases z
    rw [st]
    refine ⟨e1, e2, e3.move hS fun a z => ?_⟩
    obtain ⟨o, e, nt⟩ := E.nod h z
    rw [e]
    refine fr.fr _ _ (fun z => ?_) e
    rcases z with ⟨_, _, z, _⟩ | z
    · cases z
    · exact E.tab.nod ⟨o, e, nt⟩ z
  · rcases z with z | z
    · exact E2.out i r b h q z
    · exact np i r b h q z
  · rcases q with q | q
    · exact E2.occ a q
    · rw [q, hp]; exact Option.some_ne_none _
theorem rn_opn {t : TE} {f : FA} (h : RN K (J0 : Jv n) t f) : RN K J t (fOpnN f) := by
  intro O as σ H Q ρ P E q k
  obtain ⟨S, ρ', r, q⟩ := q
  refine h O noA σ H _ _ _ (E.viewS r) q fun ds ρ' p xs H' pr fr hn E' hp dv => ?_
  obtain ⟨E2, f2, n2⟩ := still_held E fr hn E' hp
  exact k ds ρ p xs H' pr.2 f2 n2 E2 hp (dv.imm (fun a xs => (E2.lessO E.inq).tupO a xs) pr.1)
end
end DL
/-! a part of an own list replaced -/
namespace DL
open PySem L2 Z PySem.Spec PyProof.Rows
variable [Tbs]
def gSlc (to tl th : TE) : TG := fun v σ H Q => to σ H fun o H1 => tl σ H1 fun x H2 => th σ H2 fun y H3 => ∃ a b xs ys lo hi, o = .ref a ∧ v = .ref b ∧ x = .int lo ∧ y = .int hi ∧ H3 a = some (.lst xs) ∧ H3 b = some (.lst ys) ∧ a ≠ b ∧ 0 ≤ lo ∧ lo ≤ hi ∧ hi ≤ xs.length ∧ xs.length + ys.length ≤ sizeLine ∧ Q σ (upd H3 a (.lst (xs.take lo.toNat ++ ys ++ xs.drop hi.toNat)))
theorem pg_slc {X : Cx} {o l u : Expr} {p pos : Pos} {to tl th : TE} (ho : PE X o to) (hl : PE X l tl) (hu : PE X u th) : PG X (.Subscript o (.Slice (some l) (some u) none p) pos) (gSlc to tl th) := by
  refine ⟨fun pins s σ H v w Q I r h => ?_⟩
  rw [arm_assign_Subscript]
  refine wpAny_bind (wpAny_holding (thn (ho.run pins s σ H _ I h) fun ov s1 ⟨x, H1, I1, r1, q1⟩ => ?_))
  refine wpAny_bind (wpAny_holding (wpAny_Slice ?_))
  rw [evalPart_some, evalPart_some, evalPart_none]
  refine thn (hl.run pins s1 σ H1 _ I1 q1) fun vl s2 ⟨xl, H2, I2, r2, q2⟩ => ?_
  refine thn (hu.run pins s2 σ H2 _ I2 q2) fun vu s3 ⟨xu, H3, I3, r3, q3⟩ => wpAny_pure ?_
  obtain ⟨a, b, xs, ys, lo, hi, rfl, rfl, rfl, rfl, ea, eb, ne, h0, h1, h2, hz, q⟩ := q3
  cases r1
  cases r
  have I4 : Inv X pins σ H3 { s3 with heap := s3.heap.push { cls := .type "slice", data := .fields #[vl, vu, .none] } } := I3.kept (t' := s3.toks) fun _ _ z => Heap.get?_push_of_some _ z
  refine wpAny_bind (wpAny_standAt (wpAny_bind (wpAny_holding ?_)))
  exact set_slice I4 ea eb ne (Heap.IsSliceOf.new ..) r2 r3 h0 h1 h2 hz fun s' I5 => wpAny_release ⟨σ, _, I5, q⟩
section
variable {K : PySem.W.Frag} {n : Nat} {J : Jv n}
def fSetSl (i : Nat) (lo hi : FE) (f : FA) : FS := fun E ρ => f ρ fun es ρ1 => ownF ρ1 i fun _ => lo ρ1 fun x ρ2 => intF x fun a => hi ρ2 fun y ρ3 => intF y fun c => ownF ρ3 i fun ds => 0 ≤ a ∧ a ≤ c ∧ c ≤ ds.length ∧ ds.length + es.length ≤ sizeLine ∧ E.nx (ρ3.set i (.own (ds.take a.toNat ++ es ++ ds.drop c.toNat)))
theorem intF_of {v : V} {G : Hp} {d : PyData} {k : Int → Prop} (q : Dq K G v d) (h : intF d k) : ∃ i, v = .int i ∧ k i := by
  unfold intF at h
  split at h
  · cases q; exact ⟨_, rfl, h⟩
  · exact h.elim
theorem rs_setSl {i : Nat} {te tl th : TE} {f : FA} {lo hi : FE} (h : RN K J te f) (hl : RE K J tl lo) (hh : RE K J th hi) : RS K J (tAsg te (gSlc (tVar i) tl th)) (fSetSl i lo hi f) := by
  intro O as σ H D ρ E R q C
  refine h O as σ H _ ρ _ R q fun es ρ1 p ys H1 q1 f1 hp0 E1 hp1 d1 => ?_
  obtain ⟨ds0, h0, q1⟩ := ownF_of q1
  obtain ⟨a, xs0, e1, e2, _, _⟩ := E1.own_at h0
  refine ⟨_, e1, ?_⟩
  refine hl (plus O p) as σ H1 _ ρ1 _ E1 q1 fun x ρ2 v H2 q2 f2 E2 d2 => ?_
  obtain ⟨lo', rfl, q2⟩ := intF_of d2 q2
  refine hh (plus O p) as σ H2 _ ρ2 _ E2 q2 fun y ρ3 w H3 q3 f3 E3 d3 => ?_
  obtain ⟨hi', rfl, q3⟩ := intF_of d3 q3
  obtain ⟨ds, hds, c0, c1, c2, c3, q3⟩ := ownF_of q3
  obtain ⟨a', xs, e1', e2', e3, e4⟩ := E3.own_at hds
  rw [e2] at e2'
  cases e2'
  have f23 := f2.trans f3
  have hp3 := f23.fr _ _ (E1.newp hp1) hp1
  have d1' := d1.fr f23
  refine ⟨a, p, xs, ys, lo', hi', rfl, rfl, rfl, rfl, e3, hp3, fun z => E3.out i _ a e2 .here (.inr z), c0, c1, by rw [e4.length]; exact c2, by rw [e4.length, d1.length]; exact c3, ?_⟩
  obtain ⟨E4, f4⟩ := E3.put e2 e3 ((((e4.take lo'.toNat).append d1').append (e4.drop hi'.toNat)))
  exact C.nx _ _ _ _ q3 (.of ((f1.trans f23).trans f4)) (E4.lessO R.inq)
end
abbrev rListOf (K : PySem.W.Frag) : List V → Hp → VK → Prop := fun xs H Q => ∃ p ys, xs = [.ref p] ∧ (SqL K H p ys ∨ SqT K H p ys) ∧ ∀ l, H l = none → Q (.ref l) (upd H l (.lst ys))
theorem call_listK {X : Cx} {K : PySem.W.Frag} (h : X.K = K) : CallR X (.type "list") (rListOf K) := by
  subst h
  exact call_list_of
end DL
/-! the end of a law whose def runs while no repr is under way, with one table of code objects -/
namespace Z
open PySem L2 PySem.Spec PyProof.Rows
theorem law_callTG {P : Program} {w : World} {K : PySem.W.Frag} {mg mb : Str → Option Value} {k : Nat} {fa a cd tb : Addr} {fd : FuncData} {x : Str} {sp : Sp} {s₁ : Shared} {vs : List Value} {ns : List Int}
    (kin : K.In s₁.heap) (ng : s₁.heap.Ns mainGlobals mg) (nb : s₁.heap.Ns builtinsNs mb) (boot : ∀ x : Str, x ≠ "__name__" → mb x = bootBuiltins x) (nolim : s₁.heap.NoLimit) (nogen : s₁.gens = #[])
    (at_t : s₁.heap.get? tb = some { cls := .none, data := .fields #[] }) (noT : K.lookup tb = none) (code : PySem.W.CodeHd s₁.heap cd tb)
    (bmod : ∃ (bm : Addr) (ob : Obj), mg "__builtins__" = some (.ref bm) ∧ bm ≠ builtinsNs ∧ s₁.heap.get? bm = some ob ∧ ob.cls = .type "module" ∧ ob.dict = some builtinsNs ∧ ob.data = .plain)
    (at_a : s₁.heap.get? a = some { cls := .type "list", data := .seq vs.toArray }) (ints_ : IntsAre vs ns) (few : ns.length ≤ sizeLine) (room : Room k callerA)
    (F : ∀ base : Heap, K.In base → base.Ns mainGlobals mg → LamX.TabB base mg cd tb → FnG P w K mg base k fa fd [x] sp) (bind : ∀ (s : Shared) (u : Value), BindsTo s fd ⟨[u], []⟩ [(x, u)])
    (want : ∀ H : Hp, H tb = some (.tbl #[]) → SqL K H a (ns.map V.int) → sp [.ref a] H (fun v _ => v = .bl true) fun _ _ _ => False) :
    codeAny (model P w) callerA (.call (.ref fa) ⟨[.ref a], []⟩) (fun r s' => r = .ok (.ret (.bool true)) ∧ OldK s₁.heap s'.heap ∧ s'.os = s₁.os ∧ AllBare s'.gens) s₁ := by
  have rel := vals_ints ints_
  have ne : a ≠ tb := fun z => by
    rw [z, at_t] at at_a
    have q : Data.fields #[] = Data.seq vs.toArray _ := congrArg Obj.data (Option.some.inj at_a)
    cases q
  have one : ∀ H : Hp, H tb = some (.tbl #[]) → (∀ b, b ≠ tb → H b = none ∨ ∃ o xs, H b = some (.frz o (.lst xs))) → SqL K H a (ns.map V.int) → HOk P w H s₁.heap → (∀ b, H b ≠ none → b = a ∨ b = tb) → (H a ≠ none → K.lookup a = none) →
      codeAny (model P w) callerA (.call (.ref fa) ⟨[.ref a], []⟩) (fun r s' => r = .ok (.ret (.bool true)) ∧ OldK s₁.heap s'.heap ∧ s'.os = s₁.os ∧ AllBare s'.gens) s₁ := by
    intro H hT only sq hok alone noK
    have out : ∀ {b : Addr} {o : Obj}, s₁.heap.get? b = some o → (∀ us m, o.data ≠ .seq us m) → o.data ≠ .fields #[] → H b = none := by
      intro b o e n1 n2
      refine Option.eq_none_iff_forall_ne_some.mpr fun u q => ?_
      rcases alone b (q ▸ Option.some_ne_none u) with hb | hb
      · rw [hb, at_a] at e
        injection e with e
        exact n1 _ _ (by rw [← e])
      · rw [hb, at_t] at e
        injection e with e
        exact n2 (by rw [← e])
    have nsIn : ∀ {b : Addr} {m : Str → Option Value}, s₁.heap.Ns b m → (hidT s₁.heap H).Ns b m := by
      rintro b m ⟨o, es, ep, e, d, r⟩
      exact ⟨o, es, ep, hidT_get e (out e (fun us m z => by rw [d] at z; cases z) fun z => by rw [d] at z; cases z), d, r⟩
    have kb : K.In (hidT s₁.heap H) := fun b o e => hidT_get (kin b o e) (Option.eq_none_iff_forall_ne_some.mpr fun u q => by
      rcases alone b (q ▸ Option.some_ne_none u) with hb | hb
      · rw [hb] at q e
        rw [noK (q ▸ Option.some_ne_none u)] at e
        cases e
      · rw [hb, noT] at e
        cases e)
    have lim' : (hidT s₁.heap H).NoLimit := by
      obtain ⟨mc, h1, h2⟩ := nolim
      exact ⟨mc, nsIn h1, h2⟩
    have gT : mainGlobals ≠ tb := fun z => by
      obtain ⟨o, es, ep, e, hd, _⟩ := ng
      rw [z, at_t] at e
      injection e with e
      rw [← e] at hd
      cases hd
    have tab : LamX.TabB (hidT s₁.heap H) mg cd tb := by
      refine ⟨?_, ?_, gT⟩
      · obtain ⟨o, us, fl, tf, flg, tg, inF, tx, tt, e1, r1, r2, r3, rest⟩ := code
        refine ⟨o, us, fl, tf, flg, tg, inF, tx, tt, hidT_get e1 (out e1 (fun us m z => by rw [r2] at z; cases z) fun z => ?_), r1, r2, r3, rest⟩
        rw [r2] at z
        injection z with z
        rw [z] at r3
        simp at r3
      · obtain ⟨bm, ob, b1, b2, b3, b4, b5, b6⟩ := bmod
        refine ⟨bm, ob, b1, b2, fun q => ?_, fun q => ?_, hidT_get b3 (out b3 (fun us m z => by rw [b6] at z; cases z) fun z => by rw [b6] at z; cases z), b4, b5, b6⟩
        · obtain ⟨o, es, ep, e, hd, _⟩ := ng
          rw [q, e] at b3
          injection b3 with b3
          rw [b3, b6] at hd
          cases hd
        · rw [q, at_t] at b3
          injection b3 with b3
          rw [← b3] at b6
          cases b6
    have start0 : Env0 P w K mg (hidT s₁.heap H) callerA [] s₁ H :=
      ⟨rfl, ⟨kb, nsIn ng, ⟨mb, nsIn nb, boot⟩, lim'⟩, fun b o e => of_hidT e, Nat.le_of_eq (hidT_size _ _), trivial, (fun b hb => (List.not_mem_nil hb).elim), hok, .of_eq nogen⟩
    refine codeAny_mono ((F _ kb (nsIn ng) tab).goes callerA [] s₁ H ⟨[.ref a], []⟩ [.ref a] [.ref a] _ _ room rfl start0 (bind s₁ (.ref a)) (.cons rfl .nil) (want H hT sq)) ?_
    intro res s' post
    match res, post with
    | .ok .next, post => exact (post : False).elim
    | .ok .brk, post => exact (post : False).elim
    | .ok .cont, post => exact (post : False).elim
    | .error _, post => exact (post : False).elim
    | .ok (.ret u), post =>
      obtain ⟨v, H', os, bare, un, hok', rv, q⟩ := post
      cases (show v = .bl true from q)
      cases (show u = Value.bool true from rv)
      have stay : ∀ b o, b ≠ tb → s₁.heap.get? b = some o → s'.heap.get? b = some o := fun b o nb e => by
        rcases only b nb with z | ⟨ob, xs, z⟩
        · exact un.keep b o e z (fun q => by cases q) (fun q => by cases q)
        · have e1 := (hok b _ z).1
          have e2 := (hok' b _ (un.frzs b ob _ z)).1
          rw [e] at e1
          injection e1 with e1
          rw [e1]
          exact e2
      obtain ⟨more, gz⟩ := un.tbls tb #[] hT
      have grown : s'.heap.get? tb = some { cls := .none, data := .fields (#[] ++ more) } := hok' tb _ gz
      refine ⟨rfl, ⟨fun b o e => ?_, fun b o e => ?_⟩, os, bare⟩
      · by_cases hb : b = tb
        · rw [hb] at e ⊢
          rw [at_t] at e
          cases e
          exact .inr (.inl ⟨(code.tab at_t).isCodeTable, rfl, #[], more, rfl, grown⟩)
        · exact .inl (stay b o hb e)
      · by_cases hb : b = tb
        · rw [hb]
          exact ⟨_, grown⟩
        · exact ⟨o, stay b o hb e⟩
  by_cases hk : K.lookup a = none
  · refine one (fun b => if b = a then some (.frz { cls := .type "list", data := .seq vs.toArray } (.lst (ns.map V.int))) else if b = tb then some (.tbl #[]) else none) ?_ (fun b nb => ?_)
      (.inl (.inr ⟨_, if_pos rfl⟩)) (fun b u z => ?_) (fun b z => ?_) fun _ => hk
    · exact (if_neg (fun z => ne z.symm)).trans (if_pos rfl)
    · exact if h : b = a then .inr ⟨_, _, if_pos h⟩ else .inl ((if_neg h).trans (if_neg nb))
    · by_cases h : b = a
      · dsimp only at z
        rw [if_pos h] at z
        cases z
        rw [h]
        exact ⟨at_a, by rw [List.length_map]; exact few, vs, _, rel, at_a⟩
      · dsimp only at z
        rw [if_neg h] at z
        by_cases h2 : b = tb
        · rw [if_pos h2] at z
          cases z
          rw [h2]
          exact at_t
        · rw [if_neg h2] at z
          cases z
    · by_cases h : b = a
      · exact .inl h
      · by_cases h2 : b = tb
        · exact .inr h2
        · exact (z ((if_neg h).trans (if_neg h2))).elim
  · obtain ⟨o, ho⟩ := Option.ne_none_iff_exists'.mp hk
    have e := kin a o ho
    rw [at_a] at e
    injection e with e
    refine one (fun b => if b = tb then some (.tbl #[]) else none) (if_pos rfl) (fun b nb => .inl (if_neg nb)) (.inr ⟨_, vs.toArray, _, ho, by rw [← e], by rw [← e], by rw [← e], ?_, ?_⟩) (fun b u z => ?_) (fun b z => ?_) fun z => (z (if_neg ne)).elim
    · rw [List.size_toArray, ints_.length]
      exact few
    · simpa using rel
    · by_cases h2 : b = tb
      · dsimp only at z
        rw [if_pos h2] at z
        cases z
        rw [h2]
        exact at_t
      · dsimp only at z
        rw [if_neg h2] at z
        cases z
    · by_cases h2 : b = tb
      · exact .inr h2
      · exact (z (if_neg h2)).elim
/-- what is known at the head's heap -/
def LawAtG (l : PySem.W.OpenLaw) (w : World) (K : PySem.W.Frag) (k n : Nat) (x : Str) (mg : Str → Option Value) (fa : Addr) (h : Heap) : Prop :=
  ∃ (fd : FuncData) (cd tb : Addr) (sp : Sp), h.get? tb = some { cls := .none, data := .fields #[] } ∧ K.lookup tb = none ∧ PySem.W.CodeHd h cd tb ∧ (∀ (s : Shared) (u : Value), BindsTo s fd ⟨[u], []⟩ [(x, u)]) ∧
    (∀ (H : Hp) (a : Addr) (ns : List Int), ns.length ≤ n → H tb = some (.tbl #[]) → SqL K H a (ns.map V.int) → sp [.ref a] H (fun v _ => v = .bl true) fun _ _ _ => False) ∧
    ∀ base : Heap, K.In base → base.Ns mainGlobals mg → LamX.TabB base mg cd tb → FnG l.prog w K mg base k fa fd [x] sp
theorem walk_ofTG {l : PySem.W.OpenLaw} {n k : Nat} {q : Program} {loose : List Str} {XP : (Str → Option Value) → Heap → Prop} {YP : World → Heap → Prop} {d : DefRec} {K : Params → PySem.W.Frag} {x : Str}
    (most : l.most = some n) (line : n ≤ sizeLine) (nodef : d.params.defaults = []) (room : Room k callerA) (kin : ∀ (w : World) (h : Heap), YP w h → (K w.params).In h)
    (F : ∀ (w : World) (mg : Str → Option Value) (fa : Addr) (h : Heap), YP w h → (K w.params).In h → h.Ns mainGlobals mg → mg d.name = some (.ref fa) → LawAtG l w (K w.params) k n x mg fa h) :
    PySem.W.WalkO q loose XP YP l.row.toRowW d [] (fun f vs => PySem.call f vs) := by
  refine Att.attach_callB most nodef fun w s₀ s₁ mg mb fa o pm cd doc a vs ns G Y ho hd hcd hmg hobj hints hlen hbits hg => ?_
  obtain ⟨fd, c, tb, sp, g1, g2, g3, hb, hsp, hF⟩ := F w mg fa _ Y (kin w _ Y) G.T.g hmg
  exact law_callTG (kin w _ Y) G.T.g G.T.b G.T.builtins G.T.nolimit hg g1 g2 g3 G.T.bmain hobj hints (Nat.le_trans hlen line) room hF hb fun H hH hS => hsp H a ns hlen hH hS
end Z
namespace DL
open PySem
theorem numD_int (i : Int) : numD (.int i) = some i := rfl
theorem numD_bool (b : Bool) : numD (.bool b) = some (if b then 1 else 0) := rfl
end DL
/-! set(xs) of a list, sorted(set(xs)) -/
namespace DL
open PySem L2 Z PySem.Spec PyProof.Rows
abbrev set0 (w : World) : Obj := { cls := .type "set", dict := none, data := .set #[] 0 (.fresh 0 0 (!w.params.followText "set-order")) }
section
variable {P : Program} {w : World} {A : Around} {E : Value → Shared → Prop} {s : Shared}
set_option maxRecDepth 100000 in
set_option maxHeartbeats 3200000 in
/-- set(xs): what is asked of the loop that lays the items -/
theorem set_of_list {l : Addr} {its : Array Value} {Q : Value → Shared → Prop} (Z : Heap → Prop) (hh : A.handled = none) (hl : s.heap.IsList l its)
    (go : ∀ (I : Addr) (s1 : Shared) (St : Nat → Shared → Prop) (R : Result → Shared → Prop), WalksS P w A.in1.in1.in1 I [I, l] [I] (fun a b => b = a) its.size (fun i v => its[i]? = some v) St → s.heap.objs.size ∉ [I, l] → St 0 s1 → s1.heap.get? s.heap.objs.size = some (set0 w) →
      (∀ s2, Moved (s.heap.objs.size :: [I]) (fun a b => b = a) s1 s2 → Z s2.heap → R (.ok (.ret .none)) s2) → codeAny (model P w) A.in1.in1 (.builtin "set.update.loop" ⟨[.ref s.heap.objs.size, .ref I], []⟩) R s1)
    (k : ∀ (h2 : Heap) (tk : Nat), Z h2 → (∀ b o, s.heap.get? b = some o → h2.get? b = some o) → Q (.ref s.heap.objs.size) { s with heap := h2, toks := tk }) :
    wpAny (model P w) A (call (.type "set") [.ref l]) Q E s := by
  obtain ⟨c0, tl0, mro⟩ := F.called_set.mro
  have mad := F.called_set.made
  have sb := F.called_set.sub
  refine wpAny_call (codeAny_of_tree ?_)
  show wpAny _ _ (callAny (.type "set") _) _ _ _
  refine wpAny_pure ⟨Code.quiet_builtin _ (by decide +kernel), codeAny_builtin F.entry_type_call ?_⟩
  rw [Around.under_plain (weight_type_call_type "set" [.ref l] []) rfl]
  have nt := F.called_set.notType
  have cc := F.called_set.canCreate
  have tc := F.typeCall_set_1 (.ref l)
  repeat (any_goals (first | assumption | wp_step))
  refine codeAny_mono (code_set_led1 (.ref l) (E := E) (Q₁ := fun ob t1 => ob = .ref s.heap.objs.size ∧ t1 = { s with heap := s.heap.push (set0 w) }) ⟨rfl, rfl⟩) fun r t1 hr => ?_
  cases r with
  | error e => exact hr
  | ok fl =>
    cases fl with
    | ret ob =>
      obtain ⟨rfl, rfl⟩ := hr
      have gS : (s.heap.push (set0 w)).get? s.heap.objs.size = some (set0 w) := Heap.get?_push_size _ rfl
      have tS : Shared.TypeIs { s with heap := s.heap.push (set0 w) } (.ref s.heap.objs.size) "set" := ⟨_, gS, rfl⟩
      have li := F.called_set.init.lookup
      have bi := F.called_set.init.bind (.ref s.heap.objs.size)
      repeat (any_goals (first | assumption | wp_step))
      refine codeAny_mono (codeAny_call_builtin (R := wants (fun r t2 => r = .none ∧ ∃ h2 tk, t2 = { s with heap := h2, toks := tk } ∧ Z h2 ∧ ∀ b o, s.heap.get? b = some o → h2.get? b = some o) E)
        F.called_set.init.plain F.entry_set_init (check_set_init_1 tS ?_)) fun r2 t2 hr2 => ?_
      · obtain ⟨ol, eo, ec, nl, ed⟩ := hl
        obtain ⟨oc, od, ot, os⟩ := ol
        simp only at ec ed
        subst ec; subst ed
        have eo' : (s.heap.push (set0 w)).get? l = some { cls := .type "list", dict := od, data := .seq its nl, slots := os } := Heap.get?_push_of_some _ eo
        have sls := F.sub_list_set
        have slf := F.sub_list_frozenset
        have nd : (Value.type "list" == Value.type "dict") = false := by decide
        have il : (s.heap.push (set0 w)).IsList l its := ⟨_, eo', rfl, nl, rfl⟩
        unfold Builtin.«set.__init__» noKeywords Builtin.Frozenset.updateFrom
        generalize eP : pyIter = PI
        wp_walk
        subst eP
        refine wpAny_pyIter_list il ?_
        refine wpAny_bind (wpAny_runValue ?_)
        have lS : l < s.heap.objs.size := Heap.lt_size eo
        have h3 : A.in1.in1.in1.handled = none := by simp [hh]
        have nI : l ≠ (s.heap.push (set0 w)).objs.size := by rw [Heap.size_push]; exact Nat.ne_of_lt (Nat.lt_succ_of_lt lS)
        have nS : s.heap.objs.size ∉ [(s.heap.push (set0 w)).objs.size, l] := by
          rw [Heap.size_push]
          simp only [List.mem_cons, List.not_mem_nil, or_false, not_or]
          exact ⟨Nat.ne_of_lt (Nat.lt_succ_self _), Nat.ne_of_gt lS⟩
        refine go _ _ _ _ ((Walks.list h3 _ l nI its).toS) nS ⟨⟨_, Heap.get?_push_size _ rfl, rfl, rfl⟩, il.push _⟩ (Heap.get?_push_of_some _ gS) fun s2 mv z => ?_
        obtain ⟨h2, g2, d2, t2, o2⟩ := s2
        have eg : g2 = s.gens := mv.gens
        have ed : d2 = s.drawn := mv.drawn
        have eo2 : o2 = s.os := mv.os
        subst eg; subst ed; subst eo2
        show wpAny _ _ _ _ _ _
        refine wpAny_pure ?_
        show wpAny _ _ (ret Value.none) _ _ _
        refine wpAny_pure ⟨rfl, h2, t2, rfl, z, fun b o e => ?_⟩
        have b0 := Heap.lt_size e
        refine mv.heap b o ?_ (Heap.get?_push_of_some _ (Heap.get?_push_of_some _ e))
        rw [Heap.size_push]
        simp only [List.mem_cons, List.not_mem_nil, or_false, not_or]
        exact ⟨Nat.ne_of_lt b0, Nat.ne_of_lt (Nat.lt_succ_of_lt b0)⟩
      · cases r2 with
        | error e => exact hr2
        | ok f2 =>
          cases f2 with
          | ret r =>
            obtain ⟨rfl, h2, tk, rfl, z, kp⟩ := hr2
            repeat (any_goals (first | assumption | wp_step))
            exact k _ _ z kp
          | _ => exact hr2.elim
    | _ => exact hr.elim
end
section
variable {X : Cx}
/-- set(xs), xs a list of numbers -/
def rSetI (K : PySem.W.Frag) (w : World) : List V → Hp → VK → Prop := fun vs H Q => ∃ (l : Addr) (ns : List Int), vs = [.ref l] ∧ SqL K H l (ns.map V.int) ∧ ns.length < 1000 ∧
  ∀ (p : Addr) (c : Nat), H p = none → c ≤ ns.length → Q (.ref p) (upd H p (SetO w p (fun j => decide (j ∈ ns)) c))
theorem cr_setI (hc : X.calm = true) : CallR X (.type "set") (rSetI X.K X.w) := by
  intro pins s σ H vs us Q I r h
  obtain ⟨l, ns, rfl, hs, hn, q⟩ := h
  obtain ⟨its, rv, pl, hz⟩ := I.list hs
  rw [Vals.ref1 r]
  have hi : IntsAre its ns := by simpa using rv.ints
  have hlen : its.toArray.size = ns.length := by rw [List.size_toArray, ← rv.length, List.length_map]
  refine set_of_list (fun h => ∃ c, c ≤ ns.length ∧ SetR X.w h s.heap.objs.size (fun j => decide (j ∈ ns)) c) (I.ok.hd hc) pl.isList (fun J s1 St R W nS st gS kR => ?_) fun h2 tk z kp => ?_
  · have val : ∀ (i : Nat) (v : Value), its.toArray[i]? = some v → ∃ k t, ns[i]? = some k ∧ v = .int k t := fun i v hv => by
      have hi' : i < ns.length := by rw [← hlen]; exact (Array.getElem?_eq_some_iff.mp hv).1
      obtain ⟨t, e⟩ := hi.int_at i v (by simpa using hv)
      refine ⟨ns[i], t, List.getElem?_eq_getElem hi', ?_⟩
      rw [e, List.getD_eq_getElem?_getD, List.getElem?_eq_getElem hi'] <;> rfl
    refine set_update_ints W s.heap.objs.size nS ns hlen (by unfold scanBound; omega) val (its.toArray.size - 0) 0 s1 (by omega) (Nat.zero_le _) st ⟨0, Nat.le_refl 0, setR_new_at gS⟩ fun s2 c mv hc' hS => ?_
    exact kR s2 mv ⟨c, by omega, hS⟩
  · obtain ⟨c, hc', hS⟩ := z
    have ex : { s with heap := h2, toks := tk } = { s with heap := h2, toks := tk } := rfl
    refine ⟨.ref s.heap.objs.size, _, I.call (ch := []) (Un.laid kp (Nat.le_refl _) (I.hok.fresh (Nat.le_refl _))) (I.hok.laid kp (Nat.le_refl _) (setO_new hS)) I.bare (fun _ z => nomatch z), rfl, q _ c (I.hok.fresh (Nat.le_refl _)) hc'⟩
end
end DL
/-! things of the store: made, read, changed -/
namespace DL
open PySem L2 Z PySem.Spec PyProof.Rows
variable [Tbs]
def sset (S : Sto) (p : Addr) (o : SO) : Sto := fun a => if a = p then some o else S a
theorem sset_same {S : Sto} {p : Addr} {o : SO} : sset S p o p = some o := if_pos rfl
theorem sset_ne {S : Sto} {p a : Addr} {o : SO} (h : a ≠ p) : sset S p o a = S a := if_neg h
theorem sset_some {S : Sto} {p a : Addr} {o : SO} (h : sset S p o a ≠ none) : a = p ∨ S a ≠ none := by
  by_cases e : a = p
  · exact .inl e
  · rw [sset_ne e] at h; exact .inr h
/-- the store in its slot -/
def stF (ρ : En) (sx : Nat) (k : Sto → Prop) : Prop := match ρ[sx]? with
  | some (.st S) => k S
  | _ => False
theorem stF_of {ρ : En} {sx : Nat} {k : Sto → Prop} (h : stF ρ sx k) : ∃ S, ρ[sx]? = some (.st S) ∧ k S := by
  unfold stF at h
  split at h
  · next S e => exact ⟨S, e, h⟩
  · exact h.elim
section
variable {K : PySem.W.Frag} {n : Nat} {J : Jv n} {O : Addr → Prop} {as : As} {H : Hs} {ρ : En} {σ : L2.St} {S : Sto} {sx : Nat} {p : Addr}
theorem SoR.tab {H : Hp} {G : Hp} {u : HO} {o : SO} (t : TabsOk H) (h : H p = some u) (q : SoR K G u o) (v : HO) : TabsOk (upd H p v) := fun z hz => by
  obtain ⟨ps, t1, t2, t3⟩ := t z hz
  have ne : ∀ b w, H b = some w → w ≠ u → b ≠ p := fun b w e n' z' => n' (Option.some.inj (e.symm.trans (by rw [z']; exact h)))
  refine ⟨ps, by rw [upd_ne (ne _ _ t1 (fun z => q.ntb ps z.symm))]; exact t1, t2, fun po cv hcv => ?_⟩
  obtain ⟨cc, u1, u2⟩ := t3 po cv hcv
  exact ⟨cc, u1, by rw [upd_ne (ne _ _ u2 (fun z => by unfold LamX.CodeO at z; subst z; cases q))]; exact u2⟩
/-- what stands at a place of the store -/
theorem EnR.getS (E : EnR K J O as H ρ σ) (hs : ρ[sx]? = some (.st S)) {o : SO} (e : S p = some o) : ∃ u, H p = some u ∧ SoR K (hq O as H) u o := (E.st_at hs).2.2 p o e
/-- a thing of the store changed -/
theorem EnR.setS (E : EnR K J O as H ρ σ) (hs : ρ[sx]? = some (.st S)) {o : SO} (e : S p = some o) {u' : HO} {o' : SO} (q : SoR K (hq O as H) u' o') :
    EnR K J O as ⟨upd H p u', sset S p o'⟩ (ρ.set sx (.st (sset S p o'))) σ ∧ Fr as H ⟨upd H p u', sset S p o'⟩ := by
  obtain ⟨u, e1, q1⟩ := E.getS hs e
  obtain ⟨a1, e2, st⟩ := E.st_at hs
  have sp : S p ≠ none := by rw [e]; exact Option.some_ne_none _
  refine E.putS hs (fun a o ha ho => by rw [upd_ne (fun z => sp (by rw [← z]; exact ha))]; exact ho) (fun a ha => ?_) (q1.tab E.tab e1 u') (liv_upd _) fun F => ?_
  · rcases sset_some ha with z | z
    · rw [z]; exact .inl sp
    · exact .inl z
  · intro a w hw
    by_cases z : a = p
    · subst z
      rw [sset_same] at hw
      cases hw
      exact ⟨_, upd_same, q.mono F.same⟩
    · rw [sset_ne z] at hw
      obtain ⟨v, h1, h2⟩ := st a w hw
      exact ⟨v, by rw [upd_ne z]; exact h1, h2.mono F.same⟩
/-- a new thing in the store -/
theorem EnR.addS (E : EnR K J O as H ρ σ) (hs : ρ[sx]? = some (.st S)) (hp : H p = none) {u' : HO} {o' : SO} (q : SoR K (hq O as H) u' o') :
    S p = none ∧ EnR K J O as ⟨upd H p u', sset S p o'⟩ (ρ.set sx (.st (sset S p o'))) σ ∧ Fr as H ⟨upd H p u', sset S p o'⟩ := by
  obtain ⟨a1, e2, st⟩ := E.st_at hs
  have sp : S p = none := by
    cases e : S p with
    | none => rfl
    | some o =>
      obtain ⟨u, e1, _⟩ := st p o e
      rw [hp] at e1; cases e1
  refine ⟨sp, E.putS hs (fun a o ha ho => by rw [upd_ne (ne_of_none ho hp)]; exact ho) (fun a ha => ?_) (E.tab.ext (Same.new hp)) (liv_upd _) fun F => ?_⟩
  · rcases sset_some ha with z | z
    · rw [z]; exact .inr hp
    · exact .inl z
  · intro a w hw
    by_cases z : a = p
    · subst z
      rw [sset_same] at hw
      cases hw
      exact ⟨_, upd_same, q.mono F.same⟩
    · rw [sset_ne z] at hw
      obtain ⟨v, h1, h2⟩ := st a w hw
      exact ⟨v, by rw [upd_ne z]; exact h1, h2.mono F.same⟩
/-- a held list is laid into the store -/
theorem EnR.shelve {H0 : Hs} {xs : List V} {ds : List PyData} (E : EnR K J (plus O p) as H ρ σ) (hQ : J.Q O) (hJ : J.P as H0) (hs : ρ[sx]? = some (.st S)) (f : Fr as H0 H) (hn : NewO as H0 p) (np : ¬ O p) (hp : H p = some (.lst xs)) (d : DqAll K (hq (plus O p) as H) xs ds) :
    S p = none ∧ EnR K J O as ⟨H.hp, sset S p (.lst ds)⟩ (ρ.set sx (.st (sset S p (.lst ds)))) σ ∧ Fr as H0 ⟨H.hp, sset S p (.lst ds)⟩ := by
  obtain ⟨a1, e2, st⟩ := E.st_at hs
  have sp : S p = none := by
    cases e : S p with
    | none => rfl
    | some o => exact absurd (.inr rfl) (E.out sx .sto p a1 (by show H.st p ≠ none; rw [← e2, e]; exact Option.some_ne_none _))
  have rg : ∀ r b, Rgn ⟨H.hp, sset S p (.lst ds)⟩ r b → Rgn H r b ∨ (r = .sto ∧ b = p) := fun r b q => by
    cases r with
    | lf a => exact .inl q
    | sto =>
      rcases sset_some q with z | z
      · exact .inr ⟨rfl, z⟩
      · exact .inl (by show H.st b ≠ none; rw [← e2]; exact z)
  have ow : ∀ b, Own as ⟨H.hp, sset S p (.lst ds)⟩ b → Own as H b ∨ b = p := fun b q => by
    rcases q with ⟨i, r, h, q⟩ | q
    · rcases rg r b q with z | z
      · exact .inl (.inl ⟨i, r, h, z⟩)
      · exact .inr z.2
    · exact .inl (.inr q)
  have hS : Same (hq (plus O p) as H) (hq O as ⟨H.hp, sset S p (.lst ds)⟩) := hp_less fun a h => by
    rcases h with h | h
    · exact .inl (.inl h)
    · rcases ow a h with z | z
      · exact .inr z
      · exact .inl (.inr z)
  have F : Fr as H0 ⟨H.hp, sset S p (.lst ds)⟩ := ⟨f.fr, fun a h => by
    rcases ow a h with z | z
    · exact f.new a z
    · rw [z]; exact hn.symm, f.liv, fun h => absurd a1 (h sx)⟩
  have hi : sx < ρ.length := (List.getElem?_eq_some_iff.mp hs).1
  have hl := (E.sto sx a1).1
  refine ⟨sp, ⟨by rw [List.length_set]; exact E.len, fun j sl h1 h2 => ?_, fun j sl o h1 h2 => ?_, fun j h => ?_, fun i j r r' b h1 h2 q1 q2 => ?_, fun j r b h q => ?_, fun j r h => by rw [List.length_set]; exact E.bnd j r h, fun a h => E.occ a (.inl h), J.fr hJ F, hQ, E.tab⟩, F⟩
  · have hj : j < ρ.length := by rw [← List.length_set (as := ρ) (i := sx) (a := Sl.st (sset S p (.lst ds)))]; exact (List.getElem?_eq_some_iff.mp h1).1
    exact E.tl j _ (List.getElem?_eq_getElem hj) h2
  · have : j < σ.length := (List.getElem?_eq_some_iff.mp h2).1
    rw [List.getElem?_set_ne (by omega)] at h1
    exact (E.at_ j sl o h1 h2).mono hS fun _ _ => rfl
  · have ej := (E.sto j h).1
    have : j = sx := by omega
    subst this
    refine ⟨ej, by rw [List.getElem?_set_self hi], fun a o e => ?_⟩
    by_cases z : a = p
    · subst z
      have e : sset S a (.lst ds) a = some o := e
      rw [sset_same] at e
      cases e
      exact ⟨_, hp, .lst (d.mono hS)⟩
    · have e : sset S p (.lst ds) a = some o := e
      rw [sset_ne z] at e
      obtain ⟨u, h1, h2⟩ := st a o e
      exact ⟨u, h1, h2.mono hS⟩
  · rcases rg r b q1 with z1 | ⟨z1, w1⟩
    · rcases rg r' b q2 with z2 | ⟨z2, w2⟩
      · exact E.inj i j r r' b h1 h2 z1 z2
      · exact absurd (.inr w2) (E.out i r b h1 z1)
    · rcases rg r' b q2 with z2 | ⟨z2, w2⟩
      · exact absurd (.inr w1) (E.out j r' b h2 z2)
      · subst z1; subst z2
        have := (E.sto i h1).1
        have := (E.sto j h2).1
        omega
  · rcases rg r b q with z | ⟨_, z⟩
    · exact fun w => E.out j r b h z (.inl w)
    · rw [z]; exact np
end
section
variable {K : PySem.W.Frag} {n : Nat} {J : Jv n} {sx : Nat}
/-- a new list, laid into the store -/
def fNewL (sx : Nat) (f : FA) : FE := fun ρ P => f ρ fun ds ρ1 => stF ρ1 sx fun S => ∀ p, S p = none → P (hdl p) (ρ1.set sx (.st (sset S p (.lst ds))))
theorem re_newL {t : TE} {f : FA} (h : RN K J t f) : RE K J t (fNewL sx f) := by
  intro O as σ H Q ρ P E q k
  refine h O as σ H _ ρ _ E q fun ds ρ1 p xs H1 q1 f1 hn E1 hp d1 => ?_
  obtain ⟨S, hs, q1⟩ := stF_of q1
  obtain ⟨sp, E2, f2⟩ := E1.shelve E.inq E.inv hs f1 hn (E.notO E1 hn hp) hp d1
  exact k _ _ _ ⟨H1.hp, sset S p (.lst ds)⟩ (q1 p sp) f2 E2 .hdl
/-- an own list, laid into the store -/
def fShelve (sx i : Nat) : FE := fun ρ P => ownF ρ i fun ds => stF ρ sx fun S => ∀ p, S p = none → P (hdl p) ((ρ.set i .no).set sx (.st (sset S p (.lst ds))))
/-! objects -/
/-- the object at a place of the store -/
def ObjAt (S : Sto) (d : PyData) (c : Str) (fs : List (PyData × PyData)) : Prop := ∃ p, d = hdl p ∧ S p = some (.obj c fs)
/-- an object, of the store or one that stays -/
def ObjU (S : Sto) (d : PyData) (c : Str) (fs : List (PyData × PyData)) : Prop := ObjAt S d c fs ∨ d = .dict ((.str c, .none) :: fs)
theorem objU_of {O : Addr → Prop} {as : As} {H : Hs} {ρ : En} {σ : L2.St} {S : Sto} {d : PyData} {c : Str} {C : Addr} {fs : List (PyData × PyData)} {v : V} (E : EnR K J O as H ρ σ) (hs : ρ[sx]? = some (.st S)) (hc : PySem.W.nsIn K mainGlobals c = some (some (.ref C))) (h : ObjU S d c fs) (q : Dq K (hq O as H) v d) : ∃ a dx fv, v = .ref a ∧ H a = some (.ins C dx fv) ∧ DqFs K (hq O as H) fv fs := by
  rcases h with ⟨p, rfl, e⟩ | rfl
  · rw [q.hdl_of]
    obtain ⟨u, e1, q1⟩ := E.getS hs e
    cases q1 with
    | obj h1 q1 =>
      rw [hc] at h1
      cases h1
      exact ⟨_, _, _, rfl, e1, q1⟩
  · cases q with
    | obj h1 e q =>
      rw [hc] at h1
      cases h1
      exact ⟨_, _, _, rfl, (hp_some e).2, q⟩
def fFldU (sx : Nat) (c f : Str) (a : FE) : FE := fun ρ P => a ρ fun d ρ1 => stF ρ1 sx fun S => ∃ fs v, ObjU S d c fs ∧ fldD f fs = some v ∧ P v ρ1
theorem re_fldU {C : Addr} {c f : Str} {ta : TE} {a : FE} (hc : PySem.W.nsIn K mainGlobals c = some (some (.ref C))) (cl : Cls K C) (na : NoAttr K C f) (ha : RE K J ta a) : RE K J (tFld K ta f) (fFldU sx c f a) := by
  intro O as σ H Q ρ P E q k
  refine ha O as σ H _ ρ _ E q fun d ρ1 v H1 q1 f1 E1 d1 => ?_
  obtain ⟨S, hs, fs, w, ob, hf, q1⟩ := stF_of q1
  obtain ⟨a, dx, fv, rfl, e, r⟩ := objU_of E1 hs hc ob d1
  obtain ⟨x, ex, dx'⟩ := r.get hf
  exact ⟨a, C, dx, fv, x, rfl, e, cl, na, ex, k _ _ _ _ q1 f1 E1 dx'⟩
/-- a field's value put -/
def putD (f : Str) (v : PyData) : List (PyData × PyData) → List (PyData × PyData)
  | [] => [(.str f, v)]
  | (.str g, d) :: r => if g = f then (.str g, v) :: r else (.str g, d) :: putD f v r
  | z :: r => z :: putD f v r
theorem DqFs.put {G : Hp} {f : Str} {v : V} {d : PyData} (q : Dq K G v d) : ∀ {fv : List (Str × V)} {fs : List (PyData × PyData)}, DqFs K G fv fs → DqFs K G (putF f v fv) (putD f d fs)
  | _, _, .nil => .cons q .nil
  | _, _, .cons (f := g) a r => by
    unfold putF putD
    by_cases e : g = f
    · rw [if_pos e, if_pos e]; exact .cons q r
    · rw [if_neg e, if_neg e]; exact .cons a (DqFs.put q r)
theorem DqFs.len {G : Hp} : ∀ {fv : List (Str × V)} {fs : List (PyData × PyData)}, DqFs K G fv fs → fv.length = fs.length
  | _, _, .nil => rfl
  | _, _, .cons _ r => by rw [List.length_cons, List.length_cons, DqFs.len r]
/-- o.f = e -/
def fSetF (sx : Nat) (c f : Str) (a b : FE) : FS := fun E ρ => b ρ fun v ρ1 => a ρ1 fun d ρ2 => stF ρ2 sx fun S => ∃ p fs, d = hdl p ∧ S p = some (.obj c fs) ∧ fs.length < 1000 ∧ E.nx (ρ2.set sx (.st (sset S p (.obj c (putD f v fs)))))
theorem rs_setF {C : Addr} {c f : Str} {ta tb : TE} {a b : FE} (hc : PySem.W.nsIn K mainGlobals c = some (some (.ref C))) (cl : Cls K C) (na : NoAttr K C f) (ha : RE K J ta a) (hb : RE K J tb b) : RS K J (sFld K ta tb f) (fSetF sx c f a b) := by
  intro O as σ H D ρ E R q Cr
  refine hb O as σ H _ ρ _ R q fun v ρ1 y H1 q1 f1 E1 d1 => ?_
  refine ha O as σ H1 _ ρ1 _ E1 q1 fun d ρ2 x H2 q2 f2 E2 d2 => ?_
  obtain ⟨S, hs, p, fs, rfl, e, l, q2⟩ := stF_of q2
  rw [d2.hdl_of]
  obtain ⟨u, e1, r1⟩ := E2.getS hs e
  cases r1 with
  | @obj C' dx _ fv _ h1 r1 =>
    rw [hc] at h1
    cases h1
    refine ⟨p, C, dx, fv, rfl, e1, cl, na, by rw [r1.len]; exact l, ?_⟩
    obtain ⟨E3, f3⟩ := E2.setS hs e (u' := .ins C dx (putF f y fv)) (o' := .obj c (putD f v fs)) (.obj hc (DqFs.put (d1.fr f2) r1))
    exact Cr.nx _ _ _ _ q2 (.of ((f1.trans f2).trans f3)) E3
/-- o.f += e (numbers) -/
def fAugF (sx : Nat) (c f : Str) (a b : FE) (h : Int → Int → Int) : FS := fun E ρ => a ρ fun d ρ1 => stF ρ1 sx fun S1 => ∃ p fs i, d = hdl p ∧ S1 p = some (.obj c fs) ∧ fldD f fs = some (.int i) ∧ b ρ1 fun y ρ2 => intF y fun j => stF ρ2 sx fun S => ∃ fs', S p = some (.obj c fs') ∧ fs'.length < 1000 ∧ E.nx (ρ2.set sx (.st (sset S p (.obj c (putD f (.int (h i j)) fs')))))
theorem rs_augF {C : Addr} {c f : Str} {ta tb : TE} {a b : FE} {h : Int → Int → Int} (hc : PySem.W.nsIn K mainGlobals c = some (some (.ref C))) (cl : Cls K C) (na : NoAttr K C f) (ha : RE K J ta a) (hb : RE K J tb b) : RS K J (sFldAug K ta tb (ipI h) f) (fAugF sx c f a b h) := by
  intro O as σ H D ρ E R q Cr
  refine ha O as σ H _ ρ _ R q fun d ρ1 x H1 q1 f1 E1 d1 => ?_
  obtain ⟨S1, hs1, p, fs, i, rfl, e, hi, q1⟩ := stF_of q1
  rw [d1.hdl_of]
  obtain ⟨u, e1, r1⟩ := E1.getS hs1 e
  cases r1 with
  | @obj C' dx _ fv _ h1 r1 =>
    rw [hc] at h1
    cases h1
    obtain ⟨w, ew, dw⟩ := r1.get hi
    cases dw
    refine ⟨p, C, dx, fv, _, rfl, e1, cl, na, ew, ?_⟩
    refine hb O as σ H1 _ ρ1 _ E1 q1 fun y ρ2 z H2 q2 f2 E2 d2 => ?_
    unfold intF at q2
    split at q2
    · next j =>
      cases d2
      obtain ⟨S, hs, fs', e', l, q2⟩ := stF_of q2
      obtain ⟨u', e1', r1'⟩ := E2.getS hs e'
      cases r1' with
      | @obj C' dx' _ fv' _ h1' r1' =>
        rw [hc] at h1'
        cases h1'
        refine ⟨_, _, rfl, rfl, dx', fv', e1', by rw [r1'.len]; exact l, ?_⟩
        obtain ⟨E3, f3⟩ := E2.setS hs e' (u' := .ins C dx' (putF f (.int (h i j)) fv')) (o' := .obj c (putD f (.int (h i j)) fs')) (.obj hc (DqFs.put (.int _) r1'))
        exact Cr.nx _ _ _ _ q2 (.of ((f1.trans f2).trans f3)) E3
    · exact q2.elim
end
end DL
/-! constructors and methods of things of the store -/
namespace DL
open PySem L2 Z PySem.Spec PyProof.Rows
variable [Tbs]
section
variable {K : PySem.W.Frag} {n : Nat} {J : Jv n} {sx : Nat}
theorem fits_nil {ρ : En} {S : Sto} (hs : ρ[sx]? = some (.st S)) : ∀ ds : List PyData, Fits ρ (ds.map .dat ++ [.own sx]) (ds.map .fz ++ [.st S])
  | [] => .st hs .nil
  | _ :: r => .dat (fits_nil hs r)
/-- a new instance in the store -/
theorem EnR.newS {O : Addr → Prop} {as : As} {H : Hs} {ρ : En} {σ : L2.St} {S : Sto} {C x dx : Addr} {c : Str} (E : EnR K J O as H ρ σ) (hs : ρ[sx]? = some (.st S)) (hc : PySem.W.nsIn K mainGlobals c = some (some (.ref C))) (hx : H x = none) (hd : H dx = none) (ne : dx ≠ x) :
    S x = none ∧ EnR K J O as ⟨upd (upd H dx (.own x)) x (.ins C dx []), sset S x (.obj c [])⟩ (ρ.set sx (.st (sset S x (.obj c [])))) σ ∧ Fr as H ⟨upd (upd H dx (.own x)) x (.ins C dx []), sset S x (.obj c [])⟩ := by
  have E1 := E.grow (Same.new (o := .own x) hd)
  have f1 := E.frS (Same.new (o := .own x) hd)
  obtain ⟨sp, E2, f2⟩ := E1.addS (p := x) hs (by show upd H dx _ x = none; rw [upd_ne (Ne.symm ne)]; exact hx) (u' := .ins C dx []) (o' := .obj c []) (.obj hc .nil)
  exact ⟨sp, E2, f1.trans f2⟩
theorem mkS_core {O : Addr → Prop} {as : As} {H : Hs} {ρ : En} {σ : L2.St} {C x dx : Addr} {c : Str} {m : Nat} {F : FN} {vs : List V} {ds : List PyData} {Q : VK} {E0 : XK} {S : Sto} {P : PyData → En → Prop}
    (hc : PySem.W.nsIn K mainGlobals c = some (some (.ref C))) (E : EnR K J O as H ρ σ) (hs : ρ[sx]? = some (.st S)) (dv : DqAll K (hq O as H) vs ds) (hm : ds.length + 1 = m) (hx : H x = none) (hd : H dx = none) (ne : dx ≠ x)
    (g : ∀ x, S x = none → F (.fz (hdl x) :: (ds.map .fz ++ [.st (sset S x (.obj c []))])) fun d out => d = .none ∧ P (hdl x) (ρ.set sx ((out.drop m).headD .no)))
    (k : ∀ d ρ' v H', P d ρ' → Fr as H H' → EnR K J O as H' ρ' σ → Dq K (hq O as H') v d → Q v H') :
    spS K m F (.ref x :: vs) (upd (upd H dx (.own x)) x (.ins C dx [])) (fun v H2 => v = .non ∧ Q (.ref x) H2) E0 := by
  obtain ⟨sp, E2, f2⟩ := E.newS hs hc hx hd ne
  have hs2 : (ρ.set sx (.st (sset S x (.obj c []))))[sx]? = some (.st (sset S x (.obj c []))) := List.getElem?_set_self (List.getElem?_eq_some_iff.mp hs).1
  refine call_core (P := fun d ρ' => d = .none ∧ P (hdl x) ρ') (xs := .dat (hdl x) :: (ds.map .dat ++ [.own sx])) (r := .fz (hdl x) :: (ds.map .fz ++ [.st (sset S x (.obj c []))])) E2 (.dat (fits_nil hs2 ds)) (.cons (.dat .hdl) ((dat_ars (dv.fr f2)).snoc (E2.st_at hs2).1)) (by rw [List.length_cons, dv.length]; exact hm) (by rw [List.length_cons, List.length_append, List.length_map, List.length_singleton]; omega) (by show (ownIx (ds.map .dat ++ [.own sx])).Nodup; rw [ownIx_snoc, ownIx_dat]; exact List.nodup_cons.mpr ⟨List.not_mem_nil, .nil⟩) ?_ fun d ρ' v H' p fr E' q' => ?_
  · have e : ∀ out : List Sl, wb (ρ.set sx (.st (sset S x (.obj c [])))) (.dat (hdl x) :: (ds.map .dat ++ [.own sx])) out = ρ.set sx ((out.drop m).headD .no) := fun out => by
      rw [wb, wb_snoc, wb_dat, List.length_map, List.set_set, List.drop_tail, hm]
    simp only [e]
    exact g x sp
  · obtain ⟨rfl, p⟩ := p
    cases q'
    exact ⟨rfl, k _ _ _ _ p (f2.trans fr) E' .hdl⟩
/-- C(..), its instance in the store -/
def fMkS (sx : Nat) (c : Str) (m : Nat) (F : FN) (dv : List PyData) (f : FA) : FE := fun ρ P => f ρ fun ds ρ1 => (ds ++ dv).length + 1 = m ∧ stF ρ1 sx fun S => ∀ x, S x = none → F (.fz (hdl x) :: ((ds ++ dv).map .fz ++ [.st (sset S x (.obj c []))])) fun d out => d = .none ∧ P (hdl x) (ρ1.set sx ((out.drop m).headD .no))
theorem re_mkS {C : Addr} {c : Str} {m : Nat} {F : FN} {dvs : List V} {dv : List PyData} {E0 : XK} {t : TA} {f : FA} (hc : PySem.W.nsIn K mainGlobals c = some (some (.ref C))) (hd : ∀ H, DqAll K H dvs dv) (ha : RA K J t f) : RE K J (tMake C (spS K m F) dvs E0 t) (fMkS sx c m F dv f) := by
  intro O as σ H Q ρ P E q k
  refine ha O as σ H _ ρ _ E q fun ds ρ1 vs H1 q1 f1 E1 d1 => ?_
  obtain ⟨hm, q1⟩ := q1
  obtain ⟨S, hs, q1⟩ := stF_of q1
  intro x dx hx hdx ne
  exact mkS_core hc E1 hs (d1.append (hd _)) hm hx hdx ne q1 fun d ρ' v H' p fr E' q' => k d ρ' v H' p (f1.trans fr) E' q'
def fMkNS (sx : Nat) (c : Str) (l : Nat) (F : FN) (n m : Nat) (gD : List PyData → List PyData → List PyData) (f fk : FA) : FE := fun ρ P => f ρ fun ds ρ1 => fk ρ1 fun es ρ2 => ds.length = n ∧ es.length = m ∧ (gD ds es).length + 1 = l ∧ stF ρ2 sx fun S => ∀ x, S x = none → F (.fz (hdl x) :: ((gD ds es).map .fz ++ [.st (sset S x (.obj c []))])) fun d out => d = .none ∧ P (hdl x) (ρ2.set sx ((out.drop l).headD .no))
theorem re_mkNS {C : Addr} {c : Str} {l : Nat} {F : FN} {n m : Nat} {gV : List V → List V → List V} {gD : List PyData → List PyData → List PyData} {E0 : XK} {t tk : TA} {f fk : FA} (hc : PySem.W.nsIn K mainGlobals c = some (some (.ref C)))
    (hg : ∀ (x : Addr) (vs zs : List V) (ds es : List PyData) (H : Hp), DqAll K H vs ds → DqAll K H zs es → ∃ ws, gV (.ref x :: vs) zs = .ref x :: ws ∧ DqAll K H ws (gD ds es)) (ha : RA K J t f) (hk : RA K J tk fk) : RE K J (tMakeN C n m (spS K l F) gV E0 t tk) (fMkNS sx c l F n m gD f fk) := by
  intro O as σ H Q ρ P E q k
  refine ha O as σ H _ ρ _ E q fun ds ρ1 vs H1 q1 f1 E1 d1 => ?_
  refine hk O as σ H1 _ ρ1 _ E1 q1 fun es ρ2 zs H2 q2 f2 E2 d2 => ?_
  obtain ⟨l1, l2, l3, q2⟩ := q2
  obtain ⟨S, hs, q2⟩ := stF_of q2
  refine ⟨by rw [d1.length]; exact l1, by rw [d2.length]; exact l2, fun x dx hx hdx ne => ?_⟩
  obtain ⟨ws, e, r⟩ := hg x vs zs ds es _ (d1.fr f2) d2
  rw [e]
  exact mkS_core hc E2 hs r l3 hx hdx ne q2 fun d ρ' v H' p fr E' q' => k d ρ' v H' p ((f1.trans f2).trans fr) E' q'
/-- the store of a constructor alone -/
def sto1 (x : Addr) (c : Str) : Sto := sset noS x (.obj c [])
def asX (m : Nat) : As := fun i => if i = m then some .sto else none
theorem asX_of {m i : Nat} {r : Rg} (h : asX m i = some r) : i = m ∧ r = .sto := by
  unfold asX at h
  split at h
  · next z => cases h; exact ⟨z, rfl⟩
  · cases h
theorem mkZ_core {O : Addr → Prop} {as : As} {H : Hs} {ρ : En} {σ : L2.St} {C x dx : Addr} {c : Str} {m : Nat} {F : FN} {vs : List V} {ds : List PyData} {Q : VK} {E0 : XK} {P : PyData → En → Prop}
    (hc : PySem.W.nsIn K mainGlobals c = some (some (.ref C))) (E : EnR K J O as H ρ σ) (dv : DqAll K (hq O as H) vs ds) (hm : ds.length + 1 = m) (hx : H x = none) (hd : H dx = none) (ne : dx ≠ x)
    (g : F (.fz (hdl x) :: (ds.map .fz ++ [.st (sto1 x c)])) fun d out => d = .none ∧ ∃ S' o, out[m]? = some (.st S') ∧ Res S' (hdl x) o ∧ P o ρ)
    (k : ∀ d ρ' v H', P d ρ' → Fr as H H' → EnR K J O as H' ρ' σ → Dq K (hq O as H') v d → Q v H') :
    spS K m F (.ref x :: vs) (upd (upd H dx (.own x)) x (.ins C dx [])) (fun v H2 => v = .non ∧ Q (.ref x) H2) E0 := by
  have s1 : Same H.hp (upd (upd H dx (.own x)) x (.ins C dx [])) := fun a o e => by
    rw [upd_ne (ne_of_none e hx), upd_ne (ne_of_none e hd)]
    exact e
  generalize hH0 : upd (upd H.hp dx (.own x)) x (.ins C dx []) = H0 at s1
  have hx0 : H0 x = some (.ins C dx []) := by rw [← hH0]; exact upd_same
  have nhx : ¬ Hid O as H x := E.fresh hx
  have own0 : ∀ {G : Hs} {b : Addr}, Own (asX m) G b → G.st b ≠ none ∨ ∃ p ∈ Tbs.T, p.1 = b := fun h => by
    rcases h with ⟨i, r, h, q⟩ | h
    · rw [(asX_of h).2] at q
      exact .inl q
    · exact .inr h
  have st0 : ∀ b, sto1 x c b ≠ none → b = x := fun b h => by
    rcases sset_some h with z | z
    · exact z
    · exact absurd rfl z
  have same0 : Same (hq O as H) (hq (fun a => Hid O as H a) (asX m) ⟨H0, sto1 x c⟩) := fun a o e => by
    obtain ⟨h, e⟩ := hp_some e
    refine hp_mk (fun z => ?_) (s1 a o e)
    rcases z with z | z
    · exact h z
    · rcases own0 z with z | z
      · rw [st0 a z, hx] at e; cases e
      · exact h (.inr (.inr z))
  have ll : (Sl.fz (hdl x) :: (ds.map Sl.fz ++ [Sl.st (sto1 x c)])).length = m + 1 := by rw [List.length_cons, List.length_append, List.length_map, List.length_singleton]; omega
  have lv : ((V.ref x :: vs).map some).length = m := by rw [List.length_map, List.length_cons, dv.length]; exact hm
  have last : (Sl.fz (hdl x) :: (ds.map Sl.fz ++ [Sl.st (sto1 x c)]))[m]? = some (.st (sto1 x c)) := by
    rw [← hm, List.getElem?_cons_succ, List.getElem?_append_right (by rw [List.length_map]; exact Nat.le_refl _), List.length_map, Nat.sub_self]
    rfl
  have am : asX m m = some .sto := if_pos rfl
  refine ⟨by rw [List.length_cons, dv.length]; exact hm, fun a => Hid O as H a, asX m, sto1 x c, _, _, ⟨by rw [lv, ll]; omega, fun i sl h1 h2 => ?_, fun i sl o h1 h2 => ?_, fun i h => ?_, fun i j r r' b h1 h2 q1 q2 => by rw [(asX_of h1).1, (asX_of h2).1], fun i r b h q z => ?_, fun i r h => by rw [(asX_of h).1, ll]; omega, fun a h => ?_, trivial, trivial, E.tab.ext s1⟩, ll, g, fun d out v H' p fr bk dq => ?_⟩
  · have := (List.getElem?_eq_some_iff.mp h1).1
    rw [ll] at this
    rw [lv] at h2
    have : i = m := by omega
    rw [this]; exact am
  · have hi : i < m := by rw [← lv]; exact (List.getElem?_eq_some_iff.mp h2).1
    rw [show asX m i = none from if_neg (by omega)]
    cases i with
    | zero => cases h1; cases h2; exact .fz .hdl
    | succ i =>
      rw [List.getElem?_cons_succ, List.getElem?_append_left (by rw [List.length_map]; omega), List.getElem?_map] at h1
      rw [List.map_cons, List.getElem?_cons_succ, List.getElem?_map] at h2
      cases e1 : ds[i]? with
      | none => rw [e1] at h1; cases h1
      | some d =>
        rw [e1] at h1
        cases h1
        obtain ⟨v, ev, dq⟩ := dv.got e1
        rw [ev] at h2
        cases h2
        exact .fz (dq.mono same0)
  · rw [(asX_of h).1]
    refine ⟨lv.symm, last, fun a o e => ?_⟩
    have e : sto1 x c a = some o := e
    have := st0 a (by rw [e]; exact Option.some_ne_none _)
    subst this
    rw [show sto1 a c a = some (.obj c []) from sset_same] at e
    cases e
    exact ⟨_, hx0, .obj hc .nil⟩
  · rw [(asX_of h).2] at q
    rw [st0 b q] at z
    exact nhx z
  · obtain ⟨o, e⟩ := Option.ne_none_iff_exists'.mp (E.full h)
    show H0 a ≠ none
    rw [s1 _ _ e]
    exact Option.some_ne_none _
  · obtain ⟨rfl, S', o, hS, hR, p⟩ := p
    cases dq
    refine ⟨rfl, ?_⟩
    obtain ⟨sl, e1, e2, e3⟩ := bk.at_ m _ am
    rw [hS] at e1
    cases e1
    cases e2
    have fn : Fr noA H (H.w H'.hp) := by
      refine ⟨fun a o h e => fr.fr a o (fun z => ?_) (s1 a o e), fun a h => ?_, fun a h => fr.liv a ?_, fun _ => rfl⟩
      · rcases own0 z with z | z
        · rw [st0 a z, hx] at e; cases e
        · exact h (.inr z)
      · rcases h with ⟨_, _, h, _⟩ | h
        · cases h
        · exact .inl (.inr h)
      · obtain ⟨o, e⟩ := Option.ne_none_iff_exists'.mp h
        show H0 a ≠ none
        rw [s1 _ _ e]
        exact Option.some_ne_none _
    obtain ⟨E', f'⟩ := E.still fn bk.tab
    have sm : Same (hq (fun a => Hid O as H a) (asX m) H') (hq O as (H.w H'.hp)) := hp_less fun a h => by
      rcases h with h | h
      · exact .inl (.inl h)
      · exact .inl (.inr ((Own.st rfl).mp h))
    have vis : ∀ a, H'.st a ≠ none → hq O as (H.w H'.hp) a = H'.hp a := fun a h => hp_of fun z => by
      refine bk.out m .sto a am h ?_
      rcases z with z | z
      · exact .inl z
      · exact .inr ((Own.st rfl).mp z)
    exact k _ _ _ ⟨H'.hp, H.st⟩ p f' E' (Res.dq e3 sm vis hR .hdl)
/-- C(..), an instance that stays -/
def fMkZ (c : Str) (m : Nat) (F : FN) (dv : List PyData) (f : FA) : FE := fun ρ P => f ρ fun ds ρ1 => (ds ++ dv).length + 1 = m ∧ ∀ x, F (.fz (hdl x) :: ((ds ++ dv).map .fz ++ [.st (sto1 x c)])) fun d out => d = .none ∧ ∃ S' o, out[m]? = some (.st S') ∧ Res S' (hdl x) o ∧ P o ρ1
theorem re_mkZ {C : Addr} {c : Str} {m : Nat} {F : FN} {dvs : List V} {dv : List PyData} {E0 : XK} {t : TA} {f : FA} (hc : PySem.W.nsIn K mainGlobals c = some (some (.ref C))) (hd : ∀ H, DqAll K H dvs dv) (ha : RA K J t f) : RE K J (tMake C (spS K m F) dvs E0 t) (fMkZ c m F dv f) := by
  intro O as σ H Q ρ P E q k
  refine ha O as σ H _ ρ _ E q fun ds ρ1 vs H1 q1 f1 E1 d1 => ?_
  intro x dx hx hdx ne
  exact mkZ_core hc E1 (d1.append (hd _)) q1.1 hx hdx ne (q1.2 x) fun d ρ' v H' p fr E' q' => k d ρ' v H' p (f1.trans fr) E' q'
def fMkNZ (c : Str) (l : Nat) (F : FN) (n m : Nat) (gD : List PyData → List PyData → List PyData) (f fk : FA) : FE := fun ρ P => f ρ fun ds ρ1 => fk ρ1 fun es ρ2 => ds.length = n ∧ es.length = m ∧ (gD ds es).length + 1 = l ∧ ∀ x, F (.fz (hdl x) :: ((gD ds es).map .fz ++ [.st (sto1 x c)])) fun d out => d = .none ∧ ∃ S' o, out[l]? = some (.st S') ∧ Res S' (hdl x) o ∧ P o ρ2
theorem re_mkNZ {C : Addr} {c : Str} {l : Nat} {F : FN} {n m : Nat} {gV : List V → List V → List V} {gD : List PyData → List PyData → List PyData} {E0 : XK} {t tk : TA} {f fk : FA} (hc : PySem.W.nsIn K mainGlobals c = some (some (.ref C)))
    (hg : ∀ (x : Addr) (vs zs : List V) (ds es : List PyData) (H : Hp), DqAll K H vs ds → DqAll K H zs es → ∃ ws, gV (.ref x :: vs) zs = .ref x :: ws ∧ DqAll K H ws (gD ds es)) (ha : RA K J t f) (hk : RA K J tk fk) : RE K J (tMakeN C n m (spS K l F) gV E0 t tk) (fMkNZ c l F n m gD f fk) := by
  intro O as σ H Q ρ P E q k
  refine ha O as σ H _ ρ _ E q fun ds ρ1 vs H1 q1 f1 E1 d1 => ?_
  refine hk O as σ H1 _ ρ1 _ E1 q1 fun es ρ2 zs H2 q2 f2 E2 d2 => ?_
  obtain ⟨l1, l2, l3, q2⟩ := q2
  refine ⟨by rw [d1.length]; exact l1, by rw [d2.length]; exact l2, fun x dx hx hdx ne => ?_⟩
  obtain ⟨ws, e, r⟩ := hg x vs zs ds es _ (d1.fr f2) d2
  rw [e]
  exact mkZ_core hc E2 r l3 hx hdx ne (q2 x) fun d ρ' v H' p fr E' q' => k d ρ' v H' p ((f1.trans f2).trans fr) E' q'
/-! methods -/
theorem look_none {G : Hp} {f : Str} : ∀ {fv : List (Str × V)} {fs : List (PyData × PyData)}, DqFs K G fv fs → fldD f fs = none → fv.lookup f = none
  | _, _, .nil, _ => rfl
  | _, _, .cons (f := g) (v := v) (d := c) a b, h => by
    unfold fldD at h
    rw [List.lookup_cons]
    by_cases e : f = g
    · rw [if_pos e] at h; cases h
    · rw [if_neg e] at h
      have : (f == g) = false := by simpa using e
      rw [this]
      exact look_none b h
/-- o.m(..) of an object that stays -/
def fMeth (c x : Str) (m : Nat) (F : FN) (dv : List PyData) (a : FE) (b : FC) : FE := fun ρ P => a ρ fun d ρ1 => objF c d fun fs => fldD x fs = none ∧ b ρ1 fun xs ρ2 => xs.length + dv.length + 1 = m ∧ (ownIx xs).Nodup ∧ argF ρ2 xs fun r => F (.fz d :: (r ++ dv.map .fz)) fun e out => P e (wb ρ2 xs out.tail)
theorem re_meth {C : Addr} {c x : Str} {m : Nat} {F : FN} {dvs : List V} {dv : List PyData} {E0 : XK} {ta : TE} {t : TA} {a : FE} {b : FC} (hc : PySem.W.nsIn K mainGlobals c = some (some (.ref C))) (hd : ∀ H, DqAll K H dvs dv) (ha : RE K J ta a) (hb : RC K J t b) : RE K J (tMeth C x (spF K m F) dvs E0 ta t) (fMeth c x m F dv a b) := by
  intro O as σ H Q ρ P E q k
  refine ha O as σ H _ ρ _ E q fun d ρ1 v H1 q1 f1 E1 d1 => ?_
  obtain ⟨y, dx, fv, fs, rfl, e, r, hn, q1⟩ := objF_of hc d1 q1
  refine ⟨y, dx, fv, rfl, (hp_some e).2, look_none r hn, ?_⟩
  refine hb O as σ H1 _ ρ1 _ E1 q1 fun xs ρ2 vs H2 q2 f2 E2 d2 => ?_
  obtain ⟨hm, nd, q2⟩ := q2
  obtain ⟨r2, fit, q2⟩ := argF_of q2
  have hl : (V.ref y :: (vs ++ dvs)).length = m := by rw [List.length_cons, List.length_append, d2.len, (hd H2).length]; exact hm
  refine call_core (xs := .dat d :: (xs ++ dv.map .dat)) E2 (.dat (fit.app (fits_dat dv))) (.cons (.dat (d1.fr f2)) (d2.app (dat_ars (hd _))).toT) hl (by rw [List.length_cons, List.length_append, List.length_map]; exact hm) (by show (ownIx (xs ++ dv.map .dat)).Nodup; rw [ownIx_app]; exact nd) ?_ fun d ρ' v H' p fr E' q' => k d ρ' v H' p ((f1.trans f2).trans fr) E' q'
  simp only [wb, wb_app]
  exact q2
def fMethW (c x : Str) (m : Nat) (F : FM) (dv : List PyData) (a : FE) (b : FC) : FA := fun ρ P => a ρ fun d ρ1 => objF c d fun fs => fldD x fs = none ∧ b ρ1 fun xs ρ2 => xs.length + dv.length + 1 = m ∧ (ownIx xs).Nodup ∧ argF ρ2 xs fun r => F (.fz d :: (r ++ dv.map .fz)) fun e out => P e (wb ρ2 xs out.tail)
theorem rn_meth {C : Addr} {c x : Str} {m : Nat} {F : FM} {dvs : List V} {dv : List PyData} {E0 : XK} {ta : TE} {t : TA} {a : FE} {b : FC} (hc : PySem.W.nsIn K mainGlobals c = some (some (.ref C))) (hd : ∀ H, DqAll K H dvs dv) (ha : RE K J ta a) (hb : RC K J t b) : RN K J (tMeth C x (spN K m F) dvs E0 ta t) (fMethW c x m F dv a b) := by
  intro O as σ H Q ρ P E q k
  refine ha O as σ H _ ρ _ E q fun d ρ1 v H1 q1 f1 E1 d1 => ?_
  obtain ⟨y, dx, fv, fs, rfl, e, r, hn, q1⟩ := objF_of hc d1 q1
  refine ⟨y, dx, fv, rfl, (hp_some e).2, look_none r hn, ?_⟩
  refine hb O as σ H1 _ ρ1 _ E1 q1 fun xs ρ2 vs H2 q2 f2 E2 d2 => ?_
  obtain ⟨hm, nd, q2⟩ := q2
  obtain ⟨r2, fit, q2⟩ := argF_of q2
  have hl : (V.ref y :: (vs ++ dvs)).length = m := by rw [List.length_cons, List.length_append, d2.len, (hd H2).length]; exact hm
  refine call_coreN (xs := .dat d :: (xs ++ dv.map .dat)) E2 (.dat (fit.app (fits_dat dv))) (.cons (.dat (d1.fr f2)) (d2.app (dat_ars (hd _))).toT) hl (by rw [List.length_cons, List.length_append, List.length_map]; exact hm) (by show (ownIx (xs ++ dv.map .dat)).Nodup; rw [ownIx_app]; exact nd) ?_ fun ds ρ' p ys H' pr fr nw E' e' q' => k ds ρ' p ys H' pr ((f1.trans f2).trans fr) (none_back (f1.trans f2) nw) E' e' q'
  simp only [wb, wb_app]
  exact q2
/-- o.m(..) that is handed the store -/
def fMethS (sx : Nat) (c x : Str) (m : Nat) (F : FN) (dv : List PyData) (a : FE) (b : FC) : FE := fun ρ P => a ρ fun d ρ1 => stF ρ1 sx fun S1 => ∃ fs, ObjU S1 d c fs ∧ fldD x fs = none ∧ b ρ1 fun xs ρ2 => xs.length + dv.length + 1 = m ∧ (ownIx xs ++ [sx]).Nodup ∧ argF ρ2 xs fun r => stF ρ2 sx fun S => F (.fz d :: (r ++ dv.map .fz ++ [.st S])) fun e out => P e ((wb ρ2 xs out.tail).set sx ((out.drop m).headD .no))
theorem re_methS {C : Addr} {c x : Str} {m : Nat} {F : FN} {dvs : List V} {dv : List PyData} {E0 : XK} {ta : TE} {t : TA} {a : FE} {b : FC} (hc : PySem.W.nsIn K mainGlobals c = some (some (.ref C))) (hd : ∀ H, DqAll K H dvs dv) (ha : RE K J ta a) (hb : RC K J t b) : RE K J (tMeth C x (spS K m F) dvs E0 ta t) (fMethS sx c x m F dv a b) := by
  intro O as σ H Q ρ P E q k
  refine ha O as σ H _ ρ _ E q fun d ρ1 v H1 q1 f1 E1 d1 => ?_
  obtain ⟨S1, hs1, fs, ob, hn, q1⟩ := stF_of q1
  obtain ⟨y, dx, fv, rfl, e, r⟩ := objU_of E1 hs1 hc ob d1
  refine ⟨y, dx, fv, rfl, e, look_none r hn, ?_⟩
  refine hb O as σ H1 _ ρ1 _ E1 q1 fun xs ρ2 vs H2 q2 f2 E2 d2 => ?_
  obtain ⟨hm, nd, q2⟩ := q2
  obtain ⟨r2, fit, q2⟩ := argF_of q2
  obtain ⟨S, hs, q2⟩ := stF_of q2
  have hl : (V.ref y :: (vs ++ dvs)).length = m := by rw [List.length_cons, List.length_append, d2.len, (hd H2).length]; exact hm
  have ni : sx ∉ ownIx xs := fun z => (List.nodup_append.mp nd).2.2 _ z _ (List.mem_singleton.mpr rfl) rfl
  refine call_core (xs := .dat d :: (xs ++ dv.map .dat ++ [.own sx])) E2 (.dat ((fit.app (fits_dat dv)).app (.st hs .nil))) (.cons (.dat (d1.fr f2)) ((d2.app (dat_ars (hd _))).snoc (E2.st_at hs).1)) hl (by rw [List.length_cons, List.length_append, List.length_append, List.length_map, List.length_singleton]; omega) (by show (ownIx (xs ++ dv.map .dat ++ [.own sx])).Nodup; rw [ownIx_snoc, ownIx_app]; exact nd) ?_ fun d ρ' v H' p fr E' q' => k d ρ' v H' p ((f1.trans f2).trans fr) E' q'
  have e : ∀ out : List Sl, wb ρ2 (.dat d :: (xs ++ dv.map .dat ++ [.own sx])) out = (wb ρ2 xs out.tail).set sx ((out.drop m).headD .no) := fun out => by
    rw [wb, wb_snoc, wb_app, wb_set _ _ _ _ _ ni, List.length_append, List.length_map, List.drop_tail, hm]
  simp only [e]
  exact q2
def fMethWS (sx : Nat) (c x : Str) (m : Nat) (F : FM) (dv : List PyData) (a : FE) (b : FC) : FA := fun ρ P => a ρ fun d ρ1 => stF ρ1 sx fun S1 => ∃ fs, ObjU S1 d c fs ∧ fldD x fs = none ∧ b ρ1 fun xs ρ2 => xs.length + dv.length + 1 = m ∧ (ownIx xs ++ [sx]).Nodup ∧ argF ρ2 xs fun r => stF ρ2 sx fun S => F (.fz d :: (r ++ dv.map .fz ++ [.st S])) fun e out => P e ((wb ρ2 xs out.tail).set sx ((out.drop m).headD .no))
theorem rn_methS {C : Addr} {c x : Str} {m : Nat} {F : FM} {dvs : List V} {dv : List PyData} {E0 : XK} {ta : TE} {t : TA} {a : FE} {b : FC} (hc : PySem.W.nsIn K mainGlobals c = some (some (.ref C))) (hd : ∀ H, DqAll K H dvs dv) (ha : RE K J ta a) (hb : RC K J t b) : RN K J (tMeth C x (spNS K m F) dvs E0 ta t) (fMethWS sx c x m F dv a b) := by
  intro O as σ H Q ρ P E q k
  refine ha O as σ H _ ρ _ E q fun d ρ1 v H1 q1 f1 E1 d1 => ?_
  obtain ⟨S1, hs1, fs, ob, hn, q1⟩ := stF_of q1
  obtain ⟨y, dx, fv, rfl, e, r⟩ := objU_of E1 hs1 hc ob d1
  refine ⟨y, dx, fv, rfl, e, look_none r hn, ?_⟩
  refine hb O as σ H1 _ ρ1 _ E1 q1 fun xs ρ2 vs H2 q2 f2 E2 d2 => ?_
  obtain ⟨hm, nd, q2⟩ := q2
  obtain ⟨r2, fit, q2⟩ := argF_of q2
  obtain ⟨S, hs, q2⟩ := stF_of q2
  have hl : (V.ref y :: (vs ++ dvs)).length = m := by rw [List.length_cons, List.length_append, d2.len, (hd H2).length]; exact hm
  have ni : sx ∉ ownIx xs := fun z => (List.nodup_append.mp nd).2.2 _ z _ (List.mem_singleton.mpr rfl) rfl
  refine call_coreN (xs := .dat d :: (xs ++ dv.map .dat ++ [.own sx])) E2 (.dat ((fit.app (fits_dat dv)).app (.st hs .nil))) (.cons (.dat (d1.fr f2)) ((d2.app (dat_ars (hd _))).snoc (E2.st_at hs).1)) hl (by rw [List.length_cons, List.length_append, List.length_append, List.length_map, List.length_singleton]; omega) (by show (ownIx (xs ++ dv.map .dat ++ [.own sx])).Nodup; rw [ownIx_snoc, ownIx_app]; exact nd) ?_ fun ds ρ' p ys H' pr fr nw E' e' q' => k ds ρ' p ys H' pr ((f1.trans f2).trans fr) (none_back (f1.trans f2) nw) E' e' q'
  have e : ∀ out : List Sl, wb ρ2 (.dat d :: (xs ++ dv.map .dat ++ [.own sx])) out = (wb ρ2 xs out.tail).set sx ((out.drop m).headD .no) := fun out => by
    rw [wb, wb_snoc, wb_app, wb_set _ _ _ _ _ ni, List.length_append, List.length_map, List.drop_tail, hm]
  simp only [e]
  exact q2
end
end DL
/-! augmented operators; sorted(set(numbers)); defs that hand back data or a new list -/
namespace DL
open PySem L2 Z PySem.Spec PyProof.Rows
variable [Tbs]
section
variable {K : PySem.W.Frag} {n : Nat} {J : Jv n}
/-! augmented operators -/
def fAugR (i : Nat) (g : G2) (a : FE) : FS := fun E ρ => match ρ[i]? with
  | some (.fz x) => a ρ fun y ρ1 => g x y fun d => gN i d ρ1 E.nx
  | _ => False
theorem rs_augR {i : Nat} {te : TE} {a : FE} {r : R2} {g : G2} (hr : RR K r g) (ha : RE K J te a) : RS K J (tAug i te r) (fAugR i g a) := by
  intro O as σ H D ρ E R f C
  unfold fAugR at f
  split at f
  · next x hx =>
    obtain ⟨v, e, _, q⟩ := R.fz_at hx
    refine ⟨_, e, ?_⟩
    refine ha O as σ H _ ρ _ R f fun d ρ1 u H1 q1 f1 E1 d1 => ?_
    refine hr (Hid O as H1) H1 _ v u x d _ (fun c h => E1.full h) (q.fr f1) d1 q1 fun d' v' H3 p s3 d3 => ?_
    exact C.nx _ _ _ _ p.2 (.of (f1.trans (E1.frS s3))) ((E1.grow s3).setFz p.1 (d3.mono (E1.toS s3)))
  · exact f.elim
def oShlW : G2 := o2c CShl fun i j => .int (i * 2 ^ j.toNat)
theorem rr_shlW : RR K (rI CShl fun i j => .int (i * 2 ^ j.toNat)) oShlW := rr_ic fun _ _ _ => .int _
/-! sorted(set(numbers)) -/
def nSortSet (ds : List PyData) (P : List PyData → Prop) : Prop := one ds fun d => listF d fun es => intsF es fun ns => ns.length < 64 ∧ ∀ ms : List Int, ms.Pairwise (· < ·) → (∀ k, k ∈ ms ↔ k ∈ ns) → P (ms.map .int)
theorem rn_sortSet {w : World} {t : TA} {f : FA} (ha : RA K J t f) : RN K J (tCB (rSortedSet w) (tCons (tCB (rSetI K w) t) tNil)) (fCBN nSortSet f) := by
  intro O as σ H Q ρ P E q k
  refine ha O as σ H _ ρ _ E q fun ds ρ1 vs H1 q1 f1 E1 d1 => ?_
  obtain ⟨v, d, rfl, dq, g⟩ := one_of d1 q1
  unfold listF at g
  split at g
  · obtain ⟨ns, e, l64, g'⟩ := intsF_of g
    subst e
    obtain ⟨a, ys, rfl, s, r⟩ := dq.list_of
    cases r.ints_of
    refine ⟨a, ns, rfl, SqL.mono hp_same s, by omega, fun p c hp1 hc => ?_⟩
    refine ⟨p, _, c, rfl, upd_same, by omega, fun ms p2 pw hm hl hp2 => ?_⟩
    have s2 := Same.new (o := SetO w p (fun j => decide (j ∈ ns)) c) hp1
    exact new_step (f1.trans (E1.frS s2)) (E1.grow s2) (g' ms pw fun k => by rw [hm k]; simp) hp2 (DqAll.ints _) k
  · exact g.elim
/-! defs that hand back data, or a new list -/
abbrev FU := List Sl → (PyData → List Sl → Prop) → (List PyData → List Sl → Prop) → Prop
abbrev FV' := En → (PyData → En → Prop) → (List PyData → En → Prop) → Prop
def RV (K : PySem.W.Frag) {n : Nat} (J : Jv n) (t : TE) (f : FV') : Prop := ∀ (O : Addr → Prop) (as : As) (σ : L2.St) (H : Hs) (Q : VK) (ρ : En) (P : PyData → En → Prop) (P2 : List PyData → En → Prop), EnR K J O as H ρ σ → f ρ P P2 →
  (∀ d ρ' v H', P d ρ' → Fr as H H' → EnR K J O as H' ρ' σ → Dq K (hq O as H') v d → Q v H') →
  (∀ ds ρ' p xs H', P2 ds ρ' → Fr as H H' → NewO as H p → EnR K J (plus O p) as H' ρ' σ → H' p = some (.lst xs) → DqAll K (hq (plus O p) as H') xs ds → Q (.ref p) H') → t σ H Q
def spUG (K : PySem.W.Frag) (n e : Nat) (F : FU) : Sp := fun vs H Q _ => vs.length = n ∧ ∃ (O : Addr → Prop) (as : As) (S : Sto) (ρ : En) (P : PyData → List Sl → Prop) (P2 : List PyData → List Sl → Prop), EnR K (J0 : Jv 0) O as ⟨H, S⟩ ρ (vs.map some) ∧ ρ.length = n + e ∧ F ρ P P2 ∧
  (∀ d out v H', P d out → Fr as ⟨H, S⟩ H' → Bk K O as H' out → Dq K (hq O as H') v d → Q v H') ∧
  ∀ ds out p xs H', P2 ds out → Fr as ⟨H, S⟩ H' → NewO as ⟨H, S⟩ p → Bk K (plus O p) as H' out → H' p = some (.lst xs) → DqAll K (hq (plus O p) as H') xs ds → Q (.ref p) H'
abbrev spU (K : PySem.W.Frag) (n : Nat) (F : FU) : Sp := spUG K n 0 F
abbrev spUS (K : PySem.W.Frag) (n : Nat) (F : FU) : Sp := spUG K n 1 F
def fnU (n m : Nat) (b : FS) : FU := fun sls P P2 => b { nx := fun ρ' => P .none (ρ'.take n), rt := fun d ρ' => P d (ρ'.take n), ro := fun ds ρ' => P2 ds (ρ'.take n) } (sls ++ List.replicate (m - n) .no)
def fnUS (n m : Nat) (b : FS) : FU := fun sls P P2 => b { nx := fun ρ' => P .none (ρ'.take n ++ ρ'.drop m), rt := fun d ρ' => P d (ρ'.take n ++ ρ'.drop m), ro := fun ds ρ' => P2 ds (ρ'.take n ++ ρ'.drop m) } (sls.take n ++ List.replicate (m - n) .no ++ sls.drop n)
theorem fn_runU {m e : Nat} {N : List Str} {b : FS} {t : TS} (hN : m ≤ N.length) (rs : ∀ J : Jv m, RS K J t b) {vs : List V} {H : Hp} {Q : VK} {E : XK} {F : FU}
    (hF : F = fun sls P P2 => b { nx := fun ρ' => P .none (outS e m N.length ρ'), rt := fun d ρ' => P d (outS e m N.length ρ'), ro := fun ds ρ' => P2 ds (outS e m N.length ρ') } (enS e m N.length sls)) (h : spUG K m e F vs H Q E) : t { nx := fun _ H' => Q .non H', rt := Q } (L2.start N vs) H := by
  obtain ⟨hv, O, as, S, ρ, P, P2, R, hl, hf, q, q2⟩ := h
  subst hF
  refine rs (Jst m O (shA as m N.length) ⟨H, S⟩) O _ _ ⟨H, S⟩ _ _ _ (fn_start R hv hl hN) hf ⟨fun ρ' as' σ' H' p x R' => ?_, fun d ρ' v as' σ' H' p x R' dv => ?_, fun _ _ _ _ p => p.elim, fun _ _ _ _ p => p.elim, fun ds ρ' p xs as' σ' H' pr x o R' e d => ?_⟩
  · obtain ⟨h1, h2, _⟩ := fn_back R hv hl hN x R'
    exact q _ _ _ _ p h1 h2 .non
  · obtain ⟨h1, h2, h3⟩ := fn_back R hv hl hN x R'
    exact q _ _ _ _ p h1 h2 (dv.mono h3)
  · obtain ⟨h1, h2, h3⟩ := fn_back R hv hl hN x R'
    exact q2 _ _ _ _ _ pr h1 (Ext.newS o) h2 e (d.mono h3)
theorem fn_coreU {ps : List Str} {N : List Str} {b : FS} {t : TS} (hN : ps.length ≤ N.length) (rs : ∀ J : Jv ps.length, RS K J t b) {vs : List V} {H : Hp} {Q : VK} {E : XK} (h : spU K ps.length (fnU ps.length N.length b) vs H Q E) : t { nx := fun _ H' => Q .non H', rt := Q } (L2.start N vs) H := fn_runU hN rs rfl h
theorem fn_coreUS {ps : List Str} {N : List Str} {b : FS} {t : TS} (hN : ps.length ≤ N.length) (rs : ∀ J : Jv ps.length, RS K J t b) {vs : List V} {H : Hp} {Q : VK} {E : XK} (h : spUS K ps.length (fnUS ps.length N.length b) vs H Q E) : t { nx := fun _ H' => Q .non H', rt := Q } (L2.start N vs) H := fn_runU hN rs rfl h
section
variable {P : Program} {w : World} {mg : Str → Option Value} {base : Heap} {k : Nat} {f : Addr} {fd : FuncData} {ps : List Str} {x qual : Str} {st : Stmt} {N : List Str} {b : FS}
theorem okU0 (F : Fun K x qual st f fd) (S : FnScope N ps (defScope st))
    (body : ∀ (cdv : Value) (A : Around) (outer : List Env) (s : Shared) (H : Hp) (E : XK), Room k (A.deeper (envOfC qual (defScope st) s.heap.objs.size f cdv)) →
      ∃ t, PSs (cxOf CX0 P w K mg base N qual (defScope st) f cdv A outer s H E).nox (defBody st) t ∧ ∀ J : Jv ps.length, RS K J t b) :
    FnOk P w K mg base CX0 (k + 1) f fd ps (spU K ps.length (fnU ps.length N.length b)) := by
  refine F.ok S (fun vs H Q E h => h.1) (fun cdv A outer s H vs Q E hr h => ?_)
  obtain ⟨t, pt, rs⟩ := body cdv A outer s H E hr
  exact ⟨t, pt, fn_coreU (scope_le S) rs h⟩
theorem okUS0 (F : Fun K x qual st f fd) (S : FnScope N ps (defScope st))
    (body : ∀ (cdv : Value) (A : Around) (outer : List Env) (s : Shared) (H : Hp) (E : XK), Room k (A.deeper (envOfC qual (defScope st) s.heap.objs.size f cdv)) →
      ∃ t, PSs (cxOf CX0 P w K mg base N qual (defScope st) f cdv A outer s H E).nox (defBody st) t ∧ ∀ J : Jv ps.length, RS K J t b) :
    FnOk P w K mg base CX0 (k + 1) f fd ps (spUS K ps.length (fnUS ps.length N.length b)) := by
  refine F.ok S (fun vs H Q E h => h.1) (fun cdv A outer s H vs Q E hr h => ?_)
  obtain ⟨t, pt, rs⟩ := body cdv A outer s H E hr
  exact ⟨t, pt, fn_coreUS (scope_le S) rs h⟩
end
theorem call_coreU {O : Addr → Prop} {as : As} {H : Hs} {ρ : En} {σ : L2.St} {xs : List Ar} {r : List Sl} {vs : List V} {m e : Nat} {F : FU} {P : PyData → En → Prop} {P2 : List PyData → En → Prop} {Q : VK} {E0 : XK} (E : EnR K J O as H ρ σ) (fit : Fits ρ xs r) (ar : ArsT K (hq O as H) as vs xs) (hv : vs.length = m) (hm : xs.length = m + e) (nd : (ownIx xs).Nodup)
    (f : F r (fun d out => P d (wb ρ xs out)) fun d out => P2 d (wb ρ xs out)) (k : ∀ d ρ' v H', P d ρ' → Fr as H H' → EnR K J O as H' ρ' σ → Dq K (hq O as H') v d → Q v H')
    (k2 : ∀ ds ρ' p ys H', P2 ds ρ' → Fr as H H' → NewO as H p → EnR K J (plus O p) as H' ρ' σ → H' p = some (.lst ys) → DqAll K (hq (plus O p) as H') ys ds → Q (.ref p) H') : spUG K m e F vs H Q E0 := by
  refine ⟨hv, _, adrs as xs, H.st, r, _, _, call_in E fit ar nd, by rw [fit.len, hm], f, fun d out v H' p fr bk dv => ?_, fun d out p ys H' pr fr hp1 bk hp2 dv => ?_⟩
  · obtain ⟨fr', E', hid, _⟩ := call_back E ar nd fr bk
    exact k d _ v H' p fr' E' (dv.mono (hp_less hid))
  · obtain ⟨fr', E', hid⟩ := call_backX E ar nd fr hp1 (by rw [hp2]; exact Option.some_ne_none _) bk
    exact k2 d _ p ys H' pr fr' (hp1.imp id adrs_sub) E' hp2 (dv.mono (hp_less hid))
def fCallU (m : Nat) (F : FU) (dv : List PyData) (a : FC) : FV' := fun ρ P P2 => a ρ fun xs ρ1 => xs.length + dv.length = m ∧ (ownIx xs).Nodup ∧ argF ρ1 xs fun r => F (r ++ dv.map .fz) (fun d out => P d (wb ρ1 xs out)) fun d out => P2 d (wb ρ1 xs out)
theorem rv_call {m : Nat} {F : FU} {dvs : List V} {dv : List PyData} {E0 : XK} {t : TA} {f : FC} (hd : ∀ H, DqAll K H dvs dv) (ha : RC K J t f) : RV K J (tCall (spU K m F) dvs E0 t) (fCallU m F dv f) := by
  intro O as σ H Q ρ P P2 E q k k2
  refine ha O as σ H _ ρ _ E q fun xs ρ1 vs H1 q1 f1 E1 d1 => ?_
  obtain ⟨hm, nd, q1⟩ := q1
  obtain ⟨r, fit, q1⟩ := argF_of q1
  refine call_coreU (xs := xs ++ dv.map .dat) E1 (fit.app (fits_dat dv)) (d1.app (dat_ars (hd _))).toT (by rw [List.length_append, d1.len, (hd H1).length]; exact hm) (by rw [List.length_append, List.length_map]; exact hm) (by rw [ownIx_app]; exact nd) ?_ (fun d ρ' v H' p fr E' q' => k d ρ' v H' p (f1.trans fr) E' q') fun ds ρ' p ys H' pr fr nw E' e' q' => k2 ds ρ' p ys H' pr (f1.trans fr) (none_back f1 nw) E' e' q'
  simp only [wb_app]
  exact q1
/-- what is handed back is stored: data, or a list of its own -/
def fOwnV (i : Nat) (a : FV') : FS := fun E ρ => a ρ (fun d ρ1 => slotF ρ1 i = true ∧ E.nx (ρ1.set i (.fz d))) fun ds ρ1 => slotL ρ1 i = true ∧ E.nx (ρ1.set i (.own ds))
theorem rs_ownV {i : Nat} {te : TE} {a : FV'} (hi : n ≤ i) (ha : RV K J te a) : RS K J (tAsg te (gName i)) (fOwnV i a) := by
  intro O as σ H D ρ E R f C
  refine ha O as σ H _ ρ _ _ R f (fun d ρ1 v H1 q1 f1 E1 d1 => ?_) fun ds ρ1 p xs H2 q1 f1 hp1 E1 hp2 d1 => ?_
  · exact C.nx _ _ _ _ q1.2 (.of f1) (E1.setFz q1.1 d1)
  · have x : Ext n as (upA as i (some (.lf p))) H H2 := ⟨f1.fr, fun a q => by
      rcases q.up with ⟨r, e, q⟩ | q
      · cases e
        rw [q.lf_of]
        exact hp1.symm
      · exact f1.new a q, fun j hj => upA_ne (by omega), f1.liv, upA_ks (E1.nst_at (E1.ltB q1.1)) (fun z => by cases z), f1.nst⟩
    have E2 := E1.setOwn R.inq (E1.ltB q1.1) (J.cl _ _ _ _ R.inv x) hp2 d1 fun z => R.notO E1 hp1 hp2 z
    exact C.nx _ _ _ _ q1.2 x E2
end
end DL
namespace DL
open PySem L2 Z PySem.Spec PyProof.Rows
variable [Tbs]
section
variable {K : PySem.W.Frag} {n : Nat} {J : Jv n}
def fIfN (c : FT) (a b : FA) : FA := fun ρ P => c ρ fun k ρ1 => if k = true then a ρ1 P else b ρ1 P
theorem rn_if {t : TT} {ta tb : TE} {c : FT} {a b : FA} (hc : RT K J t c) (ha : RN K J ta a) (hb : RN K J tb b) : RN K J (tIf t ta tb) (fIfN c a b) := by
  intro O as σ H Q ρ P E q k
  refine hc O as σ H _ ρ _ E q fun c ρ1 H1 q1 f1 E1 => ?_
  cases c
  · exact hb O as σ H1 _ ρ1 _ E1 q1 fun ds ρ2 p xs H2 q2 f2 hn E2 hp d2 => k _ _ _ _ _ q2 (f1.trans f2) (none_back f1 hn) E2 hp d2
  · exact ha O as σ H1 _ ρ1 _ E1 q1 fun ds ρ2 p xs H2 q2 f2 hn E2 hp d2 => k _ _ _ _ _ q2 (f1.trans f2) (none_back f1 hn) E2 hp d2
end
end DL
/-! i, j, l = e, [..], e' by way of the tuple -/
namespace DL
open PySem L2 Z PySem.Spec PyProof.Rows
variable [Tbs]
section
variable {K : PySem.W.Frag} {n : Nat} {J : Jv n}
def fPar3O2 (i j l : Nat) (a : FE) (b : FA) (c : FE) : FS := fun E ρ => a ρ fun d ρ1 => b ρ1 fun ds ρ2 => c ρ2 fun d' ρ3 => gN i d ρ3 fun ρ4 => slotL ρ4 j = true ∧ gN l d' (ρ4.set j (.own ds)) E.nx
theorem rs_asg3O2 {i j l : Nat} {ta tn tc : TE} {a c : FE} {b : FA} (hj : n ≤ j) (ha : RE K J ta a) (hb : RN K J tn b) (hc : RE K J tc c) : RS K J (tAsg (tTup (tCons ta (tCons tn (tCons tc tNil)))) (gTup K 3 (gCons (gName i) (gCons (gName j) (gCons (gName l) gNil))))) (fPar3O2 i j l a b c) := by
  intro O as σ H D ρ E R f C
  refine ha O as σ H _ ρ _ R f fun d ρ1 v H1 q1 f1 E1 d1 => ?_
  refine hb O as σ H1 _ ρ1 _ E1 q1 fun ds ρ2 p xs H2 q2 f2 hp1 E2 hp2 d2 => ?_
  refine hc (plus O p) as σ H2 _ ρ2 _ E2 q2 fun d' ρ3 v' H3 q3 f3 E3 d3 => ?_
  refine ⟨by show 3 ≤ sizeLine; decide, fun T hT => ?_⟩
  have s3 := Same.new (o := .tup [v, .ref p, v']) hT
  refine ⟨T, _, rfl, SqT.of upd_same, rfl, _, _, rfl, _, _, rfl, _, _, rfl, rfl, ?_⟩
  have np := E1.notO E2 hp1 hp2
  have hp3 : H3 p = some (.lst xs) := f3.fr _ _ (E2.newp hp2) hp2
  have E4 := E3.grow s3
  have E5 := E4.setFz q3.1 ((((d1.mono (same_plus f2 hp1)).fr f3)).mono (E3.hgrow s3))
  have x := ext_own (((f1.trans f2).trans f3).trans (E3.frS s3)) hj (E5.nst_at (E5.ltB q3.2.1)) (none_back f1 hp1)
  have E6 := E5.ownNew (i := j) q3.2.1 (J.cl _ _ _ _ R.inv x) R.inq np (s3 _ _ hp3) ((d2.fr f3).mono (E3.hgrow s3))
  have E7 := E6.setFz (v := v') q3.2.2.1 ((d3.mono (E3.hgrow s3)).mono less_own)
  exact C.nx _ _ _ _ q3.2.2.2 x E7
/-- a name that holds data, or a list of its own, is handed back -/
def fRetV (i : Nat) : FS := fun E ρ => match ρ[i]? with
  | some (.own _) => fRetO i E ρ
  | _ => fRet (fV i) E ρ
theorem rs_retV {i : Nat} (hi : n ≤ i) : RS K J (tRet (tVar i)) (fRetV i) := by
  intro O as σ H D ρ E R f C
  unfold fRetV at f
  split at f
  · exact rs_retO hi O as σ H D ρ E R f C
  · exact rs_ret re_v O as σ H D ρ E R f C
end
end DL
/-! lists of the store: changed by way of a handle -/
namespace DL
open PySem L2 Z PySem.Spec PyProof.Rows
variable [Tbs]
section
variable {K : PySem.W.Frag} {n : Nat} {J : Jv n} {sx : Nat}
theorem EnR.lstS {O : Addr → Prop} {as : As} {H : Hs} {ρ : En} {σ : L2.St} {S : Sto} {p : Addr} {ds : List PyData} (E : EnR K J O as H ρ σ) (hs : ρ[sx]? = some (.st S)) (e : S p = some (.lst ds)) : ∃ xs, H p = some (.lst xs) ∧ DqAll K (hq O as H) xs ds := by
  obtain ⟨u, e1, r⟩ := E.getS hs e
  cases r with
  | lst q => exact ⟨_, e1, q⟩
/-- h[k] = e -/
def gSubH (sx : Nat) (a b : FE) : FG := fun d ρ P => a ρ fun x ρ1 => b ρ1 fun k ρ2 => intF k fun k => stF ρ2 sx fun S => ∃ p ds j, x = hdl p ∧ S p = some (.lst ds) ∧ ixN ds.length k = some j ∧ P (ρ2.set sx (.st (sset S p (.lst (ds.set j d)))))
theorem rg_subH {ta ti : TE} {a b : FE} (ha : RE K J ta a) (hb : RE K J ti b) : RG K J [] (gSub ta ti rSetL) (gSubH sx a b) := by
  intro O as σ H R ρ P v d E q f k
  refine ha O as σ H _ ρ _ E f fun x ρ1 w H1 q1 f1 E1 d1 => ?_
  refine hb O as σ H1 _ ρ1 _ E1 q1 fun y ρ2 w2 H2 q2 f2 E2 d2 => ?_
  unfold intF at q2
  split at q2
  · next z =>
    cases d2
    obtain ⟨S, hs, p, ds, j, rfl, e, hj, q2⟩ := stF_of q2
    obtain ⟨xs, e1, qx⟩ := E2.lstS hs e
    rw [d1.hdl_of]
    refine ⟨p, xs, z, j, rfl, rfl, e1, by rw [qx.length]; exact hj, ?_⟩
    obtain ⟨E3, f3⟩ := E2.setS hs e (u' := .lst (xs.set j v)) (o' := .lst (ds.set j d)) (.lst (qx.set ((q.fr f1).fr f2) j))
    exact k _ _ _ q2 ((f1.trans f2).trans f3) E3 ⟨rfl, fun _ _ => rfl⟩
  · exact q2.elim
/-- h[k] += e -/
def fAugH (sx : Nat) (a b e : FE) (h : Int → Int → Int) : FS := fun E ρ => a ρ fun x ρ1 => b ρ1 fun k ρ2 => intF k fun k => stF ρ2 sx fun S => ∃ p ds c, x = hdl p ∧ S p = some (.lst ds) ∧ atI ds k = some (.int c) ∧ e ρ2 fun y ρ3 => intF y fun y => stF ρ3 sx fun S' => ∃ es j, S' p = some (.lst es) ∧ ixN es.length k = some j ∧ E.nx (ρ3.set sx (.st (sset S' p (.lst (es.set j (.int (h c y)))))))
theorem rs_augH {ta ti te : TE} {a b e : FE} {h : Int → Int → Int} (ha : RE K J ta a) (hb : RE K J ti b) (he : RE K J te e) : RS K J (tAugS ta ti te (rIxL K) (ipI h) rSetL) (fAugH sx a b e h) := by
  intro O as σ H D ρ E R f C
  refine ha O as σ H _ ρ _ R f fun x ρ1 w H1 q1 f1 E1 d1 => ?_
  refine hb O as σ H1 _ ρ1 _ E1 q1 fun y ρ2 w2 H2 q2 f2 E2 d2 => ?_
  unfold intF at q2
  split at q2
  · next z =>
    cases d2
    obtain ⟨S, hs, p, ds, c, rfl, e0, hc, q2⟩ := stF_of q2
    obtain ⟨xs, e1, qx⟩ := E2.lstS hs e0
    rw [d1.hdl_of]
    obtain ⟨u, hu, du⟩ := qx.atI hc
    cases du
    refine ⟨p, xs, z, _, rfl, rfl, SqL.of e1, hu, ?_⟩
    refine he O as σ H2 _ ρ2 _ E2 q2 fun y ρ3 w3 H3 q3 f3 E3 d3 => ?_
    unfold intF at q3
    split at q3
    · cases d3
      obtain ⟨S', hs', es, j, e', hj, q3⟩ := stF_of q3
      obtain ⟨ys, e1', qy⟩ := E3.lstS hs' e'
      refine ⟨_, _, rfl, rfl, p, ys, z, j, rfl, rfl, e1', by rw [qy.length]; exact hj, ?_⟩
      obtain ⟨E4, f4⟩ := E3.setS hs' e' (u' := .lst (ys.set j (.int (h c _)))) (o' := .lst (es.set j (.int (h c _)))) (.lst (qy.set (.int _) j))
      exact C.nx _ _ _ _ q3 (.of (((f1.trans f2).trans f3).trans f4)) E4
    · exact q3.elim
  · exact q2.elim
/-- h.append(e) -/
def fAppH (sx : Nat) (a e : FE) : FS := fun E ρ => a ρ fun x ρ1 => stF ρ1 sx fun S => ∃ p ds, x = hdl p ∧ S p = some (.lst ds) ∧ e ρ1 fun d ρ2 => stF ρ2 sx fun S' => ∃ es, S' p = some (.lst es) ∧ es.length < sizeLine ∧ E.nx (ρ2.set sx (.st (sset S' p (.lst (es ++ [d])))))
theorem rs_appH {ta te : TE} {a e : FE} (ha : RE K J ta a) (he : RE K J te e) : RS K J (tDrop (tBM K "list" rAppend ta (tCons te tNil))) (fAppH sx a e) := by
  intro O as σ H D ρ E R f C
  refine ha O as σ H _ ρ _ R f fun x ρ1 w H1 q1 f1 E1 d1 => ?_
  obtain ⟨S, hs, p, ds, rfl, e0, q1⟩ := stF_of q1
  obtain ⟨xs, e1, qx⟩ := E1.lstS hs e0
  rw [d1.hdl_of]
  refine ⟨.inl ⟨rfl, _, SqL.of e1⟩, ?_⟩
  refine he O as σ H1 _ ρ1 _ E1 q1 fun d ρ2 v H2 q2 f2 E2 d2 => ?_
  obtain ⟨S', hs', es, e', l, q2⟩ := stF_of q2
  obtain ⟨ys, e1', qy⟩ := E2.lstS hs' e'
  refine ⟨p, ys, v, rfl, rfl, e1', by rw [qy.length]; exact l, ?_⟩
  obtain ⟨E3, f3⟩ := E2.setS hs' e' (u' := .lst (ys ++ [v])) (o' := .lst (es ++ [d])) (.lst (qy.append (.cons d2 .nil)))
  exact C.nx _ _ _ _ q2 (.of ((f1.trans f2).trans f3)) E3
/-- a handle's list read as a value: h[k] -/
def fIxH (sx : Nat) (a b : FE) : FE := fun ρ P => a ρ fun x ρ1 => b ρ1 fun k ρ2 => intF k fun k => stF ρ2 sx fun S => ∃ p ds d, x = hdl p ∧ S p = some (.lst ds) ∧ atI ds k = some d ∧ P d ρ2
theorem re_ixH {ta ti : TE} {a b : FE} (ha : RE K J ta a) (hb : RE K J ti b) : RE K J (tOp (rIxL K) ta ti) (fIxH sx a b) := by
  intro O as σ H Q ρ P E f k
  refine ha O as σ H _ ρ _ E f fun x ρ1 w H1 q1 f1 E1 d1 => ?_
  refine hb O as σ H1 _ ρ1 _ E1 q1 fun y ρ2 w2 H2 q2 f2 E2 d2 => ?_
  unfold intF at q2
  split at q2
  · next z =>
    cases d2
    obtain ⟨S, hs, p, ds, c, rfl, e0, hc, q2⟩ := stF_of q2
    obtain ⟨xs, e1, qx⟩ := E2.lstS hs e0
    rw [d1.hdl_of]
    obtain ⟨u, hu, du⟩ := qx.atI hc
    exact ⟨p, xs, z, _, rfl, rfl, SqL.of e1, hu, k _ _ _ _ q2 (f1.trans f2) E2 du⟩
  · exact q2.elim
/-- len(h) -/
def fLenH (sx : Nat) (a : FE) : FE := fun ρ P => a ρ fun x ρ1 => stF ρ1 sx fun S => ∃ p ds, x = hdl p ∧ S p = some (.lst ds) ∧ P (.int ds.length) ρ1
/-- a statement that is never reached -/
def fNo : FS := fun _ _ => False
theorem rs_no {t : TS} : RS K J t fNo := fun _ _ _ _ _ _ _ _ f _ => f.elim
end
end DL
/-! sets of texts: set(xs), sorted(set(xs)) -/
namespace DL
open PySem L2 Z PySem.Spec PyProof.Rows
/-- the text of a member -/
def txtOf : Int × Value → Str
  | (_, .str z _) => z
  | _ => Str.ofString ""
def TxtE (w : World) (m : Int × Value) : Prop := ∃ z u, m = (hashStr w z, Value.str z u)
structure SetTOk (w : World) (ms : Array (Int × Value)) (tb : SetTable) (S : Str → Bool) (n : Nat) : Prop where
  good : ∀ m ∈ ms.toList, TxtE w m
  nd : (ms.toList.map txtOf).Nodup
  mem : ∀ z, S z = true ↔ z ∈ ms.toList.map txtOf
  small : ms.size < scanBound
  fits : tb.fits ms.size = true
  len : ms.size = n
  ris : Ris tb.place.toList
  led : w.params.followText "set-order" = true ∨ tb.led = true
def SetT (w : World) (h : Heap) (a : Addr) (S : Str → Bool) (n : Nat) : Prop := ∃ o ms ep tb, h.get? a = some o ∧ o.ExactSet ∧ o.data = .set ms ep tb ∧ SetTOk w ms tb S n
section
variable {P : Program} {w : World} {h h' : Heap} {a : Addr} {S : Str → Bool} {n : Nat}
theorem SetT.keep (R : SetT w h a S n) (k : ∀ o, h.get? a = some o → h'.get? a = some o) : SetT w h' a S n := R.imp fun o r => r.imp fun _ r => r.imp fun _ r => r.imp fun _ r => ⟨k o r.1, r.2⟩
theorem SetT.eqv {S' : Str → Bool} (R : SetT w h a S n) (e : ∀ z, S' z = S z) : SetT w h a S' n := by rw [show S' = S from funext e]; exact R
theorem txt_elems {l : List (Int × Value)} (g : ∀ m ∈ l, TxtE w m) : ElemsOf (strKind P w) l := fun m hm => by
  obtain ⟨z, u, rfl⟩ := g m hm
  exact ⟨⟨z, strKind_is P w z u, rfl⟩, rfl⟩
theorem txt_is {m : Int × Value} (g : TxtE w m) (z : Str) : (strKind P w).is z m.2 = true ↔ txtOf m = z := by
  obtain ⟨z0, u, rfl⟩ := g
  show Value.isStrOf z (.str z0 u) = true ↔ z0 = z
  constructor
  · intro q
    obtain ⟨t, e⟩ := Value.isStrOf_shape q
    injection e
  · rintro rfl
    exact strKind_is P w z0 u
theorem txt_mem {l : List (Int × Value)} (g : ∀ m ∈ l, TxtE w m) (z : Str) : z ∈ l.map txtOf ↔ ∃ m ∈ l, (strKind P w).is z m.2 = true := by
  rw [List.mem_map]
  exact ⟨fun ⟨m, hm, q⟩ => ⟨m, hm, (txt_is (g m hm) z).2 q⟩, fun ⟨m, hm, q⟩ => ⟨m, hm, (txt_is (g m hm) z).1 q⟩⟩
end
section
variable {P : Program} {w : World} {A : Around} {E : Value → Shared → Prop} {s : Shared} {a : Addr} {S : Str → Bool} {n : Nat}
/-- one more member is laid; the table may grow -/
theorem setT_lay {g : Bool → Sem Unit} (hg : ∀ (b : Bool) (s' : Shared) (Q' : Unit → Shared → Prop), Q' () s' → wpAny (model P w) A (g b) Q' E s') {o : Obj} {ms : Array (Int × Value)} {ep : Nat} {tb : SetTable}
    (eo : s.heap.get? a = some o) (ex : o.ExactSet) (ed : o.data = .set ms ep tb) {ms1 : Array (Int × Value)} {tb2 : SetTable} {S' : Str → Bool} (k : SetTOk w ms1 tb2 S' ms1.size) {wd : Bool} {R : Option Bool → Shared → Prop}
    (hR : ∀ h', Heap.SameBut a s.heap h' → SetT w h' a S' ms1.size → R (some true) { s with heap := h' }) :
    wpAny (model P w) A (do
      storeSet a ms1 tb2
      if (!wd && tb2.tooFull) = true then do
        g (relayAll tb2 ms1 (SetTable.grown ms1.size)).2.2
        storeSet a (relayAll tb2 ms1 (SetTable.grown ms1.size)).1 (relayAll tb2 ms1 (SetTable.grown ms1.size)).2.1
        pure (some true)
      else pure (some true)) R E s := by
  refine wpAny_bind (wpAny_storeSet_of eo ed ?_ (fits_of_scanBound k.small))
  have eo1 := store_at (es' := ms1) (t' := tb2) eo ed
  have same1 := Heap.SameBut.update s.heap a (Obj.putSet ms1 tb2)
  split
  · have pm := relayAll_perm tb2 ms1 (SetTable.grown ms1.size)
    have hf := relayAll_fits tb2 ms1 (SetTable.grown ms1.size)
    have hr := relayAll_ris tb2 ms1 (SetTable.grown ms1.size)
    have hl := relayAll_led tb2 ms1 (SetTable.grown ms1.size)
    generalize relayAll tb2 ms1 (SetTable.grown ms1.size) = Z at pm hf hr hl ⊢
    obtain ⟨ms2, tb3, gave⟩ := Z
    dsimp only at pm hf hr hl ⊢
    have sz : ms2.size = ms1.size := by rw [← Array.length_toList, pm.length_eq, Array.length_toList]
    refine wpAny_bind (hg _ _ _ (wpAny_bind (wpAny_storeSet_of eo1 rfl ?_ (fits_of_scanBound (by rw [sz]; exact k.small)))))
    have eo2 := store_at (es' := ms2) (t' := tb3) eo1 rfl
    exact wpAny_pure (hR _ (same1.trans (Heap.SameBut.update _ a _)) ⟨_, ms2, _, tb3, eo2, ex, rfl, fun m hm => k.good m (pm.mem_iff.mp hm), (pm.map txtOf).nodup_iff.mpr k.nd, fun z => (k.mem z).trans (pm.map txtOf).mem_iff.symm, by rw [sz]; exact k.small, hf, sz, hr, k.led.imp id fun z => by rw [hl]; exact z⟩)
  · exact wpAny_pure (hR _ same1 ⟨_, ms1, _, tb2, eo1, ex, rfl, k⟩)
theorem setT_add {z : Str} {u : Tok} {Q : Bool → Shared → Prop} (R : SetT w s.heap a S n) (room : n + 1 < scanBound)
    (hQ : ∀ h', Heap.SameBut a s.heap h' → SetT w h' a (fun j => S j || decide (j = z)) (if S z = true then n else n + 1) → Q (!S z) { s with heap := h' }) :
    wpAny (model P w) A (setAddHashed a (.str z u) ((strKind P w).hash z)) Q E s := by
  obtain ⟨o, ms, ep, tb, eo, ex, ed, k⟩ := R
  have iz : (strKind P w).is z (.str z u) = true := strKind_is P w z u
  have sc : (Value.str z u).scannable = true := rfl
  have el : ElemsOf (strKind P w) ms.toList := txt_elems k.good
  unfold setAddHashed
  unfold setAddHashedIn
  refine wpAny_holding (wpAny_bind (wpAny_setState_of eo ed k.fits ?_))
  dsimp only
  rw [byScan_of sc k.small el]
  simp only [↓reduceIte]
  unfold setAddByScan
  refine wpAny_bind (wpAny_bind (wpAny_rule (wpAny_bind (wpAny_setScan_of iz eo ed k.fits el ?_))))
  cases fi : List.findIdx? (fun m => (strKind P w).is z m.2) ms.toList with
  | some j =>
    dsimp only
    obtain ⟨hj, pj, _⟩ := List.findIdx?_eq_some_iff_getElem.mp fi
    have Sz : S z = true := (k.mem z).2 ((txt_mem (P := P) (w := w) k.good z).2 ⟨ms.toList[j], List.getElem_mem hj, pj⟩)
    have q := hQ s.heap (Heap.SameBut.refl a s.heap) ⟨o, ms, ep, tb, eo, ex, ed, k.good, k.nd, fun i => by
      rw [Bool.or_eq_true, decide_eq_true_eq, ← k.mem i]
      exact ⟨fun c => c.elim id (fun e => e ▸ Sz), .inl⟩, k.small, k.fits, by rw [if_pos Sz]; exact k.len, k.ris, k.led⟩
    rw [Sz] at q
    exact wpAny_pure (wpAny_pure q)
  | none =>
    dsimp only
    have nz : z ∉ ms.toList.map txtOf := fun c => by
      obtain ⟨m, hm, q⟩ := (txt_mem (P := P) (w := w) k.good z).1 c
      have := List.findIdx?_eq_none_iff.mp fi m hm
      rw [q] at this
      cases this
    have Sz : S z = false := by
      cases q : S z with
      | false => rfl
      | true => exact absurd ((k.mem z).1 q) nz
    have pm := layNew_perm tb ms ((strKind P w).hash z) (.str z u)
    have hf := layNew_fits tb ms ((strKind P w).hash z) (.str z u)
    have hr := layNew_ris tb ms ((strKind P w).hash z) (.str z u) k.ris
    have hl := layNew_led tb ms ((strKind P w).hash z) (.str z u)
    generalize layNew tb ms ((strKind P w).hash z) (.str z u) = Z at pm hf hr hl ⊢
    obtain ⟨ms1, tb1, wd, gave⟩ := Z
    dsimp only at pm hf hr hl ⊢
    rw [Array.toList_push] at pm
    have pc : ms1.toList.Perm (((strKind P w).hash z, Value.str z u) :: ms.toList) := pm.trans (List.perm_append_singleton _ _)
    have pk : (ms1.toList.map txtOf).Perm (z :: ms.toList.map txtOf) := pc.map txtOf
    have sz : ms1.size = n + 1 := by rw [← Array.length_toList, pc.length_eq, List.length_cons, Array.length_toList, k.len]
    have mk : ∀ tb', tb'.fits ms1.size = true → Ris tb'.place.toList → (w.params.followText "set-order" = true ∨ tb'.led = true) → SetTOk w ms1 tb' (fun j => S j || decide (j = z)) ms1.size := fun tb' c1 c2 c3 => ⟨fun m hm => by
      rcases List.mem_cons.mp (pc.mem_iff.mp hm) with c | c
      · exact ⟨z, u, c⟩
      · exact k.good m c, pk.nodup_iff.mpr (List.nodup_cons.mpr ⟨nz, k.nd⟩), fun i => by
      rw [Bool.or_eq_true, decide_eq_true_eq, k.mem i, pk.mem_iff, List.mem_cons]
      exact Or.comm, by rw [sz]; exact room, c1, rfl, c2, c3⟩
    have led1 : w.params.followText "set-order" = true ∨ tb1.led = true := k.led.imp id fun c => by rw [hl]; exact c
    have fin : ∀ h', Heap.SameBut a s.heap h' → SetT w h' a (fun j => S j || decide (j = z)) ms1.size → Q true { s with heap := h' } := fun h' sb r => by
      have q := hQ h' sb
      rw [Sz] at q
      rw [sz] at r
      exact q r
    have rul : ∀ (b : Bool) (s' : Shared) (Q' : Unit → Shared → Prop), Q' () s' → wpAny (model P w) A (match b with | true => rule "set.scan.the-table-gave-way" | false => pure ()) Q' E s' :=
      fun b s' Q' q => by cases b <;> first | exact wpAny_pure q | exact wpAny_rule q
    refine wpAny_bind (rul _ _ _ ?_)
    split
    · refine wpAny_bind ?_
      rw [hashByValue_scannable 8 sc]
      refine wpAny_pure (setT_lay (fun b s' Q' q => by cases b <;> first | exact wpAny_pure q | exact wpAny_rule q) eo ex ed (mk _ ?_ ?_ ?_) fun h' sb r => ?_)
      · first | (split <;> first | exact hf | exact SetTable.fits_plain_off hf) | exact hf
      · first | (split <;> exact hr) | exact hr
      · first | (split <;> exact led1) | exact led1
      · dsimp only; exact wpAny_pure (fin h' sb r)
    · refine wpAny_bind (wpAny_pure ?_)
      simp only [↓reduceIte]
      refine setT_lay (fun b s' Q' q => by cases b <;> first | exact wpAny_pure q | exact wpAny_rule q) eo ex ed (mk _ hf hr led1) fun h' sb r => ?_
      dsimp only; exact wpAny_pure (fin h' sb r)
end
end DL
/-! set(xs) of texts, sorted(set(xs)) -/
namespace DL
open PySem L2 Z PySem.Spec PyProof.Rows
variable [Tbs]
theorem setT_start {w : World} {h : Heap} {a : Addr} (e : h.get? a = some (set0 w)) : SetT w h a (fun _ => false) 0 :=
  ⟨_, #[], 0, _, e, ⟨rfl, rfl, rfl⟩, rfl, fun m hm => by simp at hm, by simp, fun z => by simp, by decide, rfl, rfl, List.Pairwise.nil, by
    cases q : w.params.followText "set-order"
    · exact .inr (by simp [SetTable.fresh, q])
    · exact .inl rfl⟩
section
variable {P : Program} {w : World} {A : Around} {E : Value → Shared → Prop} {s : Shared}
theorem setT_loop {I : Addr} {fp wr : List Addr} {G : Array GenState → Array GenState → Prop} {n : Nat} {Pv : Nat → Value → Prop} {St : Nat → Shared → Prop} {R : Result → Shared → Prop} (W : WalksS P w A.in1 I fp wr G n Pv St) (p : Addr) (np : p ∉ fp)
    (zs : List Str) (hn : n = zs.length) (hb : zs.length + 1 < scanBound) (val : ∀ i v, Pv i v → ∃ z u, zs[i]? = some z ∧ v = .str z u) :
    ∀ (m i : Nat) (s : Shared), n - i = m → i ≤ n → St i s → (∃ c, c ≤ i ∧ SetT w s.heap p (fun j => decide (j ∈ zs.take i)) c) → (∀ s' c, Moved (p :: wr) G s s' → c ≤ n → SetT w s'.heap p (fun j => decide (j ∈ zs)) c → R (.ok (.ret .none)) s') →
      codeAny (model P w) A (.builtin "set.update.loop" ⟨[.ref p, .ref I], []⟩) R s := by
  have nw : p ∉ wr := fun z => np (W.sub _ z)
  have sub : ∀ b ∈ wr, b ∈ p :: wr := fun _ z => List.mem_cons_of_mem _ z
  intro m
  induction m with
  | zero =>
    rintro i s hm hi st ⟨c, hc, hS⟩ hR
    obtain rfl : i = n := by omega
    refine codeAny_builtin F.entry_set_update_loop ?_
    rw [Around.under_plainId F.plain_set_update_loop _]
    show wpAny _ A.in1 (pyNext (.ref I) >>= _) _ _ s
    refine wpAny_bind (W.done s _ _ st fun s' mv => ?_)
    rw [List.take_of_length_le (by omega)] at hS
    exact wpAny_pure (hR s' c (mv.mono sub) hc (hS.keep fun o e => mv.heap p o nw e))
  | succ m ih =>
    rintro i s hm hi st ⟨c, hc, hS⟩ hR
    have lt : i < n := by omega
    refine codeAny_builtin F.entry_set_update_loop ?_
    rw [Around.under_plainId F.plain_set_update_loop _]
    show wpAny _ A.in1 (pyNext (.ref I) >>= _) _ _ s
    refine wpAny_bind (W.item i s _ _ lt st fun v s' hP st' mv => ?_)
    obtain ⟨z, u, hz, rfl⟩ := val i v hP
    have hS' := hS.keep fun o e => mv.heap p o nw e
    show wpAny _ A.in1 (holding [Value.str z u] (setAdd p (.str z u)) >>= _) _ _ s'
    refine wpAny_bind (wpAny_holding ?_)
    unfold setAdd
    refine wpAny_holding (wpAny_bind ((strKind P w).pyHash (strKind_is P w z u) ?_))
    refine setT_add (s := { s' with toks := s'.toks + 1 }) hS' (by omega) fun h' sb r => ?_
    have r' : SetT w h' p (fun j => decide (j ∈ zs.take (i + 1))) (if decide (z ∈ zs.take i) = true then c else c + 1) := r.eqv fun j => by
      rw [List.take_add_one, hz]
      simp [List.mem_append]
    have hc' : (if decide (z ∈ zs.take i) = true then c else c + 1) ≤ i + 1 := by split <;> omega
    refine wpAny_pure ⟨plainId_quiet F.plain_set_update_loop _, ih (i + 1) _ (by omega) lt (W.frame _ s' _ _ st' (Nat.le_succ _) fun b hb o e => ?_) ⟨_, hc', r'⟩ fun s'' c2 mv2 h2 r2 => ?_⟩
    · rw [sb.2 b fun q : b = p => np (q ▸ hb)]
      exact e
    · refine hR s'' c2 (Moved.trans W.gtrans ((mv.mono sub).then_heap (Nat.le_succ _) fun b o hb e => ?_) mv2) h2 r2
      rw [sb.2 b fun q : b = p => hb (q ▸ List.mem_cons_self)]
      exact e
theorem strs_of : ∀ l : List Value, (∀ v ∈ l, ∃ z u, v = Value.str z u) → ∃ zs : List Str, StrsAre l zs ∧ ∀ (f : Value → Str), (∀ z u, f (.str z u) = z) → zs = l.map f
  | [], _ => ⟨[], .nil, fun _ _ => rfl⟩
  | v :: l, h => by
    obtain ⟨z, u, rfl⟩ := h v List.mem_cons_self
    obtain ⟨zs, h1, h2⟩ := strs_of l fun x hx => h x (List.mem_cons_of_mem _ hx)
    exact ⟨z :: zs, .cons z u h1, fun f hf => by rw [List.map_cons, hf, h2 f hf]⟩
theorem strs_at : ∀ {vs : List Value} {ys : List Str}, StrsAre vs ys → ∀ (i : Nat) (v : Value), vs[i]? = some v → ∃ z u, ys[i]? = some z ∧ v = Value.str z u
  | _, _, .nil, i, v, e => by cases e
  | _, _, .cons y t _, 0, v, e => by cases e; exact ⟨y, t, rfl, rfl⟩
  | _, _, .cons _ _ r, i + 1, v, e => strs_at r i v e
def valStr : Value → Str
  | .str z _ => z
  | _ => Str.ofString ""
theorem sorted_setT {a : Addr} {S : Str → Bool} {n : Nat} {Q : Value → Shared → Prop} (R : SetT w s.heap a S n) (hh : A.handled = none) (h64 : n < 64)
    (hQ : ∀ s' p (out : Array Value) (c : Nat) (zs : List Str), (∀ b o, s.heap.get? b = some o → s'.heap.get? b = some o) → s'.gens = s.gens → s'.os = s.os → s.heap.objs.size ≤ p →
      s'.heap.get? p = some (seqObj "list" out c) → StrsAre out.toList zs → sortedS zs = true → zs.Nodup → (∀ z, z ∈ zs ↔ S z = true) → zs.length = n → Q (.ref p) s') :
    wpAny (model P w) A (call (.builtin "sorted") [.ref a]) Q E s := by
  obtain ⟨o, ms, ep, tb, eo, ex, ed, k⟩ := R
  refine Calls.call_function_entry kind_sorted plain_sorted entry_sorted (args_sorted1 _) ?_
  unfold Builtin.«sorted»
  refine wpAny_bind (m := checkCount "sorted" 1 1 _) (wpAny_pure ?_)
  refine wpAny_bind (collect_set (A := A.in1) hh ⟨o, eo, ex.1, ed⟩ k.fits k.small k.ris k.led fun s1 vs k1 hz g1 o1 pm => ?_)
  have vl : vs.length = n := by rw [pm.length_eq, List.length_map, Array.length_toList]; exact k.len
  obtain ⟨zs, hzs, ezs⟩ := strs_of vs fun v hv => by
    obtain ⟨m, hm, rfl⟩ := List.mem_map.mp (pm.mem_iff.mp hv)
    obtain ⟨z, u, rfl⟩ := k.good m hm
    exact ⟨z, u, rfl⟩
  have pk : zs.Perm (ms.toList.map txtOf) := by
    have q := pm.map valStr
    rw [← ezs valStr fun _ _ => rfl, List.map_map] at q
    refine q.trans (List.Perm.of_eq (List.map_congr_left fun m hm => ?_))
    obtain ⟨z, u, rfl⟩ := k.good m hm
    rfl
  refine wpAny_bind (wpAny_newList ?_ (by rw [vl, sizeLine_eq]; omega))
  have eL : (s1.heap.push (seqObj "list" vs.toArray 0)).get? s1.heap.objs.size = some (seqObj "list" vs.toArray 0) := Heap.get?_push_size _ rfl
  refine wpAny_bind (wpAny_holding (wpAny_call_entry slot_list_sort ⟨_, eL, rfl⟩ entry_list_sort (list_sort_treeK strKind_oneLt eL hzs.keysOf (fun v1 v2 rest e => keyKind_strs (by rw [← e]; exact hzs)) (by rw [vl]; exact h64) fun st' hp hs => ?_) (args_list_sort _)))
  obtain ⟨zs', a1, a2, a3⟩ := sorted_out_str hzs hp hs
  obtain ⟨c, hc⟩ := sortedHeap_at (vs := vs) (out := (arrOf st').map (·.2)) eL
  have pn := a2.trans pk
  refine ⟨_, rfl, wpAny_pure ⟨_, rfl, hQ _ s1.heap.objs.size _ c zs' (fun b u e => ?_) g1 o1 hz hc a1 a3 (pn.nodup_iff.mpr k.nd) (fun z => by rw [pn.mem_iff, ← k.mem z]) ?_⟩⟩
  · have q := k1 b u e
    have lt := Heap.lt_size q
    show (sortedHeap (s1.heap.push (seqObj "list" vs.toArray 0)) s1.heap.objs.size vs _).get? b = some u
    rw [sortedHeap_old (Nat.ne_of_lt lt) (by rw [size_push']; exact Nat.lt_succ_of_lt lt)]
    exact Heap.get?_push_of_some _ q
  · rw [pn.length_eq, List.length_map, Array.length_toList]; exact k.len
end
def SetOT (w : World) (a : Addr) (S : Str → Bool) (n : Nat) : HO := .ext fun h => SetT w h a S n
section
variable {X : Cx}
theorem setOT_new {w : World} {P : Program} {H : Hp} {h : Heap} {a : Addr} {S : Str → Bool} {n : Nat} (R : SetT w h a S n) : ObjOk P w H h a (SetOT w a S n) := by
  have ⟨o, _, _, _, e, _⟩ := R
  exact ⟨R, ⟨o, e⟩, fun _ _ p k => SetT.keep p k⟩
theorem setOT_get {pins : List (Addr × Obj)} {σ : L2.St} {H : Hp} {s : Shared} {a : Addr} {S : Str → Bool} {n : Nat} (I : Inv X pins σ H s) (e : H a = some (SetOT X.w a S n)) : SetT X.w s.heap a S n := (I.hok a _ e).1
/-- set(xs), xs a list of texts -/
def rSetT (K : PySem.W.Frag) (w : World) : List V → Hp → VK → Prop := fun vs H Q => ∃ (l : Addr) (zs : List Str), vs = [.ref l] ∧ SqL K H l (zs.map V.str) ∧ zs.length < 1000 ∧
  ∀ (p : Addr) (c : Nat), H p = none → c ≤ zs.length → Q (.ref p) (upd H p (SetOT w p (fun j => decide (j ∈ zs)) c))
theorem cr_setT (hc : X.calm = true) : CallR X (.type "set") (rSetT X.K X.w) := by
  intro pins s σ H vs us Q I r h
  obtain ⟨l, zs, rfl, hs, hn, q⟩ := h
  obtain ⟨its, rv, pl, hz⟩ := I.list hs
  rw [Vals.ref1 r]
  have hi : StrsAre its zs := by simpa using rv.strs
  have hlen : its.toArray.size = zs.length := by rw [List.size_toArray, ← rv.length, List.length_map]
  refine set_of_list (fun h => ∃ c, c ≤ zs.length ∧ SetT X.w h s.heap.objs.size (fun j => decide (j ∈ zs)) c) (I.ok.hd hc) pl.isList (fun J s1 St R W nS st gS kR => ?_) fun h2 tk z kp => ?_
  · have val : ∀ (i : Nat) (v : Value), its.toArray[i]? = some v → ∃ z u, zs[i]? = some z ∧ v = .str z u := fun i v hv => by
      exact strs_at hi i v (by simpa using hv)
    refine setT_loop W s.heap.objs.size nS zs hlen (by unfold scanBound; omega) val (its.toArray.size - 0) 0 s1 (by omega) (Nat.zero_le _) st ⟨0, Nat.le_refl 0, (setT_start gS).eqv fun j => by simp⟩ fun s2 c mv hc' hS => ?_
    exact kR s2 mv ⟨c, by omega, hS⟩
  · obtain ⟨c, hc', hS⟩ := z
    refine ⟨.ref s.heap.objs.size, _, I.call (ch := []) (Un.laid kp (Nat.le_refl _) (I.hok.fresh (Nat.le_refl _))) (I.hok.laid kp (Nat.le_refl _) (setOT_new hS)) I.bare (fun _ z => nomatch z), rfl, q _ c (I.hok.fresh (Nat.le_refl _)) hc'⟩
/-- sorted of a set of texts, fewer than 64 -/
def rSortedSetT (w : World) : List V → Hp → VK → Prop := fun vs H Q => ∃ (a : Addr) (S : Str → Bool) (n : Nat), vs = [V.ref a] ∧ H a = some (SetOT w a S n) ∧ n < 64 ∧
  ∀ (zs : List Str) (p : Addr), sortedS zs = true → zs.Nodup → (∀ z, z ∈ zs ↔ S z = true) → zs.length = n → H p = none → Q (.ref p) (upd H p (.lst (zs.map V.str)))
theorem cr_sortedSetT (hc : X.calm = true) : CallR X (.builtin "sorted") (rSortedSetT X.w) := by
  intro pins s σ H vs us Q I r h
  obtain ⟨a, S, n, rfl, ha, h64, q⟩ := h
  rw [Vals.ref1 r]
  refine sorted_setT (setOT_get I ha) (I.ok.hd hc) h64 fun s' p out c zs k g o hp hg hi hs nd hm hl => ?_
  have hlen : (zs.map V.str).length ≤ sizeLine := by rw [List.length_map, hl, sizeLine_eq]; omega
  have hn : H p = none := I.hok.fresh hp
  have J : Inv X pins σ (upd H p (.lst (zs.map V.str))) { s with heap := s'.heap, gens := s'.gens, drawn := s'.drawn, toks := s'.toks } := I.call (ch := []) (Un.laid k hp hn) (I.hok.laid k hp ⟨hlen, out.toList, c, vals_of_strs hi, hg⟩) (by rw [g]; exact I.bare) (fun _ z => nomatch z)
  have e : s' = { s with heap := s'.heap, gens := s'.gens, drawn := s'.drawn, toks := s'.toks } := by
    cases s'; cases s; cases o
    rfl
  rw [e]
  exact ⟨.ref p, _, J, rfl, q zs p hs nd hm hl hn⟩
end
/-! over data -/
section
variable {K : PySem.W.Frag} {n : Nat} {J : Jv n}
def nSortSetT (ds : List PyData) (P : List PyData → Prop) : Prop := one ds fun d => listF d fun es => strsF es fun zs => zs.length < 64 ∧ ∀ ms : List Str, sortedS ms = true → ms.Nodup → (∀ z, z ∈ ms ↔ z ∈ zs) → P (ms.map .str)
theorem rn_sortSetT {w : World} {t : TA} {f : FA} (ha : RA K J t f) : RN K J (tCB (rSortedSetT w) (tCons (tCB (rSetT K w) t) tNil)) (fCBN nSortSetT f) := by
  intro O as σ H Q ρ P E q k
  refine ha O as σ H _ ρ _ E q fun ds ρ1 vs H1 q1 f1 E1 d1 => ?_
  obtain ⟨v, d, rfl, dq, g⟩ := one_of d1 q1
  unfold listF at g
  split at g
  · obtain ⟨ns, e, l64, g'⟩ := strsF_of g
    subst e
    obtain ⟨a, ys, rfl, s, r⟩ := dq.list_of
    cases r.strs_of
    refine ⟨a, ns, rfl, SqL.mono hp_same s, by omega, fun p c hp1 hc => ?_⟩
    refine ⟨p, _, c, rfl, upd_same, by omega, fun ms p2 so nd hm hl hp2 => ?_⟩
    have s2 := Same.new (o := SetOT w p (fun j => decide (j ∈ ns)) c) hp1
    exact new_step (f1.trans (E1.frS s2)) (E1.grow s2) (g' ms so nd fun z => by rw [hm z]; simp) hp2 (DqAll.strs _) k
  · exact g.elim
end
end DL
/-! marked tuples (no dict of their own): tuple(xs), t.count(x), t.index(x) -/
namespace DL
open PySem L2 Z PySem.Spec PyProof.Rows
variable [Tbs]
section
variable {X : Cx}
/-- tuple(xs): the new object is told -/
def rTupN (K : PySem.W.Frag) : List V → Hp → VK → Prop := fun vs H Q => ∃ p ys, vs = [.ref p] ∧ ((SqL K H p ys ∧ ∀ l o, H l = none → o.dict = none → o.cls = .type "tuple" → Q (.ref l) (upd H l (.frz o (.tup ys)))) ∨ (SqT K H p ys ∧ Q (.ref p) H))
theorem cr_tupN : CallR X (.type "tuple") (rTupN X.K) := by
  intro pins s σ H vs us Q I r h
  obtain ⟨p, ys, rfl, h⟩ := h
  obtain ⟨u, rfl, rx⟩ := vals1 r
  cases rx
  rcases h with ⟨hs, q⟩ | ⟨hs, q⟩
  · obtain ⟨its, rv, pl, hz⟩ := I.list hs
    have hl := rv.length
    refine call_tuple_list pl.isList (fun h' kp => ?_) (by simp only [List.size_toArray] <;> omega)
    have I1 : Inv X pins σ H { s with heap := h' } := I.kept (t' := s.toks) kp
    have I2 : Inv X pins σ (upd H h'.objs.size (.frz { cls := .type "tuple", data := .seq its.toArray } (.tup ys))) { s with heap := h'.push { cls := .type "tuple", data := .seq its.toArray } } :=
      I1.laid (t' := s.toks) (fun b o e => Heap.get?_push_of_some _ e) (Nat.le_refl _) (show ObjOk X.prog X.w _ _ _ (.frz _ (.tup ys)) from ⟨Heap.get?_push_size _ rfl, hz, its, rv, IsTup.new _ _⟩)
    exact ⟨.ref h'.objs.size, _, I2, rfl, q _ _ (I1.hok.fresh (Nat.le_refl _)) rfl rfl⟩
  · obtain ⟨its, rv, pl, hz⟩ := I.tuple hs
    exact call_tuple_same pl ⟨.ref p, H, I, rfl, q⟩
/-- a method of a marked tuple -/
def tTM (r : V → List V → Hp → VK → Prop) (to : TE) (t : TA) : TE := fun σ H Q => to σ H fun x H1 => (∃ a o xs, x = .ref a ∧ H1 a = some (.frz o (.tup xs)) ∧ o.dict = none) ∧ t σ H1 fun xs H2 => r x xs H2 Q
variable {o e : Expr} {es : List Expr} {to : TE} {t : TA} {name : Str} {apos cpos : Pos} {id : String} {r : V → List V → Hp → VK → Prop}
theorem pe_tm (slot : Slot "tuple" name id) (hty : typeOf (.builtin id) = pure (.type "method_descriptor")) (hm : MtR X id r) (ho : PE X o to) (ha : PA X (e :: es) t)
    (hb : attributeBase o name X.env (eval o X.env) = eval o X.env := by rfl)
    (hf : ((backTo cpos (starEach (e :: es) X.env)).all (fun x => !x.1) && (backToKw cpos (keywordEach [] X.env)).all (fun x => x.1.isSome)
      && decide ((e :: es).length + ([] : List Keyword).length + (if ([] : List Keyword).isEmpty then 0 else 1) < 30)) = true := by rfl)
    (hl : (apos.endLine == cpos.line) = true := by rfl) (hs : starEach (e :: es) X.env = (false, eval e X.env) :: starEach es X.env := by rfl) (hp : (backTo cpos (starEach es X.env)).any (·.1) = false := by rfl) :
    PE X (.Call (.Attribute o name apos) (e :: es) [] cpos) (tTM r to t) := by
  refine ⟨fun pins s σ H Q I h => ?_⟩
  refine wpAny_Call_method_late hb hf hl rfl (thn (ho.run pins s σ H _ I h) fun v s1 ⟨x, H1, I1, r1, ⟨a, ob, xs, ex, ea, nd⟩, q1⟩ => ?_)
  subst ex
  cases r1
  obtain ⟨g1, _, its, _, ⟨ob', g2, c2, _⟩⟩ := I1.hok a _ ea
  rw [g1] at g2
  cases g2
  refine ⟨"tuple", id, PySem.F.plainAttrs_tuple, slot, hty, ⟨ob, g1, c2⟩, fun b z => (by cases z; exact ⟨ob, g1, nd⟩), ?_⟩
  have hA := ha.run cpos pins s1 σ H1 _ I1 q1
  rw [hs] at hA ⊢
  refine Calls.callWith_builtin (by show (false || (backTo cpos (starEach es X.env)).any (·.1)) = false; rw [hp] <;> rfl) (Calls.evalArgs_plain ?_)
  exact thn hA fun us s2 ⟨vs, H2, I2, r2, q2⟩ => hm pins s2 σ H2 (.ref a) vs (.ref a) us Q I2 rfl r2 q2
/-- t.count(x) over data -/
def rCntTD (K : PySem.W.Frag) : V → List V → Hp → VK → Prop := fun x xs H Q => ∃ (a : Addr) (y : V) (d : PyData) (ds : List PyData), x = V.ref a ∧ xs = [y] ∧ Dp K H (V.ref a) (.tuple ds) ∧ Dp K H y d ∧ SeqAt.shaped (.tuple ds) = true ∧ SeqAt.shaped d = true ∧ d.depth < 63 ∧ Q (.int (ds.countP fun z => PyData.eqv z d : Nat)) H
theorem mt_cntTD (hu : X.A.units + 64 < cLine) : MtR X "tuple.count" (rCntTD X.K) := by
  intro pins s σ H x xs v us Q I rx rxs h
  obtain ⟨a, y, d, ds, rfl, rfl, ht, hy, st, sd, dd63, q⟩ := h
  cases rx
  obtain ⟨uy, rfl, ry⟩ := vals1 rxs
  obtain ⟨bs, r1⟩ := Dp.reads I d y uy hy ry
  have hxs : PyData.canLayAll0 ds = true := SeqAt.canLay_of_shaped st
  have hroom : X.A.units + 1 + min (PyData.depthAll ds) d.depth < cLine := by omega
  cases ht with
  | tup hs ha =>
    obtain ⟨its, rv, ⟨⟨cls, dd, data, sls⟩, ho, hc, n, hd⟩, hz⟩ := I.tuple hs
    simp only at hc hd
    subst hc hd
    obtain ⟨as, h4⟩ := Dp.readsAll I ds _ its ha rv
    have hmap : its.map (SeqAt.readOf s.heap) = ds := SeqAt.readsAll_map ds its as hxs h4
    refine call_meets PySem.F.slot_tuple_count ⟨_, ho, rfl⟩ PySem.F.entry_tuple_count (PySem.F.args_tuple_count_2 _ _) (SeqAt.tuple_countAt a its.toArray n dd sls uy (fun u => PyData.eqv (SeqAt.readOf s.heap u) d))
      ⟨ho, SeqAt.items_eqAt (vs := its.toArray) (show ReadsAll s.heap its.toArray.toList ds as from h4) r1 hxs (SeqAt.canLay_of_shaped sd) hroom, ?_⟩
    have e : its.toArray.toList.countP (fun u => PyData.eqv (SeqAt.readOf s.heap u) d) = ds.countP fun z => PyData.eqv z d := by
      rw [← hmap, List.countP_map]
      rfl
    rw [e]
    exact ⟨.int _, H, I.tok _, ⟨_, rfl⟩, q⟩
end
end DL
/-! marked tuples over data -/
namespace DL
open PySem L2 Z PySem.Spec PyProof.Rows
variable [Tbs]
section
variable {X : Cx}
/-- t.index(x) over data: the first place -/
def rIdxTD (K : PySem.W.Frag) : V → List V → Hp → VK → Prop := fun x xs H Q => ∃ (a : Addr) (y : V) (d : PyData) (ds : List PyData) (j : Nat) (z : PyData), x = V.ref a ∧ xs = [y] ∧ Dp K H (V.ref a) (.tuple ds) ∧ Dp K H y d ∧ SeqAt.shaped (.tuple ds) = true ∧ SeqAt.shaped d = true ∧ d.depth < 63 ∧
  ds[j]? = some z ∧ PyData.eqv z d = true ∧ (∀ (m : Nat) (z' : PyData), m < j → ds[m]? = some z' → PyData.eqv z' d = false) ∧ Q (.int (j : Nat)) H
theorem mt_idxTD (hu : X.A.units + 64 < cLine) : MtR X "tuple.index" (rIdxTD X.K) := by
  intro pins s σ H x xs v us Q I rx rxs h
  obtain ⟨a, y, d, ds, j, z, rfl, rfl, ht, hy, st, sd, dd63, hz, hzj, hno, q⟩ := h
  cases rx
  obtain ⟨uy, rfl, ry⟩ := vals1 rxs
  obtain ⟨bs, r1⟩ := Dp.reads I d y uy hy ry
  have hxs : PyData.canLayAll0 ds = true := SeqAt.canLay_of_shaped st
  have hroom : X.A.units + 1 + min (PyData.depthAll ds) d.depth < cLine := by omega
  cases ht with
  | tup hs ha =>
    obtain ⟨its, rv, ⟨⟨cls, dd, data, sls⟩, ho, hc, n, hd⟩, hl⟩ := I.tuple hs
    simp only at hc hd
    subst hc hd
    obtain ⟨as, h4⟩ := Dp.readsAll I ds _ its ha rv
    have hn : its.length = ds.length := SeqAt.ReadsAll.length ds its as h4
    have hmap : its.map (SeqAt.readOf s.heap) = ds := SeqAt.readsAll_map ds its as hxs h4
    have jd := (List.getElem?_eq_some_iff.mp hz).1
    have hj : j < its.toArray.size := by rw [List.size_toArray]; omega
    have at_ : ∀ (m : Nat) (hm : m < its.toArray.size) (z' : PyData), ds[m]? = some z' → SeqAt.readOf s.heap its.toArray[m] = z' := fun m hm z' e => by
      have ml : m < its.length := by simpa using hm
      rw [← hmap, List.getElem?_map, List.getElem?_eq_getElem ml] at e
      have e' : SeqAt.readOf s.heap its[m] = z' := Option.some.inj e
      simpa using e'
    refine call_meets PySem.F.slot_tuple_index ⟨_, ho, rfl⟩ PySem.F.entry_tuple_index (PySem.F.args_tuple_index_2 _ _) (TI.tuple_indexAt a its.toArray n dd sls uy (fun u => PyData.eqv (SeqAt.readOf s.heap u) d) j hj ?_ ?_)
      ⟨ho, SeqAt.items_eqAt (vs := its.toArray) (show ReadsAll s.heap its.toArray.toList ds as from h4) r1 hxs (SeqAt.canLay_of_shaped sd) hroom, ?_⟩
    · show PyData.eqv (SeqAt.readOf s.heap its.toArray[j]) d = true
      rw [at_ j hj z hz]
      exact hzj
    · intro m hm mj
      show PyData.eqv (SeqAt.readOf s.heap its.toArray[m]) d = false
      rw [at_ m hm _ (List.getElem?_eq_getElem (by omega))]
      exact hno m _ mj (List.getElem?_eq_getElem (by omega))
    · exact ⟨.int (j : Nat), H, I.tok _, ⟨_, rfl⟩, q⟩
end
section
variable {K : PySem.W.Frag} {n : Nat} {J : Jv n}
/-- the mark taken off -/
def unT : PyData → PyData
  | .dict [(.bool false, .tuple ds)] => .tuple ds
  | d => d
def tnF (d : PyData) (k : List PyData → Prop) : Prop := match d with
  | .dict [(.bool false, .tuple ds)] => k ds
  | _ => False
theorem tnF_of {d : PyData} {k : List PyData → Prop} (h : tnF d k) : ∃ ds, d = tnD ds ∧ k ds := by
  unfold tnF at h
  split at h
  · next ds => exact ⟨ds, rfl, h⟩
  · exact h.elim
theorem Dq.tn_of {G : Hp} {v : V} {ds : List PyData} (q : Dq K G v (tnD ds)) : ∃ a o xs, v = .ref a ∧ G a = some (.frz o (.tup xs)) ∧ o.dict = none ∧ DqAll K G xs ds := by
  unfold tnD at q
  generalize e : PyData.dict [(PyData.bool false, PyData.tuple ds)] = d at q
  cases q <;> first | (cases e; done) | skip
  next a o xs ds' h n r =>
    unfold tnD at e
    cases e
    exact ⟨a, o, xs, rfl, h, n, r⟩
theorem SqT.frz {G : Hp} {a : Addr} {o : PySem.Obj} {xs : List V} (h : G a = some (.frz o (.tup xs))) : SqT K G a xs := .inl (.inr ⟨o, h⟩)
theorem Dq.un {G : Hp} {v : V} {d : PyData} (q : Dq K G v d) : Dq K G v (unT d) := by
  unfold unT
  split
  · next ds =>
    obtain ⟨a, o, xs, rfl, h, _, r⟩ := Dq.tn_of (ds := ds) q
    exact .tup (SqT.frz h) r
  · exact q
def fUnT (a : FE) : FE := fun ρ P => a ρ fun d ρ1 => P (unT d) ρ1
theorem re_unT {t : TE} {a : FE} (ha : RE K J t a) : RE K J t (fUnT a) := by
  intro O as σ H Q ρ P E q k
  exact ha O as σ H _ ρ _ E q fun d ρ1 v H1 q1 f1 E1 d1 => k _ _ _ _ q1 f1 E1 d1.un
/-- tuple(xs), marked -/
def fTupN (a : FE) : FE := fun ρ P => a ρ fun d ρ1 => match d with
  | .list es => P (tnD es) ρ1
  | .dict [(.bool false, .tuple es)] => P (tnD es) ρ1
  | _ => False
theorem re_tupN {t : TE} {a : FE} (ha : RE K J t a) : RE K J (tCB (rTupN K) (tCons t tNil)) (fTupN a) := by
  intro O as σ H Q ρ P E q k
  refine ha O as σ H _ ρ _ E q fun d ρ1 v H1 q1 f1 E1 d1 => ?_
  split at q1
  · next es =>
    obtain ⟨p, xs, rfl, s, r⟩ := d1.list_of
    refine ⟨p, xs, rfl, .inl ⟨SqL.mono hp_same s, fun l o hl nd hc => ?_⟩⟩
    have sm := Same.new (o := .frz o (.tup xs)) hl
    exact k _ _ _ _ q1 (f1.trans (E1.frS sm)) (E1.grow sm) (.tn (hp_mk (E1.fresh1 hl) upd_same) nd (r.mono (E1.hgrow sm)))
  · next es =>
    obtain ⟨p, o, xs, rfl, h, nd, r⟩ := Dq.tn_of (ds := es) d1
    exact ⟨p, xs, rfl, .inr ⟨SqT.mono hp_same (SqT.frz h), k _ _ _ _ q1 f1 E1 (.tn h nd r)⟩⟩
  · exact q1.elim
/-- t.count(x) -/
def fCntT (a b : FE) : FE := fun ρ P => a ρ fun x ρ1 => tnF x fun ds => b ρ1 fun d ρ2 => SeqAt.shaped (.tuple ds) = true ∧ SeqAt.shaped d = true ∧ d.depth < 63 ∧ P (.int (ds.countP fun z => PyData.eqv z d : Nat)) ρ2
theorem re_cntT {ta tb : TE} {a b : FE} (ha : RE K J ta a) (hb : RE K J tb b) : RE K J (tTM (rCntTD K) ta (tCons tb tNil)) (fCntT a b) := by
  intro O as σ H Q ρ P E q k
  refine ha O as σ H _ ρ _ E q fun x ρ1 v H1 q1 f1 E1 d1 => ?_
  obtain ⟨ds, rfl, q1⟩ := tnF_of q1
  obtain ⟨p, o, xs, rfl, h, nd, r⟩ := Dq.tn_of d1
  refine ⟨⟨p, o, xs, rfl, (hp_some h).2, nd⟩, ?_⟩
  refine hb O as σ H1 _ ρ1 _ E1 q1 fun d ρ2 w H2 q2 f2 E2 d2 => ?_
  have d1' : Dq K _ (.ref p) (.tuple ds) := (d1.fr f2).un
  exact ⟨p, w, d, ds, rfl, rfl, Dp.mono hp_same (d1'.dp (plain_of q2.1)), Dp.mono hp_same (d2.dp (plain_of q2.2.1)), q2.1, q2.2.1, q2.2.2.1, k _ _ _ _ q2.2.2.2 (f1.trans f2) E2 (.int _)⟩
/-- t.index(x) -/
def fIdxT (a b : FE) : FE := fun ρ P => a ρ fun x ρ1 => tnF x fun ds => b ρ1 fun d ρ2 => SeqAt.shaped (.tuple ds) = true ∧ SeqAt.shaped d = true ∧ d.depth < 63 ∧ ∃ (j : Nat) (z : PyData), ds[j]? = some z ∧ PyData.eqv z d = true ∧ (∀ (m : Nat) (z' : PyData), m < j → ds[m]? = some z' → PyData.eqv z' d = false) ∧ P (.int (j : Nat)) ρ2
theorem re_idxT {ta tb : TE} {a b : FE} (ha : RE K J ta a) (hb : RE K J tb b) : RE K J (tTM (rIdxTD K) ta (tCons tb tNil)) (fIdxT a b) := by
  intro O as σ H Q ρ P E q k
  refine ha O as σ H _ ρ _ E q fun x ρ1 v H1 q1 f1 E1 d1 => ?_
  obtain ⟨ds, rfl, q1⟩ := tnF_of q1
  obtain ⟨p, o, xs, rfl, h, nd, r⟩ := Dq.tn_of d1
  refine ⟨⟨p, o, xs, rfl, (hp_some h).2, nd⟩, ?_⟩
  refine hb O as σ H1 _ ρ1 _ E1 q1 fun d ρ2 w H2 q2 f2 E2 d2 => ?_
  have d1' : Dq K _ (.ref p) (.tuple ds) := (d1.fr f2).un
  obtain ⟨s1, s2, s3, j, z, h1, h2, h3, q2⟩ := q2
  exact ⟨p, w, d, ds, j, z, rfl, rfl, Dp.mono hp_same (d1'.dp (plain_of s1)), Dp.mono hp_same (d2.dp (plain_of s2)), s1, s2, s3, h1, h2, h3, k _ _ _ _ q2 (f1.trans f2) E2 (.int _)⟩
end
end DL
/-! marks taken off, however deep -/
namespace DL
open PySem L2 Z PySem.Spec PyProof.Rows
variable [Tbs]
mutual
def unD : PyData → PyData
  | .list ds => .list (unAll ds)
  | .tuple ds => .tuple (unAll ds)
  | .dict [(.bool false, .tuple ds)] => .tuple (unAll ds)
  | d => d
def unAll : List PyData → List PyData
  | [] => []
  | d :: r => unD d :: unAll r
end
section
variable {K : PySem.W.Frag} {n : Nat} {J : Jv n} {G : Hp}
theorem unAll_map : ∀ ds : List PyData, unAll ds = ds.map unD
  | [] => by rw [unAll]; rfl
  | d :: r => by rw [unAll, unAll_map r]; rfl
mutual
theorem Dq.deep : ∀ {v : V} {d : PyData}, Dq K G v d → Dq K G v (unD d)
  | _, _, .non => by rw [unD] <;> first | exact .non | (intros; contradiction)
  | _, _, .bl b => by rw [unD] <;> first | exact .bl b | (intros; contradiction)
  | _, _, .int i => by rw [unD] <;> first | exact .int i | (intros; contradiction)
  | _, _, .str x => by rw [unD] <;> first | exact .str x | (intros; contradiction)
  | _, _, .lst h r => by rw [unD]; exact .lst h (DqAll.deep r)
  | _, _, .tup h r => by rw [unD]; exact .tup h (DqAll.deep r)
  | _, _, .obj c h r => by rw [unD] <;> first | exact .obj c h r | (intros; simp_all)
  | _, _, .exc c h g r => by rw [unD] <;> first | exact .exc c h g r | (intros; simp_all)
  | _, _, .fnc h => by rw [unD] <;> first | exact .fnc h | (intros; simp_all)
  | _, _, .hdl => by unfold hdl; rw [unD] <;> first | exact .hdl | (intros; simp_all)
  | _, _, .tn h _ r => by unfold tnD; rw [unD]; exact .tup (SqT.frz h) (DqAll.deep r)
theorem DqAll.deep : ∀ {v : List V} {d : List PyData}, DqAll K G v d → DqAll K G v (unAll d)
  | _, _, .nil => by rw [unAll]; exact .nil
  | _, _, .cons a r => by rw [unAll]; exact .cons (Dq.deep a) (DqAll.deep r)
end
def fUnD (a : FE) : FE := fun ρ P => a ρ fun d ρ1 => P (unD d) ρ1
theorem re_unD {t : TE} {a : FE} (ha : RE K J t a) : RE K J t (fUnD a) := by
  intro O as σ H Q ρ P E q k
  exact ha O as σ H _ ρ _ E q fun d ρ1 v H1 q1 f1 E1 d1 => k _ _ _ _ q1 f1 E1 d1.deep
end
end DL
/-! own == e, own != e, marks taken off -/
namespace DL
open PySem L2 Z PySem.Spec PyProof.Rows
variable [Tbs]
section
variable {K : PySem.W.Frag} {n : Nat} {J : Jv n}
def fEqOU (h : Bool → Bool) (i : Nat) (b : FE) : FE := fun ρ P => ownF ρ i fun _ => b ρ fun y ρ1 => ownF ρ1 i fun ds => SeqAt.shaped (.list (unAll ds)) = true ∧ SeqAt.shaped y = true ∧ P (.bool (h (PyData.eqv (.list (unAll ds)) y))) ρ1
theorem own_dpU {O : Addr → Prop} {as : As} {H : Hs} {ρ : En} {σ : L2.St} {i : Nat} {ds : List PyData} (E : EnR K J O as H ρ σ) (h : ρ[i]? = some (.own ds)) (sh : SeqAt.shaped (.list (unAll ds)) = true) : ∃ a, as i = some (.lf a) ∧ σ[i]? = some (some (.ref a)) ∧ Dp K H (.ref a) (.list (unAll ds)) := by
  obtain ⟨a, xs, e1, e2, e3, e4⟩ := E.own_at h
  exact ⟨a, e2, e1, .lst (SqL.of e3) (DpAll.mono hp_same ((DqAll.deep e4).dp (plain_of sh)))⟩
theorem re_eqOU {i : Nat} {tb : TE} {b : FE} (hb : RE K J tb b) : RE K J (tOp (rEqD K) (tVar i) tb) (fEqOU id i b) := by
  intro O as σ H Q ρ P E q k
  obtain ⟨ds0, h0, q⟩ := ownF_of q
  obtain ⟨a, xs0, e1, e2, _, _⟩ := E.own_at h0
  refine ⟨_, e1, ?_⟩
  refine hb O as σ H _ ρ _ E q fun x ρ1 v H1 q1 f1 E1 d1 => ?_
  obtain ⟨ds, hds, s1, s2, p⟩ := ownF_of q1
  obtain ⟨a', e2', _, dp⟩ := own_dpU E1 hds s1
  rw [e2] at e2'
  cases e2'
  exact ⟨_, _, dp, Dp.mono hp_same (d1.dp (plain_of s2)), s1, s2, k _ _ _ _ p f1 E1 (.bl _)⟩
theorem re_neOU {i : Nat} {tb : TE} {b : FE} (hb : RE K J tb b) : RE K J (tOp (rNeD K) (tVar i) tb) (fEqOU not i b) := by
  intro O as σ H Q ρ P E q k
  obtain ⟨ds0, h0, q⟩ := ownF_of q
  obtain ⟨a, xs0, e1, e2, _, _⟩ := E.own_at h0
  refine ⟨_, e1, ?_⟩
  refine hb O as σ H _ ρ _ E q fun x ρ1 v H1 q1 f1 E1 d1 => ?_
  obtain ⟨ds, hds, s1, s2, p⟩ := ownF_of q1
  obtain ⟨a', e2', _, dp⟩ := own_dpU E1 hds s1
  rw [e2] at e2'
  cases e2'
  exact ⟨_, _, dp, Dp.mono hp_same (d1.dp (plain_of s2)), s1, s2, k _ _ _ _ p f1 E1 (.bl _)⟩
end
end DL
/-! enumerate of a list or a tuple -/
namespace EM
open PySem PySem.Spec PyProof.Rows L2 ZM
set_option maxHeartbeats 1000000 in
theorem meets_enum1 {v : Value} {o : Obj} {Z : Heap → Prop} (B : Begins v o Z) :
    Meets (Builtin.«enumerate.__new__» ⟨[.type "enumerate", v], []⟩) (fun _ R s => Z s.heap ∧
      R (.ok (.ret (.ref (s.heap.push o).objs.size))) { s with heap := (s.heap.push o).push { cls := .type "enumerate", data := .fields #[.none, .bool false, .ref s.heap.objs.size, rawInt 0, .none, .none] } }) :=
  .of_wp fun prog w A R s h => by
    obtain ⟨hp, g, d, tk, os⟩ := s; obtain ⟨h1, h⟩ := h
    have hsub := sub_enumerate
    have q1 : ∀ {A' : Around} {E : Value → Shared → Prop} {Q : Value → Shared → Prop}, Q (.ref hp.objs.size) ⟨hp.push o, g, d, tk, os⟩ → wpAny (model prog w) A' (pyIter v) Q E ⟨hp, g, d, tk, os⟩ :=
      fun q => B.iter prog w _ _ ⟨hp, g, d, tk, os⟩ _ h1 q
    wp_walk using q1
    refine wpAny_stack_any fun st => wpAny_pure ?_
    split
    · rename_i c _ _ _ _ _
      cases (c == Value.type "enumerate")
      · wp_walk using q1
        exact ⟨_, rfl, h⟩
      · wp_walk using q1
        exact ⟨_, rfl, h⟩
    · wp_walk using q1
      exact ⟨_, rfl, h⟩
end EM
/-! enumerate of a list or a tuple: the call -/
namespace EM
open PySem PySem.Spec PyProof.Rows L2 ZM
section
variable {prog : Program} {w : World} {A : Around} {E : Value → Shared → Prop} {s : Shared}
theorem enum_begins1 {v : Value} {o : Obj} {Z : Heap → Prop} {Q : Value → Shared → Prop} (B : Begins v o Z) (h1 : Z s.heap)
    (h : ∀ h', IsEnum h' (s.heap.objs.size + 1) s.heap.objs.size 0 .none → h'.get? s.heap.objs.size = some o → (∀ b u, s.heap.get? b = some u → h'.get? b = some u) → Q (.ref (s.heap.objs.size + 1)) { s with heap := h' }) :
    wpAny (model prog w) A (call (.type "enumerate") [v]) Q E s := by
  refine callType_new F.called_enumerate (by decide) (F.typeCall_enumerate_1 _) (F.newCall_enumerate_1 _) (fun obj => F.args_object_init_2 obj _) F.entry_enumerate_new (meets_enum1 B) ⟨h1, ?_⟩
  have z : (s.heap.push o).objs.size = s.heap.objs.size + 1 := Heap.size_push ..
  show _ ∧ _
  rw [z]
  have e : IsEnum ((s.heap.push o).push { cls := .type "enumerate", data := .fields #[.none, .bool false, .ref s.heap.objs.size, rawInt 0, .none, .none] }) (s.heap.objs.size + 1) s.heap.objs.size 0 .none := by
    have q := Heap.get?_push_size (s.heap.push o) (o := { cls := .type "enumerate", data := .fields #[.none, .bool false, .ref s.heap.objs.size, rawInt 0, .none, .none] }) rfl
    rw [z] at q
    exact q
  exact ⟨⟨_, e, rfl⟩, h _ e (Heap.get?_push_of_some _ (Heap.get?_push_size _ B.free)) fun b u x => Heap.get?_push_of_some _ (Heap.get?_push_of_some _ x)⟩
end
end EM
/-! enumerate of a list or a tuple: its turns -/
namespace EM
open PySem PySem.Spec PyProof.Rows L2 ZM
def IteM (K : PySem.W.Frag) (k : Bool) (a : Addr) : It :=
  ⟨fun i H => ∃ (xs : List V) (x : V), SqK K H k a xs ∧ xs[i]? = some x, fun i H v H' => ∃ T x, v = .ref T ∧ H T = none ∧ H' = upd H T (.tup [.int (i : Nat), x]) ∧ ∀ xs, SqK K H k a xs → xs[i]? = some x, fun i H => ∃ xs : List V, SqK K H k a xs ∧ xs.length = i⟩
theorem mem2 {n c : Nat} : c ∈ ([n + 1, n] : List Nat) ↔ n ≤ c ∧ c ≤ n + 1 := by
  simp only [List.mem_cons, List.not_mem_nil, or_false]
  omega
theorem nc2 {n c : Nat} (h : ¬ (n ≤ c ∧ c ≤ n + 1)) : c ≠ n + 1 ∧ c ≠ n := by omega
theorem turn_enumM {P : Program} {w : World} {K : PySem.W.Frag} {elts : List Expr} {kk : Nat} {tpos : Pos} {k : Bool} {a n : Nat} (ha : a < n) :
    Turn P w K (.Tuple elts kk tpos) (IteM K k a) [n + 1, n] (n + 1) (fun i h => (∃ old, IsEnum h (n + 1) n ((i : Nat) : Int) old) ∧ itK h k n a i) := by
  refine ⟨by simp, ?_, ?_, ?_, ?_, ?_⟩
  · rintro i h ⟨⟨old, he⟩, q⟩ c hc
    simp only [List.mem_cons, List.not_mem_nil, or_false] at hc
    rcases hc with rfl | rfl
    · exact ⟨_, he, fun v z => nomatch z⟩
    · exact q.obj
  · rintro i h h' ⟨⟨old, he⟩, q⟩ kp
    exact ⟨⟨old, kp _ (by simp) _ he⟩, q.at fun o => kp _ (by simp) o⟩
  · intro X hP hw hK hc i pins s σ H E I hf st hg
    subst hP hw hK
    obtain ⟨⟨old, he⟩, q⟩ := st
    obtain ⟨xs, x, hq, hx⟩ := hg
    obtain ⟨its, rv, p, _⟩ := sqK I hq
    obtain ⟨u, hu, ru⟩ := rv.get hx
    have hh : X.A.in1.handled = none := I.ok.hd hc
    have el : (n + 1 : Nat) < s.heap.objs.size := Heap.lt_size he
    have l1 : i < its.toArray.size := by simpa using (List.getElem?_eq_some_iff.mp hu).1
    refine wpAny_pyNext_enum_itemC (drawsK hh k n a (nn (by omega)) its.toArray) he ⟨q, p⟩ l1 (nn (by omega)) (n2 (by omega) (by omega)) fun u1 h' tk e1 ho st' hT hsz kp => ?_
    have eu : u1 = u := by
      have : its.toArray[i]? = some u := by simpa using hu
      rw [this] at e1
      exact (Option.some.inj e1).symm
    subst eu
    refine ⟨_, rfl, wpAny_letOwnedTupleGo_enum (s := { s with heap := h', toks := tk + 1 }) ho fun h2 he2 sb => ?_⟩
    have sb' : ∀ c, c ≠ n + 1 → h2.get? c = h'.get? c := fun c hc => sb.2 c hc
    have hT2 : h2.get? s.heap.objs.size = some { cls := .type "tuple", data := .seq #[.int (i : Nat) tk, u1] } := (sb' _ (nn (by omega))).trans hT
    have new : ObjOk X.prog X.w (upd H s.heap.objs.size (.tup [.int (i : Nat), x])) h2 s.heap.objs.size (.tup [.int (i : Nat), x]) :=
      ⟨Nat.le_of_ble_eq_true rfl, [.int (i : Nat) tk, u1], .cons ⟨_, rfl⟩ (.cons ru .nil), ⟨_, hT2, rfl, _, rfl⟩⟩
    have I1 : Inv X pins σ (upd H s.heap.objs.size (.tup [.int (i : Nat), x])) { s with heap := h2, toks := tk + 1 } := by
      refine I.turnedNew (t' := tk + 1) (ch := [n + 1, n]) (fun c o hb q => ?_) hf (Nat.le_refl _) new
      obtain ⟨c1, c2⟩ := nc2 fun z => hb (mem2.mpr z)
      exact (sb' c c1).trans (kp c o c1 c2 q)
    refine ⟨.ref s.heap.objs.size, _, I1, rfl, ⟨_, x, rfl, I.hok.fresh (Nat.le_refl _), rfl, fun l hl => by rw [sqK_inj I hl hq]; exact hx⟩, ⟨⟨u1, ?_⟩, ?_⟩, fun c hcm => ?_⟩
    · have e1 : ((i + 1 : Nat) : Int) = (i : Int) + 1 := by omega
      rw [e1]; exact he2
    · exact st'.1.at fun o q => (sb' _ (nn (by omega))).trans q
    · have := mem2.mp hcm
      rw [upd_ne (nn (a := c) (b := s.heap.objs.size) (by omega))]
      exact (hf c hcm).1
  · intro X hP hw hK hc i pins s σ H E I hf st hg
    subst hP hw hK
    obtain ⟨⟨old, he⟩, q⟩ := st
    obtain ⟨xs, hq, hx⟩ := hg
    obtain ⟨its, rv, p, _⟩ := sqK I hq
    have l1 := rv.length
    have z1 : its.toArray.size = its.length := by simp
    have hh : X.A.in1.handled = none := I.ok.hd hc
    have hi : i = its.toArray.size := by omega
    subst hi
    refine wpAny_pyNext_enum_endD (drawsK hh k n a (nn (by omega)) its.toArray) he ⟨q, p⟩ fun h' kp => ⟨rfl, I.turnedL (t' := s.toks) (ch := [n + 1, n]) (fun c o hb q => ?_) hf⟩
    obtain ⟨c1, c2⟩ := nc2 fun z => hb (mem2.mpr z)
    exact kp c o c2 q
  · exact fun A i s Q E st h => let ⟨⟨_, he⟩, _⟩ := st; wpAny_pyIter_enum he h
def iEnumM (K : PySem.W.Frag) (ta : TA) : TI := fun σ H R => ta σ H fun vs H1 => ∃ k a xs, vs = [.ref a] ∧ SqK K H1 k a xs ∧ R (IteM K k a) H1
theorem pi_enumM {X : Cx} {e : Expr} {ta : TA} {p pos tpos : Pos} {elts : List Expr} {kk : Nat} (hg : Gl X "enumerate") (hm : X.mg "enumerate" = none) (ha : PA X [e] ta)
    (hs : starEach [e] X.env = [(false, eval e X.env)] := by rfl) : PI X (.Tuple elts kk tpos) (.Call (.Name "enumerate" p) [e] [] pos) (iEnumM X.K ta) := by
  refine ⟨fun pins s σ H R I h => ?_⟩
  refine Call_ (ld_blt I hg hm boot_enumerate (PyProof.Rows.callWith_type1 (thn (ha.run pos pins s σ H _ I h) fun us s1 q => ?_) hs rfl))
  obtain ⟨vs, H1, I1, r1, k, a, xs, rfl, hq, q⟩ := q
  cases r1 with
  | cons r rr =>
    cases rr
    cases r
    obtain ⟨its, rv, p1, la⟩ := sqK I1 hq
    refine enum_begins1 (beginsK k a its.toArray) p1 fun h' he g1 kp => wpAny_pyIter_enum he ?_
    have I2 : Inv X pins σ H1 { s1 with heap := h' } := I1.kept (t' := s1.toks) kp
    refine ⟨s1.heap.objs.size + 1, [s1.heap.objs.size + 1, s1.heap.objs.size], _, IteM X.K k a, H1, rfl, I2, turn_enumM la, ⟨⟨_, he⟩, ?_⟩, fun c hc => ?_, q⟩
    · cases k <;> exact ⟨_, g1, rfl, rfl⟩
    · have : s1.heap.objs.size ≤ c := (mem2.mp hc).1
      exact I1.fpOk this (I1.hok.fresh this)
theorem walk_enumM {K : PySem.W.Frag} {k : Bool} {a : Addr} {xs : List V} :
    Walk (IteM K k a) xs.length (fun H => SqK K H k a xs) (YPair (fun i => some (.int (i : Nat))) (fun i => xs[i]?)) := by
  refine ⟨fun i H hi q => ⟨xs, xs[i], q, by simp [hi]⟩, fun H q => ⟨xs, q, rfl⟩, fun i H v H' hi q y => ?_⟩
  obtain ⟨T, x, h1, h2, h3, h4⟩ := y
  exact ⟨T, .int (i : Nat), x, h1, h2, h3, rfl, h4 xs q⟩
end EM
namespace DL
open PySem L2 Z PySem.Spec PyProof.Rows
variable [Tbs]
section
variable {K : PySem.W.Frag} {n : Nat} {J : Jv n}
def iEM (f : FA) : FA := fun ρ P => f ρ fun ds ρ1 => match ds with
  | [x] => seqF x fun es => P (enumD es) ρ1
  | _ => False
theorem ri_enumM {ta : TA} {f : FA} (h : RA K J ta f) : RI K J (EM.iEnumM K ta) (iEM f) := by
  intro O as σ H R ρ P E q k
  refine h O as σ H _ ρ _ E q fun ds ρ1 vs H1 q1 f1 E1 d1 => ?_
  split at q1
  · next x =>
    cases d1 with
    | cons d1 b =>
      cases b
      obtain ⟨k1, a, xs, es, rfl, s, r, q1⟩ := seqK_of d1 q1
      refine ⟨k1, a, xs, rfl, ZM.SqK.mono hp_same s, k _ _ _ _ q1 f1 E1 ?_⟩
      refine ⟨_, _, by rw [enumD, List.length_map, List.length_zipIdx, ← r.length]; exact EM.walk_enumM (xs := xs), fun A' H2 s2 => ZM.SqK.mono hp_same (ZM.SqK.mono s2 s), fun i d A' H2 x H3 hd s2 oc y => ?_⟩
      obtain ⟨T, x1, y1, rfl, hT, e, e1, e2⟩ := y
      cases e1
      obtain ⟨d', e', q'⟩ := r.get e2
      rw [enumD, List.getElem?_map, List.getElem?_zipIdx, e'] at hd
      simp only [Option.map_some, Nat.zero_add] at hd
      cases hd
      exact yPair (A := fun _ => False) (H := H) hT e oc (.int _) (q'.mono s2)
  · exact q1.elim
end
end DL
/-! dicts of the store, by handles -/
namespace DL
open PySem L2 Z PySem.Spec PyProof.Rows
variable [Tbs]
/-- a key, by data -/
def keyF (d : PyData) (k : L2.Key → Prop) : Prop := match d with
  | .int i => k (.inl i)
  | .str x => k (.inr x)
  | _ => False
def keyD : L2.Key → PyData
  | .inl i => .int i
  | .inr x => .str x
abbrev Kvs := List (L2.Key × PyData)
def valD (kd : Kvs) (k : L2.Key) : Option PyData := (kd.find? fun kv => decide (kv.1 = k)).map (·.2)
/-- in its place, or at the end -/
def putE (kd : Kvs) (k : L2.Key) (d : PyData) : Kvs := if (valD kd k).isSome = true then kd.map (fun kv => if kv.1 = k then (kv.1, d) else kv) else kd ++ [(k, d)]
def dropE (kd : Kvs) (k : L2.Key) : Kvs := kd.filter fun kv => decide (kv.1 ≠ k)
theorem valD_pos {p : L2.Key × PyData} {r : Kvs} {k : L2.Key} (e : p.1 = k) : valD (p :: r) k = some p.2 := by simp [valD, List.find?_cons, e]
theorem valD_neg {p : L2.Key × PyData} {r : Kvs} {k : L2.Key} (e : ¬ p.1 = k) : valD (p :: r) k = valD r k := by simp [valD, List.find?_cons, e]
section
variable {K : PySem.W.Frag} {n : Nat} {J : Jv n} {sx : Nat} {G : Hp}
theorem keyF_of {v : V} {d : PyData} {k : L2.Key → Prop} (q : Dq K G v d) (h : keyF d k) : ∃ y, v = L2.kV y ∧ k y := by
  unfold keyF at h
  split at h
  · cases q; exact ⟨.inl _, rfl, h⟩
  · cases q; exact ⟨.inr _, rfl, h⟩
  · exact h.elim
theorem DqKs.val : ∀ {kv : List (L2.Key × V)} {kd : Kvs}, DqKs K G kv kd → ∀ k, (∃ v d, L2.valV kv k = some v ∧ valD kd k = some d ∧ Dq K G v d) ∨ (L2.valV kv k = none ∧ valD kd k = none)
  | _, _, .nil, k => .inr ⟨rfl, rfl⟩
  | _, _, .cons (k := j) a r, k => by
    by_cases e : j = k
    · exact .inl ⟨_, _, valV_pos e, valD_pos e, a⟩
    · rw [valV_neg e, valD_neg e]
      exact DqKs.val r k
theorem DqKs.len : ∀ {kv : List (L2.Key × V)} {kd : Kvs}, DqKs K G kv kd → kv.length = kd.length
  | _, _, .nil => rfl
  | _, _, .cons _ r => by rw [List.length_cons, List.length_cons, DqKs.len r]
theorem DqKs.app : ∀ {kv : List (L2.Key × V)} {kd : Kvs} {kw : List (L2.Key × V)} {ke : Kvs}, DqKs K G kv kd → DqKs K G kw ke → DqKs K G (kv ++ kw) (kd ++ ke)
  | _, _, _, _, .nil, h => h
  | _, _, _, _, .cons a r, h => .cons a (DqKs.app r h)
theorem DqKs.mapPut {k : L2.Key} {v : V} {d : PyData} (q : Dq K G v d) : ∀ {kv : List (L2.Key × V)} {kd : Kvs}, DqKs K G kv kd → DqKs K G (kv.map fun z => if z.1 = k then (z.1, v) else z) (kd.map fun z => if z.1 = k then (z.1, d) else z)
  | _, _, .nil => .nil
  | _, _, .cons (k := j) a r => by
    rw [List.map_cons, List.map_cons]
    by_cases e : j = k
    · rw [if_pos e, if_pos e]; exact .cons q (DqKs.mapPut q r)
    · rw [if_neg e, if_neg e]; exact .cons a (DqKs.mapPut q r)
theorem DqKs.put {k : L2.Key} {v : V} {d : PyData} {kv : List (L2.Key × V)} {kd : Kvs} (h : DqKs K G kv kd) (q : Dq K G v d) : DqKs K G (L2.putK kv k v) (putE kd k d) := by
  unfold L2.putK putE
  rw [L2.valV_any]
  rcases h.val k with ⟨w, c, e1, e2, _⟩ | ⟨e1, e2⟩
  · rw [e1, e2]
    exact h.mapPut q
  · rw [e1, e2]
    exact h.app (.cons q .nil)
theorem DqKs.drop {k : L2.Key} : ∀ {kv : List (L2.Key × V)} {kd : Kvs}, DqKs K G kv kd → DqKs K G (L2.dropK kv k) (dropE kd k)
  | _, _, .nil => .nil
  | _, _, .cons (k := j) (v := v) (d := d) (kv := kv) (kd := kd) a r => by
    show DqKs K G (((j, v) :: kv).filter _) (((j, d) :: kd).filter _)
    rw [List.filter_cons, List.filter_cons]
    split
    · exact .cons a (DqKs.drop r)
    · exact DqKs.drop r
theorem EnR.dctS {O : Addr → Prop} {as : As} {H : Hs} {ρ : En} {σ : L2.St} {S : Sto} {p : Addr} {kd : Kvs} (E : EnR K J O as H ρ σ) (hs : ρ[sx]? = some (.st S)) (e : S p = some (.dct kd)) : ∃ kv, H p = some (.dK kv) ∧ DqKs K (hq O as H) kv kd := by
  obtain ⟨u, e1, r⟩ := E.getS hs e
  cases r with
  | dct q => exact ⟨_, e1, q⟩
/-- {} -/
def fDNew (sx : Nat) : FE := fun ρ P => stF ρ sx fun S => ∀ p, S p = none → P (hdl p) (ρ.set sx (.st (sset S p (.dct []))))
theorem re_dnew : RE K J tDNewK (fDNew sx) := by
  intro O as σ H Q ρ P E q k p hp
  obtain ⟨S, hs, q⟩ := stF_of q
  obtain ⟨sp, E2, f2⟩ := E.addS hs hp (u' := .dK []) (o' := .dct []) (.dct .nil)
  exact k _ _ _ ⟨upd H p (.dK []), _⟩ (q p sp) f2 E2 .hdl
/-- d[k] -/
def fDGet (sx : Nat) (a b : FE) : FE := fun ρ P => a ρ fun x ρ1 => b ρ1 fun y ρ2 => keyF y fun k => stF ρ2 sx fun S => ∃ p kd d, x = hdl p ∧ S p = some (.dct kd) ∧ valD kd k = some d ∧ P d ρ2
theorem re_dget {ta tb : TE} {a b : FE} (ha : RE K J ta a) (hb : RE K J tb b) : RE K J (tDGet ta tb) (fDGet sx a b) := by
  intro O as σ H Q ρ P E q k
  refine ha O as σ H _ ρ _ E q fun x ρ1 v H1 q1 f1 E1 d1 => ?_
  refine hb O as σ H1 _ ρ1 _ E1 q1 fun y ρ2 w H2 q2 f2 E2 d2 => ?_
  obtain ⟨z, rfl, q2⟩ := keyF_of d2 q2
  obtain ⟨S, hs, p, kd, d, rfl, e, hv, q2⟩ := stF_of q2
  rw [d1.hdl_of]
  obtain ⟨kv, e1, r⟩ := E2.dctS hs e
  rcases r.val z with ⟨u, c, h1, h2, dq⟩ | ⟨_, h2⟩
  · rw [hv] at h2
    cases h2
    exact ⟨p, u, rfl, by rw [← h1]; exact DGet.k e1, k _ _ _ _ q2 (f1.trans f2) E2 dq⟩
  · rw [hv] at h2; cases h2
/-- k in d, k not in d -/
def fDIn (neg : Bool) (sx : Nat) (b a : FE) : FE := fun ρ P => b ρ fun y ρ1 => a ρ1 fun x ρ2 => keyF y fun k => stF ρ2 sx fun S => ∃ p kd, x = hdl p ∧ S p = some (.dct kd) ∧ P (.bool (if neg then !(valD kd k).isSome else (valD kd k).isSome)) ρ2
theorem re_din {ta tb : TE} {a b : FE} (hb : RE K J tb b) (ha : RE K J ta a) : RE K J (tDIn tb ta) (fDIn false sx b a) := by
  intro O as σ H Q ρ P E q k
  refine hb O as σ H _ ρ _ E q fun y ρ1 v H1 q1 f1 E1 d1 => ?_
  refine ha O as σ H1 _ ρ1 _ E1 q1 fun x ρ2 w H2 q2 f2 E2 d2 => ?_
  obtain ⟨z, rfl, q2⟩ := keyF_of (d1.fr f2) q2
  obtain ⟨S, hs, p, kd, rfl, e, q2⟩ := stF_of q2
  rw [d2.hdl_of]
  obtain ⟨kv, e1, r⟩ := E2.dctS hs e
  refine ⟨p, _, rfl, DGet.k e1, ?_⟩
  refine k _ _ _ _ q2 (f1.trans f2) E2 ?_
  rcases r.val z with ⟨u, c, h1, h2, dq⟩ | ⟨h1, h2⟩ <;> rw [h1, h2] <;> exact .bl _
theorem re_dnotin {ta tb : TE} {a b : FE} (hb : RE K J tb b) (ha : RE K J ta a) : RE K J (tDNotIn tb ta) (fDIn true sx b a) := by
  intro O as σ H Q ρ P E q k
  refine hb O as σ H _ ρ _ E q fun y ρ1 v H1 q1 f1 E1 d1 => ?_
  refine ha O as σ H1 _ ρ1 _ E1 q1 fun x ρ2 w H2 q2 f2 E2 d2 => ?_
  obtain ⟨z, rfl, q2⟩ := keyF_of (d1.fr f2) q2
  obtain ⟨S, hs, p, kd, rfl, e, q2⟩ := stF_of q2
  rw [d2.hdl_of]
  obtain ⟨kv, e1, r⟩ := E2.dctS hs e
  refine ⟨p, _, rfl, DGet.k e1, ?_⟩
  refine k _ _ _ _ q2 (f1.trans f2) E2 ?_
  rcases r.val z with ⟨u, c, h1, h2, dq⟩ | ⟨h1, h2⟩ <;> rw [h1, h2] <;> exact .bl _
/-- d[k] = e -/
def fDPut (sx : Nat) (a b c : FE) : FS := fun E ρ => c ρ fun d ρ1 => a ρ1 fun x ρ2 => b ρ2 fun y ρ3 => keyF y fun k => stF ρ3 sx fun S => ∃ p kd, x = hdl p ∧ S p = some (.dct kd) ∧ kd.length < sizeLine ∧ E.nx (ρ3.set sx (.st (sset S p (.dct (putE kd k d)))))
theorem rs_dput {ta tb tc : TE} {a b c : FE} (ha : RE K J ta a) (hb : RE K J tb b) (hc : RE K J tc c) : RS K J (sDPut ta tb tc) (fDPut sx a b c) := by
  intro O as σ H D ρ E R q C
  refine hc O as σ H _ ρ _ R q fun d ρ1 v H1 q1 f1 E1 d1 => ?_
  refine ha O as σ H1 _ ρ1 _ E1 q1 fun x ρ2 w H2 q2 f2 E2 d2 => ?_
  refine hb O as σ H2 _ ρ2 _ E2 q2 fun y ρ3 u H3 q3 f3 E3 d3 => ?_
  obtain ⟨z, rfl, q3⟩ := keyF_of d3 q3
  obtain ⟨S, hs, p, kd, rfl, e, l, q3⟩ := stF_of q3
  rw [d2.hdl_of]
  obtain ⟨kv, e1, r⟩ := E3.dctS hs e
  obtain ⟨E4, f4⟩ := E3.setS hs e (u' := .dK (L2.putK kv z v)) (o' := .dct (putE kd z d)) (.dct (r.put ((d1.fr f2).fr f3)))
  exact ⟨p, _, rfl, DPut.k e1 (by rw [r.len]; exact l), C.nx _ _ _ ⟨_, _⟩ q3 (.of (((f1.trans f2).trans f3).trans f4)) E4⟩
/-- d[k] += e (numbers) -/
def fDAug (sx : Nat) (a b c : FE) (h : Int → Int → Int) : FS := fun E ρ => a ρ fun x ρ1 => b ρ1 fun y ρ2 => keyF y fun k => stF ρ2 sx fun S => ∃ p kd i, x = hdl p ∧ S p = some (.dct kd) ∧ valD kd k = some (.int i) ∧ c ρ2 fun d ρ3 => intF d fun j => stF ρ3 sx fun S' => ∃ kd', S' p = some (.dct kd') ∧ kd'.length < sizeLine ∧ E.nx (ρ3.set sx (.st (sset S' p (.dct (putE kd' k (.int (h i j)))))))
theorem rs_daug {ta tb tc : TE} {a b c : FE} {h : Int → Int → Int} (ha : RE K J ta a) (hb : RE K J tb b) (hc : RE K J tc c) : RS K J (sDAug ta tb tc (ipI h)) (fDAug sx a b c h) := by
  intro O as σ H D ρ E R q C
  refine ha O as σ H _ ρ _ R q fun x ρ1 w H1 q1 f1 E1 d1 => ?_
  refine hb O as σ H1 _ ρ1 _ E1 q1 fun y ρ2 u H2 q2 f2 E2 d2 => ?_
  obtain ⟨z, rfl, q2⟩ := keyF_of d2 q2
  obtain ⟨S, hs, p, kd, i, rfl, e, hv, q2⟩ := stF_of q2
  rw [d1.hdl_of]
  obtain ⟨kv, e1, r⟩ := E2.dctS hs e
  rcases r.val z with ⟨v, c', h1, h2, dq⟩ | ⟨_, h2⟩
  · rw [hv] at h2
    cases h2
    cases dq
    refine ⟨p, _, rfl, by rw [← h1]; exact DGet.k e1, ?_⟩
    refine hc O as σ H2 _ ρ2 _ E2 q2 fun d ρ3 v3 H3 q3 f3 E3 d3 => ?_
    unfold intF at q3
    split at q3
    · next j =>
      cases d3
      obtain ⟨S', hs', kd', e', l, q3⟩ := stF_of q3
      obtain ⟨kv', e1', r'⟩ := E3.dctS hs' e'
      obtain ⟨E4, f4⟩ := E3.setS hs' e' (u' := .dK (L2.putK kv' z (.int (h i j)))) (o' := .dct (putE kd' z (.int (h i j)))) (.dct (r'.put (.int _)))
      exact ⟨_, _, rfl, rfl, _, DPut.k e1' (by rw [r'.len]; exact l), C.nx _ _ _ ⟨_, _⟩ q3 (.of (((f1.trans f2).trans f3).trans f4)) E4⟩
    · exact q3.elim
  · rw [hv] at h2; cases h2
/-- d.get(k), d.get(k, x) -/
def fDGet1 (sx : Nat) (a b : FE) : FE := fun ρ P => a ρ fun x ρ1 => stF ρ1 sx fun S1 => ∃ p kd1, x = hdl p ∧ S1 p = some (.dct kd1) ∧ b ρ1 fun y ρ2 => keyF y fun k => stF ρ2 sx fun S => ∃ kd, S p = some (.dct kd) ∧ P ((valD kd k).getD .none) ρ2
theorem re_dget1 {ta tb : TE} {a b : FE} (ha : RE K J ta a) (hb : RE K J tb b) : RE K J (tDGet1 ta tb) (fDGet1 sx a b) := by
  intro O as σ H Q ρ P E q k
  refine ha O as σ H _ ρ _ E q fun x ρ1 v H1 q1 f1 E1 d1 => ?_
  obtain ⟨S1, hs1, p, kd1, rfl, e1, q1⟩ := stF_of q1
  obtain ⟨kv1, g1, _⟩ := E1.dctS hs1 e1
  rw [d1.hdl_of]
  refine ⟨p, rfl, .inl ⟨kv1, .inl g1⟩, ?_⟩
  refine hb O as σ H1 _ ρ1 _ E1 q1 fun y ρ2 w H2 q2 f2 E2 d2 => ?_
  obtain ⟨z, rfl, q2⟩ := keyF_of d2 q2
  obtain ⟨S, hs, kd, e, q2⟩ := stF_of q2
  obtain ⟨kv, e1, r⟩ := E2.dctS hs e
  refine ⟨_, DGet.k e1, k _ _ _ _ q2 (f1.trans f2) E2 ?_⟩
  rcases r.val z with ⟨u, c, h1, h2, dq⟩ | ⟨h1, h2⟩ <;> rw [h1, h2]
  · exact dq
  · exact .non
def fDGet2 (sx : Nat) (a b c : FE) : FE := fun ρ P => a ρ fun x ρ1 => stF ρ1 sx fun S1 => ∃ p kd1, x = hdl p ∧ S1 p = some (.dct kd1) ∧ b ρ1 fun y ρ2 => keyF y fun k => c ρ2 fun d ρ3 => stF ρ3 sx fun S => ∃ kd, S p = some (.dct kd) ∧ P ((valD kd k).getD d) ρ3
theorem re_dget2 {ta tb tc : TE} {a b c : FE} (ha : RE K J ta a) (hb : RE K J tb b) (hc : RE K J tc c) : RE K J (tDGet2 ta tb tc) (fDGet2 sx a b c) := by
  intro O as σ H Q ρ P E q k
  refine ha O as σ H _ ρ _ E q fun x ρ1 v H1 q1 f1 E1 d1 => ?_
  obtain ⟨S1, hs1, p, kd1, rfl, e1, q1⟩ := stF_of q1
  obtain ⟨kv1, g1, _⟩ := E1.dctS hs1 e1
  rw [d1.hdl_of]
  refine ⟨p, rfl, .inl ⟨kv1, .inl g1⟩, ?_⟩
  refine hb O as σ H1 _ ρ1 _ E1 q1 fun y ρ2 w H2 q2 f2 E2 d2 => ?_
  obtain ⟨z, rfl, q2⟩ := keyF_of d2 q2
  refine hc O as σ H2 _ ρ2 _ E2 q2 fun d ρ3 u3 H3 q3 f3 E3 d3 => ?_
  obtain ⟨S, hs, kd, e, q3⟩ := stF_of q3
  obtain ⟨kv, e1, r⟩ := E3.dctS hs e
  refine ⟨_, DGet.k e1, k _ _ _ _ q3 ((f1.trans f2).trans f3) E3 ?_⟩
  rcases r.val z with ⟨u, c, h1, h2, dq⟩ | ⟨h1, h2⟩ <;> rw [h1, h2]
  · exact dq
  · exact d3
/-- len(d) -/
def fDLen (sx : Nat) (a : FE) : FE := fun ρ P => a ρ fun x ρ1 => stF ρ1 sx fun S => ∃ p kd, x = hdl p ∧ S p = some (.dct kd) ∧ P (.int (kd.length : Nat)) ρ1
theorem re_dlen {ta : TE} {a : FE} (ha : RE K J ta a) : RE K J (tCB (fun xs H Q => ∃ a kvs, xs = [V.ref a] ∧ H a = some (.dK kvs) ∧ Q (.int kvs.length) H) (tCons ta tNil)) (fDLen sx a) := by
  intro O as σ H Q ρ P E q k
  refine ha O as σ H _ ρ _ E q fun x ρ1 v H1 q1 f1 E1 d1 => ?_
  obtain ⟨S, hs, p, kd, rfl, e, q1⟩ := stF_of q1
  rw [d1.hdl_of]
  obtain ⟨kv, e1, r⟩ := E1.dctS hs e
  exact ⟨p, kv, rfl, e1, by rw [r.len]; exact k _ _ _ _ q1 f1 E1 (.int _)⟩
end
end DL
/-! methods by keywords; len(o) by an own __len__; len(range(e)) -/
namespace DL
open PySem L2 Z PySem.Spec PyProof.Rows
variable [Tbs]
section
variable {X : Cx} {CX : CXT} {k n : Nat} {f C : Addr} {fd : FuncData} {ps ks : List Str} {sp : Sp} {E : XK} {m : Str} {pos apos : Pos} {o e : Expr} {es : List Expr} {kws : List Keyword} {ta : TE} {t tk : TA} {g : List Value → List Value → List Value} {gV : List V → List V → List V}
/-- o.m(e, .., k = v, ..): n values and nk keywords -/
def tMethN (C : Addr) (m : Str) (n nk : Nat) (sp : Sp) (gV : List V → List V → List V) (E : XK) (ta : TE) (t tk : TA) : TE := fun σ H Q => ta σ H fun x H1 => ∃ a dx fs, x = .ref a ∧ H1 a = some (.ins C dx fs) ∧ fs.lookup m = none ∧ t σ H1 fun vs H2 => tk σ H2 fun zs H3 => vs.length = n ∧ zs.length = nk ∧ sp (gV (.ref a :: vs) zs) H3 Q E
theorem pe_methN {pl : Sem Bool} (he : PE X o ta) (c : Cls X.K C) (hm : Meth X.K C m f) (F : FnOk X.prog X.w X.K X.mg X.base CX k f fd ps sp) (hr : Room k X.A) (hb : KBn X.K fd ps (n + 1) ks g gV) (hx : Passes CX X E)
    (ha : PA X (e :: es) t) (hkw : PK X kws tk) (hall : (backToKw pos (keywordEach kws X.env)).all (·.1.isSome) = true := by rfl) (hks : (backToKw pos (keywordEach kws X.env)).filterMap (·.1) = ks := by rfl)
    (hst : starEach (e :: es) X.env = (false, eval e X.env) :: starEach es X.env := by rfl)
    (hpl : ((backTo pos (starEach (e :: es) X.env)).any (·.1) || (backToKw pos (keywordEach kws X.env)).any (·.1.isNone)) = false := by rfl)
    (ht : eval (.Call (.Attribute o m apos) (e :: es) kws pos) X.env = (do
      let ov ← eval o X.env
      standAt apos.atName
      let (f, first) ← holding [ov] (getMethod ov m pl)
      callWith pos f first (backTo pos (starEach (e :: es) X.env)) (backToKw pos (keywordEach kws X.env))) := by rfl) :
    PE X (.Call (.Attribute o m apos) (e :: es) kws pos) (tMethN C m n ks.length sp gV E ta t tk) := by
  refine ⟨fun pins s σ H Q I h => ?_⟩
  refine PySem.W.methodCall_KW (pl := pl) (thn (he.run pins s σ H _ I h) fun u s1 ⟨x, H1, I1, rx, a, dx, fs, ex, ea, l, q⟩ => ?_) ht
  subst ex
  obtain rfl : u = Value.ref a := rx
  refine getmeth_ok I1 ea c hm l ?_
  refine PySem.W.callWith_KW (first := [.ref a]) (h₀ := X.base) I.ok.mod.kin hm.kp hall (thn (ha.run pos pins s1 σ H1 _ I1 q) fun us s2 ⟨vs, H2, I2, r, q2⟩ => ?_) hpl hst
  refine thn (hkw.run pos pins s2 σ H2 _ I2 q2) fun ws s3 ⟨zs, H3, I3, rz, l1, l2, q3⟩ => ⟨I3.kIn, ?_⟩
  rw [hks]
  exact run_fnN (us := .ref a :: us) (vs := .ref a :: vs) F hr hb hx I3 (.cons rfl r) rz (by rw [List.length_cons, l1]) l2 q3
/-! len(o) -/
def rLenOwn (C : Addr) (sp : Sp) (E : XK) : List V → Hp → VK → Prop := fun xs H Q => ∃ a dx fs, xs = [V.ref a] ∧ H a = some (.ins C dx fs) ∧ sp [V.ref a] H (fun v H' => ∃ i : Int, v = .int i ∧ 0 ≤ i ∧ i < 9223372036854775808 ∧ Q (.int i) H') E
theorem cr_lenOwn (hm : Meth X.K C "__len__" f) (F : FnOk X.prog X.w X.K X.mg X.base CX k f fd ps sp) (hr : Room (k + 1) X.A) (hb : Binds X.K fd ps []) (hx : Passes CX X E) : CallR X (.builtin "len") (rLenOwn C sp E) := by
  intro pins s σ H xs us Q I r h
  obtain ⟨a, dx, fs, rfl, ea, q⟩ := h
  obtain ⟨u, rfl, ru⟩ := vals1 r
  obtain rfl : u = Value.ref a := ru
  obtain ⟨mA, O, _⟩ := ins_get I.hok ea
  obtain ⟨od, J, _⟩ := O.look
  refine Calls.call_function_entry PySem.kind_len PySem.plain_len PySem.entry_len (PySem.args_len1 _) ?_
  unfold Builtin.«len»
  refine wpAny_bind (m := oneArg "len" _) (wpAny_pure ?_)
  refine wpAny_bind (m := callSpecial? (.ref a) (Str.ofString "__len__")) (PySem.W.special_fn I.kIn J hm.at_ (beq_iff_eq.mp hm.fn) ?_)
  have r2 : Vals [V.ref a] [Value.ref a] := .cons rfl .nil
  have hl : ([Value.ref a] ++ []).length = ps.length := F.len _ _ _ _ q
  refine wpAny_call (codeAny_mono (F.run X.A.in1 X.stack s H ⟨[.ref a], []⟩ [.ref a] [.ref a] _ E hr.in1 I.env0.in1 (hb s [.ref a] I.kIn hl) r2 q) fun r s' hq => ?_)
  cases r with
  | error e => exact hx pins σ H s e s' I hq
  | ok fl =>
    cases fl with
    | ret u =>
      obtain ⟨v, H', I3, rv, i, ev, h0, h1, q3⟩ := I.after hq
      subst ev
      obtain ⟨t, rfl⟩ := rv
      refine wpAny_bind (wpAny_holding (wpAny_pure ?_))
      refine wpAny_bind (wpAny_letGo ?_)
      show wpAny _ _ (if i < 0 then _ else _) _ _ _
      rw [if_neg (by omega)]
      show wpAny _ _ (if i ≥ 2 ^ 63 then _ else _) _ _ _
      rw [if_neg (by omega)]
      exact wpAny_bind (wpAny_mkInt (wpAny_pure ⟨_, rfl, ⟨.int i, H', I3.tok _, ⟨_, rfl⟩, q3⟩⟩))
    | next => exact False.elim hq
    | brk => exact False.elim hq
    | cont => exact False.elim hq
end
/-! len(range(e)) -/
section
variable {X : Cx}
def rRng1 : List V → Hp → VK → Prop := fun vs H Q => ∃ j, vs = [V.int j] ∧ ∀ p, H p = none → Q (.ref p) (upd H p (.rng 0 j))
theorem cr_rng1 : CallR X (.type "range") rRng1 := by
  intro pins s σ H vs us Q I r h
  obtain ⟨j, rfl, q⟩ := h
  obtain ⟨u, rfl, rj⟩ := vals1 r
  obtain ⟨t, rfl⟩ := rj
  refine call_range_1 ⟨.ref s.heap.objs.size, upd H s.heap.objs.size (.rng 0 j), I.laid (t' := s.toks + 1 + 1) (fun b o e => Heap.get?_push_of_some _ e) (Nat.le_refl _) ?_, rfl, q _ (I.hok.fresh (Nat.le_refl _))⟩
  exact ⟨s.toks, t, s.toks + 1, Heap.get?_push_size _ rfl⟩
def rLenRng : List V → Hp → VK → Prop := fun vs H Q => ∃ a j, vs = [V.ref a] ∧ H a = some (.rng 0 j) ∧ 0 ≤ j ∧ j < 9223372036854775808 ∧ Q (.int j) H
theorem cr_lenRng : CallR X (.builtin "len") rLenRng := by
  intro pins s σ H vs us Q I r h
  obtain ⟨a, j, rfl, ea, h0, h1, q⟩ := h
  obtain ⟨u, rfl, ru⟩ := vals1 r
  obtain rfl : u = Value.ref a := ru
  obtain ⟨t1, t2, t3, ho⟩ := I.hok a _ ea
  obtain ⟨m, rfl⟩ := Int.eq_ofNat_of_zero_le h0
  have e : Builtin.Range.rangeSize 0 (m : Int) 1 = m := by
    unfold Builtin.Range.rangeSize
    simp
    omega
  exact call_len_range (n := m) ho (by rw [e]) (by omega) ⟨.int m, H, I.tok _, ⟨_, rfl⟩, q⟩
end
section
variable {K : PySem.W.Frag} {n : Nat} {J : Jv n} {sx : Nat}
def fLenRng (a : FE) : FE := fun ρ P => a ρ fun d ρ1 => intF d fun j => 0 ≤ j ∧ j < 9223372036854775808 ∧ P (.int j) ρ1
theorem re_lenRng {ta : TE} {a : FE} (ha : RE K J ta a) : RE K J (tCB rLenRng (tCons (tCB rRng1 (tCons ta tNil)) tNil)) (fLenRng a) := by
  intro O as σ H Q ρ P E q k
  refine ha O as σ H _ ρ _ E q fun d ρ1 v H1 q1 f1 E1 d1 => ?_
  unfold intF at q1
  split at q1
  · next j =>
    cases d1
    obtain ⟨h0, h1, q1⟩ := q1
    refine ⟨j, rfl, fun p hp => ?_⟩
    have sm := Same.new (o := .rng 0 j) hp
    exact ⟨p, j, rfl, upd_same, h0, h1, k _ _ _ _ q1 (f1.trans (E1.frS sm)) (E1.grow sm) (.int _)⟩
  · exact q1.elim
/-- len(o), o that stays -/
def fLenX (c : Str) (F : FN) (a : FE) : FE := fun ρ P => a ρ fun d ρ1 => objF c d fun _ => F [.fz d] fun e _ => intF e fun i => 0 ≤ i ∧ i < 9223372036854775808 ∧ P (.int i) ρ1
theorem re_lenX {C : Addr} {c : Str} {F : FN} {E0 : XK} {ta : TE} {a : FE} (hc : PySem.W.nsIn K mainGlobals c = some (some (.ref C))) (ha : RE K J ta a) : RE K J (tCB (rLenOwn C (spF K 1 F) E0) (tCons ta tNil)) (fLenX c F a) := by
  intro O as σ H Q ρ P E q k
  refine ha O as σ H _ ρ _ E q fun d ρ1 v H1 q1 f1 E1 d1 => ?_
  obtain ⟨y, dx, fv, fs, rfl, e, r, q1⟩ := objF_of hc d1 q1
  refine ⟨y, dx, fv, rfl, (hp_some e).2, ?_⟩
  refine call_core (xs := [.dat d]) (P := fun e ρ' => intF e fun i => 0 ≤ i ∧ i < 9223372036854775808 ∧ P (.int i) ρ') E1 (.dat .nil) (.cons (.dat d1) .nil) rfl rfl (by exact List.nodup_nil) ?_ fun e ρ' v H' p fr E' q' => ?_
  · exact q1
  · unfold intF at p
    split at p
    · next i =>
      cases q'
      exact ⟨i, rfl, p.1, p.2.1, k _ _ _ _ p.2.2 (f1.trans fr) E' (.int _)⟩
    · exact p.elim
/-- o.m(.., k = v, ..), o that stays -/
def fMethN (c x : Str) (l : Nat) (F : FN) (nn mm : Nat) (gD : List PyData → List PyData → List PyData) (a : FE) (f fk : FA) : FE := fun ρ P => a ρ fun d ρ1 => objF c d fun fs => fldD x fs = none ∧ f ρ1 fun ds ρ2 => fk ρ2 fun es ρ3 => ds.length = nn ∧ es.length = mm ∧ (gD ds es).length + 1 = l ∧ F (.fz d :: (gD ds es).map .fz) fun e _ => P e ρ3
theorem re_methN {C : Addr} {c x : Str} {l : Nat} {F : FN} {nn mm : Nat} {gV : List V → List V → List V} {gD : List PyData → List PyData → List PyData} {E0 : XK} {ta : TE} {t tk : TA} {a : FE} {f fk : FA} (hc : PySem.W.nsIn K mainGlobals c = some (some (.ref C)))
    (hg : ∀ (x : Addr) (vs zs : List V) (ds es : List PyData) (H : Hp), DqAll K H vs ds → DqAll K H zs es → ∃ ws, gV (.ref x :: vs) zs = .ref x :: ws ∧ DqAll K H ws (gD ds es)) (ha : RE K J ta a) (hb : RA K J t f) (hk : RA K J tk fk) : RE K J (tMethN C x nn mm (spF K l F) gV E0 ta t tk) (fMethN c x l F nn mm gD a f fk) := by
  intro O as σ H Q ρ P E q k
  refine ha O as σ H _ ρ _ E q fun d ρ1 v H1 q1 f1 E1 d1 => ?_
  obtain ⟨y, dx, fv, fs, rfl, e, r, hn, q1⟩ := objF_of hc d1 q1
  refine ⟨y, dx, fv, rfl, (hp_some e).2, look_none r hn, ?_⟩
  refine hb O as σ H1 _ ρ1 _ E1 q1 fun ds ρ2 vs H2 q2 f2 E2 d2 => ?_
  refine hk O as σ H2 _ ρ2 _ E2 q2 fun es ρ3 zs H3 q3 f3 E3 d3 => ?_
  obtain ⟨l1, l2, l3, q3⟩ := q3
  obtain ⟨ws, ew, rw'⟩ := hg y vs zs ds es _ (d2.fr f3) d3
  refine ⟨by rw [d2.length]; exact l1, by rw [d3.length]; exact l2, ?_⟩
  rw [ew]
  refine call_core (xs := .dat d :: (gD ds es).map .dat) E3 (.dat (fits_dat _)) (.cons (.dat ((d1.fr f2).fr f3)) (dat_ars rw').toT) (by rw [List.length_cons, rw'.length]; exact l3) (by rw [List.length_cons, List.length_map]; exact l3) (by show (ownIx ((gD ds es).map .dat)).Nodup; rw [ownIx_dat]; exact List.nodup_nil) ?_ fun e ρ' v H' p fr E' q' => k _ _ _ _ p (((f1.trans f2).trans f3).trans fr) E' q'
  simp only [wb, wb_dat]
  exact q3
/-- o.m(.., k = v, ..) that is handed the store -/
def fMethNS (sx : Nat) (c x : Str) (l : Nat) (F : FN) (nn mm : Nat) (gD : List PyData → List PyData → List PyData) (a : FE) (f fk : FA) : FE := fun ρ P => a ρ fun d ρ1 => stF ρ1 sx fun S1 => ∃ fs, ObjU S1 d c fs ∧ fldD x fs = none ∧ f ρ1 fun ds ρ2 => fk ρ2 fun es ρ3 => ds.length = nn ∧ es.length = mm ∧ (gD ds es).length + 1 = l ∧ stF ρ3 sx fun S => F (.fz d :: ((gD ds es).map .fz ++ [.st S])) fun e out => P e (ρ3.set sx ((out.drop l).headD .no))
theorem re_methNS {C : Addr} {c x : Str} {l : Nat} {F : FN} {nn mm : Nat} {gV : List V → List V → List V} {gD : List PyData → List PyData → List PyData} {E0 : XK} {ta : TE} {t tk : TA} {a : FE} {f fk : FA} (hc : PySem.W.nsIn K mainGlobals c = some (some (.ref C)))
    (hg : ∀ (x : Addr) (vs zs : List V) (ds es : List PyData) (H : Hp), DqAll K H vs ds → DqAll K H zs es → ∃ ws, gV (.ref x :: vs) zs = .ref x :: ws ∧ DqAll K H ws (gD ds es)) (ha : RE K J ta a) (hb : RA K J t f) (hk : RA K J tk fk) : RE K J (tMethN C x nn mm (spS K l F) gV E0 ta t tk) (fMethNS sx c x l F nn mm gD a f fk) := by
  intro O as σ H Q ρ P E q k
  refine ha O as σ H _ ρ _ E q fun d ρ1 v H1 q1 f1 E1 d1 => ?_
  obtain ⟨S1, hs1, fs, ob, hn, q1⟩ := stF_of q1
  obtain ⟨y, dx, fv, rfl, e, r⟩ := objU_of E1 hs1 hc ob d1
  refine ⟨y, dx, fv, rfl, e, look_none r hn, ?_⟩
  refine hb O as σ H1 _ ρ1 _ E1 q1 fun ds ρ2 vs H2 q2 f2 E2 d2 => ?_
  refine hk O as σ H2 _ ρ2 _ E2 q2 fun es ρ3 zs H3 q3 f3 E3 d3 => ?_
  obtain ⟨l1, l2, l3, q3⟩ := q3
  obtain ⟨S, hs, q3⟩ := stF_of q3
  obtain ⟨ws, ew, rw'⟩ := hg y vs zs ds es _ (d2.fr f3) d3
  refine ⟨by rw [d2.length]; exact l1, by rw [d3.length]; exact l2, ?_⟩
  rw [ew]
  refine call_core (xs := .dat d :: ((gD ds es).map .dat ++ [.own sx])) (r := .fz d :: ((gD ds es).map .fz ++ [.st S])) E3 (.dat (fits_nil hs _)) (.cons (.dat ((d1.fr f2).fr f3)) ((dat_ars rw').snoc (E3.st_at hs).1)) (by rw [List.length_cons, rw'.length]; exact l3) (by rw [List.length_cons, List.length_append, List.length_map, List.length_singleton]; omega) (by show (ownIx ((gD ds es).map .dat ++ [.own sx])).Nodup; rw [ownIx_snoc, ownIx_dat]; exact List.nodup_cons.mpr ⟨List.not_mem_nil, .nil⟩) ?_ fun e ρ' v H' p fr E' q' => k _ _ _ _ p (((f1.trans f2).trans f3).trans fr) E' q'
  have e : ∀ out : List Sl, wb ρ3 (.dat d :: ((gD ds es).map .dat ++ [.own sx])) out = ρ3.set sx ((out.drop l).headD .no) := fun out => by
    rw [wb, wb_snoc, wb_dat, List.length_map, List.drop_tail, l3]
  simp only [e]
  exact q3
end
end DL
/-! a call with a store of its own -/
namespace DL
open PySem L2 Z PySem.Spec PyProof.Rows
variable [Tbs]
section
variable {K : PySem.W.Frag} {n : Nat} {J : Jv n}
theorem callZ_core {O : Addr → Prop} {as : As} {H : Hs} {ρ : En} {σ : L2.St} {m : Nat} {F : FN} {vs : List V} {ds : List PyData} {Q : VK} {E0 : XK} {P : PyData → En → Prop}
    (E : EnR K J O as H ρ σ) (dv : DqAll K (hq O as H) vs ds) (hm : ds.length = m)
    (g : F (ds.map .fz ++ [.st noS]) fun d out => ∃ S' o, out[m]? = some (.st S') ∧ Res S' d o ∧ P o ρ)
    (k : ∀ d ρ' v H', P d ρ' → Fr as H H' → EnR K J O as H' ρ' σ → Dq K (hq O as H') v d → Q v H') :
    spS K m F vs H Q E0 := by
  have own0 : ∀ {G : Hs} {b : Addr}, Own (asX m) G b → G.st b ≠ none ∨ ∃ p ∈ Tbs.T, p.1 = b := fun h => by
    rcases h with ⟨i, r, h, q⟩ | h
    · rw [(asX_of h).2] at q
      exact .inl q
    · exact .inr h
  have same0 : Same (hq O as H) (hq (fun a => Hid O as H a) (asX m) ⟨H.hp, noS⟩) := fun a o e => by
    obtain ⟨h, e⟩ := hp_some e
    refine hp_mk (fun z => ?_) e
    rcases z with z | z
    · exact h z
    · rcases own0 z with z | z
      · exact z rfl
      · exact h (.inr (.inr z))
  have ll : (ds.map Sl.fz ++ [Sl.st noS]).length = m + 1 := by rw [List.length_append, List.length_map, List.length_singleton]; omega
  have lv : (vs.map some).length = m := by rw [List.length_map, dv.length]; exact hm
  have last : (ds.map Sl.fz ++ [Sl.st noS])[m]? = some (.st noS) := by
    rw [← hm, List.getElem?_append_right (by rw [List.length_map]; exact Nat.le_refl _), List.length_map, Nat.sub_self]
    rfl
  have am : asX m m = some .sto := if_pos rfl
  refine ⟨by rw [dv.length]; exact hm, fun a => Hid O as H a, asX m, noS, _, _, ⟨by rw [lv, ll]; omega, fun i sl h1 h2 => ?_, fun i sl o h1 h2 => ?_, fun i h => ?_, fun i j r r' b h1 h2 q1 q2 => by rw [(asX_of h1).1, (asX_of h2).1], fun i r b h q z => ?_, fun i r h => by rw [(asX_of h).1, ll]; omega, fun a h => E.full h, trivial, trivial, E.tab⟩, ll, g, fun d out v H' p fr bk dq => ?_⟩
  · have := (List.getElem?_eq_some_iff.mp h1).1
    rw [ll] at this
    rw [lv] at h2
    have : i = m := by omega
    rw [this]; exact am
  · have hi : i < m := by rw [← lv]; exact (List.getElem?_eq_some_iff.mp h2).1
    rw [show asX m i = none from if_neg (by omega)]
    rw [List.getElem?_append_left (by rw [List.length_map]; omega), List.getElem?_map] at h1
    rw [List.getElem?_map] at h2
    cases e1 : ds[i]? with
    | none => rw [e1] at h1; cases h1
    | some d =>
      rw [e1] at h1
      cases h1
      obtain ⟨v, ev, dq⟩ := dv.got e1
      rw [ev] at h2
      cases h2
      exact .fz (dq.mono same0)
  · rw [(asX_of h).1]
    exact ⟨lv.symm, last, fun a o e => by cases e⟩
  · rw [(asX_of h).2] at q
    exact q rfl
  · obtain ⟨S', o, hS, hR, p⟩ := p
    obtain ⟨sl, e1, e2, e3⟩ := bk.at_ m _ am
    rw [hS] at e1
    cases e1
    cases e2
    have fn : Fr noA H (H.w H'.hp) := by
      refine ⟨fun a o h e => fr.fr a o (fun z => ?_) e, fun a h => ?_, fun a h => fr.liv a h, fun _ => rfl⟩
      · rcases own0 z with z | z
        · exact z rfl
        · exact h (.inr z)
      · rcases h with ⟨_, _, h, _⟩ | h
        · cases h
        · exact .inl (.inr h)
    obtain ⟨E', f'⟩ := E.still fn bk.tab
    have sm : Same (hq (fun a => Hid O as H a) (asX m) H') (hq O as (H.w H'.hp)) := hp_less fun a h => by
      rcases h with h | h
      · exact .inl (.inl h)
      · exact .inl (.inr ((Own.st rfl).mp h))
    have vis : ∀ a, H'.st a ≠ none → hq O as (H.w H'.hp) a = H'.hp a := fun a h => hp_of fun z => by
      refine bk.out m .sto a am h ?_
      rcases z with z | z
      · exact .inl z
      · exact .inr ((Own.st rfl).mp z)
    exact k _ _ _ ⟨H'.hp, H.st⟩ p f' E' (Res.dq e3 sm vis hR dq)
/-- f(..), f handed a store of its own -/
def fCallZ (m : Nat) (F : FN) (dv : List PyData) (f : FA) : FE := fun ρ P => f ρ fun ds ρ1 => (ds ++ dv).length = m ∧ F ((ds ++ dv).map .fz ++ [.st noS]) fun d out => ∃ S' o, out[m]? = some (.st S') ∧ Res S' d o ∧ P o ρ1
theorem re_callZ {m : Nat} {F : FN} {dvs : List V} {dv : List PyData} {E0 : XK} {t : TA} {f : FA} (hd : ∀ H, DqAll K H dvs dv) (ha : RA K J t f) : RE K J (tCall (spS K m F) dvs E0 t) (fCallZ m F dv f) := by
  intro O as σ H Q ρ P E q k
  refine ha O as σ H _ ρ _ E q fun ds ρ1 vs H1 q1 f1 E1 d1 => ?_
  exact callZ_core E1 (d1.append (hd _)) q1.1 q1.2 fun d ρ' v H' p fr E' q' => k d ρ' v H' p (f1.trans fr) E' q'
end
end DL
/-! a dict of the store walked by a comprehension, locked meanwhile -/
namespace DL
open PySem L2 Z PySem.Spec PyProof.Rows
variable [Tbs]
section
variable {K : PySem.W.Frag} {n : Nat} {J : Jv n} {sx : Nat}
/-- a comprehension at one state -/
theorem rn_lcAt {ws vs : List Nat} {wi : TI} {g : TG} {tt : TT} {te : TE} {fi : FA} {fg : FG} {ft : FT} {fe : FE} {O : Addr → Prop} {as : As} {σ : L2.St} {H : Hs} {ρ : En} (hw : ∀ j ∈ ws, j ∈ vs)
    (hi : ∀ (R : It → Hp → Prop) (P : List PyData → En → Prop), fi ρ P → (∀ ds ρ' I H', P ds ρ' → Fr as H H' → EnR K J O as H' ρ' σ → IsIt K (Hid O as H') I H' ds → R I H') → wi σ H R)
    (hg : ∀ J' : Jv n, J'.le J → RG K J' ws g fg) (ht : ∀ J' : Jv n, J'.le J → RT K J' tt ft) (he : ∀ J' : Jv n, J'.le J → RE K J' te fe) (Q : VK) (P : List PyData → En → Prop) (E : EnR K J O as H ρ σ) (q : fLc fi fg ft fe vs ρ P)
    (k : ∀ ds ρ' p xs H', P ds ρ' → Fr as H H' → NewO as H p → EnR K J (plus O p) as H' ρ' σ → H' p = some (.lst xs) → DqAll K (hq (plus O p) as H') xs ds → Q (.ref p) H') : tLc wi g tt te vs σ H Q := by
  refine hi _ _ q fun ds ρ1 I H1 q1 f1 E1 it => ?_
  obtain ⟨hv, W, w0, ws', we⟩ := q1
  obtain ⟨G, Y, wk, hG, hY⟩ := it
  intro D hD
  have hvn : ∀ j, j ∈ vs → as j = none := fun j hj => E1.none_of (List.all_eq_true.mp hv j hj)
  have sO : ∀ {H2 : Hs}, Fr as H1 H2 → Same (hq O as H1) (hq (plus O D) as H2) := fun f a o e => by
    obtain ⟨na, e⟩ := hp_some e
    refine hp_mk (fun z => ?_) (f.fr a o (fun z => na (.inr z)) e)
    rcases z with (z | z) | z
    · exact na (.inl z)
    · rw [z, hD] at e; cases e
    · rcases f.new a z with z | z
      · exact na (.inr z)
      · rw [z] at e; cases e
  have hD0 : H D = none := by
    cases e : H D with
    | none => rfl
    | some o => exact absurd hD (f1.liv D (by rw [e]; exact Option.some_ne_none _))
  refine lc_it wk (fun i H2 => ∃ S2 acc ρ2 xs, Fr as H1 ⟨H2, S2⟩ ∧ EnR K (J.hide D) (plus O D) as ⟨H2, S2⟩ (wipeF ρ2 vs) (wipe σ vs) ∧ H2 D = some (.lst xs) ∧ DqAll K (hq (plus O D) as ⟨H2, S2⟩) xs acc ∧ W i acc (wipeF ρ2 vs)) ?_ (fun i H2 _ ⟨S2, acc, ρ2, xs, f2, _⟩ => hG (Hid (plus O D) as ⟨H2, S2⟩) _ (sO f2)) ?_ ?_
  · exact ⟨_, [], ρ1, [], E1.frS (Same.new hD), (((E1.addO (o := .lst []) hD).1.reJ (Jv.hide_new E1.inv hD (E1.frS (Same.new hD))) (J.up _ _ (fun _ z => .inl z) E1.inq)).wipes vs hv).1, upd_same, .nil, w0⟩
  · rintro i x H2' H3 hi' ⟨S2, acc, ρ2, xs, f2, E2, hx, dx, w⟩ y
    obtain ⟨H2, hH2⟩ : ∃ H2 : Hs, H2 = ⟨H2', S2⟩ := ⟨_, rfl⟩
    rw [← hH2] at f2 E2 dx
    rw [show H2' = H2.hp from by rw [hH2]] at y hx
    obtain ⟨s3, d3⟩ := hY i _ (Hid (plus O D) as H2) H2 x H3 (List.getElem?_eq_getElem hi') (sO f2) (fun c h => E2.full h) y
    have E3 := E2.grow s3
    refine hg _ Jv.hide_le (plus O D) as _ (H2.w H3) _ _ _ x _ E3 (d3.mono (E2.toS s3)) (ws' i _ acc _ (List.getElem?_eq_getElem hi') w) fun ρ4 σ4 H4 p4 f4 E4 z4 => ?_
    have len4 : σ4.length = σ.length := by rw [z4.1, wipe_length]
    have z4' : ∀ j, j ∉ vs → σ4[j]? = σ[j]? := fun j hj => by
      rw [z4.2 j (fun z => hj (hw j z)), wipe_at, if_neg (fun w => hj w.1)]
    refine ⟨wipe_eq len4 z4', ?_⟩
    refine ht _ Jv.hide_le (plus O D) as σ4 H4 _ ρ4 _ E4 p4 fun b ρ5 H5 q5 f5 E5 => ?_
    cases b
    · obtain ⟨v5, w5⟩ := q5
      have E6 := ((E5.wipes vs v5).1)
      rw [wipe_eq len4 z4'] at E6
      have f35 := (E2.frS s3).trans (f4.trans f5)
      exact ⟨H5.st, acc, ρ5, xs, f2.trans f35, E6, f35.fr _ _ (E2.newp hx) hx, dx.fr f35, w5⟩
    · refine he _ Jv.hide_le (plus O D) as σ4 H5 _ ρ5 _ E5 q5 fun d ρ6 v H6 q6 f6 E6 d6 => ?_
      obtain ⟨l6, v6, w6⟩ := q6
      have f36 := (E2.frS s3).trans ((f4.trans f5).trans f6)
      have hx6 := f36.fr _ _ (E2.newp hx) hx
      have dx6 := dx.fr f36
      obtain ⟨E7, s7⟩ := E6.putO (p := D) (ys := xs ++ [v]) (.inr rfl) hx6 (Jv.hide_put E6.inv (E6.stayO (.inr rfl)))
      have E8 := ((E7.wipes vs v6).1)
      rw [wipe_eq len4 z4'] at E8
      refine ⟨xs, hx6, by rw [dx.length]; exact l6, H6.st, acc ++ [d], ρ6, xs ++ [v], (f2.trans f36).putN hD (E6.stayO (.inr rfl)), E8, upd_same, (dx6.mono s7).append (.cons (d6.mono s7) .nil), w6⟩
  · rintro H2 ⟨S2, acc, ρ2, xs, f2, E2, hx, dx, w⟩
    have E3 := (E2.unwipe hvn (σ' := σ) rfl fun j hj => rfl).reJ (Jv.hide_le.1 _ _ E2.inv) (Jv.hide_le.2 _ E2.inq)
    exact k _ _ _ _ _ (we acc ρ2 w) (f1.trans f2) (.inl hD0) E3 hx dx
mutual
/-- a locked dict is no part of data -/
theorem Dq.unl {G G' : Hp} (k : ∀ a o, G a = some o → (∀ od kv, o ≠ .frz od (.dK kv)) → G' a = some o) : ∀ {v : V} {d : PyData}, Dq K G v d → Dq K G' v d
  | _, _, .non => .non
  | _, _, .bl b => .bl b
  | _, _, .int i => .int i
  | _, _, .str x => .str x
  | _, _, .lst h r => .lst (h.imp (Or.imp (fun e => k _ _ e fun _ _ z => by cases z) fun ⟨o, e⟩ => ⟨o, k _ _ e fun _ _ z => by cases z⟩) id) (DqAll.unl k r)
  | _, _, .tup h r => .tup (h.imp (Or.imp (fun e => k _ _ e fun _ _ z => by cases z) fun ⟨o, e⟩ => ⟨o, k _ _ e fun _ _ z => by cases z⟩) id) (DqAll.unl k r)
  | _, _, .obj c h r => .obj c (k _ _ h fun _ _ z => by cases z) (DqFs.unl k r)
  | _, _, .exc c h g r => .exc c (k _ _ h fun _ _ z => by unfold exk at z; cases z) (k _ _ g fun _ _ z => by cases z) (DqFs.unl k r)
  | _, _, .fnc h => .fnc h
  | _, _, .hdl => .hdl
  | _, _, .tn h n r => .tn (k _ _ h fun _ _ z => by cases z) n (DqAll.unl k r)
theorem DqFs.unl {G G' : Hp} (k : ∀ a o, G a = some o → (∀ od kv, o ≠ .frz od (.dK kv)) → G' a = some o) : ∀ {fv : List (Str × V)} {fs : List (PyData × PyData)}, DqFs K G fv fs → DqFs K G' fv fs
  | _, _, .nil => .nil
  | _, _, .cons a b => .cons (Dq.unl k a) (DqFs.unl k b)
theorem DqAll.unl {G G' : Hp} (k : ∀ a o, G a = some o → (∀ od kv, o ≠ .frz od (.dK kv)) → G' a = some o) : ∀ {v : List V} {d : List PyData}, DqAll K G v d → DqAll K G' v d
  | _, _, .nil => .nil
  | _, _, .cons a b => .cons (Dq.unl k a) (DqAll.unl k b)
end
theorem DqKs.drop' {G G' : Hp} (k : ∀ a o, G a = some o → (∀ od kv, o ≠ .frz od (.dK kv)) → G' a = some o) : ∀ {kv : List (L2.Key × V)} {kd : Kvs}, DqKs K G kv kd → DqKs K G' kv kd
  | _, _, .nil => .nil
  | _, _, .cons a b => .cons (a.unl k) (DqKs.drop' k b)
theorem SoR.unl {G G' : Hp} (k : ∀ a o, G a = some o → (∀ od kv, o ≠ .frz od (.dK kv)) → G' a = some o) {u : HO} {o : SO} (h : SoR K G u o) : SoR K G' u o := by
  cases h with
  | lst q => exact .lst (q.unl k)
  | obj c q => exact .obj c (q.unl k)
  | dct q => exact .dct (q.drop' k)
theorem DqAll.by {G G' : Hp} (T : ∀ v d, Dq K G v d → Dq K G' v d) : ∀ {v : List V} {d : List PyData}, DqAll K G v d → DqAll K G' v d
  | _, _, .nil => .nil
  | _, _, .cons a b => .cons (T _ _ a) (DqAll.by T b)
/-- the store otherwise -/
theorem EnR.reST {n' : Nat} {J' : Jv n'} {O : Addr → Prop} {as : As} {H : Hs} {ρ : En} {σ : L2.St} {S : Sto} (E : EnR K J O as H ρ σ) (hs : ρ[sx]? = some (.st S)) {G' : Hp} {S2 : Sto} (T : ∀ v d, Dq K (hq O as H) v d → Dq K (hq O as ⟨G', S2⟩) v d)
    (lf : ∀ i a, as i = some (.lf a) → G' a = H a) (st : StoR K (hq O as ⟨G', S2⟩) G' S2) (nw : ∀ a, S2 a ≠ none → S a ≠ none ∨ ((∀ i, as i ≠ some (.lf a)) ∧ ¬ O a)) (oc : ∀ a, O a → G' a ≠ none) (tab : TabsOk G') (hJ : J'.P as ⟨G', S2⟩) (hQ : J'.Q O) :
    EnR K J' O as ⟨G', S2⟩ (ρ.set sx (.st S2)) σ := by
  obtain ⟨a1, e2, _⟩ := E.st_at hs
  have hi : sx < ρ.length := (List.getElem?_eq_some_iff.mp hs).1
  have hl := (E.sto sx a1).1
  have rg : ∀ i r b, as i = some r → Rgn ⟨G', S2⟩ r b → Rgn H r b ∨ (r = .sto ∧ (∀ i, as i ≠ some (.lf b)) ∧ ¬ O b) := fun i r b h q => by
    cases r with
    | lf a => exact .inl q
    | sto =>
      rcases nw b q with z | z
      · exact .inl (by show H.st b ≠ none; rw [← e2]; exact z)
      · exact .inr ⟨rfl, z⟩
  refine ⟨by rw [List.length_set]; exact E.len, fun j sl h1 h2 => ?_, fun j sl o h1 h2 => ?_, fun j h => ?_, fun i j r r' b h1 h2 q1 q2 => ?_, fun j r b h q => ?_, fun j r h => by rw [List.length_set]; exact E.bnd j r h, oc, hJ, hQ, tab⟩
  · have hj : j < ρ.length := by rw [← List.length_set (as := ρ) (i := sx) (a := Sl.st S2)]; exact (List.getElem?_eq_some_iff.mp h1).1
    exact E.tl j _ (List.getElem?_eq_getElem hj) h2
  · have : j < σ.length := (List.getElem?_eq_some_iff.mp h2).1
    rw [List.getElem?_set_ne (by omega)] at h1
    have r := E.at_ j sl o h1 h2
    have lj := lf j
    generalize as j = z at r lj
    cases r with
    | no => exact .no
    | fz q => exact .fz (T _ _ q)
    | own q z => exact .own ((lj _ rfl).trans q) (z.by T)
  · have ej := (E.sto j h).1
    have : j = sx := by omega
    subst this
    exact ⟨ej, by rw [List.getElem?_set_self hi], st⟩
  · rcases rg i r b h1 q1 with z1 | ⟨z1, w1, _⟩
    · rcases rg j r' b h2 q2 with z2 | ⟨z2, w2, _⟩
      · exact E.inj i j r r' b h1 h2 z1 z2
      · subst z2
        cases r with
        | lf a => rw [← z1.lf_of] at h1; exact absurd h1 (w2 i)
        | sto =>
          have := (E.sto i h1).1
          have := (E.sto j h2).1
          omega
    · subst z1
      cases r' with
      | lf a =>
        have e : b = a := Rgn.lf_of q2
        rw [← e] at h2
        exact absurd h2 (w1 j)
      | sto =>
        have := (E.sto i h1).1
        have := (E.sto j h2).1
        omega
  · rcases rg j r b h q with z | ⟨_, _, z⟩
    · exact E.out j r b h z
    · exact z
def sdel (S : Sto) (p : Addr) : Sto := fun a => if a = p then none else S a
theorem sdel_ne {S : Sto} {p a : Addr} (h : a ≠ p) : sdel S p a = S a := if_neg h
theorem sdel_some {S : Sto} {p a : Addr} (h : sdel S p a ≠ none) : a ≠ p ∧ S a ≠ none := by
  by_cases e : a = p
  · unfold sdel at h; rw [if_pos e] at h; exact absurd rfl h
  · rw [sdel_ne e] at h; exact ⟨e, h⟩
/-- the dict at p is locked -/
def Jlock (n : Nat) (p : Addr) (od : PySem.Obj) (kv : List (L2.Key × V)) : Jv n := ⟨fun as H => H p = some (.frz od (.dK kv)) ∧ ¬ Own as H p, fun as as' H H' q x => ⟨x.fr _ _ q.2 q.1, fun z => by
  rcases x.new p z with w | w
  · exact q.2 w
  · rw [q.1] at w; cases w⟩, fun _ => True, fun _ _ _ _ => trivial⟩
/-- the keys of the dict in slot i -/
def iKs (i : Nat) (p : Addr) (ks : List PyData) : FA := fun ρ P => ρ[i]? = some (.fz (hdl p)) ∧ P ks ρ
theorem walk_it {O : Addr → Prop} {as : As} {H : Hs} {p : Addr} {od : PySem.Obj} {kv : List (L2.Key × V)} {kd : Kvs} {G : Hp} (r : DqKs K G kv kd) (e : hq O as H p = some (.frz od (.dK kv))) : IsIt K (Hid O as H) (Itk p od kv) H.hp (kd.map fun z => keyD z.1) := by
  refine ⟨_, _, by rw [List.length_map, ← r.len]; exact walk_keys, fun A' H1 s => (hp_some (s _ _ e)).2, fun i d A' H1 x H2 hd s oc y => ?_⟩
  obtain ⟨rfl, k, v, hk, rfl⟩ := y
  refine ⟨Same.refl _, ?_⟩
  have : ∀ (kv : List (L2.Key × V)) (kd : Kvs) (i : Nat), DqKs K G kv kd → kv[i]? = some (k, v) → (kd.map fun z => keyD z.1)[i]? = some d → d = keyD k := fun kv kd i r => by
    induction r generalizing i with
    | nil => intro z _; cases z
    | cons a r ih =>
      cases i with
      | zero =>
        intro h1 h2
        cases h1
        cases h2
        rfl
      | succ i => exact fun h1 h2 => ih i h1 h2
  rw [this kv kd i r hk hd]
  cases k with
  | inl i => exact .int i
  | inr x => exact .str x
/-- [.. for k in d], the dict in slot i -/
def fLckLc (sx i : Nat) (g : FG) (ft : FT) (fe : FE) (vs : List Nat) : FA := fun ρ P => ∃ p S kd, ρ[i]? = some (.fz (hdl p)) ∧ ρ[sx]? = some (.st S) ∧ S p = some (.dct kd) ∧
  fLc (iKs i p (kd.map fun z => keyD z.1)) g ft fe vs (ρ.set sx (.st (sdel S p))) fun ds ρ' => stF ρ' sx fun S' => P ds (ρ'.set sx (.st (sset S' p (.dct kd))))
theorem rn_lckLc {i : Nat} {ws vs : List Nat} {g : TG} {tt : TT} {te : TE} {fg : FG} {ft : FT} {fe : FE} (hw : ∀ j ∈ ws, j ∈ vs) (hg : ∀ J' : Jv n, RG K J' ws g fg) (ht : ∀ J' : Jv n, RT K J' tt ft) (he : ∀ J' : Jv n, RE K J' te fe) : RN K J (tLockE (tLc (iKeys (tVar i)) g tt te vs)) (fLckLc sx i fg ft fe vs) := by
  intro O as σ H Q ρ P E q k
  obtain ⟨p, S, kd, hi, hs, e, q⟩ := q
  obtain ⟨kv, e1, r⟩ := E.dctS hs e
  obtain ⟨a1, e2, st⟩ := E.st_at hs
  have Sp : S p ≠ none := by rw [e]; exact Option.some_ne_none _
  have Hsp : H.st p ≠ none := by rw [← e2]; exact Sp
  have nlf : ∀ j, as j ≠ some (.lf p) := fun j h => by
    have := E.inj j sx (.lf p) .sto p h a1 rfl Hsp
    rw [this, a1] at h
    cases h
  have nO : ¬ O p := E.out sx .sto p a1 Hsp
  refine ⟨p, .dK kv, e1, trivial, fun od => ?_⟩
  have hsp : sx ≠ i := fun z => by rw [z, hi] at hs; cases hs
  have own1 : ∀ a, Own as ⟨upd H p (.frz od (.dK kv)), sdel S p⟩ a → a ≠ p ∧ Own as H a := fun a h => by
    rcases h with ⟨j, r', h, q⟩ | h
    · cases r' with
      | lf b =>
        have eb : a = b := Rgn.lf_of q
        subst eb
        exact ⟨fun z => nlf j (by rw [← z]; exact h), .inl ⟨j, _, h, rfl⟩⟩
      | sto =>
        obtain ⟨n1, n2⟩ := sdel_some q
        exact ⟨n1, .inl ⟨sx, .sto, a1, by show H.st a ≠ none; rw [← e2]; exact n2⟩⟩
    · exact ⟨fun z => E.tab.nod ⟨_, e1, fun _ z => by cases z⟩ (by rw [← z]; exact h), .inr h⟩
  have s1 : Same (hq O as H) (hq O as ⟨upd H p (.frz od (.dK kv)), sdel S p⟩) := fun a o h => by
    obtain ⟨n1, h⟩ := hp_some h
    have ap : a ≠ p := fun z => n1 (.inr (.inl ⟨sx, .sto, a1, by rw [z]; exact Hsp⟩))
    refine hp_mk (fun z => n1 (z.imp id fun z => (own1 a z).2)) ?_
    show upd H p _ a = _
    rw [upd_ne ap]
    exact h
  have tabU : ∀ (G : Hp) (u w : HO), TabsOk G → G p = some u → (∀ ps, u ≠ .tbl ps) → (∀ φ, u ≠ .ext φ) → TabsOk (upd G p w) := fun G u w t h n1 n2 z hz => by
    obtain ⟨ps, t1, t2, t3⟩ := t z hz
    have ne : ∀ b o, G b = some o → o ≠ u → b ≠ p := fun b o e n' z' => n' (Option.some.inj (e.symm.trans (by rw [z']; exact h)))
    refine ⟨ps, by rw [upd_ne (ne _ _ t1 (fun z => n1 ps z.symm))]; exact t1, t2, fun po cv hcv => ?_⟩
    obtain ⟨cc, u1, u2⟩ := t3 po cv hcv
    exact ⟨cc, u1, by rw [upd_ne (ne _ _ u2 (fun z => by unfold LamX.CodeO at z; exact n2 _ z.symm))]; exact u2⟩
  have E1 : EnR K (Jlock n p od kv) O as ⟨upd H p (.frz od (.dK kv)), sdel S p⟩ (ρ.set sx (.st (sdel S p))) σ := by
    refine E.reST hs (fun v d h => h.mono s1) (fun j a h => ?_) (fun a o h => ?_) (fun a h => .inl (sdel_some h).2) (fun a h => ?_) (tabU _ _ _ E.tab e1 (fun _ z => by cases z) fun _ z => by cases z) ⟨upd_same, fun z => (own1 p z).1 rfl⟩ trivial
    · exact upd_ne fun z => nlf j (by rw [← z]; exact h)
    · obtain ⟨n1, n2⟩ := sdel_some (S := S) (p := p) (a := a) (by rw [h]; exact Option.some_ne_none _)
      rw [sdel_ne n1] at h
      obtain ⟨u, h1, h2⟩ := st a o h
      exact ⟨u, by rw [upd_ne n1]; exact h1, h2.mono s1⟩
    · show upd H p _ a ≠ none
      rw [upd_ne (fun z => nO (by rw [← z]; exact h))]
      exact E.occ a h
  refine rn_lcAt (J := Jlock n p od kv) hw (fun R P q k => ?_) (fun J' _ => hg J') (fun J' _ => ht J') (fun J' _ => he J') _ _ E1 q fun ds ρ' l xs H' pr fr nw E' hl dv => ?_
  · obtain ⟨hi', q⟩ := q
    obtain ⟨v, ev, _, dq⟩ := E1.fz_at hi'
    rw [dq.hdl_of] at ev
    have vis : hq O as ⟨upd H p (.frz od (.dK kv)), sdel S p⟩ p = some (.frz od (.dK kv)) := hp_mk (fun z => z.elim nO fun z => (own1 p z).1 rfl) upd_same
    exact ⟨.ref p, ev, p, od, rfl, .inl ⟨kv, upd_same, k _ _ _ _ q Fr.refl E1 (walk_it (r.mono s1) vis)⟩⟩
  · obtain ⟨S', hs', pr⟩ := stF_of pr
    obtain ⟨a1', e2', st'⟩ := E'.st_at hs'
    obtain ⟨lk1, lk2⟩ := E'.inv
    have lp : l ≠ p := fun z => by
      rcases nw with w | w
      · rw [z] at w
        have : upd H p (.frz od (.dK kv)) p = none := w
        rw [upd_same] at this
        cases this
      · exact (own1 l w).1 z
    refine ⟨lk1, ?_⟩
    have ownF : ∀ a, Own as ⟨upd H' p (.dK kv), sset S' p (.dct kd)⟩ a → a = p ∨ Own as H' a := fun a h => by
      rcases h with ⟨j, r', h, q⟩ | h
      · cases r' with
        | lf b => exact .inr (.inl ⟨j, _, h, q⟩)
        | sto =>
          rcases sset_some q with z | z
          · exact .inl z
          · exact .inr (.inl ⟨sx, .sto, a1', by show H'.st a ≠ none; rw [← e2']; exact z⟩)
      · exact .inr (.inr h)
    have T2 : ∀ a o, hq (plus O l) as H' a = some o → (∀ od kv, o ≠ .frz od (.dK kv)) → hq (plus O l) as ⟨upd H' p (.dK kv), sset S' p (.dct kd)⟩ a = some o := fun a o h n1 => by
      obtain ⟨n2, h⟩ := hp_some h
      have ap : a ≠ p := fun z => by rw [z, lk1] at h; cases h; exact n1 _ _ rfl
      refine hp_mk (fun z => n2 (z.imp id fun z => (ownF a z).resolve_left ap)) ?_
      show upd H'.hp p _ a = _
      rw [upd_ne ap]
      exact h
    have F : Fr as H ⟨upd H' p (.dK kv), sset S' p (.dct kd)⟩ := by
      have ownp : Own as H p := .inl ⟨sx, .sto, a1, Hsp⟩
      refine ⟨fun a o h1 h2 => ?_, fun a h => ?_, fun a h => ?_, fun h => absurd a1 (h sx)⟩
      · have ap : a ≠ p := fun z => h1 (by rw [z]; exact ownp)
        show upd H'.hp p _ a = _
        rw [upd_ne ap]
        exact fr.fr a o (fun z => h1 (own1 a z).2) (by show upd H p _ a = _; rw [upd_ne ap]; exact h2)
      · rcases ownF a h with z | z
        · rw [z]; exact .inl ownp
        · rcases fr.new a z with w | w
          · exact .inl (own1 a w).2
          · by_cases ap : a = p
            · rw [ap]; exact .inl ownp
            · have w : upd H p (.frz od (.dK kv)) a = none := w
              rw [upd_ne ap] at w
              exact .inr w
      · by_cases ap : a = p
        · show upd H'.hp p _ a ≠ none
          rw [ap, upd_same]; exact Option.some_ne_none _
        · show upd H'.hp p _ a ≠ none
          rw [upd_ne ap]
          exact fr.liv a (by show upd H p _ a ≠ none; rw [upd_ne ap]; exact h)
    have nF : NewO as H l := by
      rcases nw with w | w
      · have w : upd H p (.frz od (.dK kv)) l = none := w
        rw [upd_ne lp] at w
        exact .inl w
      · exact .inr (own1 l w).2
    have rF : DqKs K (hq (plus O l) as ⟨upd H' p (.dK kv), sset S' p (.dct kd)⟩) kv kd := ((r.mono s1).mono (same_plus fr nw)).drop' T2
    have EF : EnR K J (plus O l) as ⟨upd H' p (.dK kv), sset S' p (.dct kd)⟩ (ρ'.set sx (.st (sset S' p (.dct kd)))) σ := by
      refine E'.reST hs' (fun v d h => h.unl T2) (fun j a h => ?_) (fun a o h => ?_) (fun a h => ?_) (fun a h => ?_) (tabU _ _ _ E'.tab lk1 (fun _ z => by cases z) fun _ z => by cases z) (J.fr E.inv F) (J.up _ _ (fun _ z => .inl z) E.inq)
      · exact upd_ne fun z => nlf j (by rw [← z]; exact h)
      · by_cases ap : a = p
        · subst ap
          rw [sset_same] at h
          cases h
          exact ⟨_, upd_same, .dct rF⟩
        · rw [sset_ne ap] at h
          obtain ⟨u, h1, h2⟩ := st' a o h
          exact ⟨u, by rw [upd_ne ap]; exact h1, h2.unl T2⟩
      · rcases sset_some h with z | z
        · rw [z]
          exact .inr ⟨nlf, fun z => z.elim nO fun z => lp z.symm⟩
        · exact .inl z
      · by_cases ap : a = p
        · show upd H'.hp p _ a ≠ none
          rw [ap, upd_same]; exact Option.some_ne_none _
        · show upd H'.hp p _ a ≠ none
          rw [upd_ne ap]
          exact E'.occ a h
    exact k _ _ _ _ ⟨_, _⟩ pr F nF EF (by show upd H'.hp p _ l = _; rw [upd_ne lp]; exact hl) (dv.unl T2)
end
end DL
/-! list(range(e)) -/
namespace DL
open PySem L2 Z PySem.Spec PyProof.Rows
variable [Tbs]
theorem vals_get : ∀ (us : List Value) (f : Nat → V), (∀ j u, us[j]? = some u → RelV (f j) u) → Vals ((List.range us.length).map f) us
  | [], f, h => .nil
  | u :: us, f, h => by
    have e : (List.range (u :: us).length).map f = f 0 :: (List.range us.length).map (f ∘ Nat.succ) := by rw [List.length_cons, List.range_succ_eq_map, List.map_cons, List.map_map]
    rw [e]
    exact .cons (h 0 u rfl) (vals_get us (f ∘ Nat.succ) fun j v e => h (j + 1) v e)
section
variable {X : Cx}
def rLstRng : List V → Hp → VK → Prop := fun vs H Q => ∃ (a : Addr) (m : Nat), vs = [V.ref a] ∧ H a = some (.rng 0 (m : Int)) ∧ m ≤ 16777216 ∧ ∀ p, H p = none → Q (.ref p) (upd H p (.lst ((List.range m).map fun i : Nat => V.int (i : Int))))
theorem cr_lstRng (hc : X.calm = true) : CallR X (.type "list") rLstRng := by
  intro pins s σ H vs us Q I r h
  obtain ⟨a, m, rfl, ea, hm, q⟩ := h
  obtain ⟨u, rfl, ru⟩ := vals1 r
  obtain rfl : u = Value.ref a := ru
  obtain ⟨t1, t2, t3, ho⟩ := I.hok a _ ea
  have e : Builtin.Range.rangeSize 0 (m : Int) 1 = m := by
    unfold Builtin.Range.rangeSize
    simp
    omega
  have sm : Builtin.Range.small 0 (m : Int) 1 = true := small_one (by decide) (by decide) (by omega) (by omega)
  refine call_list_range (n := m) (I.ok.hd hc) ho sm e (by omega) fun h' tk acc c' hk e' hi => ?_
  have hl : acc.toList.length = m := by rw [Array.length_toList]; exact hi.1
  have rv : Vals ((List.range m).map fun i : Nat => V.int (i : Int)) acc.toList := by
    rw [← hl]
    refine vals_get acc.toList _ fun j u hj => ?_
    obtain ⟨t, rfl⟩ := hi.2 j u (by rw [← hj, Array.getElem?_toList])
    exact ⟨t, by rw [Int.mul_one, Int.zero_add]⟩
  refine ⟨.ref s.heap.objs.size, upd H s.heap.objs.size (.lst ((List.range m).map fun i : Nat => V.int (i : Int))), I.laid hk (Nat.le_refl _) (show ObjOk X.prog X.w _ _ _ (.lst _) from ⟨?_, acc.toList, c', rv, ?_⟩), rfl, q _ (I.hok.fresh (Nat.le_refl _))⟩
  · rw [List.length_map, List.length_range, sizeLine_eq]; omega
  · rw [Array.toArray_toList]; exact e'
end
section
variable {K : PySem.W.Frag} {n : Nat} {J : Jv n}
def fLstRng (a : FE) : FA := fun ρ P => a ρ fun d ρ1 => intF d fun j => 0 ≤ j ∧ j ≤ 16777216 ∧ P (rangeD 0 j.toNat) ρ1
theorem rn_lstRng {ta : TE} {a : FE} (ha : RE K J ta a) : RN K J (tCB rLstRng (tCons (tCB rRng1 (tCons ta tNil)) tNil)) (fLstRng a) := by
  intro O as σ H Q ρ P E q k
  refine ha O as σ H _ ρ _ E q fun d ρ1 v H1 q1 f1 E1 d1 => ?_
  unfold intF at q1
  split at q1
  · next j =>
    cases d1
    obtain ⟨h0, h1, q1⟩ := q1
    obtain ⟨m, rfl⟩ := Int.eq_ofNat_of_zero_le h0
    refine ⟨m, rfl, fun p hp => ?_⟩
    have sm := Same.new (o := .rng 0 (m : Int)) hp
    refine ⟨p, m, rfl, upd_same, by omega, fun l hl => ?_⟩
    refine new_step (f1.trans (E1.frS sm)) (E1.grow sm) q1 hl ?_ k
    rw [Int.toNat_natCast]
    show DqAll K _ _ ((List.range m).map fun k : Nat => .int (0 + (k : Int)))
    have e : ((List.range m).map fun k : Nat => PyData.int (0 + (k : Int))) = ((List.range m).map fun k : Nat => (k : Int)).map PyData.int := by
      rw [List.map_map]
      exact List.map_congr_left fun k _ => by show PyData.int _ = PyData.int _; rw [Int.zero_add]
    rw [e, show ((List.range m).map fun i : Nat => V.int (i : Int)) = ((List.range m).map fun k : Nat => (k : Int)).map V.int from by rw [List.map_map]; rfl]
    exact DqAll.ints _
  · exact q1.elim
end
end DL
/-! str of any data -/
namespace DL
open PySem L2 Z PySem.Spec PyProof.Rows
variable [Tbs]
section
variable {X : Cx}
theorem call_or {c : Value} {r1 r2 : List V → Hp → VK → Prop} (h1 : CallR X c r1) (h2 : CallR X c r2) : CallR X c (fun xs H Q => r1 xs H Q ∨ r2 xs H Q) := by
  intro pins s σ H xs us Q I r h
  rcases h with h | h
  · exact h1 pins s σ H xs us Q I r h
  · exact h2 pins s σ H xs us Q I r h
end
section
variable {K : PySem.W.Frag}
def gOr (g1 g2 : List PyData → (PyData → Prop) → Prop) : List PyData → (PyData → Prop) → Prop := fun ds P => g1 ds P ∨ g2 ds P
theorem rb_or {r1 r2 : List V → Hp → VK → Prop} {g1 g2 : List PyData → (PyData → Prop) → Prop} (h1 : RB K r1 g1) (h2 : RB K r2 g2) : RB K (fun xs H Q => r1 xs H Q ∨ r2 xs H Q) (gOr g1 g2) := by
  intro A H Q xs ds P oc r g k
  rcases g with g | g
  · exact .inl (h1 A H Q xs ds P oc r g k)
  · exact .inr (h2 A H Q xs ds P oc r g k)
end
end DL
/-! how long data's text may be -/
namespace Z
open PySem L2 TL
mutual
def szD : PyData → Nat
  | .none => 4
  | .bool _ => 5
  | .int i => (Str.ofString (toString i)).length
  | .str x => 10 * x.length + 2
  | .list xs => szAll xs + 2
  | .tuple xs => szAll xs + 3
  | .dict _ => 0
def szAll : List PyData → Nat
  | [] => 0
  | x :: r => szD x + 2 + szAll r
end
theorem slen_append (x y : Str) : (x ++ y).length = x.length + y.length := by rw [len_tl, len_tl x, len_tl y, tl_append, List.length_append]
theorem textFrom_le : ∀ (ts : List Str) (k : Nat) (acc : Str), (textFrom k acc ts).length ≤ acc.length + piled ts
  | [], _, acc => Nat.le_add_right _ _
  | t :: ts, k, acc => by
    have ih := textFrom_le ts (k + 1) (acc ++ Str.ofString (if k > 0 then ", " else "" : String) ++ t)
    rw [slen_append, slen_append] at ih
    have e : (Str.ofString (if k > 0 then ", " else "" : String)).length ≤ 2 := by
      split
      · exact (by decide +kernel : (Str.ofString ", ").length ≤ 2)
      · exact (by decide +kernel : (Str.ofString "").length ≤ 2)
    have p : piled (t :: ts) = t.length + 2 + piled ts := by simp [piled]
    show (textFrom (k + 1) (acc ++ Str.ofString (if k > 0 then ", " else "" : String) ++ t) ts).length ≤ _
    rw [p]
    omega
theorem listText_le (ts : List Str) : (listText ts).length ≤ piled ts + 2 := by
  have h := textFrom_le ts 0 (Str.ofString "[")
  have e1 : (Str.ofString "[").length = 1 := by decide +kernel
  have e2 : (Str.ofString "]").length = 1 := by decide +kernel
  show (textFrom 0 (Str.ofString "[") ts ++ Str.ofString "]").length ≤ _
  rw [slen_append]
  omega
theorem join_le : ∀ ts : List Str, (Str.join (Str.ofString ", ") ts).length ≤ piled ts
  | [] => Nat.zero_le _
  | t :: ts => by
    have h := join_length_add (t :: ts) (by simp)
    have h' : (Str.join (Str.ofString ", ") (t :: ts)).length + 2 = piled (t :: ts) := h
    omega
theorem tupleText_le (ts : List Str) : (tupleText ts).length ≤ piled ts + 3 := by
  have h := join_le ts
  have e1 : (Str.ofString "(").length = 1 := by decide +kernel
  have e2 : (Str.ofString (if (ts.length == 1) = true then ",)" else ")" : String)).length ≤ 2 := by
    split
    · exact (by decide +kernel : (Str.ofString ",)").length ≤ 2)
    · exact (by decide +kernel : (Str.ofString ")").length ≤ 2)
  show (Str.ofString "(" ++ Str.join (Str.ofString ", ") ts ++ Str.ofString (if (ts.length == 1) = true then ",)" else ")" : String)).length ≤ _
  rw [slen_append, slen_append]
  omega
mutual
theorem shown_le : ∀ d : PyData, d.canLay0 = true → d.shown.length ≤ szD d
  | .none, _ => (by decide +kernel : (Str.ofString "None").length ≤ 4)
  | .bool true, _ => (by decide +kernel : (Str.ofString "True").length ≤ 5)
  | .bool false, _ => (by decide +kernel : (Str.ofString "False").length ≤ 5)
  | .int i, _ => Nat.le_refl _
  | .str x, h => by
    refine StrLaws.reprText_len x fun c hc => ?_
    have h' : (x.cps.all (· < 0x110000)) = true := h
    have := (Array.all_eq_true_iff_forall_mem.mp h') c (Array.mem_toList_iff.mp hc)
    have := of_decide_eq_true this
    omega
  | .list xs, h => by
    have ih := shownAll_le xs h
    have := listText_le (PyData.shownAll xs)
    show (listText (PyData.shownAll xs)).length ≤ szAll xs + 2
    omega
  | .tuple xs, h => by
    have ih := shownAll_le xs h
    have := tupleText_le (PyData.shownAll xs)
    show (tupleText (PyData.shownAll xs)).length ≤ szAll xs + 3
    omega
  | .dict _, h => by cases h
theorem shownAll_le : ∀ ds : List PyData, PyData.canLayAll0 ds = true → piled (PyData.shownAll ds) ≤ szAll ds
  | [], _ => Nat.zero_le _
  | x :: r, h => by
    have h' : (x.canLay0 && PyData.canLayAll0 r) = true := h
    rw [Bool.and_eq_true] at h'
    have h1 := shown_le x h'.1
    have h2 := shownAll_le r h'.2
    have e : piled (PyData.shownAll (x :: r)) = x.shown.length + 2 + piled (PyData.shownAll r) := by
      show piled (x.shown :: PyData.shownAll r) = _
      simp [piled]
    rw [e]
    show _ ≤ szD x + 2 + szAll r
    omega
end
theorem szInt {i : Int} (h0 : 0 ≤ i) (h : i < 10 ^ 10) : szD (.int i) ≤ 10 := PyProof.Rows.toString_length_le h0 (by decide) h
end Z
/-! tags: plain -/
namespace Z
open PySem L2 TL
/-- a text of one to eight small letters -/
structure NameS (s : Str) : Prop where
  least : 1 ≤ (tl s).length
  most : (tl s).length ≤ 8
  small : ∀ c ∈ tl s, 97 ≤ c ∧ c ≤ 122
def smalls (z : List Nat) : Bool := z.all fun c => decide (97 ≤ c ∧ c ≤ 122)
def isNameD : PyData → Bool
  | .str s => decide (1 ≤ (tl s).length ∧ (tl s).length ≤ 8) && smalls (tl s)
  | _ => false
def isWholeD (lo hi : Int) : PyData → Bool
  | .int i => decide (lo ≤ i ∧ i ≤ hi)
  | _ => false
theorem NameS.is {s : Str} (h : NameS s) : isNameD (.str s) = true := by
  show (decide (1 ≤ (tl s).length ∧ (tl s).length ≤ 8) && smalls (tl s)) = true
  rw [decide_eq_true ⟨h.least, h.most⟩, Bool.true_and]
  exact List.all_eq_true.mpr fun c hc => decide_eq_true (h.small c hc)
theorem abc : tl (Str.ofString "abcdefghijklmnopqrstuvwxyz") = List.range' 97 26 := by decide +kernel
theorem small_mem (c : Nat) : decide (c ∈ tl (Str.ofString "abcdefghijklmnopqrstuvwxyz")) = decide (97 ≤ c ∧ c ≤ 122) := by
  rw [abc]
  apply decide_eq_decide.mpr
  rw [List.mem_range'_1]
  omega
theorem abc_at {d : Nat} (h : d < 26) : atI (Str.ofString "abcdefghijklmnopqrstuvwxyz").cps.toList (d : Int) = some (97 + d) := by
  have e : (Str.ofString "abcdefghijklmnopqrstuvwxyz").cps.toList = List.range' 97 26 := abc
  rw [e]
  refine atI_nat ?_
  rw [List.getElem?_range' (by omega)]
  simp
/-- what a tag has -/
structure Five where
  owner : Str
  number : Int
  price : Int
  least : Int
  day : Int
structure Five.Ok (f : Five) : Prop where
  owner : NameS f.owner
  n1 : 1 ≤ f.number
  n2 : f.number ≤ 9999
  p1 : 1 ≤ f.price
  p2 : f.price ≤ 99999
  l1 : 0 ≤ f.least
  l2 : f.least ≤ f.price
  d1 : 0 ≤ f.day
  d2 : f.day ≤ 999
def fiveD (f : Five) : PyData := .tuple [.str f.owner, .int f.number, .int f.price, .int f.least, .int f.day]
def tagF (f : Five) : List (Str × V) := putF "day" (.int f.day) (putF "least" (.int f.least) (putF "price" (.int f.price) (putF "number" (.int f.number) (putF "owner" (.str f.owner) []))))
theorem tagF_eq (f : Five) : tagF f = ([(Str.ofString "owner", V.str f.owner), (Str.ofString "number", V.int f.number), (Str.ofString "price", V.int f.price), (Str.ofString "least", V.int f.least), (Str.ofString "day", V.int f.day)] : List (Str × V)) := by
  have h1 : ¬ (Str.ofString "owner" = Str.ofString "number") := by decide +kernel
  have h2 : ¬ (Str.ofString "owner" = Str.ofString "price") := by decide +kernel
  have h3 : ¬ (Str.ofString "number" = Str.ofString "price") := by decide +kernel
  have h4 : ¬ (Str.ofString "owner" = Str.ofString "least") := by decide +kernel
  have h5 : ¬ (Str.ofString "number" = Str.ofString "least") := by decide +kernel
  have h6 : ¬ (Str.ofString "price" = Str.ofString "least") := by decide +kernel
  have h7 : ¬ (Str.ofString "owner" = Str.ofString "day") := by decide +kernel
  have h8 : ¬ (Str.ofString "number" = Str.ofString "day") := by decide +kernel
  have h9 : ¬ (Str.ofString "price" = Str.ofString "day") := by decide +kernel
  have h0 : ¬ (Str.ofString "least" = Str.ofString "day") := by decide +kernel
  simp [tagF, putF, h1, h2, h3, h4, h5, h6, h7, h8, h9, h0]
theorem tagF_owner (f : Five) : (tagF f).lookup ("owner" : Str) = some (.str f.owner) := by
  unfold tagF
  rw [lookup_putF, if_neg (by decide +kernel), lookup_putF, if_neg (by decide +kernel), lookup_putF, if_neg (by decide +kernel), lookup_putF, if_neg (by decide +kernel), lookup_putF, if_pos rfl]
theorem tagF_number (f : Five) : (tagF f).lookup ("number" : Str) = some (.int f.number) := by
  unfold tagF
  rw [lookup_putF, if_neg (by decide +kernel), lookup_putF, if_neg (by decide +kernel), lookup_putF, if_neg (by decide +kernel), lookup_putF, if_pos rfl]
theorem tagF_price (f : Five) : (tagF f).lookup ("price" : Str) = some (.int f.price) := by
  unfold tagF
  rw [lookup_putF, if_neg (by decide +kernel), lookup_putF, if_neg (by decide +kernel), lookup_putF, if_pos rfl]
theorem tagF_least (f : Five) : (tagF f).lookup ("least" : Str) = some (.int f.least) := by
  unfold tagF
  rw [lookup_putF, if_neg (by decide +kernel), lookup_putF, if_pos rfl]
theorem tagF_day (f : Five) : (tagF f).lookup ("day" : Str) = some (.int f.day) := by
  unfold tagF
  rw [lookup_putF, if_pos rfl]
/-- at t a tag -/
def TagAt (C : Addr) (H : Hp) (t : Addr) (f : Five) : Prop := ∃ dx, H t = some (.ins C dx (tagF f))
theorem TagAt.keep {C : Addr} {H H' : Hp} {t : Addr} {f : Five} (h : TagAt C H t f) (k : KeepT H H') : TagAt C H' t f := by
  obtain ⟨dx, e⟩ := h
  exact ⟨dx, k _ _ trivial e⟩
end Z
namespace K
open PySem L2 Z TL DL
local macro_rules | `(tactic| walk_at "z1") => `(tactic| first | with_reducible refine iteT ?_ | with_reducible refine iteF ?_ | with_reducible refine iteDS rfl ?_ | with_reducible refine iteNS rfl ?_ | ((with_reducible refine iteDN ?hN ?_); (case hN => (intro h; cases h; done))) | ((with_reducible refine iteNDN ?hN ?_); (case hN => (intro h; cases h; done))) | ((fail_if_success (with_reducible refine iteD (fun _ => ?_) (fun _ => ?_))); (fail_if_success (with_reducible refine iteND (fun _ => ?_) (fun _ => ?_))); first
  | refine ⟨_, rfl, ?_⟩
  | refine ⟨_, _, rfl, rfl, ?_⟩
  | refine ⟨rfl, ?_⟩
  | refine ⟨(by show (0 : Int) < _; first | decide | omega), ?_⟩
  | refine ⟨⟨by decide, by decide⟩, ?_⟩
  | refine ⟨⟨(by show (0 : Int) < _; omega), (by show _ < (1073741824 : Int); omega)⟩, ?_⟩
  | refine ⟨⟨by decide, by decide, by decide⟩, ?_⟩
  | refine ⟨.inl ⟨by omega, by omega⟩, ?_⟩
  | refine ⟨.inr ⟨by omega, by omega⟩, ?_⟩
  | refine .inl ⟨_, rfl, ?_⟩
  | refine .inr ⟨_, rfl, ?_⟩
  | refine ⟨_, _, _, _, rfl, rfl, SqL.of (by assumption), rfl, ?_⟩
  | refine ⟨_, _, _, _, rfl, rfl, SqL.of upd_same, rfl, ?_⟩
  | refine ⟨_, _, _, _, rfl, rfl, (by assumption), rfl, ?_⟩
  | refine ⟨_, _, _, _, rfl, rfl, upd_same, rfl, ?_⟩
  | refine ⟨_, _, rfl, SqT.of upd_same, rfl, ?_⟩
  | refine ⟨_, _, rfl, ?_⟩
  | refine ⟨Nat.le_of_ble_eq_true rfl, ?_⟩
  | refine ⟨_, _, _, _, true, rfl, .ty _, .base (.str _), kit_ty (by decide +kernel), ?_⟩
  | refine ⟨_, _, _, _, false, rfl, .ty _, .base (.str _), kit_ty (by decide +kernel), ?_⟩
  | refine ⟨_, _, _, _, true, rfl, .ty _, .base (.int _), kit_ty (by decide +kernel), ?_⟩
  | refine ⟨_, _, _, _, false, rfl, .ty _, .base (.int _), kit_ty (by decide +kernel), ?_⟩))
local macro_rules | `(tactic| walk_at "z") => `(tactic| repeat walk_at "z1")
instance tbs : Tbs := ⟨[]⟩
/-! ### drawn names -/
theorem nameS_of {s : Str} (h1 : 1 ≤ (tl s).length) (h2 : (tl s).length ≤ 8) (h3 : smalls (tl s) = true) : NameS s := ⟨h1, h2, fun c hc => of_decide_eq_true (List.all_eq_true.mp h3 c hc)⟩
def drawnWords : List Str := [Str.ofString "give", Str.ofString "sell", Str.ofString "heap", Str.ofString "owner", Str.ofString "has", Str.ofString "not", Str.ofString "above", Str.ofString "number", Str.ofString "and", Str.ofString "price", Str.ofString "fetch", Str.ofString "words"]
theorem drawnWords_ok : ∀ s ∈ drawnWords, NameS s := by
  have h : ∀ s ∈ drawnWords, (decide (1 ≤ (tl s).length ∧ (tl s).length ≤ 8) && smalls (tl s)) = true := by decide +kernel
  intro s hs
  have := h s hs
  rw [Bool.and_eq_true, decide_eq_true_eq] at this
  exact nameS_of this.1.1 this.1.2 this.2
theorem name_two {a b : Nat} {s : Str} (ha : 97 ≤ a ∧ a ≤ 122) (hb : 97 ≤ b ∧ b ≤ 122) (hl : (tl s).length ≤ 6) (hs : ∀ c ∈ tl s, 97 ≤ c ∧ c ≤ 122) : NameS (((⟨#[a]⟩ : Str) ++ (⟨#[b]⟩ : Str)) ++ s) := by
  have e : tl (((⟨#[a]⟩ : Str) ++ (⟨#[b]⟩ : Str)) ++ s) = a :: b :: tl s := by rw [tl_append, tl_append]; rfl
  refine ⟨by rw [e]; simp, by rw [e]; simp; omega, fun c hc => ?_⟩
  rw [e] at hc
  rcases List.mem_cons.mp hc with rfl | hc
  · exact ha
  · rcases List.mem_cons.mp hc with rfl | hc
    · exact hb
    · exact hs c hc
theorem joinL_nil : ∀ ls : List (List Nat), joinL [] ls = ls.flatten
  | [] => rfl
  | [x] => by simp [joinL]
  | x :: y :: r => by
    show x ++ ([] ++ joinL [] (y :: r)) = _
    rw [joinL_nil (y :: r), List.nil_append]
    rfl
theorem tl_joinC (cs : List Nat) : tl (Str.join (Str.ofString "") (cs.map fun c => (⟨#[c]⟩ : Str))) = cs := by
  rw [tl_join]
  have e : tl (Str.ofString "") = [] := by decide +kernel
  rw [e, joinL_nil, List.map_map]
  induction cs with
  | nil => rfl
  | cons c r ih =>
    rw [List.map_cons, List.flatten_cons, ih]
    rfl
/-! ### any things: plain data within bounds -/
theorem int_len {i : Int} (h : i.natAbs ≤ 1000000000) : (Str.ofString (toString i)).length ≤ 11 := by
  by_cases h0 : 0 ≤ i
  · exact Nat.le_trans (PyProof.Rows.toString_length_le h0 (k := 10) (by decide) (by omega)) (by decide)
  · rw [PyProof.Rows.len_text_neg (by omega)]
    have := PyProof.Rows.toString_length_le (v := 0 - i) (by omega) (k := 10) (by decide) (by omega)
    omega
theorem ofString_ok (s : String) : (Str.ofString s).cps.all (· < 0x110000) = true := by
  refine Array.all_eq_true_iff_forall_mem.mpr fun c hc => ?_
  rw [Str.ofString_eq_toList] at hc
  have hm : c ∈ s.toList.map Char.toNat := List.mem_toArray.mp hc
  obtain ⟨ch, _, rfl⟩ := List.mem_map.mp hm
  have v := ch.valid
  have e : ch.toNat = ch.val.toNat := rfl
  refine decide_eq_true ?_
  rw [e]
  rcases v with v | v
  · omega
  · exact v.2
mutual
def okD (B : Nat) : PyData → Bool
  | .none => true
  | .bool _ => true
  | .int i => decide (i.natAbs ≤ B)
  | .str z => decide (z.length ≤ 20) && z.cps.all (· < 0x110000)
  | .list xs => okAll B xs
  | .tuple xs => okAll B xs
  | .dict _ => false
def okAll (B : Nat) : List PyData → Bool
  | [] => true
  | x :: r => okD B x && okAll B r
end
theorem okI {B : Nat} {i : Int} (h : i.natAbs ≤ B) : okD B (.int i) = true := by
  unfold okD
  exact decide_eq_true h
theorem okAll_iff {B : Nat} {ds : List PyData} : okAll B ds = true ↔ ∀ d ∈ ds, okD B d = true := by
  induction ds with
  | nil => simp [okAll]
  | cons x r ih => simp [okAll, ih]
mutual
theorem okD.mono {B C : Nat} (h : B ≤ C) : ∀ {d : PyData}, okD B d = true → okD C d = true
  | .none, _ => rfl
  | .bool _, _ => rfl
  | .int i, q => decide_eq_true (Nat.le_trans (of_decide_eq_true q) h)
  | .str z, q => q
  | .list xs, q => okAll.mono h (ds := xs) q
  | .tuple xs, q => okAll.mono h (ds := xs) q
  | .dict _, q => by cases q
theorem okAll.mono {B C : Nat} (h : B ≤ C) : ∀ {ds : List PyData}, okAll B ds = true → okAll C ds = true
  | [], _ => rfl
  | x :: r, q => by
    have q' : (okD B x && okAll B r) = true := q
    rw [Bool.and_eq_true] at q'
    show (okD C x && okAll C r) = true
    rw [okD.mono h q'.1, okAll.mono h q'.2]
    rfl
end
mutual
theorem okD.facts {B : Nat} (hB : B ≤ 1000000000) : ∀ {d : PyData}, okD B d = true → d.canLay0 = true ∧ d.showable = true ∧ d.hasDict = false ∧ szD d + 3 ≤ 300 * nodes d
  | .none, _ => ⟨rfl, rfl, rfl, by show 4 + 3 ≤ 300 * 1; decide⟩
  | .bool _, _ => ⟨rfl, rfl, rfl, by show 5 + 3 ≤ 300 * 1; decide⟩
  | .int i, q => by
    have hi : i.natAbs ≤ B := of_decide_eq_true q
    refine ⟨rfl, decide_eq_true (log2_ok18 (by omega)), rfl, ?_⟩
    show (Str.ofString (toString i)).length + 3 ≤ 300 * 1
    have := int_len (i := i) (by omega)
    omega
  | .str z, q => by
    have q' : (decide (z.length ≤ 20) && z.cps.all (· < 0x110000)) = true := q
    rw [Bool.and_eq_true, decide_eq_true_eq] at q'
    exact ⟨q'.2, rfl, rfl, by show 10 * z.length + 2 + 3 ≤ 300 * 1; omega⟩
  | .list xs, q => by
    obtain ⟨h1, h2, h3, h4⟩ := okAll.facts hB (ds := xs) q
    exact ⟨h1, h2, h3, by show szAll xs + 2 + 3 ≤ 300 * (nodesAll xs + 1); omega⟩
  | .tuple xs, q => by
    obtain ⟨h1, h2, h3, h4⟩ := okAll.facts hB (ds := xs) q
    exact ⟨h1, h2, h3, by show szAll xs + 3 + 3 ≤ 300 * (nodesAll xs + 1); omega⟩
  | .dict _, q => by cases q
theorem okAll.facts {B : Nat} (hB : B ≤ 1000000000) : ∀ {ds : List PyData}, okAll B ds = true → PyData.canLayAll0 ds = true ∧ PyData.showableAll ds = true ∧ PyData.hasDictAll ds = false ∧ szAll ds ≤ 300 * nodesAll ds
  | [], _ => ⟨rfl, rfl, rfl, Nat.zero_le _⟩
  | x :: r, q => by
    have q' : (okD B x && okAll B r) = true := q
    rw [Bool.and_eq_true] at q'
    obtain ⟨a1, a2, a3, a4⟩ := okD.facts hB q'.1
    obtain ⟨b1, b2, b3, b4⟩ := okAll.facts hB q'.2
    have np := nodes_pos x
    refine ⟨?_, ?_, ?_, ?_⟩
    · show (x.canLay0 && PyData.canLayAll0 r) = true
      rw [a1, b1]; rfl
    · show (x.showable && PyData.showableAll r) = true
      rw [a2, b2]; rfl
    · show (x.hasDict || PyData.hasDictAll r) = false
      rw [a3, b3]; rfl
    · show szD x + 2 + szAll r ≤ 300 * (nodes x + nodesAll r)
      omega
end
/-- its text can be told -/
theorem repr_th {B : Nat} (hB : B ≤ 1000000000) {d : PyData} (h : okD B d = true) (hd : d.depth ≤ 50) (hn : nodes d ≤ 10000) {P : PyData → Prop} (q : P (.str d.shown)) : DL.bReprV [d] P := by
  obtain ⟨h1, h2, h3, h4⟩ := okD.facts hB h
  have lin : sizeLine = 16777216 := by decide +kernel
  exact ⟨h3, h2, by omega, Nat.le_trans (shown_le d h1) (by omega), q⟩
theorem okAll_app {B : Nat} {xs ys : List PyData} : okAll B (xs ++ ys) = (okAll B xs && okAll B ys) := by
  induction xs with
  | nil => rfl
  | cons x r ih =>
    show (okD B x && okAll B (r ++ ys)) = ((okD B x && okAll B r) && okAll B ys)
    rw [ih, Bool.and_assoc]
theorem nodesAll_app {xs ys : List PyData} : nodesAll (xs ++ ys) = nodesAll xs + nodesAll ys := by
  induction xs with
  | nil => show nodesAll ys = 0 + nodesAll ys; omega
  | cons x r ih =>
    show nodes x + nodesAll (r ++ ys) = nodes x + nodesAll r + nodesAll ys
    rw [ih]; omega
theorem depthAll_app {xs ys : List PyData} : PyData.depthAll (xs ++ ys) = max (PyData.depthAll xs) (PyData.depthAll ys) := by
  induction xs with
  | nil => show PyData.depthAll ys = max 0 (PyData.depthAll ys); omega
  | cons x r ih =>
    show max x.depth (PyData.depthAll (r ++ ys)) = max (max x.depth (PyData.depthAll r)) (PyData.depthAll ys)
    rw [ih]; omega
/-- a list of things within bounds: numbers, depth, how many -/
structure Th (B D N : Nat) (ds : List PyData) : Prop where
  ok : okAll B ds = true
  dp : PyData.depthAll ds ≤ D
  nd : nodesAll ds ≤ N
theorem Th.app {B D N M : Nat} {xs ys : List PyData} (a : Th B D N xs) (b : Th B D M ys) : Th B D (N + M) (xs ++ ys) :=
  ⟨by rw [okAll_app, a.ok, b.ok]; rfl, by rw [depthAll_app]; have := a.dp; have := b.dp; omega, by rw [nodesAll_app]; have := a.nd; have := b.nd; omega⟩
theorem Th.mono {B D N B' D' N' : Nat} {xs : List PyData} (a : Th B D N xs) (h1 : B ≤ B') (h2 : D ≤ D') (h3 : N ≤ N') : Th B' D' N' xs := ⟨okAll.mono h1 a.ok, Nat.le_trans a.dp h2, Nat.le_trans a.nd h3⟩
theorem Th.left {B D N : Nat} {xs ys : List PyData} (a : Th B D N (xs ++ ys)) : Th B D N xs := by
  obtain ⟨h1, h2, h3⟩ := a
  rw [okAll_app, Bool.and_eq_true] at h1
  rw [depthAll_app] at h2
  rw [nodesAll_app] at h3
  exact ⟨h1.1, by omega, by omega⟩
theorem Th.right {B D N : Nat} {xs ys : List PyData} (a : Th B D N (xs ++ ys)) : Th B D N ys := by
  obtain ⟨h1, h2, h3⟩ := a
  rw [okAll_app, Bool.and_eq_true] at h1
  rw [depthAll_app] at h2
  rw [nodesAll_app] at h3
  exact ⟨h1.2, by omega, by omega⟩
theorem Th.take {B D N : Nat} {xs : List PyData} (a : Th B D N xs) (k : Nat) : Th B D N (xs.take k) := by
  rw [← List.take_append_drop k xs] at a
  exact a.left
theorem Th.drop {B D N : Nat} {xs : List PyData} (a : Th B D N xs) (k : Nat) : Th B D N (xs.drop k) := by
  rw [← List.take_append_drop k xs] at a
  exact a.right
theorem Th.cut {B D N : Nat} {xs : List PyData} (a : Th B D N xs) (lo hi : Option Int) : Th B D N (DL.cutD xs lo hi) := (a.drop _).take _
theorem Th.one {B D N : Nat} {d : PyData} (h1 : okD B d = true) (h2 : d.depth ≤ D) (h3 : nodes d ≤ N) : Th B D N [d] :=
  ⟨by show (okD B d && true) = true; rw [h1]; rfl, by show max d.depth 0 ≤ D; omega, by show nodes d + 0 ≤ N; omega⟩
theorem Th.get {B D N : Nat} {xs : List PyData} (a : Th B D N xs) {d : PyData} (h : d ∈ xs) : okD B d = true ∧ d.depth ≤ D ∧ nodes d ≤ N := by
  obtain ⟨l, r, rfl⟩ := List.append_of_mem h
  have b := a.right
  have c : Th B D N [d] := Th.left (ys := r) b
  obtain ⟨c1, c2, c3⟩ := c
  have c1' : (okD B d && true) = true := c1
  rw [Bool.and_true] at c1'
  exact ⟨c1', by have : max d.depth 0 ≤ D := c2; omega, by have : nodes d + 0 ≤ N := c3; omega⟩
theorem Th.rev {B D N : Nat} {xs : List PyData} (a : Th B D N xs) : Th B D N xs.reverse := by
  induction xs generalizing N with
  | nil => exact a
  | cons x r ih =>
    obtain ⟨h1, h2, h3⟩ := a
    have h1' : (okD B x && okAll B r) = true := h1
    rw [Bool.and_eq_true] at h1'
    have h2' : max x.depth (PyData.depthAll r) ≤ D := h2
    have h3' : nodes x + nodesAll r ≤ N := h3
    rw [List.reverse_cons]
    exact ((ih (N := nodesAll r) ⟨h1'.2, by omega, Nat.le_refl _⟩).app (Th.one (N := nodes x) h1'.1 (by omega) (Nat.le_refl _))).mono (Nat.le_refl _) (Nat.le_refl _) (by omega)
theorem cutD_len (xs : List PyData) (lo hi : Option Int) : (DL.cutD xs lo hi).length ≤ xs.length := by
  unfold DL.cutD
  rw [List.length_take, List.length_drop]
  omega
/-! ### pairing: ones led on to other places (plain) -/
abbrev Held := List (Nat × Nat)
def look (h : Held) (p : Nat) : Option Nat := (h.find? fun z => decide (z.1 = p)).map (·.2)
def hput (h : Held) (p q : Nat) : Held := if (look h p).isSome = true then h.map (fun z => if z.1 = p then (z.1, q) else z) else h ++ [(p, q)]
theorem look_cons (z : Nat × Nat) (r : Held) (p : Nat) : look (z :: r) p = if z.1 = p then some z.2 else look r p := by
  unfold look
  rw [List.find?_cons]
  by_cases e : z.1 = p
  · rw [decide_eq_true e, if_pos e]; rfl
  · rw [decide_eq_false e, if_neg e]
theorem look_map (p q x : Nat) : ∀ h : Held, look (h.map fun z => if z.1 = p then (z.1, q) else z) x = if x = p then (look h p).map (fun _ => q) else look h x
  | [] => by
    rw [List.map_nil]
    show none = _
    split <;> rfl
  | z :: r => by
    rw [List.map_cons, look_cons, look_map p q x r, look_cons, look_cons]
    by_cases e : z.1 = p
    · rw [if_pos e]
      by_cases ex : x = p
      · subst ex; rw [if_pos e, if_pos rfl, if_pos e]; rfl
      · rw [if_neg ex, if_neg ex, if_neg (by rw [e]; exact fun w => ex w.symm), if_neg (by rw [e]; exact fun w => ex w.symm)]
    · rw [if_neg e]
      by_cases ex : x = p
      · subst ex; rw [if_pos rfl, if_pos rfl, if_neg e, if_neg e]
      · rw [if_neg ex, if_neg ex]
theorem look_snoc (p q x : Nat) : ∀ h : Held, look h p = none → look (h ++ [(p, q)]) x = if x = p then some q else look h x
  | [], _ => by
    rw [List.nil_append, look_cons]
    show (if p = x then some q else none) = if x = p then some q else none
    by_cases e : x = p
    · rw [if_pos e, if_pos e.symm]
    · rw [if_neg e, if_neg fun w => e w.symm]
  | z :: r, h => by
    rw [look_cons] at h
    have zp : ¬ z.1 = p := fun e => by rw [if_pos e] at h; cases h
    rw [if_neg zp] at h
    rw [List.cons_append, look_cons, look_snoc p q x r h, look_cons]
    by_cases e : x = p
    · rw [if_pos e, if_neg (by rw [e]; exact zp), if_pos e]
    · rw [if_neg e, if_neg e]
theorem look_hput (h : Held) (p q x : Nat) : look (hput h p q) x = if x = p then some q else look h x := by
  unfold hput
  cases e : look h p with
  | none =>
    rw [if_neg (by decide)]
    exact look_snoc p q x h e
  | some w =>
    rw [if_pos (by rfl), look_map, e]
    rfl
theorem hput_len (h : Held) (p q : Nat) : (hput h p q).length ≤ h.length + 1 := by
  unfold hput
  split
  · rw [List.length_map]; omega
  · rw [List.length_append]; exact Nat.le_refl _
theorem hput_len' {h : Held} {p q w : Nat} (e : look h p = some w) : (hput h p q).length = h.length := by
  unfold hput
  rw [e, if_pos (by rfl), List.length_map]
/-- held places that aren't seen -/
def cnt (h : Held) (s : List Nat) : Nat := h.countP fun z => decide (z.1 ∉ s)
theorem cnt_mono {h : Held} {s s' : List Nat} (hs : ∀ x ∈ s, x ∈ s') : cnt h s' ≤ cnt h s := by
  unfold cnt
  exact List.countP_mono_left fun z _ q => decide_eq_true fun w => of_decide_eq_true q (hs _ w)
theorem cnt_lt {s : List Nat} {p q : Nat} (hp : p ∉ s) : ∀ {h : Held}, look h p = some q → cnt h (s ++ [p]) < cnt h s
  | [], e => by cases e
  | z :: r, e => by
    have m : cnt r (s ++ [p]) ≤ cnt r s := cnt_mono fun x hx => List.mem_append_left _ hx
    unfold cnt at m ⊢
    rw [List.countP_cons, List.countP_cons]
    rw [look_cons] at e
    by_cases ez : z.1 = p
    · rw [if_neg (by rw [decide_eq_true_eq]; exact fun w => w (by rw [ez]; exact List.mem_append_right _ (List.mem_singleton.mpr rfl))), if_pos (decide_eq_true (by rw [ez]; exact hp))]
      omega
    · rw [if_neg ez] at e
      have ih := cnt_lt hp e
      unfold cnt at ih
      have : (if (decide (z.1 ∉ s ++ [p])) = true then 1 else 0) ≤ (if (decide (z.1 ∉ s)) = true then 1 else 0) := by
        by_cases zs : z.1 ∈ s
        · rw [if_neg (by rw [decide_eq_true_eq]; exact fun w => w (List.mem_append_left _ zs))]; exact Nat.zero_le _
        · rw [if_pos (decide_eq_true zs)]; split <;> omega
      omega
theorem cnt_nil (h : Held) : cnt h [] = h.length := by
  unfold cnt
  rw [List.countP_eq_length]
  exact fun z _ => decide_eq_true (List.not_mem_nil)
def ledRow (rec : Held → Nat → List Nat → Bool × Held × List Nat) (one : Nat) : List Nat → Held → List Nat → Bool × Held × List Nat
  | [], h, s => (false, h, s)
  | p :: r, h, s => if p ∈ s then ledRow rec one r h s else
      match look h p with
      | none => (true, hput h p one, s ++ [p])
      | some q => match rec h q (s ++ [p]) with
        | (true, h2, s2) => (true, hput h2 p one, s2)
        | (false, h2, s2) => ledRow rec one r h2 s2
def ledOn (cans : List (List Nat)) : Nat → Held → Nat → List Nat → Bool × Held × List Nat
  | 0, h, _, s => (false, h, s)
  | d + 1, h, one, s => ledRow (ledOn cans d) one (cans.getD one []) h s
/-- places outside s are held by unlike ones, none by this one -/
structure LInv (h : Held) (s : List Nat) (one : Nat) : Prop where
  inj : ∀ p p' q, p ∉ s → p' ∉ s → look h p = some q → look h p' = some q → p = p'
  no : ∀ p, p ∉ s → look h p ≠ some one
def Valid (cans : List (List Nat)) (h : Held) : Prop := ∀ p q, look h p = some q → p ∈ cans.getD q []
/-- what comes of it -/
structure LPost (cans : List (List Nat)) (row : List Nat) (h : Held) (one : Nat) (s : List Nat) (r : Bool × Held × List Nat) : Prop where
  sub : ∀ x ∈ s, x ∈ r.2.2
  len : r.2.1.length ≤ h.length + 1
  ok : r.1 = true → (∀ p ∈ s, look r.2.1 p = look h p) ∧ (∀ p p' q, p ∉ s → p' ∉ s → look r.2.1 p = some q → look r.2.1 p' = some q → p = p') ∧
    (∀ q, (∃ p, p ∉ s ∧ look r.2.1 p = some q) ↔ ((∃ p, p ∉ s ∧ look h p = some q) ∨ q = one)) ∧ (Valid cans h → (∀ p ∈ row, p ∈ cans.getD one []) → Valid cans r.2.1)
  no : r.1 = false → r.2.1 = h ∧ (∀ p ∈ row, p ∈ r.2.2) ∧ ∀ p ∈ r.2.2, p ∉ s → ∃ q, look h p = some q ∧ ∀ x ∈ cans.getD q [], x ∈ r.2.2
theorem ledRow_post {cans : List (List Nat)} {d : Nat} (ih : ∀ h q s, cnt h s < d → LInv h s q → LPost cans (cans.getD q []) h q s (ledOn cans d h q s)) (one : Nat) : ∀ (row : List Nat) (h : Held) (s : List Nat), cnt h s < d + 1 → LInv h s one → LPost cans row h one s (ledRow (ledOn cans d) one row h s)
  | [], h, s, _, _ => ⟨fun _ h => h, Nat.le_succ _, (fun e => nomatch e), fun _ => ⟨rfl, fun p hp => absurd hp List.not_mem_nil, fun p h1 h2 => absurd h1 h2⟩⟩
  | p :: r, h, s, hc, I => by
    unfold ledRow
    by_cases ps : p ∈ s
    · rw [if_pos ps]
      have P := ledRow_post ih one r h s hc I
      refine ⟨P.sub, P.len, fun e => ?_, fun e => ?_⟩
      · obtain ⟨a, b, c, v⟩ := P.ok e
        exact ⟨a, b, c, fun h1 h2 => v h1 fun x hx => h2 x (List.mem_cons_of_mem _ hx)⟩
      · obtain ⟨a, b, c⟩ := P.no e
        refine ⟨a, fun x hx => ?_, c⟩
        rcases List.mem_cons.mp hx with rfl | hx
        · exact P.sub x ps
        · exact b x hx
    · rw [if_neg ps]
      cases e : look h p with
      | none =>
        refine ⟨fun x hx => List.mem_append_left _ hx, hput_len _ _ _, fun _ => ⟨fun x hx => ?_, fun a b q ha hb h1 h2 => ?_, fun q => ?_, fun hv hr => ?_⟩, fun z => by cases z⟩
        · show look (hput h p one) x = _
          rw [look_hput, if_neg fun w => ps (by rw [← w]; exact hx)]
        · have h1 : look (hput h p one) a = some q := h1
          have h2 : look (hput h p one) b = some q := h2
          rw [look_hput] at h1 h2
          split at h1
          · next ea =>
            split at h2
            · next eb => rw [ea, eb]
            · cases h1; exact absurd h2 (I.no b hb)
          · split at h2
            · cases h2; exact absurd h1 (I.no a ha)
            · exact I.inj a b q ha hb h1 h2
        · show (∃ x, x ∉ s ∧ look (hput h p one) x = some q) ↔ _
          constructor
          · rintro ⟨x, hx, hl⟩
            rw [look_hput] at hl
            split at hl
            · cases hl; exact .inr rfl
            · exact .inl ⟨x, hx, hl⟩
          · rintro (⟨x, hx, hl⟩ | rfl)
            · refine ⟨x, hx, ?_⟩
              rw [look_hput, if_neg fun w => by rw [w, e] at hl; cases hl]
              exact hl
            · exact ⟨p, ps, by rw [look_hput, if_pos rfl]⟩
        · intro x q hl
          have hl : look (hput h p one) x = some q := hl
          rw [look_hput] at hl
          split at hl
          · next ex => cases hl; rw [ex]; exact hr p List.mem_cons_self
          · exact hv x q hl
      | some q =>
        have cl := cnt_lt ps e
        have sub1 : ∀ x ∈ s, x ∈ s ++ [p] := fun x hx => List.mem_append_left _ hx
        have pin : p ∈ s ++ [p] := List.mem_append_right _ (List.mem_singleton.mpr rfl)
        have I1 : LInv h (s ++ [p]) q := ⟨fun a b c ha hb => I.inj a b c (fun w => ha (sub1 _ w)) (fun w => hb (sub1 _ w)), fun a ha hl => by
          have : a = p := I.inj a p q (fun w => ha (sub1 _ w)) ps hl e
          exact ha (by rw [this]; exact pin)⟩
        have P := ih h q (s ++ [p]) (by omega) I1
        dsimp only
        generalize ledOn cans d h q (s ++ [p]) = res at P
        obtain ⟨b, h2, s2⟩ := res
        have out : ∀ a, a ∉ s ++ [p] ↔ a ∉ s ∧ a ≠ p := fun a => by
          rw [List.mem_append, List.mem_singleton]
          exact not_or
        cases b with
        | true =>
          obtain ⟨q1, q2, q3, q4⟩ := P.ok rfl
          have q1 : ∀ x ∈ s ++ [p], look h2 x = look h x := q1
          have q2 : ∀ a b c, a ∉ s ++ [p] → b ∉ s ++ [p] → look h2 a = some c → look h2 b = some c → a = b := q2
          have q3 : ∀ c, (∃ x, x ∉ s ++ [p] ∧ look h2 x = some c) ↔ ((∃ x, x ∉ s ++ [p] ∧ look h x = some c) ∨ c = q) := q3
          have nq : ∀ a, a ∉ s ++ [p] → look h2 a ≠ some one := fun a ha hl => by
            rcases (q3 one).mp ⟨a, ha, hl⟩ with ⟨x, hx, hl⟩ | w
            · exact I.no x ((out x).mp hx).1 hl
            · exact I.no p ps (by rw [e, w])
          have ep : look h2 p = some q := by rw [q1 p pin]; exact e
          refine ⟨fun x hx => P.sub x (sub1 x hx), by show (hput h2 p one).length ≤ _; rw [hput_len' ep]; exact P.len, fun _ => ⟨fun x hx => ?_, fun a b c ha hb h1 h2' => ?_, fun c => ?_, fun hv hr => ?_⟩, fun z => by cases z⟩
          · show look (hput h2 p one) x = _
            rw [look_hput, if_neg fun w => ps (by rw [← w]; exact hx)]
            exact q1 x (sub1 x hx)
          · have h1 : look (hput h2 p one) a = some c := h1
            have h2' : look (hput h2 p one) b = some c := h2'
            rw [look_hput] at h1 h2'
            split at h1
            · next ea =>
              split at h2'
              · next eb => rw [ea, eb]
              · next eb => cases h1; exact absurd h2' (nq b ((out b).mpr ⟨hb, eb⟩))
            · next ea =>
              split at h2'
              · cases h2'; exact absurd h1 (nq a ((out a).mpr ⟨ha, ea⟩))
              · next eb => exact q2 a b c ((out a).mpr ⟨ha, ea⟩) ((out b).mpr ⟨hb, eb⟩) h1 h2'
          · show (∃ x, x ∉ s ∧ look (hput h2 p one) x = some c) ↔ _
            constructor
            · rintro ⟨x, hx, hl⟩
              rw [look_hput] at hl
              split at hl
              · cases hl; exact .inr rfl
              · next ex =>
                rcases (q3 c).mp ⟨x, (out x).mpr ⟨hx, ex⟩, hl⟩ with ⟨y, hy, hl⟩ | w
                · exact .inl ⟨y, ((out y).mp hy).1, hl⟩
                · exact .inl ⟨p, ps, by rw [e, w]⟩
            · rintro (⟨x, hx, hl⟩ | rfl)
              · by_cases ex : x = p
                · rw [ex, e] at hl
                  cases hl
                  obtain ⟨y, hy, hl⟩ := (q3 q).mpr (.inr rfl)
                  exact ⟨y, ((out y).mp hy).1, by rw [look_hput, if_neg ((out y).mp hy).2]; exact hl⟩
                · obtain ⟨y, hy, hl⟩ := (q3 c).mpr (.inl ⟨x, (out x).mpr ⟨hx, ex⟩, hl⟩)
                  exact ⟨y, ((out y).mp hy).1, by rw [look_hput, if_neg ((out y).mp hy).2]; exact hl⟩
              · exact ⟨p, ps, by rw [look_hput, if_pos rfl]⟩
          · intro x c hl
            have hl : look (hput h2 p one) x = some c := hl
            rw [look_hput] at hl
            split at hl
            · next ex => cases hl; rw [ex]; exact hr p List.mem_cons_self
            · exact q4 hv (fun _ w => w) x c hl
        | false =>
          obtain ⟨q1, q2, q3⟩ := P.no rfl
          have q1 : h2 = h := q1
          subst q1
          have q2 : ∀ x ∈ cans.getD q [], x ∈ s2 := q2
          have q3 : ∀ x ∈ s2, x ∉ s ++ [p] → ∃ c, look h2 x = some c ∧ ∀ y ∈ cans.getD c [], y ∈ s2 := q3
          have sb : ∀ x ∈ s ++ [p], x ∈ s2 := P.sub
          have I2 : LInv h2 s2 one := ⟨fun a b c ha hb => I.inj a b c (fun w => ha (sb _ (sub1 _ w))) (fun w => hb (sb _ (sub1 _ w))), fun a ha => I.no a fun w => ha (sb _ (sub1 _ w))⟩
          have R := ledRow_post ih one r h2 s2 (Nat.lt_of_le_of_lt (cnt_mono fun x hx => sb x (sub1 x hx)) hc) I2
          refine ⟨fun x hx => R.sub x (sb x (sub1 x hx)), R.len, fun e' => ?_, fun e' => ?_⟩
          · obtain ⟨r1, r2, r3, r4⟩ := R.ok e'
            -- places seen meanwhile stand as they did
            have big : ∀ c, (∃ x, x ∉ s ∧ look (ledRow (ledOn cans d) one r h2 s2).2.1 x = some c) ↔ ((∃ x, x ∉ s ∧ look h2 x = some c) ∨ c = one) := fun c => by
              constructor
              · rintro ⟨x, hx, hl⟩
                by_cases xs : x ∈ s2
                · rw [r1 x xs] at hl
                  exact .inl ⟨x, hx, hl⟩
                · rcases (r3 c).mp ⟨x, xs, hl⟩ with ⟨y, hy, hl⟩ | w
                  · exact .inl ⟨y, fun w => hy (sb _ (sub1 _ w)), hl⟩
                  · exact .inr w
              · rintro (⟨x, hx, hl⟩ | w)
                · by_cases xs : x ∈ s2
                  · exact ⟨x, hx, by rw [r1 x xs]; exact hl⟩
                  · obtain ⟨y, hy, hl⟩ := (r3 c).mpr (.inl ⟨x, xs, hl⟩)
                    exact ⟨y, fun w => hy (sb _ (sub1 _ w)), hl⟩
                · obtain ⟨y, hy, hl⟩ := (r3 c).mpr (.inr w)
                  exact ⟨y, fun w => hy (sb _ (sub1 _ w)), hl⟩
            refine ⟨fun x hx => r1 x (sb x (sub1 x hx)), fun a b c ha hb h1 h3 => ?_, big, fun hv hr => r4 hv fun x hx => hr x (List.mem_cons_of_mem _ hx)⟩
            by_cases as : a ∈ s2
            · rw [r1 a as] at h1
              by_cases bs : b ∈ s2
              · rw [r1 b bs] at h3
                exact I.inj a b c ha hb h1 h3
              · rcases (r3 c).mp ⟨b, bs, h3⟩ with ⟨y, hy, hl⟩ | w
                · have := I.inj a y c ha (fun w => hy (sb _ (sub1 _ w))) h1 hl
                  exact absurd as (by rw [this]; exact hy)
                · rw [w] at h1; exact absurd h1 (I.no a ha)
            · by_cases bs : b ∈ s2
              · rw [r1 b bs] at h3
                rcases (r3 c).mp ⟨a, as, h1⟩ with ⟨y, hy, hl⟩ | w
                · have := I.inj b y c hb (fun w => hy (sb _ (sub1 _ w))) h3 hl
                  exact absurd bs (by rw [this]; exact hy)
                · rw [w] at h3; exact absurd h3 (I.no b hb)
              · exact r2 a b c as bs h1 h3
          · obtain ⟨r1, r2, r3⟩ := R.no e'
            refine ⟨r1, fun x hx => ?_, fun x hx hs => ?_⟩
            · rcases List.mem_cons.mp hx with rfl | hx
              · exact R.sub _ (sb _ pin)
              · exact r2 x hx
            · by_cases xs : x ∈ s2
              · by_cases xp : x = p
                · rw [xp]
                  exact ⟨q, e, fun y hy => R.sub y (q2 y hy)⟩
                · obtain ⟨c, c1, c2⟩ := q3 x xs ((out x).mpr ⟨hs, xp⟩)
                  exact ⟨c, c1, fun y hy => R.sub y (c2 y hy)⟩
              · exact r3 x hx xs
theorem ledOn_post (cans : List (List Nat)) : ∀ (d : Nat) (h : Held) (one : Nat) (s : List Nat), cnt h s < d → LInv h s one → LPost cans (cans.getD one []) h one s (ledOn cans d h one s)
  | 0, _, _, _, hc, _ => absurd hc (Nat.not_lt_zero _)
  | d + 1, h, one, s, hc, I => ledRow_post (fun h q s => ledOn_post cans d h q s) one (cans.getD one []) h s hc I
/-! all of them -/
def pairUp (cans : List (List Nat)) (D : Nat) : Nat → Held → Nat → Held × Option (List Nat)
  | 0, h, _ => (h, none)
  | k + 1, h, one => match ledOn cans D h one [] with
    | (true, h', _) => pairUp cans D k h' (one + 1)
    | (false, h', s') => (h', some (one :: s'.map fun p => (look h' p).getD 0))
/-- the first so many hold unlike places -/
structure Good (cans : List (List Nat)) (h : Held) (one : Nat) : Prop where
  inj : ∀ p p' q, look h p = some q → look h p' = some q → p = p'
  img : ∀ q, (∃ p, look h p = some q) ↔ q < one
  ok : Valid cans h
  len : h.length ≤ one
theorem Good.step {cans : List (List Nat)} {h : Held} {one D : Nat} (g : Good cans h one) (hD : one < D) : LPost cans (cans.getD one []) h one [] (ledOn cans D h one []) :=
  ledOn_post cans D h one [] (by rw [cnt_nil]; exact Nat.lt_of_le_of_lt g.len hD) ⟨fun p p' q _ _ => g.inj p p' q, fun p _ hl => Nat.lt_irrefl _ ((g.img one).mp ⟨p, hl⟩)⟩
theorem Good.next {cans : List (List Nat)} {h h' : Held} {s' : List Nat} {one D : Nat} (g : Good cans h one) (hD : one < D) (e : ledOn cans D h one [] = (true, h', s')) : Good cans h' (one + 1) := by
  have P := g.step hD
  rw [e] at P
  obtain ⟨_, p2, p3, p4⟩ := P.ok rfl
  refine ⟨fun a b c h1 h2 => p2 a b c List.not_mem_nil List.not_mem_nil h1 h2, fun q => ?_, p4 g.ok fun _ w => w, Nat.le_trans P.len (Nat.succ_le_succ g.len)⟩
  constructor
  · rintro ⟨p, hp⟩
    rcases (p3 q).mp ⟨p, List.not_mem_nil, hp⟩ with ⟨x, _, hx⟩ | w
    · exact Nat.lt_succ_of_lt ((g.img q).mp ⟨x, hx⟩)
    · omega
  · intro hq
    rcases Nat.lt_or_eq_of_le (Nat.le_of_lt_succ hq) with w | w
    · obtain ⟨x, hx⟩ := (g.img q).mpr w
      obtain ⟨p, _, hp⟩ := (p3 q).mpr (.inl ⟨x, List.not_mem_nil, hx⟩)
      exact ⟨p, hp⟩
    · obtain ⟨p, _, hp⟩ := (p3 q).mpr (.inr w)
      exact ⟨p, hp⟩
/-- each one has a place of its own -/
def PM (cans : List (List Nat)) : Prop := ∃ f : Nat → Nat, (∀ i, i < cans.length → f i ∈ cans.getD i []) ∧ ∀ i j, i < cans.length → j < cans.length → f i = f j → i = j
theorem Good.pm {cans : List (List Nat)} {h : Held} (g : Good cans h cans.length) : PM cans := by
  classical
  have ch : ∀ i, ∃ p, i < cans.length → look h p = some i := fun i => by
    by_cases hi : i < cans.length
    · obtain ⟨p, hp⟩ := (g.img i).mpr hi
      exact ⟨p, fun _ => hp⟩
    · exact ⟨0, fun w => absurd w hi⟩
  refine ⟨fun i => Classical.choose (ch i), fun i hi => g.ok _ _ (Classical.choose_spec (ch i) hi), fun i j hi hj e => ?_⟩
  have h1 := Classical.choose_spec (ch i) hi
  have h2 := Classical.choose_spec (ch j) hj
  have e : Classical.choose (ch i) = Classical.choose (ch j) := e
  rw [e, h2] at h1
  exact (Option.some.inj h1).symm
theorem nodup_len {α : Type} : ∀ {xs ys : List α}, xs.Nodup → (∀ x ∈ xs, x ∈ ys) → xs.length ≤ ys.length
  | [], _, _, _ => Nat.zero_le _
  | x :: r, ys, nd, h => by
    classical
    obtain ⟨n1, n2⟩ := List.nodup_cons.mp nd
    obtain ⟨a, b, rfl⟩ := List.append_of_mem (h x List.mem_cons_self)
    have := nodup_len (xs := r) (ys := a ++ b) n2 fun z hz => by
      rcases List.mem_append.mp (h z (List.mem_cons_of_mem _ hz)) with q | q
      · exact List.mem_append_left _ q
      · rcases List.mem_cons.mp q with q | q
        · exact absurd (q ▸ hz) n1
        · exact List.mem_append_right _ q
    rw [List.length_append] at this
    rw [List.length_append, List.length_cons, List.length_cons]
    omega
/-- ones that can be fewer places than they are -/
structure Few (cans : List (List Nat)) (X T : List Nat) : Prop where
  nd : X.Nodup
  lt : ∀ x ∈ X, x < cans.length
  sub : ∀ x ∈ X, ∀ p ∈ cans.getD x [], p ∈ T
  len : T.length < X.length
theorem Few.no {cans : List (List Nat)} {X T : List Nat} (w : Few cans X T) : ¬ PM cans := fun ⟨f, f1, f2⟩ => by
  have nd : (X.map f).Nodup := List.pairwise_map.mpr (w.nd.imp_of_mem fun {a b} ha hb ne e => ne (f2 a b (w.lt a ha) (w.lt b hb) e))
  have := nodup_len nd fun y hy => by
    obtain ⟨x, hx, rfl⟩ := List.mem_map.mp hy
    exact w.sub x hx _ (f1 x (w.lt x hx))
  rw [List.length_map] at this
  have := w.len
  omega
/-- seen places are nowhere twice -/
theorem ledRow_nd {cans : List (List Nat)} {d : Nat} (ih : ∀ h q s, s.Nodup → (ledOn cans d h q s).2.2.Nodup) (one : Nat) : ∀ (row : List Nat) (h : Held) (s : List Nat), s.Nodup → (ledRow (ledOn cans d) one row h s).2.2.Nodup
  | [], h, s, nd => nd
  | p :: r, h, s, nd => by
    unfold ledRow
    by_cases ps : p ∈ s
    · rw [if_pos ps]; exact ledRow_nd ih one r h s nd
    · rw [if_neg ps]
      have nd1 : (s ++ [p]).Nodup := List.nodup_append.mpr ⟨nd, List.nodup_cons.mpr ⟨List.not_mem_nil, List.nodup_nil⟩, fun a ha b hb e => ps (by rw [← List.mem_singleton.mp hb, ← e]; exact ha)⟩
      cases e : look h p with
      | none => exact nd1
      | some q =>
        have := ih h q (s ++ [p]) nd1
        dsimp only
        generalize ledOn cans d h q (s ++ [p]) = res at this
        obtain ⟨b, h2, s2⟩ := res
        cases b with
        | true => exact this
        | false => exact ledRow_nd ih one r h2 s2 this
theorem ledOn_nd (cans : List (List Nat)) : ∀ (d : Nat) (h : Held) (one : Nat) (s : List Nat), s.Nodup → (ledOn cans d h one s).2.2.Nodup
  | 0, _, _, _, nd => nd
  | d + 1, h, one, s, nd => ledRow_nd (fun h q s => ledOn_nd cans d h q s) one (cans.getD one []) h s nd
theorem pairUp_spec {cans : List (List Nat)} {D : Nat} : ∀ (k : Nat) (h : Held) (one : Nat), one + k = cans.length → cans.length < D + 1 → Good cans h one →
    ((pairUp cans D k h one).2 = none → Good cans (pairUp cans D k h one).1 cans.length) ∧ ∀ X, (pairUp cans D k h one).2 = some X → ∃ T, Few cans X T
  | 0, h, one, e, _, g => ⟨fun _ => by rw [show cans.length = one from by omega]; exact g, fun X h => by cases h⟩
  | k + 1, h, one, e, hD, g => by
    have oD : one < D := by omega
    have P := g.step oD
    have N := ledOn_nd cans D h one [] List.nodup_nil
    unfold pairUp
    cases er : ledOn cans D h one [] with
    | mk b r =>
      obtain ⟨h', s'⟩ := r
      cases b with
      | true => exact pairUp_spec k h' (one + 1) (by omega) hD (g.next oD er)
      | false =>
        rw [er] at P N
        obtain ⟨p1, p2, p3⟩ := P.no rfl
        have p1 : h' = h := p1
        subst p1
        have p2 : ∀ p ∈ cans.getD one [], p ∈ s' := p2
        have p3 : ∀ p ∈ s', ∃ q, look h' p = some q ∧ ∀ x ∈ cans.getD q [], x ∈ s' := fun p hp => p3 p hp List.not_mem_nil
        have N : s'.Nodup := N
        have own : ∀ p ∈ s', look h' p = some ((look h' p).getD 0) := fun p hp => by
          obtain ⟨q, h1, _⟩ := p3 p hp
          rw [h1]; rfl
        refine ⟨(fun z => nomatch (show some (one :: s'.map fun p => (look h' p).getD 0) = none from z)), fun X hX => ⟨s', ?_⟩⟩
        have hX : some (one :: s'.map fun p => (look h' p).getD 0) = some X := hX
        cases hX
        refine ⟨List.nodup_cons.mpr ⟨fun w => ?_, ?_⟩, fun x hx => ?_, fun x hx => ?_, by rw [List.length_cons, List.length_map]; exact Nat.lt_succ_self _⟩
        · obtain ⟨p, hp, w⟩ := List.mem_map.mp w
          exact Nat.lt_irrefl _ ((g.img one).mp ⟨p, by rw [own p hp, w]⟩)
        · exact List.pairwise_map.mpr (N.imp_of_mem fun {a b} ha hb ne e => ne (g.inj a b _ (own a ha) (by rw [e]; exact own b hb)))
        · rcases List.mem_cons.mp hx with rfl | hx
          · omega
          · obtain ⟨p, hp, rfl⟩ := List.mem_map.mp hx
            have := (g.img _).mp ⟨p, own p hp⟩
            omega
        · rcases List.mem_cons.mp hx with rfl | hx
          · exact p2
          · obtain ⟨p, hp, rfl⟩ := List.mem_map.mp hx
            obtain ⟨q, h1, h2⟩ := p3 p hp
            rw [h1]
            exact h2
theorem good_nil (cans : List (List Nat)) : Good cans [] 0 := ⟨(fun _ _ _ h => nomatch h), fun q => ⟨(fun ⟨_, h⟩ => nomatch h), fun h => absurd h (Nat.not_lt_zero _)⟩, (fun _ _ h => nomatch h), Nat.le_refl _⟩
def lacking (cans : List (List Nat)) (D : Nat) : Option (List Nat) := (pairUp cans D cans.length [] 0).2
theorem lacking_none {cans : List (List Nat)} {D : Nat} (h : cans.length ≤ D) : lacking cans D = none ↔ PM cans := by
  obtain ⟨a, b⟩ := pairUp_spec (cans := cans) (D := D) cans.length [] 0 (Nat.zero_add _) (by omega) (good_nil cans)
  constructor
  · exact fun e => (a e).pm
  · intro pm
    cases e : lacking cans D with
    | none => rfl
    | some X =>
      obtain ⟨T, w⟩ := b X e
      exact absurd pm w.no
theorem lacking_some {cans : List (List Nat)} {D : Nat} (h : cans.length ≤ D) {X : List Nat} (e : lacking cans D = some X) : ∃ T, Few cans X T :=
  (pairUp_spec (cans := cans) (D := D) cans.length [] 0 (Nat.zero_add _) (by omega) (good_nil cans)).2 X e
/-! one of them with one place alone -/
def withP (cans : List (List Nat)) (one place : Nat) : List (List Nat) := cans.take one ++ [[place]] ++ cans.drop (one + 1)
theorem withP_len {cans : List (List Nat)} {one place : Nat} (h : one < cans.length) : (withP cans one place).length = cans.length := by
  unfold withP
  simp only [List.length_append, List.length_take, List.length_drop, List.length_singleton]
  omega
theorem withP_get {cans : List (List Nat)} {one place : Nat} (h : one < cans.length) (i : Nat) : (withP cans one place).getD i [] = if i = one then [place] else cans.getD i [] := by
  unfold withP
  rw [List.getD_eq_getElem?_getD, List.getD_eq_getElem?_getD, List.append_assoc, List.getElem?_append]
  have l1 : (cans.take one).length = one := by rw [List.length_take]; omega
  rw [l1]
  by_cases c : i < one
  · rw [if_pos c, if_neg (by omega), List.getElem?_take, if_pos c]
  · rw [if_neg c]
    by_cases c2 : i = one
    · subst c2
      rw [if_pos rfl, Nat.sub_self]
      rfl
    · rw [if_neg c2]
      obtain ⟨j, hj⟩ : ∃ j, i = one + 1 + j := ⟨i - one - 1, by omega⟩
      subst hj
      rw [show one + 1 + j - one = j + 1 from by omega]
      show (([place] :: cans.drop (one + 1))[j + 1]?).getD [] = _
      rw [List.getElem?_cons_succ, List.getElem?_drop]
theorem pm_with {cans : List (List Nat)} {one : Nat} (h : one < cans.length) : PM cans ↔ ∃ p ∈ cans.getD one [], PM (withP cans one p) := by
  constructor
  · rintro ⟨f, f1, f2⟩
    refine ⟨f one, f1 one h, f, fun i hi => ?_, fun i j hi hj => ?_⟩
    · rw [withP_len h] at hi
      rw [withP_get h]
      split
      · next e => rw [e]; exact List.mem_singleton.mpr rfl
      · exact f1 i hi
    · rw [withP_len h] at hi hj
      exact f2 i j hi hj
  · rintro ⟨p, hp, f, f1, f2⟩
    rw [withP_len h] at f1 f2
    refine ⟨f, fun i hi => ?_, f2⟩
    have := f1 i hi
    rw [withP_get h] at this
    split at this
    · next e => rw [List.mem_singleton.mp this, e]; exact hp
    · exact this
theorem ledRow_mem {cans : List (List Nat)} {d : Nat} {Q : Nat → Prop} (ih : ∀ h q s, (∀ x ∈ s, Q x) → ∀ x ∈ (ledOn cans d h q s).2.2, Q x) (one : Nat) : ∀ (row : List Nat) (h : Held) (s : List Nat), (∀ x ∈ row, Q x) → (∀ x ∈ s, Q x) → ∀ x ∈ (ledRow (ledOn cans d) one row h s).2.2, Q x
  | [], h, s, _, hs => hs
  | p :: r, h, s, hr, hs => by
    have hr' : ∀ x ∈ r, Q x := fun x hx => hr x (List.mem_cons_of_mem _ hx)
    have hs' : ∀ x ∈ s ++ [p], Q x := fun x hx => by
      rcases List.mem_append.mp hx with w | w
      · exact hs x w
      · rw [List.mem_singleton.mp w]; exact hr p List.mem_cons_self
    unfold ledRow
    by_cases ps : p ∈ s
    · rw [if_pos ps]; exact ledRow_mem ih one r h s hr' hs
    · rw [if_neg ps]
      cases e : look h p with
      | none => exact hs'
      | some q =>
        have := ih h q (s ++ [p]) hs'
        dsimp only
        generalize ledOn cans d h q (s ++ [p]) = res at this
        obtain ⟨b, h2, s2⟩ := res
        cases b with
        | true => exact this
        | false => exact ledRow_mem ih one r h2 s2 hr' this
theorem ledOn_mem (cans : List (List Nat)) {Q : Nat → Prop} (hc : ∀ q, ∀ p ∈ cans.getD q [], Q p) : ∀ (d : Nat) (h : Held) (one : Nat) (s : List Nat), (∀ x ∈ s, Q x) → ∀ x ∈ (ledOn cans d h one s).2.2, Q x
  | 0, _, _, _, hs => hs
  | d + 1, h, one, s, hs => ledRow_mem (fun h q s => ledOn_mem cans hc d h q s) one (cans.getD one []) h s (hc one) hs
/-! functions over data -/
def F__law_folded_1 : FS := (fFreeze 2 (fRet (fV 2)))
def F__law_folded_2 : FS := (fAsg (fOp oAdd (fIxO 2 (fOp oMod (fV 3) (fV 1))) (fOp oMul (fV 4) (fOp oAdd (fV 3) (fC (.int 2))))) (gSubO 2 (fOp oMod (fV 3) (fV 1))))
def F__law_folded : FN := fnF 2 5 (fSeq (fOwn 2 (fCBN nList (fCons (fSl sL (fV 0) pNo (pSo (fV 1))) fNil)))
    (fSeq (fFor [3, 4] (iE (fCons (fSl sL (fV 0) (pSo (fV 1)) (pSo (fC (.int 63)))) fNil)) (gT 2 (gsCons (gN 3) (gsCons (gN 4) gsNil))) F__law_folded_2)
    F__law_folded_1))
def F__law_names_1 : FS := (fFreeze 3 (fRet (fV 3)))
def F__law_names_2 : FS := (fAppend 3 (fV 11))
def F__law_names_3 : FS := (fSeq (fIfS (fB (fInO false 3 (fV 11))) (fAsg (fOp oAddS (fOp oAddS (fOp oIxS (fV 2) (fOp oDiv (fV 8) (fC (.int 26)))) (fOp oIxS (fV 2) (fOp oMod (fV 8) (fC (.int 26))))) (fC (.str (Str.ofString "qxz")))) (gN 11)) fNext)
    F__law_names_2)
def F__law_names_4 : FE := (fOp oIxS (fV 2) (fCall 2 F__law_take [] (cOwn 0 (cDat (fC (.int 26)) cNil))))
def F__law_names_5 : FS := (fSeq (fAsg (fOp oMod (fOp oAdd (fV 4) (fOp oMul (fV 5) (fV 7))) (fC (.int 676))) (gN 8))
    (fSeq (fAsg (fBM mJoin (fC (.str (Str.ofString ""))) (fCons (fNew (fLc (iR1 (fCons (fOp oAdd (fC (.int 1)) (fCall 2 F__law_take [] (cOwn 0 (cDat (fC (.int 6)) cNil)))) fNil)) (gN 10) fYes F__law_names_4 [10])) fNil)) (gN 9))
    (fSeq (fAsg (fOp oAddS (fOp oAddS (fOp oIxS (fV 2) (fOp oDiv (fV 8) (fC (.int 26)))) (fOp oIxS (fV 2) (fOp oMod (fV 8) (fC (.int 26))))) (fV 9)) (gN 11))
    (fSeq (fIfS (fAnd (fB (fOp oLt (fV 1) (fC (.int 13)))) (fB (fOp oEq (fCall 2 F__law_take [] (cOwn 0 (cDat (fC (.int 4)) cNil))) (fC (.int 0))))) (fAsg (fOp oIxL (fV 6) (fV 7)) (gN 11)) fNext)
    F__law_names_3))))
def F__law_names : FN := fnF 2 12 (fSeq (fParO2 2 3 (fC (.str (Str.ofString "abcdefghijklmnopqrstuvwxyz"))) (fLst fNil))
    (fSeq (fPar 4 5 (fCons (fCall 2 F__law_take [] (cOwn 0 (cDat (fC (.int 676)) cNil))) (fCons (fOp oIxL (fNew (fLst (fCons (fC (.int 1)) (fCons (fC (.int 3)) (fCons (fC (.int 5)) (fCons (fC (.int 7)) (fCons (fC (.int 27)) (fCons (fC (.int 101)) fNil)))))))) (fCall 2 F__law_take [] (cOwn 0 (cDat (fC (.int 6)) cNil)))) fNil)))
    (fSeq (fAsg (fNew (fLst (fCons (fC (.str (Str.ofString "give"))) (fCons (fC (.str (Str.ofString "sell"))) (fCons (fC (.str (Str.ofString "heap"))) (fCons (fC (.str (Str.ofString "owner"))) (fCons (fC (.str (Str.ofString "has"))) (fCons (fC (.str (Str.ofString "not"))) (fCons (fC (.str (Str.ofString "above"))) (fCons (fC (.str (Str.ofString "number"))) (fCons (fC (.str (Str.ofString "and"))) (fCons (fC (.str (Str.ofString "price"))) (fCons (fC (.str (Str.ofString "fetch"))) (fCons (fC (.str (Str.ofString "words"))) fNil)))))))))))))) (gN 6))
    (fSeq (fFor [7, 8, 9, 10, 11] (iR1 (fCons (fV 1) fNil)) (gN 7) F__law_names_5)
    F__law_names_1))))
def F__law_some_words_1 : FS := (fFreeze 4 (fRet (fTupN (fNew (fCBN nSortS (fCons (fV 4) fNil))))))
def F__law_some_words_2 : FS := (fAppend 4 (fPopAt 3 (fCall 2 F__law_take [] (cOwn 0 (cDat (fLenO 3) cNil)))))
def F__law_some_words : FN := fnF 3 6 (fSeq (fParOO 3 4 (fCBN nList (fCons (fV 1) fNil)) (fLst fNil))
    (fSeq (fFor [5] (iR1 (fCons (fCall 2 F__law_take [] (cOwn 0 (cDat (fOp oAdd (fCB bMin (fCons (fV 2) (fCons (fCB bLen (fCons (fV 1) fNil)) fNil))) (fC (.int 1))) cNil))) fNil)) (gN 5) F__law_some_words_2)
    F__law_some_words_1))
def F__law_things_1 : FS := (fFreeze 3 (fRet (fV 3)))
def F__law_things_2 : FS := (fIfS (fAnd (fB (fOp oEq (fCall 2 F__law_take [] (cOwn 0 (cDat (fC (.int 4)) cNil))) (fC (.int 0)))) (fB (fEqOU not 3 (fNew (fLst fNil))))) (fAppend 3 (fIxO 3 (fCall 2 F__law_take [] (cOwn 0 (cDat (fLenO 3) cNil))))) (fAppend 3 (fCall 3 F__law_some_words [] (cOwn 0 (cDat (fV 1) (cDat (fC (.int 6)) cNil))))))
def F__law_things : FN := fnF 3 5 (fSeq (fOwn 3 (fLst fNil))
    (fSeq (fFor [4] (iR1 (fCons (fV 2) fNil)) (gN 4) F__law_things_2)
    F__law_things_1))
def F_can_be_1 : FE := (fOp (oIn false) (fV 4) (fUnT (fV 3)))
def F_can_be_2 : FT := (fB (fCB bAll (fCons (fNew (fLc (iT (fV 1)) (gN 4) fYes F_can_be_1 [4])) fNil)))
def F_can_be : FN := fnF 2 5 (fRet (fNew (fLc (iEM (fCons (fV 0) fNil)) (gT 2 (gsCons (gN 2) (gsCons (gN 3) gsNil))) F_can_be_2 (fV 2) [2, 3])))
def F_cans_of_1 : FE := (fCall 2 F_can_be [] (cDat (fV 0) (cDat (fV 2) cNil)))
def F_cans_of : FN := fnF 2 3 (fRet (fNew (fLc (iA (fV 1)) (gN 2) fYes F_cans_of_1 [2])))
def F_led_on_1 (G : FN) : FS := (fRet (fC (.bool false)))
def F_led_on_2 (G : FN) : FS := (fIfS (fB (fDIn true 5 (fV 4) (fV 3))) (fSeq (fDPut 5 (fV 3) (fV 4) (fC (.bool true)))
    (fIfS (fOr (fB (fDIn true 5 (fV 4) (fV 1))) (fTru (fCallS 5 4 G [] (cDat (fV 0) (cDat (fV 1) (cDat (fDGet 5 (fV 1) (fV 4)) (cDat (fV 3) cNil))))))) (fSeq (fDPut 5 (fV 1) (fV 4) (fV 2))
    (fRet (fC (.bool true)))) fNext)) fNext)
def F_led_on : Nat → FN
  | 0 => fun _ _ => False
  | d + 1 => let G : FN := F_led_on d; fnS 4 5 (fSeq (fFor [4] (iL (fOp oIxL (fV 0) (fV 2))) (gN 4) (F_led_on_2 G))
    (F_led_on_1 G))
def F_paired_off_1 : FS := (fRet (fTup (fCons (fV 1) (fCons (fC .none) fNil))))
def F_paired_off_2 : FE := (fDGet 5 (fV 1) (fV 4))
def F_paired_off_3 : FS := (fSeq (fAsg (fDNew 5) (gN 3))
    (fIfS (fNot (fB (fCallS 5 4 (F_led_on 12) [] (cDat (fV 0) (cDat (fV 1) (cDat (fV 2) (cDat (fV 3) cNil))))))) (fRet (fTup (fCons (fV 1) (fCons (fNew (fCBN nSortI (fCons (fOp oCatL (fNew (fLst (fCons (fV 2) fNil))) (fNew (fLckLc 5 3 (gN 4) fYes F_paired_off_2 [4]))) fNil))) fNil)))) fNext))
def F_paired_off : FN := fnS 1 5 (fSeq (fAsg (fDNew 5) (gN 1))
    (fSeq (fFor [2, 3, 4] (iR1 (fCons (fCB bLen (fCons (fV 0) fNil)) fNil)) (gN 2) F_paired_off_3)
    F_paired_off_1))
def F_short_by : FN := fnS 1 1 (fRet (fOp oIxT (fCallS 1 1 F_paired_off [] (cDat (fV 0) cNil)) (fC (.int 1))))
def F_with_place : FN := fnF 3 3 (fRet (fOp oCatL (fOp oCatL (fSl sL (fV 0) pNo (pSo (fV 1))) (fNew (fLst (fCons (fNew (fLst (fCons (fV 2) fNil))) fNil)))) (fSl sL (fV 0) (pSo (fOp oAdd (fV 1) (fC (.int 1)))) pNo)))
def F_least_place_1 : FS := (fRet (fC .none))
def F_least_place_2 : FS := (fIfS (fB (fOp oIs (fCallZ 1 F_short_by [] (fCons (fCall 3 F_with_place [] (cDat (fV 0) (cDat (fV 1) (cDat (fV 2) cNil)))) fNil)) (fC .none))) (fRet (fV 2)) fNext)
def F_least_place : FN := fnF 2 3 (fSeq (fFor [2] (iL (fOp oIxL (fV 0) (fV 1))) (gN 2) F_least_place_2)
    F_least_place_1)
def F_first_pairing_1 : FE := (fOp oIxL (fV 3) (fC (.int 0)))
def F_first_pairing_2 : FS := (fRet (fNew (fLc (iL (fV 1)) (gN 3) fYes F_first_pairing_1 [3])))
def F_first_pairing_3 : FS := (fAsg (fCall 3 F_with_place [] (cDat (fV 1) (cDat (fV 2) (cDat (fCall 2 F_least_place [] (cDat (fV 1) (cDat (fV 2) cNil))) cNil)))) (gN 1))
def F_first_pairing : FN := fnF 1 4 (fSeq (fAsg (fCB bList (fCons (fV 0) fNil)) (gN 1))
    (fSeq (fFor [2] (iR1 (fCons (fCB bLen (fCons (fV 0) fNil)) fNil)) (gN 2) F_first_pairing_3)
    F_first_pairing_2))
def F_way_for_1 : FS := (fRet (fTup (fCons (fC (.str (Str.ofString "way"))) (fCons (fCall 1 F_first_pairing [] (cDat (fV 2) cNil)) fNil))))
def F_way_for : FN := fnF 2 4 (fSeq (fAsg (fCall 2 F_cans_of [] (cDat (fV 0) (cDat (fV 1) cNil))) (gN 2))
    (fSeq (fAsg (fCallZ 1 F_short_by [] (fCons (fV 2) fNil)) (gN 3))
    (fSeq (fIfS (fB (fOp oIsnt (fV 3) (fC .none))) (fRet (fTup (fCons (fC (.str (Str.ofString "none"))) (fCons (fV 3) fNil)))) fNext)
    F_way_for_1)))
def F__law_find_1 : FS := (fFreeze 5 (fRet (fUnT (fTupN (fNew (fCBN nSortSetT (fCons (fV 5) fNil)))))))
def F__law_find_2 : FT := (fB (fOp oEq (fCall 2 F__law_take [] (cOwn 0 (cDat (fC (.int 2)) cNil))) (fC (.int 0))))
def F__law_find_3 : FS := (fSeq (fOwn 5 (fLc (iT (fUnT (fV 4))) (gN 6) F__law_find_2 (fV 6) [6]))
    (fSeq (fIfS (fAnd (fB (fOp oEq (fV 3) (fC (.int 3)))) (fB (fOp oLt (fLenO 5) (fC (.int 6))))) (fAppend 5 (fOp oIxL (fV 1) (fCall 2 F__law_take [] (cOwn 0 (cDat (fCB bLen (fCons (fV 1) fNil)) cNil))))) fNext)
    F__law_find_1))
def F__law_find_4 : FS := (fSeq (fAsg (fOp oIxL (fV 2) (fCall 2 F__law_take [] (cOwn 0 (cDat (fCB bLen (fCons (fV 2) fNil)) cNil)))) (gN 4))
    (fSeq (fIfS (fB (fOp oLt (fV 3) (fC (.int 3)))) (fRet (fOp oIxL (fNew (fLst (fCons (fTup fNil) (fCons (fUnT (fV 4)) fNil)))) (fOp oSub (fV 3) (fC (.int 1))))) fNext)
    F__law_find_3))
def F__law_find : FN := fnF 3 7 (fSeq (fAsg (fCall 2 F__law_take [] (cOwn 0 (cDat (fC (.int 8)) cNil))) (gN 3))
    (fSeq (fIfS (fOr (fB (fOp oEq (fV 3) (fC (.int 0)))) (fB (fOp oEqD (fUnD (fV 2)) (fNew (fLst fNil))))) (fRet (fUnT (fCall 3 F__law_some_words [] (cOwn 0 (cDat (fV 1) (cDat (fC (.int 6)) cNil)))))) fNext)
    F__law_find_4))
def F__law_cans_1 : FS := (fFreeze 2 (fRet (fV 2)))
def F__law_cans_2 : FT := (fB (fOp (oIn true) (fV 6) (fUnT (fV 5))))
def F__law_cans_3 : FT := (fB (fOp oEqD (fNew (fLc (iT (fV 3)) (gN 6) F__law_cans_2 (fV 6) [6])) (fNew (fLst fNil))))
def F__law_cans_4 : FS := (fAppend 2 (fNew (fLc (iE (fCons (fV 0) fNil)) (gT 2 (gsCons (gN 4) (gsCons (gN 5) gsNil))) F__law_cans_3 (fV 4) [4, 5])))
def F__law_cans : FN := fnF 2 7 (fSeq (fOwn 2 (fLst fNil))
    (fSeq (fFor [3, 4, 5, 6] (iL (fV 1)) (gN 3) F__law_cans_4)
    F__law_cans_1))
def F__law_bent_1 : FS := (fRet (fIf (fB (fOp oLt (fV 3) (fC (.int 8)))) (fOp oCatL (fOp oCatL (fSl sL (fV 1) pNo (pSo (fV 4))) (fNew (fLst (fCons (fV 5) fNil)))) (fSl sL (fV 1) (pSo (fOp oAdd (fV 4) (fC (.int 1)))) pNo)) (fV 1)))
def F__law_bent_2 : FS := (fSeq (fIfS (fB (fOp oEq (fV 3) (fC (.int 5)))) (fRet (fNew (fRev (fV 1)))) fNext)
    F__law_bent_1)
def F__law_bent_3 : FS := (fSeq (fIfS (fB (fOp oLt (fV 3) (fC (.int 5)))) (fRet (fOp oCatL (fOp oCatL (fSl sL (fV 1) pNo (pSo (fV 4))) (fNew (fLst (fCons (fV 5) fNil)))) (fSl sL (fV 1) (pSo (fOp oAdd (fV 4) (fOp oMod (fV 3) (fC (.int 2))))) pNo))) fNext)
    F__law_bent_2)
def F__law_bent_4 : FS := (fSeq (fIfS (fB (fOp oEq (fV 3) (fC (.int 2)))) (fRet (fOp oCatL (fOp oCatL (fSl sL (fV 1) pNo (pSo (fV 4))) (fNew (fRev (fSl sL (fV 1) (pSo (fV 4)) (pSo (fOp oAdd (fV 4) (fC (.int 2)))))))) (fSl sL (fV 1) (pSo (fOp oAdd (fV 4) (fC (.int 2)))) pNo))) fNext)
    F__law_bent_3)
def F__law_bent_5 : FS := (fSeq (fIfS (fB (fOp oEq (fV 3) (fC (.int 1)))) (fRet (fOp oCatL (fOp oCatL (fSl sL (fV 1) pNo (pSo (fV 4))) (fSl sL (fV 1) (pSo (fV 4)) (pSo (fOp oAdd (fV 4) (fC (.int 1)))))) (fSl sL (fV 1) (pSo (fV 4)) pNo))) fNext)
    F__law_bent_4)
def F__law_bent : FN := fnF 3 6 (fSeq (fPar 3 4 (fCons (fCall 2 F__law_take [] (cOwn 0 (cDat (fC (.int 9)) cNil))) (fCons (fCall 2 F__law_take [] (cOwn 0 (cDat (fOp oAdd (fCB bLen (fCons (fV 1) fNil)) (fC (.int 1))) cNil))) fNil)))
    (fSeq (fAsg (fOp oIxL (fNew (fLst (fCons (fOp oSub (fV 4) (fC (.int 1))) (fCons (fOp oAdd (fV 4) (fC (.int 1))) (fCons (fV 2) (fCons (fUn uNeg (fC (.int 1))) (fCons (fC (.bool true)) (fCons (fC .none) (fCons (fC (.str (Str.ofString "0"))) (fCons (fNew (fLst (fCons (fV 4) fNil))) (fCons (fTup (fCons (fC (.int 0)) fNil)) (fCons (fC (.bool false)) fNil)))))))))))) (fCall 2 F__law_take [] (cOwn 0 (cDat (fC (.int 10)) cNil)))) (gN 5))
    (fSeq (fIfS (fB (fOp oEq (fV 3) (fC (.int 0)))) (fRet (fOp oCatL (fSl sL (fV 1) pNo (pSo (fV 4))) (fSl sL (fV 1) (pSo (fOp oAdd (fV 4) (fC (.int 1)))) pNo))) fNext)
    F__law_bent_5)))
def F__law_given : FN := fnF 2 2 (fRet (fOp oIxL (fNew (fLst (fCons (fCB bList (fCons (fV 1) fNil)) (fCons (fUnT (fTupN (fV 1))) fNil)))) (fCall 2 F__law_take [] (cOwn 0 (cDat (fC (.int 2)) cNil)))))
def F_are_places_1 : FE := (fOp oLt (fV 2) (fV 3))
def F_are_places_2 : FS := (fRet (fCB bAll (fCons (fNew (fLc (iZ (fCons (fV 0) (fCons (fSl sL (fV 0) (pSo (fC (.int 1))) pNo) fNil))) (gT 2 (gsCons (gN 2) (gsCons (gN 3) gsNil))) fYes F_are_places_1 [2, 3])) fNil)))
def F_are_places_3 : FE := (fAndV (fIsi "int" (fV 2)) (fAndV (fNotV (fIsi "bool" (fV 2))) (fChain oLe oLt (fC (.int 0)) (fV 2) (fV 1))))
def F_are_places_4 : FS := (fSeq (fIfS (fNot (fB (fCB bAll (fCons (fNew (fLc (iL (fV 0)) (gN 2) fYes F_are_places_3 [2])) fNil)))) (fRet (fC (.bool false))) fNext)
    F_are_places_2)
def F_are_places : FN := fnF 2 4 (fSeq (fIfS (fOr (fNot (fB (fIsi "list" (fV 0)))) (fB (fOp oEq (fCB bLen (fCons (fV 0) fNil)) (fC (.int 0))))) (fRet (fC (.bool false))) fNext)
    F_are_places_4)
def F_are_too_few_1 : FS := (fRet (fOp oLt (fDLen 5 (fV 2)) (fCB bLen (fCons (fV 1) fNil))))
def F_are_too_few_2 : FS := (fDPut 5 (fV 2) (fV 4) (fC (.bool true)))
def F_are_too_few_3 : FS := (fFor [4] (iL (fOp oIxL (fV 0) (fV 3))) (gN 4) F_are_too_few_2)
def F_are_too_few : FN := fnS 2 5 (fSeq (fAsg (fDNew 5) (gN 2))
    (fSeq (fFor [3, 4] (iL (fV 1)) (gN 3) F_are_too_few_3)
    F_are_too_few_1))
def F_shows_none : FN := fnF 3 3 (fRet (fAndV (fCall 2 F_are_places [] (cDat (fV 2) (cDat (fCB bLen (fCons (fV 1) fNil)) cNil))) (fCallZ 2 F_are_too_few [] (fCons (fCall 2 F_cans_of [] (cDat (fV 0) (cDat (fV 1) cNil))) (fCons (fV 2) fNil)))))
def F__law_too_few_1 : FS := (fRet (fOp oLt (fLenO 2) (fCB bLen (fCons (fV 1) fNil))))
def F__law_too_few_2 : FT := (fB (fInO true 2 (fV 4)))
def F__law_too_few_3 : FS := (fExtend 2 (fLc (iL (fOp oIxL (fV 0) (fV 3))) (gN 4) F__law_too_few_2 (fV 4) [4]))
def F__law_too_few : FN := fnF 2 5 (fSeq (fOwn 2 (fLst fNil))
    (fSeq (fFor [3, 4] (iL (fV 1)) (gN 3) F__law_too_few_3)
    F__law_too_few_1))
def F__law_due_1 : FS := (fRet (fCall 2 F__law_too_few [] (cDat (fV 0) (cDat (fV 1) cNil))))
def F__law_due_2 : FS := (fIfS (fAnd (fB (fOp oGt (fV 2) (fC (.int 0)))) (fB (fOp oGe (fOp oIxL (fV 1) (fOp oSub (fV 2) (fC (.int 1)))) (fV 3)))) (fRet (fC (.bool false))) fNext)
def F__law_due_3 : FS := (fSeq (fIfS (fOr (fNot (fB (fIsi "int" (fV 3)))) (fOr (fB (fIsi "bool" (fV 3))) (fNot (fB (fChain oLe oLt (fC (.int 0)) (fV 3) (fCB bLen (fCons (fV 0) fNil))))))) (fRet (fC (.bool false))) fNext)
    F__law_due_2)
def F__law_due_4 : FS := (fSeq (fFor [2, 3] (iE (fCons (fV 1) fNil)) (gT 2 (gsCons (gN 2) (gsCons (gN 3) gsNil))) F__law_due_3)
    F__law_due_1)
def F__law_due : FN := fnF 2 4 (fSeq (fIfS (fOr (fNot (fB (fIsi "list" (fV 1)))) (fB (fOp oEq (fCB bLen (fCons (fV 1) fNil)) (fC (.int 0))))) (fRet (fC (.bool false))) fNext)
    F__law_due_4)
def F__law_right_1 : FS := (fRet (fC (.bool true)))
def F__law_right_2 : FS := (fSeq (fPar 13 14 (fCons (fCB (gOr bRepr bStrV) (fCons (fUnD (fV 11)) fNil)) (fCons (fCall 3 F_shows_none [] (cDat (fOp oIxL (fV 12) (fC (.int 0))) (cDat (fOp oIxL (fV 12) (fC (.int 1))) (cDat (fV 11) cNil)))) fNil)))
    (fIfS (fOr (fNot (fB (fCall 2 F__law_same [] (cDat (fV 14) (cDat (fCall 2 F__law_due [] (cDat (fV 6) (cDat (fV 11) cNil))) cNil))))) (fB (fOp oNe (fCB (gOr bRepr bStrV) (fCons (fUnD (fV 11)) fNil)) (fV 13)))) (fRet (fC (.bool false))) fNext))
def F__law_right_3 : FS := (fSeq (fFreeze 8 (fOwn 8 (fOpN nCat (fV 8) (fNew (fLst (fCons (fTup fNil) (fCons (fUnT (fTupN (fOp oIxL (fV 8) (fC (.int 0))))) (fCons (fC .none) (fCons (fC (.bool true)) (fCons (fC (.int 0)) (fCons (fC (.str (Str.ofString "0"))) (fCons (fNew (fLst (fCons (fNew (fLst (fCons (fC (.int 0)) (fCons (fC (.int 1)) fNil)))) fNil))) (fCons (fNew (fLst (fCons (fNew (fLst (fCons (fNew (fLst (fCons (fNew (fLst (fCons (fNew (fLst (fCons (fNew (fLst fNil)) fNil))) fNil))) fNil))) fNil))) fNil))) (fCons (fNew (fLst (fCons (fTup (fCons (fC (.int 0)) (fCons (fC (.int 1)) fNil))) fNil))) (fCons (fC (.bool false)) fNil)))))))))))))))
    (fSeq (fAsg (fNew (fLst (fCons (fCall 2 F__law_given [] (cOwn 0 (cDat (fV 2) cNil))) (fCons (fCall 2 F__law_given [] (cOwn 0 (cDat (fV 3) cNil))) fNil)))) (gN 12))
    (fSeq (fFreeze 8 (fFor [13, 14] (iL (fV 8)) (gN 11) F__law_right_2))
    F__law_right_1)))
def F__law_right_4 : FS := (fAppend 8 (fV 11))
def F__law_right_5 : FS := (fSeq (fAsg (fCall 3 F__law_bent [] (cOwn 0 (cDat (fIxO 8 (fCall 2 F__law_take [] (cOwn 0 (cDat (fLenO 8) cNil)))) (cDat (fV 5) cNil)))) (gN 11))
    (fSeq (fIfS (fB (fOp oEq (fCall 2 F__law_take [] (cOwn 0 (cDat (fC (.int 3)) cNil))) (fC (.int 0)))) (fAsg (fCall 3 F__law_bent [] (cOwn 0 (cDat (fV 11) (cDat (fV 5) cNil)))) (gN 11)) fNext)
    F__law_right_4))
def F__law_right_6 : FS := (fSeq (fFor [4] (iR1 (fCons (fC (.int 14)) fNil)) (gN 4) F__law_right_5)
    F__law_right_3)
def F__law_right_7 : FT := (fB (fOp oEqD (fOp oIxL (fV 6) (fV 10)) (fOp oIxL (fV 6) (fV 9))))
def F__law_right_8 : FS := (fSeq (fAppend 8 (fNew (fLc (iR1 (fCons (fV 5) fNil)) (gN 10) F__law_right_7 (fV 10) [10])))
    (fAppend 8 (fNew (fLst (fCons (fV 9) (fCons (fOp oAdd (fOp oAdd (fV 9) (fC (.int 1))) (fCall 2 F__law_take [] (cOwn 0 (cDat (fV 5) cNil)))) fNil))))))
def F__law_right_9 : FS := (fSeq (fFor [9, 10] (iR1 (fCons (fV 5) fNil)) (gN 9) F__law_right_8)
    F__law_right_6)
def F__law_right_10 : FE := (fCall 3 F__law_find [] (cOwn 0 (cDat (fV 1) (cDat (fSl sL (fV 2) pNo (pSo (fC (.int 3)))) cNil))))
def F__law_right : FN := fnF 1 15 (fSeq (fAsg (fCall 2 F__law_names [] (cOwn 0 (cDat (fOp oAdd (fC (.int 3)) (fCall 2 F__law_take [] (cOwn 0 (cDat (fC (.int 4)) cNil)))) cNil))) (gN 1))
    (fSeq (fAsg (fCall 3 F__law_things [] (cOwn 0 (cDat (fV 1) (cDat (fOp oAdd (fC (.int 2)) (fCall 2 F__law_take [] (cOwn 0 (cDat (fC (.int 9)) cNil)))) cNil)))) (gN 2))
    (fSeq (fAsg (fNew (fLc (iR1 (fCons (fOp oAdd (fC (.int 3)) (fCall 2 F__law_take [] (cOwn 0 (cDat (fC (.int 8)) cNil)))) fNil)) (gN 4) fYes F__law_right_10 [4])) (gN 3))
    (fSeq (fAsg (fTup (fCons (fCB bLen (fCons (fV 3) fNil)) (fCons (fCall 2 F__law_cans [] (cDat (fV 2) (cDat (fV 3) cNil))) fNil))) (gT 2 (gsCons (gN 5) (gsCons (gN 6) gsNil))))
    (fSeq (fAsg (fCall 2 F_way_for [] (cDat (fV 2) (cDat (fV 3) cNil))) (gN 7))
    (fSeq (fOwn 8 (fLst (fCons (fIf (fB (fOp oEq (fOp oIxT (fV 7) (fC (.int 0))) (fC (.str (Str.ofString "none"))))) (fOp oIxT (fV 7) (fC (.int 1))) (fNew (fLstRng (fV 5)))) (fCons (fNew (fLstRng (fV 5))) fNil))))
    F__law_right_9))))))
def F__law_box_1 : FS := (fRetW (fLst (fCons (fOp oMul (fCB bAbs (fCons (fV 2) fNil)) (fCB bInt (fCons (fOp oGe (fCB bAbs (fCons (fV 2) fNil)) (fOp oPow (fC (.int 10)) (fC (.int 18)))) fNil))) (fCons (fOp oMod (fOp oMul (fOp oAdd (fOp oAdd (fOp oMod (fV 2) (fC (.int 2147483629))) (fOp oMul (fC (.int 15485863)) (fV 1))) (fC (.int 43))) (fC (.int 48271))) (fC (.int 2147483647))) (fCons (fC (.int 0)) fNil)))))
def F__law_box : FM := fnM 2 3 (fSeq (fAsg (fIf (fB (fOp oLt (fV 1) (fCB bLen (fCons (fV 0) fNil)))) (fOp oIxL (fV 0) (fV 1)) (fC (.int 0))) (gN 2))
    F__law_box_1)
def F_law_1 : FE := (fCallT 1 F__law_right [] (fCallW 2 F__law_box [] (cDat (fV 1) (cDat (fV 2) cNil))) cNil)
def F_law : FN := fnF 1 3 (fSeq (fAsg (fCall 2 F__law_folded [] (cDat (fV 0) (cDat (fC (.int 4)) cNil))) (gN 1))
    (fRet (fCB bAll (fCons (fNew (fLc (iR1 (fCons (fCB bMax (fCons (fC (.int 2)) (fCons (fCB bLen (fCons (fV 1) fNil)) fNil))) fNil)) (gN 2) fYes F_law_1 [2])) fNil))))
local macro_rules | `(tactic| walk_at "f") => `(tactic| simp only [fnF, fSeq, fNext, fRet, fRetN, fAsg, fDrop, fIfS, fAnd, fOr, fNot, fAndV, fOrV, fNotV, fB, fTru, truF, boolF, fOp, fUn, fV, fC, fCons, fNil, fCB, fBM, fCall, cNil, cDat, cOwn, argF, wb, ownIx, fTup, fNew, fLst, fIf, fChain, o2, o2c, oStr, oEqB, oEqD, oNeD, oIsB, isNone, oInSB, oIn, seqF, oIxL, oIxT, oIxS, oIx, fSl, pNo, pSo, sL, sT, sS, listF, tupleF, strF, intF, ownF, fIxO, fLenO, fInO, fAppend, gSubO, gN, gT, gsCons, gsNil, fPar, fPar3, fAug, fFreeze, fOwn, slotF, sz0, sz1, sz2, sz3, sz4, sz5, sz6, sz7, sz8, sz9, sz10, sz11, sz12, sz13, sz14, sz15, sz16, sz17, sz18, sz19, sz20, Nat.reduceLT, Nat.reduceLeDiff, isObjD, fParO1, fParO2, fPar3O3, fAugO, fEqO, fFld, fMk, fMkN, fCallN, List.drop_zero, List.drop_succ_cons, Int.reduceToNat, Int.reducePow, Int.reduceNeg, Int.reduceLE, Int.reduceLT, Int.cast_ofNat_Int, F__law_take, fgt, List.tail_cons, List.headD_cons, at0, at1, at2, at3, at4, Int.zero_add, Int.not_lt, Int.not_le, Nat.not_lt, Nat.not_le, ite_not, fYes, fIsi, oCatL, oCatT, fRep, uNeg, bLenS, bLen, bAbs, bMin, bMax, bDivmod, bAll, bAny, bSum, bInt, bBool, bList, bTuple, one, two, iL, iT, iS, iR1, iR2, iR3, iE, iZ, fBreak, fCont, fNever, fnM, fRetO, fRetW, fCallW, fCallNW, fCBN, nList, nSortI, nSortS, fOpN, nCat, fSlN, fRev, fPopAt, fPop, fInsert, fExtend, fReverse, fIsiLT, bMax3, F__law_same, fParOO, fnX, fCallX, fCallNX, fRaise, fTryK, fIsX, fWhat, excF, excD, tabL, fldD, noX, oIsT, isBool, fCallV, funF, tabF, fSortLam, fSumO, fnD, iA, fRevS, fRevT, oNumD, numD_int, numD_bool, bStrV, strD, iZM, oIsntT, fCallT, fCallXW, nSortP, fnXM, fSetSl, fBorT, fBorE, frz, plainD,
  List.getElem?_cons_zero, List.getElem?_cons_succ, List.getElem?_nil, List.cons_append, List.nil_append, List.append_nil, List.set_cons_zero, List.set_cons_succ, List.map_cons, List.map_nil, List.length_cons, List.length_nil, List.nodup_nil, List.nodup_cons, List.not_mem_nil, not_false_eq_true, and_self, and_true, true_and, List.replicate_succ, List.replicate_zero, List.take_succ_cons, List.take_zero, Nat.reduceSub, Nat.reduceAdd, Nat.zero_add, decide_eq_true_eq, Bool.not_eq_true', decide_eq_false_iff_not, if_true, if_false, Bool.not_true, Bool.not_false, Bool.false_eq_true, reduceIte, id, not_true_eq_false, reduceCtorEq, fFor, fLc, fWhile, wipeF, kit_none_int, kit_none_bool, kit_none_str, kit_none_list, kit_none_tuple, kit_bool_int, kit_bool_bool, kit_bool_str, kit_bool_list, kit_bool_tuple, kit_int_int, kit_int_bool, kit_int_str, kit_int_list, kit_int_tuple, kit_str_int, kit_str_bool, kit_str_str, kit_str_list, kit_str_tuple, kit_list_int, kit_list_bool, kit_list_str, kit_list_list, kit_list_tuple, kit_tuple_int, kit_tuple_bool, kit_tuple_str, kit_tuple_list, kit_tuple_tuple, Option.some.injEq, exists_eq_left', exists_eq_left, List.all_cons, List.all_nil, Bool.and_true, Bool.and_self, List.cons.injEq, Nat.reduceMul , slotL, stF, fnS, fnMS, fnXS, fnXMS, fnU, fnUS, fCallS, fCallWS, fCallXS, fCallTS, fCallNS, fCallNXS, fCallU, fOwnV, fAugR, fPar3O2, fRetV, fRetO, fMeth, fMethW, fMethS, fMethWS, fMkZ, fMkNZ, fMkS, fMkNS, fNewL, fFldU, fSetF, fAugF, fBorT, fBorE, noSt, frz, oShlW, nSortSet, fIfN, putD, nSortSetT, fUnT, unT, fUnD, fEqOU, fTupN, fCntT, fIdxT, tnF, tnD, gSubH, fAugH, fAppH, fIxH, fNo, iEM, fDNew, fDGet, fDIn, fDPut, fDAug, fDGet1, fDGet2, fDLen, keyF, fLenRng, fLenX, fCallZ, gOr, fLstRng, fLckLc, iKs, keyD, fMethN, fMethNS, List.drop_nil, List.tail_cons, List.drop_succ_cons, List.drop_zero, List.headD_cons, immD, immAll])

local macro_rules | `(tactic| walk_at "w") => `(tactic| try walk_at "f")
/-! ### how a law begins, over data -/
theorem one_or (p : Prop) [Decidable p] : (if p then (1 : Int) else 0) = 0 ∨ (if p then (1 : Int) else 0) = 1 := by
  by_cases h : p
  · exact .inr (if_pos h)
  · exact .inl (if_neg h)
theorem f_box {ns : List Int} {k : Nat} (hk : k < 1000) {P : List PyData → List Sl → Prop} (h : ∀ ds sl, BoxD ds 0 → P ds sl) : F__law_box [.fz (.list (ns.map .int)), .fz (.int k)] P := by
  have fin : ∀ c : Int, F__law_box_1 { nx := fun _ => False, rt := fun _ _ => False, ro := fun ds ρ' => P ds (ρ'.take 2) } [.fz (.list (ns.map .int)), .fz (.int k), .fz (.int c)] := by
    intro c
    unfold F__law_box_1
    walk_at "f"
    refine ⟨⟨by decide, by decide, by decide⟩, ?_⟩
    have hz : ∀ z : Int, (z = 0 ∨ z = 1) → (CMul (if c < 0 then -c else c) z) ∧ 0 ≤ (if c < 0 then -c else c) * z := by
      intro z hz
      refine ⟨.inr (by rcases hz with rfl | rfl <;> decide), ?_⟩
      rcases hz with rfl | rfl
      · rw [Int.mul_zero]; exact Int.le_refl _
      · rw [Int.mul_one]; split <;> omega
    have hz' := hz (if 1000000000000000000 ≤ (if c < 0 then -c else c) then 1 else 0) (one_or _)
    have m0 : 0 ≤ c % 2147483629 := Int.emod_nonneg _ (by decide)
    have m1 : c % 2147483629 < 2147483629 := Int.emod_lt_of_pos _ (by decide)
    exact ⟨hz'.1, .inl ⟨by decide, by decide⟩, .inr ⟨by decide, by decide⟩, h _ _ ⟨_, _, _, rfl, hz'.2, Int.emod_nonneg _ (by decide), Int.emod_lt_of_pos _ (by decide), by decide, by decide⟩⟩
  unfold F__law_box
  walk_at "f"
  rw [List.length_map]
  by_cases hl : (k : Int) < ns.length
  · rw [if_pos hl]
    have hkn : k < ns.length := by omega
    refine ⟨.int ns[k], by rw [atI_map, atI_nat' (List.getElem?_eq_getElem hkn)]; rfl, ?_⟩
    exact fin _
  · rw [if_neg hl]
    exact fin _
theorem cutD_map (ns : List Int) (lo hi : Option Int) : cutD (ns.map PyData.int) lo hi = (((ns.drop (HT.sIx ns.length 0 lo)).take (HT.sIx ns.length ns.length hi - HT.sIx ns.length 0 lo))).map PyData.int := by
  unfold cutD
  rw [List.length_map, ← List.map_drop, ← List.map_take]
theorem enumD_map (ns : List Int) : enumD (ns.map PyData.int) = ns.zipIdx.map fun z => .tuple [.int (z.2 : Nat), .int z.1] := by
  unfold enumD
  rw [List.zipIdx_map, List.map_map]
  rfl
theorem f_folded {ns : List Int} {m : Nat} (hm0 : 0 < m) (hm : m ≤ 63) (hn : ns.length ≤ 63) {P : PyData → List Sl → Prop} (h : ∀ ms : List Int, ms.length ≤ m → ∀ sl, P (.list (ms.map .int)) sl) : F__law_folded [.fz (.list (ns.map .int)), .fz (.int m)] P := by
  have hm3 : ((m : Int) % 4611686018427387904) = m := Int.emod_eq_of_lt (by omega) (by omega)
  unfold F__law_folded
  walk_at "f"
  rw [cutD_take, cutD_map, enumD_map]
  generalize hz : (List.take (HT.sIx ns.length ns.length (some 63) - HT.sIx ns.length 0 (some ↑m)) (List.drop (HT.sIx ns.length 0 (some ↑m)) ns)) = zs
  have lz : zs.length ≤ ns.length - m := by
    rw [← hz, List.length_take, List.length_drop, HT.sIx_nat]
    omega
  refine for_map zs.zipIdx (fun z => .tuple [.int (z.2 : Nat), .int z.1]) (fun _ ρ => ∃ ms : List Int, ms.length = min m ns.length ∧ ρ = [.fz (.list (ns.map .int)), .fz (.int m), .own (ms.map .int), .no, .no]) rfl ⟨ns.take m, List.length_take, rfl⟩ ?_ ?_
  · rintro i z ρ hi hl ⟨ms, lm, rfl⟩
    rw [List.length_zipIdx] at hl
    have ez : z.2 = i := by
      rw [List.getElem?_zipIdx] at hi
      cases hq : zs[i]? with
      | none => rw [hq] at hi; cases hi
      | some q => rw [hq] at hi; cases hi; simp
    have hlen : ms.length = m := by omega
    have hk : i % m < ms.length := by rw [hlen]; exact Nat.mod_lt _ hm0
    have ek : ((z.2 : Int) % (m : Int)) = ((i % m : Nat) : Int) := by rw [ez]; omega
    unfold F__law_folded_2
    walk_at "f"
    refine ⟨by omega, .int ms[i % m], by rw [ek, atI_map, atI_nat' (List.getElem?_eq_getElem hk)]; rfl, ?_⟩
    refine ⟨.inr ⟨by omega, by omega⟩, ?_⟩
    refine ⟨by omega, i % m, by rw [ek, List.length_map]; exact ixN_nat hk, ms.set (i % m) (ms[i % m] + z.1 * ((z.2 : Int) + 2)), by rw [List.length_set]; exact lm, ?_⟩
    rw [List.map_set]
  · rintro ρ ⟨ms, lm, rfl⟩
    unfold F__law_folded_1
    walk_at "f"
    exact h ms (by omega) _
/-! lists of numbers as data -/
theorem lay_ints (vs : List Int) : PyData.canLayAll0 (vs.map .int) = true ∧ PyData.depthAll (vs.map .int) ≤ 0 := by
  induction vs with
  | nil => exact ⟨rfl, Nat.le_refl _⟩
  | cons v vs ih =>
    refine ⟨?_, ?_⟩
    · show (true && PyData.canLayAll0 (vs.map .int)) = true
      rw [ih.1]; rfl
    · show max 0 (PyData.depthAll (vs.map .int)) ≤ 0
      have := ih.2
      omega
theorem shaped_ints (vs : List Int) : SeqAt.shaped (.list (vs.map .int)) = true := by
  have h := lay_ints vs
  show (PyData.canLayAll0 (vs.map .int) && decide (PyData.depthAll (vs.map .int) + 1 ≤ 64)) = true
  rw [h.1, decide_eq_true (by omega)]
  rfl
theorem eqv_ints (vs : List Int) : PyData.eqv (.list (vs.map .int)) (.list (vs.map .int)) = true := SeqAt.eqv_refl _ (SeqAt.canLay_of_shaped (shaped_ints vs))
theorem cutD_from {xs : List PyData} {k : Nat} (h : k ≤ xs.length) : cutD xs (some (k : Int)) none = xs.drop k := by
  unfold cutD
  rw [HT.sIx_none, HT.sIx_nat, Nat.min_eq_left h, ← List.length_drop, List.take_length]
theorem ints_facts (vs : List Int) : PyData.depthAll (vs.map .int) = 0 ∧ nodesAll (vs.map .int) = vs.length := by
  induction vs with
  | nil => exact ⟨rfl, rfl⟩
  | cons v vs ih =>
    refine ⟨?_, ?_⟩
    · show max 0 (PyData.depthAll (vs.map .int)) = 0
      rw [ih.1]; rfl
    · show nodes (.int v) + nodesAll (vs.map .int) = vs.length + 1
      rw [ih.2, show nodes (.int v) = 1 from rfl]; omega
theorem same_ints {vs : List Int} (few : vs.length ≤ 1000) {Q : List Sl → Prop} (q : ∀ sl, Q sl) : PyData.list (vs.map .int) = .list (vs.map .int) ∧ SeqAt.shaped (.list (vs.map .int)) = true ∧ (PyData.list (vs.map .int)).depth < 8 ∧ nodes (.list (vs.map .int)) ≤ 1000000 ∧ ∀ sl, Q sl := by
  obtain ⟨h1, h2⟩ := ints_facts vs
  refine ⟨rfl, shaped_ints vs, ?_, ?_, q⟩
  · show PyData.depthAll (vs.map .int) + 1 < 8
    rw [h1]; decide
  · show nodesAll (vs.map .int) + 1 ≤ 1000000
    rw [h2]; omega
/-! names drawn -/
theorem abc_sign {d : Int} (h0 : 0 ≤ d) (h1 : d < 26) : ∃ c, atI (Str.ofString "abcdefghijklmnopqrstuvwxyz").cps.toList d = some c ∧ 97 ≤ c ∧ c ≤ 122 := by
  obtain ⟨k, rfl⟩ := Int.eq_ofNat_of_zero_le h0
  exact ⟨97 + k, abc_at (by omega), by omega, by omega⟩
theorem tl_sign (c : Nat) : tl (⟨#[c]⟩ : Str) = [c] := rfl
theorem f_names_3 {E : FEnds} {d6 : List PyData} {ss : List Str} {nm : Str} {a1 a4 a5 a6 a7 a9 a10 : Sl} {own : Int} (own0 : 0 ≤ own) (own1 : own < 676) (ls : ss.length ≤ 1000) (hnm : NameS nm)
    (h : ∀ s, NameS s → E.nx [.own d6, a1, .fz (.str (Str.ofString "abcdefghijklmnopqrstuvwxyz")), .own ((ss ++ [s]).map .str), a4, a5, a6, a7, .fz (.int own), a9, a10, .fz (.str s)]) :
    F__law_names_3 E [.own d6, a1, .fz (.str (Str.ofString "abcdefghijklmnopqrstuvwxyz")), .own (ss.map .str), a4, a5, a6, a7, .fz (.int own), a9, a10, .fz (.str nm)] := by
  have lin : sizeLine = 16777216 := by decide +kernel
  have la : (Str.ofString "abcdefghijklmnopqrstuvwxyz").length ≤ sizeLine := by decide +kernel
  obtain ⟨x, ex, x97, x122⟩ := abc_sign (d := own / 26) (by omega) (by omega)
  obtain ⟨y, ey, y97, y122⟩ := abc_sign (d := own % 26) (by omega) (by omega)
  unfold F__law_names_3
  walk_at "f"
  refine ⟨rfl, by rw [List.all_map]; exact List.all_eq_true.mpr fun _ _ => rfl, ?_⟩
  have fin : ∀ s, NameS s → F__law_names_2 E [.own d6, a1, .fz (.str (Str.ofString "abcdefghijklmnopqrstuvwxyz")), .own (ss.map .str), a4, a5, a6, a7, .fz (.int own), a9, a10, .fz (.str s)] := by
    intro s hs
    unfold F__law_names_2
    walk_at "f"
    refine ⟨by rw [List.length_map]; omega, ?_⟩
    have := h s hs
    rw [List.map_append] at this
    exact this
  cases inD (.str nm) (ss.map .str) with
  | false => exact fin nm hnm
  | true =>
    rw [if_pos (by rfl)]
    refine ⟨⟨by decide, by decide⟩, la, x, ex, la, y, ey, by show 1 + 1 ≤ sizeLine; decide, by show 2 + 3 ≤ sizeLine; decide, ?_⟩
    exact fin _ (name_two ⟨x97, x122⟩ ⟨y97, y122⟩ (by decide +kernel) (by decide +kernel))
theorem f_names {ds : List PyData} {n m : Nat} (hb : BoxD ds n) (hn : n < 10000000) (hm : m ≤ 200) {P : PyData → List Sl → Prop} (h : ∀ (ss : List Str) ds' sl, ss.length = m → (∀ s ∈ ss, NameS s) → BoxD ds' (n + 2000) → P (.list (ss.map .str)) (.own ds' :: sl)) : F__law_names [.own ds, .fz (.int (m : Int))] P := by
  have lin : sizeLine = 16777216 := by decide +kernel
  have la : (Str.ofString "abcdefghijklmnopqrstuvwxyz").length ≤ sizeLine := by decide +kernel
  unfold F__law_names
  walk_at "f"
  refine take_step hb (by decide) (by decide) (by omega) fun r1 d1 a1 c1 b1 => ?_
  refine take_step b1 (by decide) (by decide) (by omega) fun r2 d2 a2 c2 b2 => ?_
  obtain ⟨v, e, mm⟩ := at_mem (xs := [PyData.int 1, PyData.int 3, PyData.int 5, PyData.int 7, PyData.int 27, PyData.int 101]) a2 c2
  obtain ⟨s, rfl, s0, s1⟩ : ∃ a, v = .int a ∧ 1 ≤ a ∧ a ≤ 101 := by
    simp only [List.mem_cons, List.not_mem_nil, or_false] at mm
    rcases mm with rfl | rfl | rfl | rfl | rfl | rfl <;> exact ⟨_, rfl, by omega, by omega⟩
  refine ⟨_, e, by omega, by omega, ?_⟩
  rw [Int.toNat_natCast]
  refine for_range (fun i ρ => ∃ (ss : List Str) (ds' : List PyData), ss.length = i ∧ (∀ s ∈ ss, NameS s) ∧ BoxD ds' (n + 2 + 8 * i) ∧ ρ = [.own ds', .fz (.int m), .fz (.str (Str.ofString "abcdefghijklmnopqrstuvwxyz")), .own (ss.map .str), .fz (.int r1), .fz (.int s), .fz (.list (drawnWords.map .str)), .no, .no, .no, .no, .no]) ?_ ?_ ?_
  · exact ⟨[], d2, rfl, by simp, b2, rfl⟩
  · rintro i ρ hi ⟨ss, d3, ls, hss, b3, rfl⟩
    unfold F__law_names_5
    walk_at "f"
    refine ⟨.inl ⟨by omega, by omega⟩, ?_⟩
    refine take_step b3 (by decide) (by decide) (by omega) fun r4 d4 a4 c4 b4 => ⟨by omega, by omega, ?_⟩
    have own0 : 0 ≤ (r1 + s * (i : Int)) % 676 := Int.emod_nonneg _ (by decide)
    have own1 : (r1 + s * (i : Int)) % 676 < 676 := Int.emod_lt_of_pos _ (by decide)
    generalize (r1 + s * (i : Int)) % 676 = own at own0 own1
    refine lc_inv (List.range (1 + r4).toNat) (fun k : Nat => .int (0 + (k : Int))) (fun j acc ρ => ∃ (cs : List Nat) (d5 : List PyData), cs.length = j ∧ (∀ c ∈ cs, 97 ≤ c ∧ c ≤ 122) ∧ BoxD d5 (n + 2 + 8 * i + 1 + j) ∧ acc = cs.map (fun c => PyData.str ⟨#[c]⟩) ∧
      ρ = [.own d5, .fz (.int m), .fz (.str (Str.ofString "abcdefghijklmnopqrstuvwxyz")), .own (ss.map .str), .fz (.int r1), .fz (.int s), .fz (.list (drawnWords.map .str)), .fz (.int i), .fz (.int own), .no, .no, .no]) rfl rfl ?_ ?_ ?_
    · exact ⟨[], d4, rfl, by simp, b4, rfl, rfl⟩
    · rintro j x acc ρ hx hj ⟨cs, d5, lc, hcs, b5, rfl, rfl⟩
      rw [List.length_range] at hj
      unfold F__law_names_4
      walk_at "f"
      refine take_step b5 (by decide) (by decide) (by omega) fun r6 d6 a6 c6 b6 => ⟨la, ?_⟩
      obtain ⟨c, ec, c97, c122⟩ := abc_sign a6 c6
      refine ⟨c, ec, by rw [List.length_map]; omega, cs ++ [c], d6, by rw [List.length_append, lc]; rfl, fun x hx => ?_, b6.mono (by omega), by rw [List.map_append]; rfl, rfl⟩
      rcases List.mem_append.mp hx with h | h
      · exact hcs x h
      · rw [List.mem_singleton.mp h]; exact ⟨c97, c122⟩
    · rintro acc ρ ⟨cs, d5, lc, hcs, b5, rfl, eρ⟩
      rw [List.length_range] at lc b5
      rw [eρ]
      have jc := tl_joinC cs
      have jl : (tl (Str.join (Str.ofString "") (cs.map fun c => (⟨#[c]⟩ : Str)))).length ≤ 6 := by rw [jc, lc]; omega
      have js : ∀ c ∈ tl (Str.join (Str.ofString "") (cs.map fun c => (⟨#[c]⟩ : Str))), 97 ≤ c ∧ c ≤ 122 := by rw [jc]; exact hcs
      have e1 : ((cs.map fun c => (⟨#[c]⟩ : Str)).map (·.length)).sum = cs.length := by
        rw [List.map_map]
        clear jc jl js hcs lc
        induction cs with
        | nil => rfl
        | cons c r ih =>
          rw [List.map_cons, List.sum_cons, ih]
          show 1 + r.length = r.length + 1
          omega
      have e2 : (Str.ofString "").length = 0 := by decide +kernel
      unfold mJoin
      walk_at "f"
      refine strsF_f ⟨?_, ?_⟩
      · rw [e1, e2]
        omega
      rw [show Txt.join (Str.ofString "") (cs.map fun c => (⟨#[c]⟩ : Str)) = Str.join (Str.ofString "") (cs.map fun c => (⟨#[c]⟩ : Str)) from join_eq _ _]
      generalize Str.join (Str.ofString "") (cs.map fun c => (⟨#[c]⟩ : Str)) = tail at jl js
      obtain ⟨x, ex, x97, x122⟩ := abc_sign (d := own / 26) (by omega) (by omega)
      obtain ⟨y, ey, y97, y122⟩ := abc_sign (d := own % 26) (by omega) (by omega)
      have n0 : NameS (((⟨#[x]⟩ : Str) ++ (⟨#[y]⟩ : Str)) ++ tail) := name_two ⟨x97, x122⟩ ⟨y97, y122⟩ jl js
      have add : ∀ s', NameS s' → ∀ s'' ∈ ss ++ [s'], NameS s'' := fun s' hs' y hy => by
        rcases List.mem_append.mp hy with h | h
        · exact hss y h
        · rw [List.mem_singleton.mp h]; exact hs'
      refine ⟨⟨by decide, by decide⟩, la, x, ex, la, y, ey, by show 1 + 1 ≤ sizeLine; decide, by rw [len_tl tail, lin]; show 2 + _ ≤ _; omega, ?_⟩
      by_cases h13 : (m : Int) < 13
      · rw [if_pos h13]
        refine take_step b5 (by decide) (by decide) (by omega) fun r6 d6 a6 c6 b6 => ?_
        by_cases h6 : r6 = 0
        · rw [if_pos h6]
          have hi13 : i < drawnWords.length := by show i < 12; omega
          have wok := drawnWords_ok _ (List.getElem_mem hi13)
          refine ⟨.str drawnWords[i], by rw [atI_map]; unfold atI; rw [ixN_nat hi13]; show (drawnWords[i]?).map _ = _; rw [List.getElem?_eq_getElem hi13]; rfl, ?_⟩
          exact f_names_3 own0 own1 (by omega) wok fun s' hs' => ⟨ss ++ [s'], d6, by rw [List.length_append, ls]; rfl, add s' hs', b6.mono (by omega), rfl⟩
        · rw [if_neg h6]
          exact f_names_3 own0 own1 (by omega) n0 fun s' hs' => ⟨ss ++ [s'], d6, by rw [List.length_append, ls]; rfl, add s' hs', b6.mono (by omega), rfl⟩
      · rw [if_neg h13]
        exact f_names_3 own0 own1 (by omega) n0 fun s' hs' => ⟨ss ++ [s'], d5, by rw [List.length_append, ls]; rfl, add s' hs', b5.mono (by omega), rfl⟩
  · rintro ρ ⟨ss, d3, ls, hss, b3, rfl⟩
    unfold F__law_names_1
    walk_at "f"
    exact h ss d3 _ ls hss (b3.mono (by omega))
/-! ### pairing over data -/
abbrev natD (n : Nat) : PyData := .int (n : Int)
abbrev natsD (ns : List Nat) : List PyData := ns.map natD
def cansD (cans : List (List Nat)) : PyData := .list (cans.map fun r => .list (r.map natD))
def hK (h : Held) : Kvs := h.map fun z => (Sum.inl (z.1 : Int), natD z.2)
def sK (s : List Nat) : Kvs := s.map fun p : Nat => (Sum.inl (p : Int), .bool true)
theorem inl_ne {a b : Nat} (h : a ≠ b) : ¬ (Sum.inl (a : Int) : L2.Key) = Sum.inl (b : Int) := fun e => h (by have := Sum.inl.inj e; omega)
theorem valD_hK (p : Nat) : ∀ h : Held, valD (hK h) (.inl (p : Int)) = (look h p).map natD
  | [] => rfl
  | z :: r => by
    show valD ((Sum.inl (z.1 : Int), natD z.2) :: hK r) _ = _
    rw [look_cons]
    by_cases e : z.1 = p
    · rw [if_pos e, valD_pos (by show (Sum.inl (z.1 : Int) : L2.Key) = _; rw [e])]; rfl
    · rw [if_neg e, valD_neg (inl_ne e)]; exact valD_hK p r
theorem map_hK (p q : Nat) : ∀ h : Held, (hK h).map (fun kv => if kv.1 = .inl (p : Int) then (kv.1, natD q) else kv) = hK (h.map fun z => if z.1 = p then (z.1, q) else z)
  | [] => rfl
  | z :: r => by
    have ih := map_hK p q r
    unfold hK at ih ⊢
    rw [List.map_cons, List.map_cons, List.map_cons, List.map_cons, ih]
    congr 1
    by_cases e : z.1 = p
    · rw [if_pos (by show (Sum.inl (z.1 : Int) : L2.Key) = _; rw [e]), if_pos e]
    · rw [if_neg (inl_ne e), if_neg e]
theorem putE_hK (h : Held) (p q : Nat) : putE (hK h) (.inl (p : Int)) (natD q) = hK (hput h p q) := by
  unfold putE hput
  rw [valD_hK]
  cases e : look h p with
  | none =>
    show (hK h ++ [(.inl (p : Int), natD q)]) = _
    unfold hK
    rw [if_neg (by decide), List.map_append]
    rfl
  | some w =>
    rw [if_pos (by rfl), if_pos (by rfl)]
    exact map_hK p q h
theorem valD_sK (p : Nat) : ∀ s : List Nat, (valD (sK s) (.inl (p : Int))).isSome = decide (p ∈ s)
  | [] => rfl
  | z :: r => by
    show (valD ((Sum.inl (z : Int), PyData.bool true) :: sK r) _).isSome = _
    by_cases e : z = p
    · rw [valD_pos (by show (Sum.inl (z : Int) : L2.Key) = _; rw [e]), decide_eq_true (by rw [e]; exact List.mem_cons_self)]; rfl
    · rw [valD_neg (inl_ne e), valD_sK p r]
      refine decide_eq_decide.mpr ?_
      rw [List.mem_cons]
      exact ⟨.inr, fun w => w.resolve_left fun w => e w.symm⟩
theorem putE_sK {s : List Nat} {p : Nat} (h : p ∉ s) : putE (sK s) (.inl (p : Int)) (.bool true) = sK (s ++ [p]) := by
  unfold putE
  rw [valD_sK, decide_eq_false h, if_neg (by decide)]
  unfold sK
  rw [List.map_append]
  rfl
theorem hK_len (h : Held) : (hK h).length = h.length := List.length_map _
theorem sK_len (s : List Nat) : (sK s).length = s.length := List.length_map _
theorem below_len {s : List Nat} {B : Nat} (nd : s.Nodup) (h : ∀ x ∈ s, x < B) : s.length ≤ B := by
  have := nodup_len nd (ys := List.range B) fun x hx => List.mem_range.mpr (h x hx)
  rw [List.length_range] at this
  exact this
theorem cans_at {cans : List (List Nat)} {i : Nat} (h : i < cans.length) : atI (cans.map fun r => PyData.list (r.map natD)) (i : Int) = some (.list ((cans.getD i []).map natD)) := by
  rw [atI_map, atI_nat' (List.getElem?_eq_getElem h), List.getD_eq_getElem?_getD, List.getElem?_eq_getElem h]
  rfl
structure CansOk (cans : List (List Nat)) : Prop where
  few : cans.length ≤ 100
  row : ∀ q, ∀ p ∈ cans.getD q [], p < 1000
theorem if1 {p : Prop} [Decidable p] {a b : Prop} (h : p) (q : a) : if p then a else b := by rw [if_pos h]; exact q
theorem if0 {p : Prop} [Decidable p] {a b : Prop} (h : ¬ p) (q : b) : if p then a else b := by rw [if_neg h]; exact q
theorem f_led_on {cans : List (List Nat)} (ok : CansOk cans) : ∀ (d : Nat) {S : Sto} {hp sp one : Nat} {h : Held} {s : List Nat} (hne : hp ≠ sp) (eh : S hp = some (.dct (hK h))) (es : S sp = some (.dct (sK s))) (hc : cnt h s < d) (I : LInv h s one) (ho : one < cans.length) (hq : ∀ p q, look h p = some q → q < cans.length) (hl : h.length ≤ 1000) (nd : s.Nodup) (sb : ∀ x ∈ s, x < 1000) {P : PyData → List Sl → Prop}
    (q : ∀ S' s0 s1 s2 s3, (∀ a, a ≠ hp → a ≠ sp → S' a = S a) → S' hp = some (.dct (hK (ledOn cans d h one s).2.1)) → S' sp = some (.dct (sK (ledOn cans d h one s).2.2)) → P (.bool (ledOn cans d h one s).1) [s0, s1, s2, s3, .st S']), F_led_on d [.fz (cansD cans), .fz (hdl hp), .fz (natD one), .fz (hdl sp), .st S] P := by
  have lin : sizeLine = 16777216 := by decide +kernel
  intro d
  induction d with
  | zero => intro S hp sp one h s hne eh es hc; exact absurd hc (Nat.not_lt_zero _)
  | succ d ih =>
    intro S hp sp one h s hne eh es hc I ho hq hl nd sb P q
    unfold F_led_on
    walk_at "w"
    unfold cansD
    walk_at "w"
    refine ⟨_, cans_at ho, ?_⟩
    walk_at "w"
    have e0 : ledOn cans (d + 1) h one s = ledRow (ledOn cans d) one (cans.getD one []) h s := rfl
    rw [e0] at q
    have rowb := ok.row one
    generalize cans.getD one [] = row at q rowb
    refine for_map row natD (fun i ρ => ∃ S' s', ledRow (ledOn cans d) one row h s = ledRow (ledOn cans d) one (row.drop i) h s' ∧ (∀ a, a ≠ hp → a ≠ sp → S' a = S a) ∧ S' hp = some (.dct (hK h)) ∧ S' sp = some (.dct (sK s')) ∧ (∀ x ∈ s, x ∈ s') ∧ s'.Nodup ∧ (∀ x ∈ s', x < 1000) ∧ ρ = [.fz (cansD cans), .fz (hdl hp), .fz (natD one), .fz (hdl sp), .no, .st S']) rfl ⟨S, s, rfl, fun _ _ _ => rfl, eh, es, fun _ w => w, nd, sb, rfl⟩ ?_ ?_
    · rintro i p ρ hp' hi ⟨S', s', er, fr, eh', es', sub, nd', sb', rfl⟩
      have hpe : row[i] = p := by rw [List.getElem?_eq_getElem hi] at hp'; exact Option.some.inj hp'
      have pB : p < 1000 := rowb p (hpe ▸ List.getElem_mem hi)
      rw [List.drop_eq_getElem_cons hi, hpe] at er
      have lenS := below_len nd' sb'
      have c1 : cnt h s' < d + 1 := Nat.lt_of_le_of_lt (cnt_mono sub) hc
      have I1 : LInv h s' one := ⟨fun a b c ha hb => I.inj a b c (fun w => ha (sub _ w)) (fun w => hb (sub _ w)), fun a ha => I.no a fun w => ha (sub _ w)⟩
      have er : ledRow (ledOn cans d) one row h s = (if p ∈ s' then ledRow (ledOn cans d) one (row.drop (i + 1)) h s' else match look h p with
        | none => (true, hput h p one, s' ++ [p])
        | some q => match ledOn cans d h q (s' ++ [p]) with
          | (true, h2, s2) => (true, hput h2 p one, s2)
          | (false, h2, s2) => ledRow (ledOn cans d) one (row.drop (i + 1)) h2 s2) := er
      walk_at "w"
      unfold F_led_on_2
      walk_at "w"
      have vs : (valD (sK s') (.inl (p : Int))).isSome = decide (p ∈ s') := valD_sK p s'
      refine ⟨sp, _, rfl, es', ?_⟩
      rw [vs]
      by_cases ps : p ∈ s'
      · rw [if_pos ps] at er
        refine if0 (by rw [decide_eq_true ps]; exact fun w => nomatch w) ?_
        exact ⟨S', s', er, fr, eh', es', sub, nd', sb', rfl⟩
      · rw [if_neg ps] at er
        refine if1 (decide_eq_false ps) ?_
        refine ⟨sp, _, rfl, es', by rw [sK_len, lin]; omega, ?_⟩
        have pout : putE (sK s') (.inl (p : Int)) (.bool true) = sK (s' ++ [p]) := putE_sK ps
        have e1 : sset S' sp (.dct (putE (sK s') (.inl (p : Int)) (.bool true))) hp = some (.dct (hK h)) := by rw [sset_ne hne]; exact eh'
        refine ⟨hp, _, rfl, e1, ?_⟩
        have e2 : sset S' sp (.dct (putE (sK s') (.inl (p : Int)) (.bool true))) sp = some (.dct (sK (s' ++ [p]))) := by rw [sset_same, pout]
        have fr2 : ∀ a, a ≠ hp → a ≠ sp → sset S' sp (.dct (putE (sK s') (.inl (p : Int)) (.bool true))) a = S a := fun a h1 h2 => by rw [sset_ne h2]; exact fr a h1 h2
        generalize sset S' sp (.dct (putE (sK s') (.inl (p : Int)) (.bool true))) = S2 at e1 e2 fr2 ⊢
        have nd2 : (s' ++ [p]).Nodup := List.nodup_append.mpr ⟨nd', List.nodup_cons.mpr ⟨List.not_mem_nil, List.nodup_nil⟩, fun a ha b hb e => ps (by rw [← List.mem_singleton.mp hb, ← e]; exact ha)⟩
        have sb2 : ∀ x ∈ s' ++ [p], x < 1000 := fun x hx => by
          rcases List.mem_append.mp hx with w | w
          · exact sb' x w
          · rw [List.mem_singleton.mp w]; exact pB
        have sub2 : ∀ x ∈ s', x ∈ s' ++ [p] := fun x hx => List.mem_append_left _ hx
        have vh := valD_hK p h
        cases el : look h p with
        | none =>
          rw [el] at er vh
          have er : ledRow (ledOn cans d) one row h s = (true, hput h p one, s' ++ [p]) := er
          rw [er] at q
          refine if1 (by rw [vh]; rfl) ?_
          refine ⟨hp, _, rfl, e1, by rw [hK_len, lin]; omega, ?_⟩
          refine q _ _ _ _ _ (fun a h1 h2 => by rw [sset_ne h1]; exact fr2 a h1 h2) ?_ ?_
          · rw [sset_same, putE_hK]
          · rw [sset_ne hne.symm]; exact e2
        | some q1 =>
          rw [el] at er vh
          have er : ledRow (ledOn cans d) one row h s = match ledOn cans d h q1 (s' ++ [p]) with
            | (true, h2, s2) => (true, hput h2 p one, s2)
            | (false, h2, s2) => ledRow (ledOn cans d) one (row.drop (i + 1)) h2 s2 := er
          refine if0 (by rw [vh]; exact fun w => nomatch w) ?_
          have q1l := hq p q1 el
          have c2 : cnt h (s' ++ [p]) < d := by
            have := cnt_lt ps el
            omega
          have I2 : LInv h (s' ++ [p]) q1 := ⟨fun a b c ha hb => I1.inj a b c (fun w => ha (sub2 _ w)) (fun w => hb (sub2 _ w)), fun a ha hl => by
            have : a = p := I1.inj a p q1 (fun w => ha (sub2 _ w)) ps hl el
            exact ha (by rw [this]; exact List.mem_append_right _ (List.mem_singleton.mpr rfl))⟩
          refine ⟨hp, _, _, rfl, e1, vh, ?_⟩
          have LP := ledOn_post cans d h q1 (s' ++ [p]) c2 I2
          have N := ledOn_nd cans d h q1 (s' ++ [p]) nd2
          have M := ledOn_mem cans (Q := fun x => x < 1000) ok.row d h q1 (s' ++ [p]) sb2
          refine ih hne e1 e2 c2 I2 q1l hq hl nd2 sb2 fun S3 s0 s1 s2 s3 g1 g2 g3 => ?_
          revert LP N M g2 g3 er
          generalize ledOn cans d h q1 (s' ++ [p]) = res
          obtain ⟨b, h2, t2⟩ := res
          intro er LP N M g2 g3
          have g2 : S3 hp = some (.dct (hK h2)) := g2
          have g3 : S3 sp = some (.dct (sK t2)) := g3
          have fr3 : ∀ a, a ≠ hp → a ≠ sp → S3 a = S a := fun a h1 h2 => by rw [g1 a h1 h2]; exact fr2 a h1 h2
          cases b with
          | true =>
            have er : ledRow (ledOn cans d) one row h s = (true, hput h2 p one, t2) := er
            rw [er] at q
            refine if1 rfl ?_
            have := LP.len
            have : h2.length ≤ h.length + 1 := this
            refine ⟨hp, _, rfl, g2, by rw [hK_len, lin]; omega, ?_⟩
            refine q _ _ _ _ _ (fun a h1 h2 => by rw [sset_ne h1]; exact fr3 a h1 h2) ?_ ?_
            · rw [sset_same, putE_hK]
            · rw [sset_ne hne.symm]; exact g3
          | false =>
            have eh2 : h2 = h := (LP.no rfl).1
            subst eh2
            have er : ledRow (ledOn cans d) one row h2 s = ledRow (ledOn cans d) one (row.drop (i + 1)) h2 t2 := er
            refine if0 Bool.false_ne_true ?_
            exact ⟨S3, t2, er, fr3, g2, g3, fun x hx => LP.sub x (sub2 x (sub x hx)), N, M, rfl⟩
    · rintro ρ ⟨S', s', er, fr, eh', es', sub, nd', sb', rfl⟩
      rw [List.drop_length] at er
      have er : ledRow (ledOn cans d) one row h s = (false, h, s') := er
      rw [er] at q
      unfold F_led_on_1
      walk_at "w"
      exact q _ _ _ _ _ fr eh' es'
/-! ### words, things -/
def strsD (ws : List Str) : List PyData := ws.map .str
theorem flat_strsD (ws : List Str) : (strsD ws).all flatD = true := by
  unfold strsD
  rw [List.all_map]
  exact List.all_eq_true.mpr fun _ _ => rfl
theorem inD_strs (w : Str) (ws : List Str) : inD (.str w) (strsD ws) = decide (w ∈ ws) := by
  unfold inD strsD
  rw [List.any_map]
  refine Bool.eq_iff_iff.mpr ?_
  rw [List.any_eq_true, decide_eq_true_eq]
  constructor
  · rintro ⟨y, hy, e⟩
    have : y = w := eq_of_beq (show (y == w) = true from e)
    exact this ▸ hy
  · exact fun h => ⟨w, h, (beq_self_eq_true w : (w == w) = true)⟩
theorem name_fits {s : Str} (h : NameS s) : s.length ≤ 20 ∧ s.cps.all (· < 0x110000) = true := by
  refine ⟨by rw [len_tl]; have := h.most; omega, ?_⟩
  rw [← Array.all_toList]
  exact List.all_eq_true.mpr fun c hc => decide_eq_true (by have := h.small c hc; omega)
theorem okD_str {B : Nat} {s : Str} (h : NameS s) : okD B (.str s) = true := by
  unfold okD
  rw [decide_eq_true (name_fits h).1, (name_fits h).2]
  rfl
theorem th_strs {ws : List Str} (h : ∀ s ∈ ws, NameS s) : Th 0 0 ws.length (strsD ws) := by
  unfold strsD
  induction ws with
  | nil => exact ⟨rfl, Nat.le_refl _, Nat.le_refl _⟩
  | cons w r ih =>
    have a := Th.one (B := 0) (D := 0) (N := 1) (d := .str w) (okD_str (h w List.mem_cons_self)) (Nat.le_refl _) (Nat.le_refl _)
    exact (a.app (ih fun s hs => h s (List.mem_cons_of_mem _ hs))).mono (Nat.le_refl _) (Nat.le_refl _) (by rw [List.length_cons]; omega)
/-- a thing's words, marked -/
def thD (ws : List Str) : PyData := tnD (strsD ws)
theorem unAll_strs (ws : List Str) : unAll (strsD ws) = strsD ws := by
  rw [unAll_map]
  unfold strsD
  rw [List.map_map]
  refine List.map_congr_left fun s _ => ?_
  show unD (.str s) = .str s
  rw [unD] <;> (intros; contradiction)
theorem unD_th (ws : List Str) : unD (thD ws) = .tuple (strsD ws) := by
  unfold thD tnD
  rw [unD, unAll_strs]
theorem unAll_ths (ts : List (List Str)) : unAll (ts.map thD) = ts.map fun ws => .tuple (strsD ws) := by
  rw [unAll_map, List.map_map]
  exact List.map_congr_left fun ws _ => unD_th ws
theorem th_ths {M : Nat} {ts : List (List Str)} (h : ∀ ws ∈ ts, ws.length ≤ M ∧ ∀ s ∈ ws, NameS s) : Th 0 1 (ts.length * (M + 1)) (ts.map fun ws => PyData.tuple (strsD ws)) := by
  induction ts with
  | nil => exact ⟨rfl, Nat.zero_le _, Nat.zero_le _⟩
  | cons w r ih =>
    obtain ⟨h1, h2⟩ := h w List.mem_cons_self
    obtain ⟨a1, a2, a3⟩ := th_strs h2
    have a := Th.one (B := 0) (D := 1) (N := M + 1) (d := .tuple (strsD w)) a1 (by show PyData.depthAll _ + 1 ≤ 1; omega) (by show nodesAll _ + 1 ≤ M + 1; omega)
    refine (a.app (ih fun s hs => h s (List.mem_cons_of_mem _ hs))).mono (Nat.le_refl _) (Nat.le_refl _) ?_
    rw [List.length_cons, Nat.add_mul, Nat.one_mul]
    omega
theorem Th.shapedL {B D N : Nat} {ds : List PyData} (h : Th B D N ds) (hB : B ≤ 1000000000) (hD : D ≤ 60) : SeqAt.shaped (.list ds) = true := by
  obtain ⟨h1, _⟩ := okAll.facts hB h.ok
  have := h.dp
  show (PyData.canLayAll0 ds && decide (PyData.depthAll ds + 1 ≤ 64)) = true
  rw [h1, decide_eq_true (by omega)]
  rfl
theorem Th.shapedT {B D N : Nat} {ds : List PyData} (h : Th B D N ds) (hB : B ≤ 1000000000) (hD : D ≤ 60) : SeqAt.shaped (.tuple ds) = true := by
  obtain ⟨h1, _⟩ := okAll.facts hB h.ok
  have := h.dp
  show (PyData.canLayAll0 ds && decide (PyData.depthAll ds + 1 ≤ 64)) = true
  rw [h1, decide_eq_true (by omega)]
  rfl
theorem eqv_nilL (ds : List PyData) : PyData.eqv (.list ds) (.list []) = ds.isEmpty := by cases ds <;> rfl
/-- how many of a text's kind -/
theorem cnt_strs (w : Str) (ws : List Str) : decide (0 < (((strsD ws).countP fun z => PyData.eqv z (.str w)) : Nat)) = decide (w ∈ ws) := by
  have := inD_strs w ws
  unfold inD at this
  rw [← this]
  refine Bool.eq_iff_iff.mpr ?_
  rw [decide_eq_true_eq, List.any_eq_true, List.countP_pos_iff]
theorem erase_map {α β : Type} (f : α → β) : ∀ (xs : List α) (k : Nat), (xs.map f).eraseIdx k = (xs.eraseIdx k).map f
  | [], _ => rfl
  | _ :: _, 0 => rfl
  | x :: r, k + 1 => by
    show f x :: (r.map f).eraseIdx k = f x :: (r.eraseIdx k).map f
    rw [erase_map f r k]
/-- rising words of a pool -/
theorem f_some_words {ds : List PyData} {n m : Nat} {ss : List Str} (hb : BoxD ds n) (hn : n < 100000000) (hm : m ≤ 20) (l1 : ss.length ≤ 200) {P : PyData → List Sl → Prop}
    (h : ∀ (ws : List Str) ds' sl, ws.length ≤ m → (∀ s ∈ ws, s ∈ ss) → BoxD ds' (n + 21) → P (thD ws) (.own ds' :: sl)) : F__law_some_words [.own ds, .fz (.list (ss.map .str)), .fz (.int (m : Int))] P := by
  have lin : sizeLine = 16777216 := by decide +kernel
  unfold F__law_some_words
  walk_at "w"
  rw [List.length_map]
  refine take_step hb (by split <;> omega) (by split <;> omega) (by omega) fun r1 d1 a1 c1 b1 => ⟨by omega, by split at c1 <;> omega, ?_⟩
  obtain ⟨k1, rfl⟩ := Int.eq_ofNat_of_zero_le a1
  have hk : k1 ≤ ss.length ∧ k1 ≤ m := by split at c1 <;> omega
  rw [Int.toNat_natCast]
  refine for_range (fun i ρ => ∃ (l f : List Str) (d2 : List PyData), l.length + i = ss.length ∧ f.length = i ∧ (∀ s ∈ l, s ∈ ss) ∧ (∀ s ∈ f, s ∈ ss) ∧ BoxD d2 (n + 1 + i) ∧ ρ = [.own d2, .fz (.list (ss.map .str)), .fz (.int (m : Int)), .own (l.map .str), .own (f.map .str), .no]) ⟨ss, [], d1, rfl, rfl, fun _ h => h, by simp, b1, rfl⟩ ?_ ?_
  · rintro i ρ hi ⟨l, f, d2, q1, q2, q3, q4, q5, rfl⟩
    unfold F__law_some_words_2
    walk_at "w"
    rw [List.length_map]
    refine take_step q5 (by omega) (by omega) (by omega) fun r2 d3 a2 c2 b2 => ⟨by omega, by omega, ?_⟩
    obtain ⟨k2, rfl⟩ := Int.eq_ofNat_of_zero_le a2
    have hk2 : k2 < l.length := by omega
    refine ⟨k2, .str l[k2], ?_, by rw [List.getElem?_map, List.getElem?_eq_getElem hk2]; rfl, by rw [List.length_map]; omega, l.eraseIdx k2, f ++ [l[k2]], d3, ?_, by rw [List.length_append, q2]; rfl, fun s hs => q3 s (List.mem_of_mem_eraseIdx hs), fun s hs => ?_, b2.mono (by omega), rfl, ?_, by rw [List.map_append]; rfl⟩
    · exact PySem.seqIndex_of (by omega) (by omega)
    · rw [List.length_eraseIdx_of_lt hk2]; omega
    · rcases List.mem_append.mp hs with h | h
      · exact q4 s h
      · rw [List.mem_singleton.mp h]; exact q3 _ (List.getElem_mem hk2)
    · rw [erase_map]
  · rintro ρ ⟨l, f, d2, q1, q2, q3, q4, q5, rfl⟩
    unfold F__law_some_words_1
    walk_at "w"
    refine strsF_map ⟨by omega, fun ms pm _ => ?_⟩
    exact h ms d2 _ (by rw [pm.length_eq]; omega) (fun s hs => q4 s (pm.mem_iff.mp hs)) (q5.mono (by omega))
/-- things -/
theorem f_things {ds : List PyData} {n m : Nat} {ss : List Str} (hb : BoxD ds n) (hn : n < 10000000) (hm : m ≤ 50) (l1 : ss.length ≤ 200) (hs : ∀ s ∈ ss, NameS s) {P : PyData → List Sl → Prop}
    (h : ∀ (ts : List (List Str)) ds' sl, ts.length = m → (∀ ws ∈ ts, ws.length ≤ 6 ∧ ∀ s ∈ ws, s ∈ ss) → BoxD ds' (n + 23 * m) → P (.list (ts.map thD)) (.own ds' :: sl)) : F__law_things [.own ds, .fz (.list (ss.map .str)), .fz (.int (m : Int))] P := by
  have lin : sizeLine = 16777216 := by decide +kernel
  unfold F__law_things
  walk_at "w"
  refine ⟨by omega, by omega, ?_⟩
  rw [Int.toNat_natCast]
  refine for_range (fun i ρ => ∃ (ts : List (List Str)) (d2 : List PyData), ts.length = i ∧ (∀ ws ∈ ts, ws.length ≤ 6 ∧ ∀ s ∈ ws, s ∈ ss) ∧ BoxD d2 (n + 23 * i) ∧ ρ = [.own d2, .fz (.list (ss.map .str)), .fz (.int (m : Int)), .own (ts.map thD), .no]) ⟨[], ds, rfl, by simp, hb, rfl⟩ ?_ ?_
  · rintro i ρ hi ⟨ts, d2, q1, q2, q3, rfl⟩
    unfold F__law_things_2
    walk_at "w"
    refine take_step q3 (by decide) (by decide) (by omega) fun r1 d3 a1 c1 b1 => ?_
    have add : ∀ (ws : List Str) (d' : List PyData), (ws.length ≤ 6 ∧ ∀ s ∈ ws, s ∈ ss) → BoxD d' (n + 23 * (i + 1)) → (ts.map thD).length < sizeLine ∧ ∃ (ts' : List (List Str)) (d2 : List PyData), ts'.length = i + 1 ∧ (∀ ws ∈ ts', ws.length ≤ 6 ∧ ∀ s ∈ ws, s ∈ ss) ∧ BoxD d2 (n + 23 * (i + 1)) ∧ Sl.own d' = Sl.own d2 ∧ Sl.own (ts.map thD ++ [thD ws]) = Sl.own (ts'.map thD) := fun ws d' hw b' =>
      ⟨by rw [List.length_map]; omega, ts ++ [ws], d', by rw [List.length_append, q1]; rfl, fun x hx => by
        rcases List.mem_append.mp hx with h | h
        · exact q2 x h
        · rw [List.mem_singleton.mp h]; exact hw, b', rfl, by rw [List.map_append]; rfl⟩
    have sh : SeqAt.shaped (.list (unAll (ts.map thD))) = true := by
      rw [unAll_ths]
      exact (th_ths (M := 6) fun ws hw => ⟨(q2 ws hw).1, fun s h => hs s ((q2 ws hw).2 s h)⟩).shapedL (by decide) (by decide)
    by_cases c0 : r1 = 0
    · rw [if_pos c0]
      refine ⟨sh, rfl, ?_⟩
      rw [eqv_nilL, unAll_ths]
      cases ts with
      | nil =>
        rw [if_neg (by rintro ⟨⟩)]
        exact f_some_words (m := 6) b1 (by omega) (by decide) l1 fun ws d4 sl w1 w2 b4 => add ws d4 ⟨w1, w2⟩ (b4.mono (by omega))
      | cons t0 tr =>
        rw [if_pos (by rfl)]
        refine take_step b1 (by rw [List.length_map, List.length_cons]; omega) (by rw [List.length_map]; omega) (by omega) fun r2 d4 a2 c2 b2 => ?_
        rw [List.length_map] at c2
        obtain ⟨k2, rfl⟩ := Int.eq_ofNat_of_zero_le a2
        have hk2 : k2 < (t0 :: tr).length := by omega
        exact ⟨thD (t0 :: tr)[k2], by rw [atI_map, atI_nat' (List.getElem?_eq_getElem hk2)]; rfl, add _ d4 (q2 _ (List.getElem_mem hk2)) (b2.mono (by omega))⟩
    · rw [if_neg c0]
      exact f_some_words (m := 6) b1 (by omega) (by decide) l1 fun ws d4 sl w1 w2 b4 => add ws d4 ⟨w1, w2⟩ (b4.mono (by omega))
  · rintro ρ ⟨ts, d2, q1, q2, q3, rfl⟩
    unfold F__law_things_1
    walk_at "w"
    exact h ts d2 _ q1 q2 q3
theorem nodup_le {α : Type} : ∀ {xs ys : List α}, xs.Nodup → (∀ x ∈ xs, x ∈ ys) → xs.length ≤ ys.length
  | [], _, _, _ => Nat.zero_le _
  | x :: r, ys, nd, h => by
    classical
    obtain ⟨n1, n2⟩ := List.nodup_cons.mp nd
    obtain ⟨a, b, rfl⟩ := List.append_of_mem (h x List.mem_cons_self)
    have := nodup_le (xs := r) (ys := a ++ b) n2 fun z hz => by
      rcases List.mem_append.mp (h z (List.mem_cons_of_mem _ hz)) with q | q
      · exact List.mem_append_left _ q
      · rcases List.mem_cons.mp q with q | q
        · exact absurd (q ▸ hz) n1
        · exact List.mem_append_right _ q
    rw [List.length_append] at this
    rw [List.length_append, List.length_cons, List.length_cons]
    omega
/-- a find's words -/
theorem f_find {ds : List PyData} {n : Nat} {ss : List Str} {ts : List (List Str)} (hb : BoxD ds n) (hn : n < 10000000) (l0 : 0 < ss.length) (l1 : ss.length ≤ 200) (hs : ∀ s ∈ ss, NameS s) (l2 : ts.length ≤ 100) (ht : ∀ ws ∈ ts, ws.length ≤ 6 ∧ ∀ s ∈ ws, s ∈ ss) {P : PyData → List Sl → Prop}
    (h : ∀ (fs : List Str) ds' sl, fs.length ≤ 6 → (∀ s ∈ fs, s ∈ ss) → BoxD ds' (n + 30) → P (.tuple (strsD fs)) (.own ds' :: sl)) : F__law_find [.own ds, .fz (.list (ss.map .str)), .fz (.list (ts.map thD))] P := by
  have lin : sizeLine = 16777216 := by decide +kernel
  have sh : SeqAt.shaped (unD (.list (ts.map thD))) = true := by
    rw [unD, unAll_ths]
    exact (th_ths (M := 6) fun ws hw => ⟨(ht ws hw).1, fun s h => hs s ((ht ws hw).2 s h)⟩).shapedL (by decide) (by decide)
  have em : PyData.eqv (unD (.list (ts.map thD))) (.list []) = ts.isEmpty := by
    rw [unD, eqv_nilL, unAll_ths]
    cases ts <;> rfl
  unfold F__law_find
  walk_at "w"
  refine take_step hb (by decide) (by decide) (by omega) fun r1 d1 a1 c1 b1 => ?_
  have new : ∀ {a b : Sl}, F__law_some_words [Sl.own d1, Sl.fz (PyData.list (List.map PyData.str ss)), Sl.fz (PyData.int 6)] fun d out => P (unT d) [out.headD Sl.no, a, b] := fun {a b} =>
    f_some_words (m := 6) b1 (by omega) (by decide) l1 fun ws d4 sl w1 w2 b4 => h ws d4 _ w1 w2 (b4.mono (by omega))
  by_cases c0 : r1 = 0
  · rw [if_pos c0]
    exact new
  rw [if_neg c0, em]
  refine ⟨sh, rfl, ?_⟩
  cases ts with
  | nil =>
    rw [if_pos (by rfl)]
    exact new
  | cons t0 tr =>
    rw [if_neg (by rintro ⟨⟩)]
    generalize hts : t0 :: tr = ts at *
    have lt : 0 < ts.length := by rw [← hts]; exact Nat.succ_pos _
    unfold F__law_find_4
    walk_at "w"
    rw [List.length_map]
    refine take_step b1 (by omega) (by omega) (by omega) fun r2 d2 a2 c2 b2 => ?_
    obtain ⟨k2, rfl⟩ := Int.eq_ofNat_of_zero_le a2
    have hk2 : k2 < ts.length := by omega
    refine ⟨thD ts[k2], by rw [atI_map, atI_nat' (List.getElem?_eq_getElem hk2)]; rfl, ?_⟩
    obtain ⟨w6, wss⟩ := ht _ (List.getElem_mem hk2)
    generalize ts[k2] = ws at w6 wss
    have wss' : ∀ s ∈ ws, s ∈ ss := wss
    clear sh em
    by_cases c3 : r1 < 3
    · rw [if_pos c3]
      have h12 : r1 = 1 ∨ r1 = 2 := by omega
      rcases h12 with rfl | rfl
      · exact ⟨.tuple [], at0, h [] d2 _ (Nat.zero_le _) (by simp) (b2.mono (by omega))⟩
      · exact ⟨.tuple (strsD ws), at1, h ws d2 _ w6 wss (b2.mono (by omega))⟩
    · rw [if_neg c3]
      unfold F__law_find_3
      walk_at "w"
      have e : ∀ (P : List PyData → Prop), tupleF (unT (thD ws)) P = P (strsD ws) := fun P => rfl
      refine lc_inv ws PyData.str (fun j acc ρ => ∃ (fs : List Str) (d3 : List PyData), fs.length ≤ j ∧ (∀ s ∈ fs, s ∈ ss) ∧ BoxD d3 (n + 2 + j) ∧ acc = fs.map .str ∧ ρ = [.own d3, .fz (.list (ss.map .str)), .fz (.list (ts.map thD)), .fz (.int r1), .fz (thD ws), .no, .no]) rfl rfl ⟨[], d2, Nat.le_refl _, by simp, b2, rfl, rfl⟩ ?_ ?_
      · rintro j x acc ρ hx hj ⟨fs, d3, q1, q2, q3, rfl, rfl⟩
        unfold F__law_find_2
        walk_at "w"
        refine take_step q3 (by decide) (by decide) (by omega) fun r3 d4 a3 c3 b3 => ?_
        have xm : x ∈ ss := wss x (List.mem_of_getElem? hx)
        by_cases c4 : r3 = 0
        · rw [if_pos c4]
          refine ⟨by rw [List.length_map]; omega, fs ++ [x], d4, by rw [List.length_append]; show fs.length + 1 ≤ _; omega, fun s hs' => ?_, b3.mono (by omega), by rw [List.map_append]; rfl, rfl⟩
          rcases List.mem_append.mp hs' with h | h
          · exact q2 s h
          · rw [List.mem_singleton.mp h]; exact xm
        · rw [if_neg c4]
          exact ⟨fs, d4, by omega, q2, b3.mono (by omega), rfl, rfl⟩
      · rintro acc ρ ⟨fs, d3, q1, q2, q3, rfl, e⟩
        rw [e]
        have fin : ∀ (fs : List Str) (d4 : List PyData), fs.length ≤ 6 → (∀ s ∈ fs, s ∈ ss) → BoxD d4 (n + 10) → F__law_find_1 { nx := fun _ => False, rt := fun d ρ => P d (ρ.take 3), ro := fun _ _ => False } [.own d4, .fz (.list (ss.map .str)), .fz (.list (ts.map thD)), .fz (.int r1), .fz (thD ws), .own (fs.map .str), .no] := by
          intro fs d4 f1 f2 f3
          unfold F__law_find_1
          walk_at "w"
          refine strsF_map ⟨by omega, fun ms _ nd hm => ?_⟩
          exact h ms d4 _ (Nat.le_trans (nodup_le nd fun z hz => (hm z).mp hz) f1) (fun s hs' => f2 s ((hm s).mp hs')) (f3.mono (by omega))
        walk_at "w"
        rw [List.length_map, List.length_map]
        have fl : fs.length ≤ 6 := by omega
        by_cases c4 : r1 = 3
        · rw [if_pos c4]
          by_cases c5 : (fs.length : Int) < 6
          · rw [if_pos c5]
            refine take_step q3 (by omega) (by omega) (by omega) fun r3 d4 a3 c3 b3 => ?_
            obtain ⟨k3, rfl⟩ := Int.eq_ofNat_of_zero_le a3
            have hk3 : k3 < ss.length := by omega
            refine ⟨.str ss[k3], by rw [atI_map, atI_nat' (List.getElem?_eq_getElem hk3)]; rfl, by omega, ?_⟩
            have := fin (fs ++ [ss[k3]]) d4 (by rw [List.length_append]; show fs.length + 1 ≤ _; omega) (fun s hs' => by
              rcases List.mem_append.mp hs' with h | h
              · exact q2 s h
              · rw [List.mem_singleton.mp h]; exact List.getElem_mem hk3) (b3.mono (by omega))
            rw [List.map_append] at this
            exact this
          · rw [if_neg c5]
            exact fin fs d3 fl q2 (q3.mono (by omega))
        · rw [if_neg c4]
          exact fin fs d3 fl q2 (q3.mono (by omega))
/-! k29 -/
theorem pairUp_at {cans : List (List Nat)} {D k : Nat} {h : Held} (hk : k < cans.length) : pairUp cans D (cans.length - k) h k = match ledOn cans D h k [] with
    | (true, h', _) => pairUp cans D (cans.length - (k + 1)) h' (k + 1)
    | (false, h', s') => (h', some (k :: s'.map fun p => (look h' p).getD 0)) := by
  rw [show cans.length - k = (cans.length - (k + 1)) + 1 by omega]
  rfl
theorem ints_nats {cs : List Nat} {k : List Int → Prop} (h : k (cs.map fun n : Nat => (n : Int))) : intsF (cs.map natD) k := by
  rw [show cs.map natD = (cs.map fun n : Nat => (n : Int)).map PyData.int from by rw [List.map_map]; rfl]
  exact intsF_map h
theorem perm_nat {ms : List Int} {X : List Nat} (p : ms.Perm (X.map fun n : Nat => (n : Int))) : ∃ Y : List Nat, ms = Y.map (fun n : Nat => (n : Int)) ∧ Y.Perm X := by
  refine ⟨ms.map Int.toNat, ?_, ?_⟩
  · rw [List.map_map]
    refine (List.map_id'' (fun _ => rfl) ms).symm.trans (List.map_congr_left fun m hm => ?_)
    obtain ⟨n, _, rfl⟩ := List.mem_map.mp (p.mem_iff.mp hm)
    rfl
  · have := p.map Int.toNat
    rw [List.map_map, show (Int.toNat ∘ fun n : Nat => (n : Int)) = id from rfl, List.map_id] at this
    exact this
theorem sorted_nat {Y : List Nat} (p : (Y.map fun n : Nat => (n : Int)).Pairwise (· ≤ ·)) : Y.Pairwise (· ≤ ·) := (List.pairwise_map.mp p).imp fun h => Int.ofNat_le.mp h
theorem f_paired_off {cans : List (List Nat)} (ok : CansOk cans) (few : cans.length ≤ 12) {S : Sto} {P : PyData → List Sl → Prop}
    (q0 : lacking cans 12 = none → ∀ hp S' s0, P (.tuple [hdl hp, .none]) [s0, .st S'])
    (q1 : ∀ X Y : List Nat, lacking cans 12 = some X → Y.Perm X → Y.Pairwise (· ≤ ·) → ∀ hp S' s0, P (.tuple [hdl hp, .list (natsD Y)]) [s0, .st S']) : F_paired_off [.fz (cansD cans), .st S] P := by
  have lin : sizeLine = 16777216 := by decide +kernel
  unfold F_paired_off
  walk_at "w"
  intro hp hS
  unfold cansD
  walk_at "w"
  rw [List.length_map, show ((cans.length : Int)).toNat = cans.length from rfl]
  refine ⟨by omega, by omega, ?_⟩
  refine for_range (fun k ρ => ∃ S h, Good cans h k ∧ S hp = some (.dct (hK h)) ∧ lacking cans 12 = (pairUp cans 12 (cans.length - k) h k).2 ∧ ρ = [.fz (cansD cans), .fz (hdl hp), .no, .no, .no, .st S]) ⟨_, [], good_nil cans, sset_same, rfl, rfl⟩ ?_ ?_
  · rintro k ρ hk ⟨S2, h, g, eh, el, rfl⟩
    rw [Int.zero_add]
    rw [pairUp_at hk] at el
    walk_at "w"
    unfold F_paired_off_3
    walk_at "w"
    intro sp hsp
    have hne : hp ≠ sp := fun e => by rw [e, hsp] at eh; cases eh
    have e1 : sset S2 sp (.dct []) hp = some (.dct (hK h)) := by rw [sset_ne hne]; exact eh
    have e2 : sset S2 sp (.dct []) sp = some (.dct (sK [])) := sset_same
    generalize sset S2 sp (.dct []) = S3 at e1 e2
    walk_at "w"
    have LP := g.step (D := 12) (by omega)
    have NX := fun h' s' => g.next (D := 12) (by omega) (h' := h') (s' := s')
    have gl := g.len
    refine f_led_on ok 12 hne e1 e2 (by rw [cnt_nil]; omega) ⟨fun a b c _ _ => g.inj a b c, fun p _ hl => Nat.lt_irrefl _ ((g.img k).mp ⟨p, hl⟩)⟩ hk (fun p c hl => Nat.lt_trans ((g.img c).mp ⟨p, hl⟩) hk) (by omega) List.nodup_nil (fun x hx => absurd hx List.not_mem_nil) fun S4 s0 s1 s2 s3 g1 g2 g3 => ?_
    have N := ledOn_nd cans 12 h k [] List.nodup_nil
    have M := ledOn_mem cans (Q := fun x => x < 1000) ok.row 12 h k [] fun x hx => absurd hx List.not_mem_nil
    revert el LP NX N M g2 g3
    generalize ledOn cans 12 h k [] = res
    obtain ⟨b, h2, t2⟩ := res
    intro el LP NX g2 g3 N M
    have g2 : S4 hp = some (.dct (hK h2)) := g2
    have g3 : S4 sp = some (.dct (sK t2)) := g3
    cases b with
    | true =>
      refine if0 (fun w => nomatch w) ?_
      exact ⟨S4, h2, NX _ _ rfl, g2, el, rfl⟩
    | false =>
      have el : lacking cans 12 = some (k :: t2.map fun p => (look h2 p).getD 0) := el
      refine if1 rfl ?_
      obtain ⟨p1, p2, p3⟩ := LP.no rfl
      have p1 : h2 = h := p1
      subst p1
      have p3 : ∀ p ∈ t2, ∃ q, look h2 p = some q ∧ ∀ x ∈ cans.getD q [], x ∈ t2 := fun p hp => p3 p hp List.not_mem_nil
      have N : t2.Nodup := N
      have M : ∀ x ∈ t2, x < 1000 := M
      have tl := below_len N M
      refine ⟨sp, S4, sK t2, rfl, rfl, g3, ?_⟩
      refine ⟨rfl, ?_⟩
      refine lc_map t2 natD (fun p => some (natD ((look h2 p).getD 0))) (by unfold sK; rw [List.map_map]; rfl) rfl (by rw [lin]; omega) (fun p R acc hp1 hacc hR => ?_) ?_
      · obtain ⟨c, hc, _⟩ := p3 p hp1
        rw [hc] at hR
        walk_at "w"
        unfold F_paired_off_2
        have e3 : sdel S4 sp hp = some (.dct (hK h2)) := by rw [sdel_ne hne]; exact g2
        have vh := valD_hK p h2
        rw [hc] at vh
        walk_at "w"
        exact ⟨hp, _, _, rfl, e3, vh, hacc, hR⟩
      · rw [filterMap_some]
        walk_at "w"
        have e4 : PyData.int (k : Int) :: t2.map (fun p => natD ((look h2 p).getD 0)) = (k :: t2.map fun p => (look h2 p).getD 0).map fun n : Nat => PyData.int ((n : Nat) : Int) := by rw [List.map_cons, List.map_map]; rfl
        refine ⟨by rw [List.length_map, lin]; omega, ?_⟩
        rw [e4, show (k :: t2.map fun p => (look h2 p).getD 0).map (fun n : Nat => PyData.int ((n : Nat) : Int)) = (k :: t2.map fun p => (look h2 p).getD 0).map natD from rfl]
        refine ints_nats fun ms pm pw => ?_
        obtain ⟨Y, rfl, py⟩ := perm_nat pm
        have := q1 _ Y el py (sorted_nat pw) hp
        unfold natsD at this
        rw [List.map_map]
        exact this _ _
  · rintro ρ ⟨S2, h, g, eh, el, rfl⟩
    rw [Nat.sub_self] at el
    unfold F_paired_off_1
    walk_at "w"
    exact q0 el _ _ _
theorem f_short_by {cans : List (List Nat)} (ok : CansOk cans) (few : cans.length ≤ 12) {S : Sto} {P : PyData → List Sl → Prop}
    (q0 : lacking cans 12 = none → ∀ S' s0, P .none [s0, .st S'])
    (q1 : ∀ X Y : List Nat, lacking cans 12 = some X → Y.Perm X → Y.Pairwise (· ≤ ·) → ∀ S' s0, P (.list (natsD Y)) [s0, .st S']) : F_short_by [.fz (cansD cans), .st S] P := by
  unfold F_short_by
  walk_at "w"
  refine f_paired_off ok few (fun e hp S' s0 => ?_) fun X Y e p1 p2 hp S' s0 => ?_
  · exact ⟨_, rfl, q0 e _ _⟩
  · exact ⟨_, rfl, q1 X Y e p1 p2 _ _⟩
theorem f_with_place {cans : List (List Nat)} {one place : Nat} (few : cans.length ≤ 12) {P : PyData → List Sl → Prop} (q : ∀ sl, P (cansD (withP cans one place)) sl) : F_with_place [.fz (cansD cans), .fz (natD one), .fz (natD place)] P := by
  have lin : sizeLine = 16777216 := by decide +kernel
  unfold F_with_place cansD
  walk_at "w"
  rw [show ((one : Int) + 1) = ((one + 1 : Nat) : Int) from rfl, cutD_take, cutD_drop]
  refine ⟨?_, ?_, ?_⟩
  · rw [List.length_map, List.length_take, lin]; omega
  · rw [List.length_append, List.length_map, List.length_map, List.length_take, List.length_drop, List.length_singleton, lin]; omega
  · have e : cansD (withP cans one place) = .list (((cans.take one).map fun r => PyData.list (r.map natD)) ++ [PyData.list [natD place]] ++ (cans.drop (one + 1)).map fun r => PyData.list (r.map natD)) := by
      unfold cansD withP
      rw [List.map_append, List.map_append]
      rfl
    rw [← e]
    exact q _
theorem with_ok {cans : List (List Nat)} (ok : CansOk cans) {one p : Nat} (ho : one < cans.length) (hp : p < 1000) : CansOk (withP cans one p) := by
  refine ⟨by rw [withP_len ho]; exact ok.few, fun q x hx => ?_⟩
  rw [withP_get ho] at hx
  split at hx
  · rw [List.mem_singleton.mp hx]; exact hp
  · exact ok.row q x hx
theorem f_least_place {cans : List (List Nat)} (ok : CansOk cans) (few : cans.length ≤ 12) {one : Nat} (ho : one < cans.length) (hr : (cans.getD one []).length ≤ 1000) (pm : PM cans) {P : PyData → List Sl → Prop} (q : ∀ p sl, p ∈ cans.getD one [] → PM (withP cans one p) → P (natD p) sl) : F_least_place [.fz (cansD cans), .fz (natD one)] P := by
  have lin : sizeLine = 16777216 := by decide +kernel
  unfold F_least_place
  walk_at "w"
  unfold cansD
  walk_at "w"
  refine ⟨_, cans_at ho, ?_⟩
  walk_at "w"
  have rowb := ok.row one
  have pmw := (pm_with ho).mp pm
  generalize cans.getD one [] = row at q rowb pmw hr
  refine for_map row natD (fun i ρ => (∀ p ∈ row.take i, ¬ PM (withP cans one p)) ∧ ρ = [.fz (cansD cans), .fz (natD one), .no]) rfl ⟨fun p hp => absurd hp (by rw [List.take_zero]; exact List.not_mem_nil), rfl⟩ ?_ ?_
  · rintro i p ρ hp hi ⟨w, rfl⟩
    have pm' := List.mem_of_getElem? hp
    have tk : row.take (i + 1) = row.take i ++ [p] := by rw [List.take_add_one, hp]; rfl
    walk_at "w"
    unfold F_least_place_2
    walk_at "w"
    refine f_with_place few fun sl => ?_
    walk_at "w"
    refine f_short_by (with_ok ok ho (rowb p pm')) (by rw [withP_len ho]; exact few) (fun e S' s0 => ?_) fun X Y e p1 p2 S' s0 => ?_
    · refine ⟨S', _, rfl, .refl _, ?_⟩
      exact if1 rfl (q p _ pm' ((lacking_none (by rw [withP_len ho]; exact few)).mp e))
    · refine ⟨S', _, rfl, .refl _, ?_⟩
      refine if0 Bool.false_ne_true ?_
      intro x hx
      rw [tk] at hx
      rcases List.mem_append.mp hx with h | h
      · exact w x h
      · rw [List.mem_singleton.mp h]
        intro h
        rw [(lacking_none (by rw [withP_len ho]; exact few)).mpr h] at e
        cases e
  · rintro ρ ⟨w, rfl⟩
    obtain ⟨p, h1, h2⟩ := pmw
    rw [List.take_length] at w
    exact absurd h2 (w p h1)
theorem f_first_pairing {cans : List (List Nat)} (ok : CansOk cans) (few : cans.length ≤ 12) (hr : ∀ q, (cans.getD q []).length ≤ 1000) (pm : PM cans) {P : PyData → List Sl → Prop} (q : ∀ (ps : List Nat) sl, ps.length = cans.length → (∀ p ∈ ps, p < 1000) → P (.list (natsD ps)) sl) : F_first_pairing [.fz (cansD cans)] P := by
  have lin : sizeLine = 16777216 := by decide +kernel
  unfold F_first_pairing cansD
  walk_at "w"
  rw [List.length_map, show ((cans.length : Int)).toNat = cans.length from rfl]
  refine ⟨by omega, by omega, ?_⟩
  refine for_range (fun k ρ => ∃ left, left.length = cans.length ∧ CansOk left ∧ (∀ q, (left.getD q []).length ≤ 1000) ∧ PM left ∧ ρ = [.fz (cansD cans), .fz (cansD left), .no, .no]) ⟨cans, rfl, ok, hr, pm, rfl⟩ ?_ ?_
  · rintro k ρ hk ⟨left, ll, lok, lr, lpm, rfl⟩
    rw [Int.zero_add]
    walk_at "w"
    unfold F_first_pairing_3
    walk_at "w"
    refine f_least_place lok (by rw [ll]; exact few) (by rw [ll]; exact hk) (lr _) lpm fun p sl hp pmp => ?_
    walk_at "w"
    refine f_with_place (by rw [ll]; exact few) fun sl => ?_
    walk_at "w"
    have hk' : k < left.length := by rw [ll]; exact hk
    refine ⟨withP left k p, by rw [withP_len hk', ll], with_ok lok hk' (lok.row _ _ hp), fun q => ?_, pmp, rfl⟩
    rw [withP_get hk']
    split
    · exact Nat.le_of_ble_eq_true rfl
    · exact lr q
  · rintro ρ ⟨left, ll, lok, lr, ⟨f, f1, f2⟩, rfl⟩
    unfold F_first_pairing_2 cansD
    walk_at "w"
    have ne : ∀ row ∈ left, row ≠ [] := fun row hrow e => by
      obtain ⟨i, hi, rfl⟩ := List.getElem_of_mem hrow
      have := f1 i hi
      rw [List.getD_eq_getElem?_getD, List.getElem?_eq_getElem hi] at this
      rw [show (some left[i]).getD [] = left[i] from rfl, e] at this
      exact absurd this List.not_mem_nil
    refine lc_map left (fun r => PyData.list (r.map natD)) (fun r => some (natD (r.headD 0))) rfl rfl (by rw [lin]; omega) (fun r R acc hr hacc hR => ?_) ?_
    · have := ne r hr
      walk_at "w"
      unfold F_first_pairing_1
      walk_at "w"
      cases r with
      | nil => exact absurd rfl this
      | cons x t => exact ⟨natD x, by rw [show (0 : Int) = ((0 : Nat) : Int) from rfl, atI_map, atI_nat' (show (x :: t)[0]? = some x from rfl)]; rfl, hacc, hR⟩
    · rw [filterMap_some]
      have e : left.map (fun r => natD (r.headD 0)) = natsD (left.map fun r => r.headD 0) := by unfold natsD; rw [List.map_map]; rfl
      rw [e]
      walk_at "w"
      refine q _ _ (by rw [List.length_map, ll]) fun p hp => ?_
      obtain ⟨r, hr, rfl⟩ := List.mem_map.mp hp
      have n := ne r hr
      obtain ⟨i, hi, rfl⟩ := List.getElem_of_mem hr
      have rb := lok.row i
      rw [List.getD_eq_getElem?_getD, List.getElem?_eq_getElem hi] at rb
      have rb : ∀ x ∈ left[i], x < 1000 := rb
      generalize left[i] = r at n rb
      cases r with
      | nil => exact absurd rfl n
      | cons x t => exact rb x List.mem_cons_self
/-! finds of things -/
theorem f_can_be_1 {w : Str} {ws : List Str} {P : PyData → En → Prop} {a b c : PyData} (h : P (.bool (decide (w ∈ ws))) [.fz a, .fz b, .fz c, .fz (thD ws), .fz (.str w)]) : F_can_be_1 [.fz a, .fz b, .fz c, .fz (thD ws), .fz (.str w)] P := by
  unfold F_can_be_1
  walk_at "w"
  refine ⟨rfl, flat_strsD ws, ?_⟩
  rw [inD_strs]
  exact h
def hasAll (ws fs : List Str) : Bool := fs.all fun w => decide (w ∈ ws)
def canBe (ts : List (List Str)) (fs : List Str) : List Nat := (ts.zipIdx.filter fun z => hasAll z.1 fs).map (·.2)
theorem enumD_th (ts : List (List Str)) : enumD (ts.map thD) = ts.zipIdx.map fun z => .tuple [.int (z.2 : Nat), thD z.1] := by
  unfold enumD
  rw [List.zipIdx_map, List.map_map]
  rfl
theorem f_can_be {ts : List (List Str)} {fs : List Str} {td : PyData} (ht : td = .list (ts.map thD) ∨ td = .tuple (ts.map thD)) (hl : ts.length ≤ 100) (hf : fs.length ≤ 100) {P : PyData → List Sl → Prop} (h : ∀ sl, P (.list (natsD (canBe ts fs))) sl) : F_can_be [.fz td, .fz (.tuple (strsD fs))] P := by
  have lin : sizeLine = 16777216 := by decide +kernel
  unfold F_can_be
  rcases ht with rfl | rfl <;>
  · walk_at "w"
    rw [enumD_th]
    refine lc_map ts.zipIdx (fun z => .tuple [.int (z.2 : Nat), thD z.1]) (fun z => if hasAll z.1 fs = true then some (.int (z.2 : Nat)) else none) rfl rfl (by rw [List.length_zipIdx]; omega) (fun z R acc hz hacc hR => ?_) ?_
    · unfold F_can_be_2
      walk_at "w"
      refine lc_map fs PyData.str (fun w => some (.bool (decide (w ∈ z.1)))) rfl rfl (by omega) (fun w R2 acc2 hw hacc2 hR2 => ?_) ?_
      · walk_at "w"
        refine f_can_be_1 ?_
        exact ⟨hacc2, rfl, hR2⟩
      · rw [filterMap_some]
        refine boolsF_f ?_
        have e : (fs.map fun w => decide (w ∈ z.1)).all id = hasAll z.1 fs := by
          unfold hasAll
          rw [List.all_map]
          rfl
        walk_at "w"
        rw [e]
        cases hh : hasAll z.1 fs with
        | true =>
          rw [hh, if_pos rfl] at hR
          exact ⟨hacc, hR⟩
        | false =>
          rw [hh, if_neg (by decide), Option.toList_none, List.append_nil] at hR
          exact hR
    · rw [filterMap_if]
      walk_at "w"
      have e : (List.map (fun z => PyData.int ((z.2 : Nat) : Int)) (List.filter (fun z => hasAll z.1 fs) ts.zipIdx)) = natsD (canBe ts fs) := by
        unfold natsD canBe
        rw [List.map_map]
        rfl
      rw [e]
      exact h _
theorem canBe_lt {ts : List (List Str)} {fs : List Str} : ∀ p ∈ canBe ts fs, p < ts.length := fun p hp => by
  obtain ⟨z, hz, rfl⟩ := List.mem_map.mp hp
  have := (List.mem_filter.mp hz).1
  have := List.snd_lt_of_mem_zipIdx this
  omega
def cansOf (ts : List (List Str)) (fss : List (List Str)) : List (List Nat) := fss.map (canBe ts)
def fdD (fs : List Str) : PyData := .tuple (strsD fs)
theorem cansOf_get (ts fss : List (List Str)) (q : Nat) : (cansOf ts fss).getD q [] = if h : q < fss.length then canBe ts fss[q] else [] := by
  unfold cansOf
  rw [List.getD_eq_getElem?_getD, List.getElem?_map]
  by_cases h : q < fss.length
  · rw [dif_pos h, List.getElem?_eq_getElem h]; rfl
  · rw [dif_neg h, List.getElem?_eq_none (by omega)]; rfl
theorem cansOf_ok {ts fss : List (List Str)} (h1 : ts.length ≤ 100) (h2 : fss.length ≤ 100) : CansOk (cansOf ts fss) := by
  refine ⟨by unfold cansOf; rw [List.length_map]; exact h2, fun q p hp => ?_⟩
  rw [cansOf_get] at hp
  split at hp
  · have := canBe_lt p hp; omega
  · exact absurd hp List.not_mem_nil
theorem cansOf_row {ts fss : List (List Str)} (h1 : ts.length ≤ 100) (q : Nat) : ((cansOf ts fss).getD q []).length ≤ 1000 := by
  rw [cansOf_get]
  split
  · unfold canBe
    rw [List.length_map]
    refine Nat.le_trans (List.length_filter_le _ _) ?_
    rw [List.length_zipIdx]
    omega
  · exact Nat.zero_le _
theorem f_cans_of {ts fss : List (List Str)} {td fd : PyData} (ht : td = .list (ts.map thD) ∨ td = .tuple (ts.map thD)) (hf : fd = .list (fss.map fdD) ∨ fd = .tuple (fss.map fdD)) (h1 : ts.length ≤ 100) (h2 : fss.length ≤ 100) (h3 : ∀ fs ∈ fss, fs.length ≤ 100) {P : PyData → List Sl → Prop} (h : ∀ sl, P (cansD (cansOf ts fss)) sl) : F_cans_of [.fz td, .fz fd] P := by
  have lin : sizeLine = 16777216 := by decide +kernel
  unfold F_cans_of
  rcases hf with rfl | rfl <;>
  · walk_at "w"
    refine lc_map fss fdD (fun fs => some (.list (natsD (canBe ts fs)))) rfl rfl (by rw [lin]; omega) (fun fs R acc hfs hacc hR => ?_) ?_
    · walk_at "w"
      unfold F_cans_of_1 fdD
      walk_at "w"
      refine f_can_be ht h1 (h3 fs hfs) fun sl => ?_
      walk_at "w"
      exact ⟨hacc, hR⟩
    · rw [filterMap_some]
      have e : PyData.list (fss.map fun fs => PyData.list (natsD (canBe ts fs))) = cansD (cansOf ts fss) := by
        unfold cansD cansOf
        rw [List.map_map]
        rfl
      walk_at "w"
      rw [e]
      exact h _
theorem f_way_for {ts fss : List (List Str)} (h1 : ts.length ≤ 100) (h2 : fss.length ≤ 12) (h3 : ∀ fs ∈ fss, fs.length ≤ 100) {P : PyData → List Sl → Prop}
    (q0 : ∀ (ps : List Nat) sl, ps.length = fss.length → (∀ p ∈ ps, p < 1000) → P (.tuple [.str (Str.ofString "way"), .list (natsD ps)]) sl)
    (q1 : ∀ (X Y : List Nat) sl, lacking (cansOf ts fss) 12 = some X → Y.Perm X → Y.Pairwise (· ≤ ·) → P (.tuple [.str (Str.ofString "none"), .list (natsD Y)]) sl) : F_way_for [.fz (.list (ts.map thD)), .fz (.list (fss.map fdD))] P := by
  have lin : sizeLine = 16777216 := by decide +kernel
  have ok : CansOk (cansOf ts fss) := cansOf_ok h1 (by omega)
  have few : (cansOf ts fss).length ≤ 12 := by unfold cansOf; rw [List.length_map]; exact h2
  unfold F_way_for
  walk_at "w"
  refine f_cans_of (.inl rfl) (.inl rfl) h1 (by omega) h3 fun sl => ?_
  walk_at "w"
  refine f_short_by ok few (fun e S' s0 => ?_) fun X Y e p1 p2 S' s0 => ?_
  · refine ⟨S', _, rfl, .refl _, ?_⟩
    walk_at "w"
    unfold F_way_for_1
    walk_at "w"
    refine f_first_pairing ok few (cansOf_row h1) ((lacking_none few).mp e) fun ps sl l1 l2 => ?_
    walk_at "w"
    exact q0 ps _ (by rw [l1]; unfold cansOf; rw [List.length_map]) l2
  · refine ⟨S', _, rfl, .refl _, ?_⟩
    walk_at "w"
    exact q1 X Y _ e p1 p2
/-! ### papers: any things -/
def isPl (n : Nat) : PyData → Bool
  | .int i => decide (0 ≤ i) && decide (i < (n : Int))
  | _ => false
def natOf : PyData → Nat
  | .int i => i.toNat
  | _ => 0
def risesB (xs : List Nat) : Bool := (xs.zip xs.tail).all fun z => decide (z.1 < z.2)
def plB (n : Nat) : PyData → Bool
  | .list ds => (!ds.isEmpty && ds.all (isPl n)) && risesB (ds.map natOf)
  | _ => false
theorem isPl_nat {n : Nat} {d : PyData} (h : isPl n d = true) : d = natD (natOf d) ∧ natOf d < n := by
  unfold isPl at h
  split at h
  · next i =>
    rw [Bool.and_eq_true, decide_eq_true_eq, decide_eq_true_eq] at h
    refine ⟨?_, ?_⟩
    · show PyData.int i = .int ((i.toNat : Nat) : Int)
      rw [Int.toNat_of_nonneg h.1]
    · show i.toNat < n
      omega
  · cases h
theorem allPl {n : Nat} {ds : List PyData} (h : ds.all (isPl n) = true) : ds = natsD (ds.map natOf) ∧ ∀ x ∈ ds.map natOf, x < n := by
  rw [List.all_eq_true] at h
  refine ⟨?_, fun x hx => ?_⟩
  · unfold natsD
    rw [List.map_map]
    refine (List.map_id'' (fun _ => rfl) ds).symm.trans (List.map_congr_left fun d hd => ?_)
    exact (isPl_nat (h d hd)).1
  · obtain ⟨d, hd, rfl⟩ := List.mem_map.mp hx
    exact (isPl_nat (h d hd)).2
theorem f_are_places_3 {n : Nat} {z d : PyData} {B : Nat} (h : okD B d = true) {P : PyData → En → Prop} (q : P (.bool (isPl n d)) [.fz z, .fz (natD n), .fz d, .no]) : F_are_places_3 [.fz z, .fz (natD n), .fz d, .no] P := by
  unfold F_are_places_3
  cases d with
  | dict _ => cases h
  | int i =>
    have q : P (.bool (decide (0 ≤ i) && decide (i < (n : Int)))) [.fz z, .fz (natD n), .fz (.int i), .no] := q
    walk_at "w"
    by_cases c : 0 ≤ i
    · rw [decide_eq_true c, Bool.true_and] at q
      rw [if_pos c]
      exact q
    · rw [decide_eq_false c, Bool.false_and] at q
      rw [if_neg c]
      exact q
  | bool _ => walk_at "w"; exact q
  | none => walk_at "w"; exact q
  | str _ => walk_at "w"; exact q
  | list _ => walk_at "w"; exact q
  | tuple _ => walk_at "w"; exact q
theorem f_are_places {n B : Nat} {z : PyData} (h : okD B z = true) (hn : nodes z ≤ 10000) {P : PyData → List Sl → Prop} (q : ∀ sl, P (.bool (plB n z)) sl) : F_are_places [.fz z, .fz (natD n)] P := by
  have lin : sizeLine = 16777216 := by decide +kernel
  unfold F_are_places
  cases z with
  | dict _ => cases h
  | int i => walk_at "w"; exact q _
  | bool _ => walk_at "w"; exact q _
  | none => walk_at "w"; exact q _
  | str _ => walk_at "w"; exact q _
  | tuple _ => walk_at "w"; exact q _
  | list ds =>
    have hl' : nodesAll ds + 1 ≤ 10000 := hn
    have ln := len_nodes ds
    have hd := okAll_iff.mp (show okAll B ds = true from h)
    have e0 : plB n (.list ds) = ((!ds.isEmpty && ds.all (isPl n)) && risesB (ds.map natOf)) := rfl
    rw [e0] at q
    walk_at "w"
    cases ds with
    | nil =>
      refine if1 (show ((([] : List PyData).length : Nat) : Int) = 0 from rfl) ?_
      exact q _
    | cons d0 r =>
      refine if0 (by rw [List.length_cons]; omega) ?_
      rw [show (!(d0 :: r).isEmpty) = true from rfl, Bool.true_and] at q
      generalize d0 :: r = ds at q hd ln hl' hn h
      unfold F_are_places_4
      walk_at "w"
      refine lc_map ds id (fun d => some (.bool (isPl n d))) (by simp) rfl (by rw [lin]; omega) (fun d R acc hm hacc hR => ?_) ?_
      · walk_at "w"
        refine f_are_places_3 (hd d hm) ?_
        exact ⟨hacc, rfl, hR⟩
      rw [filterMap_some]
      refine boolsF_f ?_
      have e : (ds.map (isPl n)).all id = ds.all (isPl n) := by rw [List.all_map]; rfl
      walk_at "w"
      rw [e]
      cases c : ds.all (isPl n) with
      | false =>
        rw [c, Bool.false_and] at q
        exact q _
      | true =>
        rw [c, Bool.true_and] at q
        obtain ⟨a1, a2⟩ := allPl c
        unfold F_are_places_2
        walk_at "w"
        generalize ds.map natOf = xs at a1 a2 q
        subst a1
        rw [show natsD xs = xs.map natD from rfl, cutD_tail, zipD_map]
        refine lc_map (xs.zip xs.tail) (fun z => .tuple [natD z.1, natD z.2]) (fun z => some (.bool (decide (z.1 < z.2)))) rfl rfl (by rw [List.length_zip, lin]; rw [List.length_map] at ln; omega) (fun z R acc hm hacc hR => ?_) ?_
        · walk_at "w"
          unfold F_are_places_1
          walk_at "w"
          have e : decide ((z.1 : Int) < (z.2 : Int)) = decide (z.1 < z.2) := decide_eq_decide.mpr Int.ofNat_lt
          rw [e]
          exact ⟨hacc, hR⟩
        · rw [filterMap_some]
          refine boolsF_f ?_
          have e : ((xs.zip xs.tail).map fun z => decide (z.1 < z.2)).all id = risesB xs := by
            unfold risesB
            rw [List.all_map]
            rfl
          walk_at "w"
          rw [e]
          exact q _
/-! as many things as there are -/
def addRow (m row : List Nat) : List Nat := row.foldl (fun m p => if p ∈ m then m else m ++ [p]) m
theorem addRow_filter : ∀ (row m : List Nat), row.Nodup → addRow m row = m ++ row.filter fun p => decide (p ∉ m)
  | [], m, _ => (List.append_nil m).symm
  | p :: r, m, nd => by
    obtain ⟨n1, n2⟩ := List.nodup_cons.mp nd
    show addRow (if p ∈ m then m else m ++ [p]) r = _
    rw [List.filter_cons]
    by_cases c : p ∈ m
    · rw [if_pos c, addRow_filter r m n2, if_neg (by rw [decide_eq_true_eq]; exact fun w => w c)]
    · rw [if_neg c, addRow_filter r _ n2, if_pos (decide_eq_true c), List.append_assoc]
      congr 1
      show p :: _ = p :: _
      congr 1
      refine List.filter_congr fun x hx => decide_eq_decide.mpr ?_
      rw [List.mem_append, List.mem_singleton]
      exact ⟨fun w h => w (.inl h), fun w h => h.elim w fun e => n1 (e ▸ hx)⟩
theorem addRow_nd : ∀ (row m : List Nat), m.Nodup → (addRow m row).Nodup
  | [], m, h => h
  | p :: r, m, h => by
    show (addRow (if p ∈ m then m else m ++ [p]) r).Nodup
    refine addRow_nd r _ ?_
    split
    · exact h
    · next c => exact List.nodup_append.mpr ⟨h, List.nodup_cons.mpr ⟨List.not_mem_nil, List.nodup_nil⟩, fun a ha b hb e => c (by rw [← List.mem_singleton.mp hb, ← e]; exact ha)⟩
theorem addRow_lt {B : Nat} : ∀ (row m : List Nat), (∀ p ∈ m, p < B) → (∀ p ∈ row, p < B) → ∀ p ∈ addRow m row, p < B
  | [], m, h, _ => h
  | p :: r, m, h, h2 => by
    show ∀ x ∈ addRow (if p ∈ m then m else m ++ [p]) r, x < B
    refine addRow_lt r _ ?_ fun x hx => h2 x (List.mem_cons_of_mem _ hx)
    split
    · exact h
    · intro x hx
      rcases List.mem_append.mp hx with w | w
      · exact h x w
      · rw [List.mem_singleton.mp w]; exact h2 p List.mem_cons_self
def metOf (cans : List (List Nat)) (xs : List Nat) : List Nat := xs.foldl (fun m one => addRow m (cans.getD one [])) []
def tooFewB (cans : List (List Nat)) (xs : List Nat) : Bool := decide ((metOf cans xs).length < xs.length)
theorem metOf_snoc (cans : List (List Nat)) (xs : List Nat) (x : Nat) : metOf cans (xs ++ [x]) = addRow (metOf cans xs) (cans.getD x []) := by
  unfold metOf
  rw [List.foldl_append]
  rfl
theorem met_snoc (m row : List Nat) (p : Nat) : addRow m (row ++ [p]) = if p ∈ addRow m row then addRow m row else addRow m row ++ [p] := by
  unfold addRow
  rw [List.foldl_append]
  rfl
theorem metOf_ok {cans : List (List Nat)} (ok : CansOk cans) : ∀ (xs m : List Nat), m.Nodup → (∀ p ∈ m, p < 1000) → (xs.foldl (fun m one => addRow m (cans.getD one [])) m).Nodup ∧ ∀ p ∈ xs.foldl (fun m one => addRow m (cans.getD one [])) m, p < 1000
  | [], m, h1, h2 => ⟨h1, h2⟩
  | x :: r, m, h1, h2 => metOf_ok ok r _ (addRow_nd _ _ h1) (addRow_lt _ _ h2 (ok.row x))
theorem putE_same {s : List Nat} {p : Nat} (h : p ∈ s) : putE (sK s) (.inl (p : Int)) (.bool true) = sK s := by
  unfold putE
  rw [valD_sK, decide_eq_true h, if_pos rfl]
  unfold sK
  rw [List.map_map]
  refine List.map_congr_left fun x _ => ?_
  show (if (Sum.inl (x : Int) : L2.Key) = Sum.inl (p : Int) then _ else _) = _
  split <;> rfl
theorem putE_add (s : List Nat) (p : Nat) : putE (sK s) (.inl (p : Int)) (.bool true) = sK (if p ∈ s then s else s ++ [p]) := by
  split
  · next h => exact putE_same h
  · next h => exact putE_sK h
theorem f_are_too_few {cans : List (List Nat)} (ok : CansOk cans) {xs : List Nat} (hx : ∀ x ∈ xs, x < cans.length) (hl : xs.length ≤ 10000) {S : Sto} {P : PyData → List Sl → Prop} (q : ∀ S' s0 s1, P (.bool (tooFewB cans xs)) [s0, s1, .st S']) : F_are_too_few [.fz (cansD cans), .fz (.list (natsD xs)), .st S] P := by
  have lin : sizeLine = 16777216 := by decide +kernel
  unfold F_are_too_few
  walk_at "w"
  intro mp hS
  walk_at "w"
  refine for_map xs natD (fun i ρ => ∃ S', S' mp = some (.dct (sK (metOf cans (xs.take i)))) ∧ ρ = [.fz (cansD cans), .fz (.list (natsD xs)), .fz (hdl mp), .no, .no, .st S']) rfl ⟨_, sset_same, rfl⟩ ?_ ?_
  · rintro i x ρ hxi hi ⟨S1, e1, rfl⟩
    have tk : xs.take (i + 1) = xs.take i ++ [x] := by rw [List.take_add_one, hxi]; rfl
    rw [tk, metOf_snoc]
    have hxc := hx x (List.mem_of_getElem? hxi)
    obtain ⟨m1, m2⟩ := metOf_ok ok (xs.take i) [] List.nodup_nil fun p hp => absurd hp List.not_mem_nil
    have m1 : (metOf cans (xs.take i)).Nodup := m1
    have m2 : ∀ p ∈ metOf cans (xs.take i), p < 1000 := m2
    generalize metOf cans (xs.take i) = m at e1 m1 m2
    walk_at "w"
    unfold F_are_too_few_3 cansD
    walk_at "w"
    refine ⟨_, cans_at hxc, ?_⟩
    walk_at "w"
    have rb := ok.row x
    generalize cans.getD x [] = row at rb
    refine for_map row natD (fun j ρ => ∃ S', S' mp = some (.dct (sK (addRow m (row.take j)))) ∧ ρ = [.fz (cansD cans), .fz (.list (natsD xs)), .fz (hdl mp), .fz (natD x), .no, .st S']) rfl ⟨S1, e1, rfl⟩ ?_ ?_
    · rintro j p ρ hp hj ⟨S2, e2, rfl⟩
      have tk : row.take (j + 1) = row.take j ++ [p] := by rw [List.take_add_one, hp]; rfl
      rw [tk, met_snoc]
      have n1 := addRow_nd (row.take j) m m1
      have n2 := addRow_lt (row.take j) m m2 fun p hp => rb p (List.mem_of_mem_take hp)
      generalize addRow m (row.take j) = m' at e2 n1 n2
      have := below_len n1 n2
      walk_at "w"
      unfold F_are_too_few_2
      walk_at "w"
      refine ⟨mp, _, rfl, e2, by rw [sK_len, lin]; omega, ?_⟩
      exact ⟨_, by rw [sset_same, putE_add], rfl⟩
    · rintro ρ ⟨S2, e2, rfl⟩
      rw [List.take_length] at e2
      walk_at "w"
      exact ⟨S2, e2, rfl, rfl⟩
  · rintro ρ ⟨S1, e1, rfl⟩
    rw [List.take_length] at e1
    unfold F_are_too_few_1
    walk_at "w"
    refine ⟨mp, _, rfl, e1, ?_⟩
    have e : decide ((((sK (metOf cans xs)).length : Nat) : Int) < (((natsD xs).length : Nat) : Int)) = tooFewB cans xs := by
      unfold tooFewB
      rw [sK_len, List.length_map]
      exact decide_eq_decide.mpr Int.ofNat_lt
    rw [e]
    exact q _ _ _
def dueB (cans : List (List Nat)) (z : PyData) : Bool := plB cans.length z && (match z with
  | .list ds => tooFewB cans (ds.map natOf)
  | _ => false)
theorem f_shows_none {B : Nat} {ts fss : List (List Str)} {td fd z : PyData} (ht : td = .list (ts.map thD) ∨ td = .tuple (ts.map thD)) (hf : fd = .list (fss.map fdD) ∨ fd = .tuple (fss.map fdD)) (h1 : ts.length ≤ 100) (h2 : fss.length ≤ 100) (h3 : ∀ fs ∈ fss, fs.length ≤ 100) (hz : okD B z = true) (hn : nodes z ≤ 10000) {P : PyData → List Sl → Prop} (h : ∀ sl, P (.bool (dueB (cansOf ts fss) z)) sl) : F_shows_none [.fz td, .fz fd, .fz z] P := by
  have lin : sizeLine = 16777216 := by decide +kernel
  have cl : (cansOf ts fss).length = fss.length := by unfold cansOf; rw [List.length_map]
  unfold dueB at h
  rw [cl] at h
  unfold F_shows_none
  rcases hf with rfl | rfl <;>
  · walk_at "w"
    rw [List.length_map]
    refine f_are_places hz hn fun sl => ?_
    walk_at "w"
    cases c : plB fss.length z with
    | false =>
      rw [c, Bool.false_and] at h
      refine if0 Bool.false_ne_true ?_
      exact h _
    | true =>
      rw [c, Bool.true_and] at h
      refine if1 rfl ?_
      refine f_cans_of ht (by first | exact .inl rfl | exact .inr rfl) h1 h2 h3 fun sl => ?_
      walk_at "w"
      cases z with
      | list ds =>
        have e0 : plB fss.length (.list ds) = ((!ds.isEmpty && ds.all (isPl fss.length)) && risesB (ds.map natOf)) := rfl
        rw [e0, Bool.and_eq_true, Bool.and_eq_true] at c
        obtain ⟨a1, a2⟩ := allPl c.1.2
        have hl' : nodesAll ds + 1 ≤ 10000 := hn
        have ln := len_nodes ds
        have h' : ∀ sl, P (.bool (tooFewB (cansOf ts fss) (ds.map natOf))) sl := h
        clear h
        have lm : (ds.map natOf).length = ds.length := List.length_map _
        generalize ds.map natOf = xs at a1 a2 h' lm
        subst a1
        refine f_are_too_few (cansOf_ok h1 h2) (by rw [cl]; exact a2) (by omega) fun S' s0 s1 => ?_
        exact ⟨S', _, rfl, .refl _, h' _⟩
      | _ => cases c
/-! the law's own -/
theorem rises_iff (xs : List Nat) : risesB xs = true ↔ ∀ i (h : i + 1 < xs.length), xs[i] < xs[i + 1] := by
  unfold risesB
  rw [List.all_eq_true]
  constructor
  · intro h i hi
    have m : (xs[i], xs[i + 1]) ∈ xs.zip xs.tail := by
      have l : i < (xs.zip xs.tail).length := by rw [List.length_zip, List.length_tail]; omega
      have : (xs.zip xs.tail)[i] = (xs[i], xs[i + 1]) := by rw [List.getElem_zip, List.getElem_tail]
      rw [← this]
      exact List.getElem_mem l
    exact of_decide_eq_true (h _ m)
  · intro h z hz
    obtain ⟨i, hi, rfl⟩ := List.getElem_of_mem hz
    have l := hi
    rw [List.length_zip, List.length_tail] at l
    rw [List.getElem_zip, List.getElem_tail]
    exact decide_eq_true (h i (by omega))
theorem plB_iff {n : Nat} {ds : List PyData} : plB n (.list ds) = true ↔ ds ≠ [] ∧ (∀ d ∈ ds, isPl n d = true) ∧ ∀ i (h : i + 1 < ds.length), natOf ds[i] < natOf ds[i + 1] := by
  have e0 : plB n (.list ds) = ((!ds.isEmpty && ds.all (isPl n)) && risesB (ds.map natOf)) := rfl
  rw [e0, Bool.and_eq_true, Bool.and_eq_true, List.all_eq_true, rises_iff]
  constructor
  · rintro ⟨⟨a, b⟩, c⟩
    refine ⟨(fun e => by rw [e] at a; cases a), b, fun i h => ?_⟩
    have := c i (by rw [List.length_map]; exact h)
    rw [List.getElem_map, List.getElem_map] at this
    exact this
  · rintro ⟨a, b, c⟩
    have a' : (!ds.isEmpty) = true := by
      cases ds with
      | nil => exact absurd rfl a
      | cons => rfl
    refine ⟨⟨a', b⟩, fun i h => ?_⟩
    rw [List.length_map] at h
    rw [List.getElem_map, List.getElem_map]
    exact c i h
theorem inD_nats (p : Nat) (m : List Nat) : inD (natD p) (natsD m) = decide (p ∈ m) := by
  unfold inD natsD
  rw [List.any_map]
  refine Bool.eq_iff_iff.mpr ?_
  rw [List.any_eq_true, decide_eq_true_eq]
  constructor
  · rintro ⟨y, hy, e⟩
    have : (y : Int) = (p : Int) := eq_of_beq (show ((y : Int) == (p : Int)) = true from e)
    have : y = p := by omega
    exact this ▸ hy
  · exact fun h => ⟨p, h, (beq_self_eq_true (p : Int) : ((p : Int) == (p : Int)) = true)⟩
theorem f_l_too_few {cans : List (List Nat)} (ok : CansOk cans) (nd : ∀ q, (cans.getD q []).Nodup) {xs : List Nat} (hx : ∀ x ∈ xs, x < cans.length) (hl : xs.length ≤ 10000) {P : PyData → List Sl → Prop} (q : ∀ sl, P (.bool (tooFewB cans xs)) sl) : F__law_too_few [.fz (cansD cans), .fz (.list (natsD xs))] P := by
  have lin : sizeLine = 16777216 := by decide +kernel
  unfold F__law_too_few
  walk_at "w"
  refine for_map xs natD (fun i ρ => ρ = [.fz (cansD cans), .fz (.list (natsD xs)), .own (natsD (metOf cans (xs.take i))), .no, .no]) rfl rfl ?_ ?_
  · rintro i x ρ hxi hi rfl
    have tk : xs.take (i + 1) = xs.take i ++ [x] := by rw [List.take_add_one, hxi]; rfl
    rw [tk, metOf_snoc]
    have hxc := hx x (List.mem_of_getElem? hxi)
    obtain ⟨m1, m2⟩ := metOf_ok ok (xs.take i) [] List.nodup_nil fun p hp => absurd hp List.not_mem_nil
    have m1 : (metOf cans (xs.take i)).Nodup := m1
    have m2 : ∀ p ∈ metOf cans (xs.take i), p < 1000 := m2
    generalize metOf cans (xs.take i) = m at m1 m2
    rw [addRow_filter _ _ (nd x)]
    have lm := below_len m1 m2
    have rl := below_len (nd x) (ok.row x)
    walk_at "w"
    unfold F__law_too_few_3 cansD
    walk_at "w"
    refine ⟨_, cans_at hxc, ?_⟩
    walk_at "w"
    generalize cans.getD x [] = row at rl
    refine lc_map row natD (fun p => if decide (¬ p ∈ m) = true then some (natD p) else none) rfl rfl (by rw [lin]; omega) (fun p R acc hm hacc hR => ?_) ?_
    · walk_at "w"
      unfold F__law_too_few_2
      walk_at "w"
      rw [inD_nats]
      by_cases c : p ∈ m
      · rw [decide_eq_true c]
        rw [if_neg (by rw [decide_eq_true_eq]; exact fun w => w c), Option.toList_none, List.append_nil] at hR
        exact ⟨rfl, List.all_eq_true.mpr fun y hy => by obtain ⟨z, _, rfl⟩ := List.mem_map.mp hy; rfl, if0 (fun w => nomatch w) hR⟩
      · rw [decide_eq_false c]
        rw [if_pos (decide_eq_true c)] at hR
        exact ⟨rfl, List.all_eq_true.mpr fun y hy => by obtain ⟨z, _, rfl⟩ := List.mem_map.mp hy; rfl, if1 rfl ⟨hacc, hR⟩⟩
    · rw [filterMap_if]
      walk_at "w"
      have fl := List.length_filter_le (fun p => decide (¬ p ∈ m)) row
      exact ⟨by rw [List.length_map, List.length_map, lin]; omega, by unfold natsD; rw [List.map_append]⟩
  · rintro ρ rfl
    rw [List.take_length]
    unfold F__law_too_few_1
    walk_at "w"
    have e : decide ((((natsD (metOf cans xs)).length : Nat) : Int) < (((natsD xs).length : Nat) : Int)) = tooFewB cans xs := by
      unfold tooFewB
      rw [List.length_map, List.length_map]
      exact decide_eq_decide.mpr Int.ofNat_lt
    rw [e]
    exact q _
theorem enumD_id (ds : List PyData) : enumD ds = ds.zipIdx.map fun z => .tuple [.int (z.2 : Nat), z.1] := rfl
theorem f_l_due {B : Nat} {cans : List (List Nat)} (ok : CansOk cans) (nd : ∀ q, (cans.getD q []).Nodup) {z : PyData} (hz : okD B z = true) (hn : nodes z ≤ 10000) {P : PyData → List Sl → Prop} (q : ∀ sl, P (.bool (dueB cans z)) sl) : F__law_due [.fz (cansD cans), .fz z] P := by
  have lin : sizeLine = 16777216 := by decide +kernel
  unfold F__law_due
  cases z with
  | dict _ => cases hz
  | int i => walk_at "w"; exact q _
  | bool _ => walk_at "w"; exact q _
  | none => walk_at "w"; exact q _
  | str _ => walk_at "w"; exact q _
  | tuple _ => walk_at "w"; exact q _
  | list ds =>
    have hl' : nodesAll ds + 1 ≤ 10000 := hn
    have ln := len_nodes ds
    have hd := okAll_iff.mp (show okAll B ds = true from hz)
    have q0 : plB cans.length (.list ds) = false → ∀ sl, P (.bool false) sl := fun e sl => by
      have := q sl
      unfold dueB at this
      rw [e] at this
      exact this
    walk_at "w"
    by_cases c0 : ds = []
    · subst c0
      refine if1 (show ((([] : List PyData).length : Nat) : Int) = 0 from rfl) ?_
      exact q0 rfl _
    have lp : 0 < ds.length := List.length_pos_iff.mpr c0
    refine if0 (by omega) ?_
    unfold F__law_due_4
    walk_at "w"
    rw [enumD_id]
    refine for_map ds.zipIdx (fun z => .tuple [.int (z.2 : Nat), z.1]) (fun i ρ => (∀ j (h : j < ds.length), j < i → isPl cans.length ds[j] = true) ∧ (∀ j (h : j + 1 < ds.length), j + 1 < i → natOf ds[j] < natOf ds[j + 1]) ∧ ρ = [.fz (cansD cans), .fz (.list ds), .no, .no]) rfl ⟨fun _ _ h => absurd h (Nat.not_lt_zero _), fun _ _ h => absurd h (Nat.not_lt_zero _), rfl⟩ ?_ ?_
    · rintro i w ρ hw hi ⟨w1, w2, rfl⟩
      rw [List.length_zipIdx] at hi
      rw [List.getElem?_zipIdx, List.getElem?_eq_getElem hi] at hw
      cases hw
      have hdi := hd _ (List.getElem_mem hi)
      have bad : isPl cans.length ds[i] = false → ∀ sl, P (.bool false) sl := fun e => q0 (by
        refine Bool.eq_false_iff.mpr fun w => ?_
        have := (plB_iff.mp w).2.1 _ (List.getElem_mem hi)
        rw [e] at this
        cases this)
      walk_at "w"
      generalize ed : ds[i] = d at hdi bad ⊢
      unfold F__law_due_3
      cases d with
      | dict _ => cases hdi
      | bool _ => walk_at "w"; exact bad rfl _
      | none => walk_at "w"; exact bad rfl _
      | str _ => walk_at "w"; exact bad rfl _
      | tuple _ => walk_at "w"; exact bad rfl _
      | list _ => walk_at "w"; exact bad rfl _
      | int k =>
        unfold cansD
        walk_at "w"
        rw [List.length_map]
        by_cases k0 : 0 ≤ k
        · refine if1 k0 ?_
          by_cases k1 : k < (cans.length : Int)
          · refine if0 (by omega) ?_
            unfold F__law_due_2
            walk_at "w"
            have isk : isPl cans.length ds[i] = true := by
              rw [ed]
              show (decide (0 ≤ k) && decide (k < (cans.length : Int))) = true
              rw [decide_eq_true k0, decide_eq_true k1]
              rfl
            have w1' : ∀ j (h : j < ds.length), j < i + 1 → isPl cans.length ds[j] = true := fun j h hj => by
              by_cases e : j = i
              · subst e; exact isk
              · exact w1 j h (by omega)
            cases i with
            | zero =>
              refine if0 (by decide) ?_
              exact ⟨w1', fun j h hj => absurd hj (by omega)⟩
            | succ m =>
              refine if1 (by omega) ?_
              have hm : m < ds.length := by omega
              have pm := isPl_nat (w1 m hm (Nat.lt_succ_self _))
              have pk := isPl_nat isk
              have ek : k = (natOf ds[m + 1] : Int) := by
                have := pk.1
                rw [ed] at this
                have := PyData.int.inj this
                rw [ed]
                exact this
              refine ⟨ds[m], by rw [show ((m + 1 : Nat) : Int) - 1 = (m : Int) by omega, atI_nat' (List.getElem?_eq_getElem hm)], ?_⟩
              rw [pm.1, ek]
              by_cases c : natOf ds[m] < natOf ds[m + 1]
              · refine if0 (by rw [decide_eq_true_eq]; omega) ?_
                refine ⟨w1', fun j h hj => ?_⟩
                by_cases e : j = m
                · subst e; exact c
                · exact w2 j h (by omega)
              · refine if1 (decide_eq_true (by omega)) ?_
                refine q0 (Bool.eq_false_iff.mpr fun w => c ((plB_iff.mp w).2.2 m hi)) _
          · refine if1 (by omega) ?_
            refine bad ?_ _
            show (decide (0 ≤ k) && decide (k < (cans.length : Int))) = false
            rw [decide_eq_false k1, Bool.and_false]
        · refine if0 k0 ?_
          refine bad ?_ _
          show (decide (0 ≤ k) && decide (k < (cans.length : Int))) = false
          rw [decide_eq_false k0, Bool.false_and]
    · rintro ρ ⟨w1, w2, rfl⟩
      rw [List.length_zipIdx] at w1 w2
      have pl : plB cans.length (.list ds) = true := plB_iff.mpr ⟨c0, fun d hd => by
        obtain ⟨j, hj, rfl⟩ := List.getElem_of_mem hd
        exact w1 j hj hj, fun i h => w2 i h h⟩
      have q' : ∀ sl, P (.bool (tooFewB cans (ds.map natOf))) sl := fun sl => by
        have := q sl
        unfold dueB at this
        rw [pl, Bool.true_and] at this
        exact this
      clear q q0
      have e0 : plB cans.length (.list ds) = ((!ds.isEmpty && ds.all (isPl cans.length)) && risesB (ds.map natOf)) := rfl
      rw [e0, Bool.and_eq_true, Bool.and_eq_true] at pl
      obtain ⟨a1, a2⟩ := allPl pl.1.2
      have lm : (ds.map natOf).length = ds.length := List.length_map _
      unfold F__law_due_1
      clear w1 w2 e0 pl hd
      generalize ds.map natOf = xs at a1 a2 q' lm
      subst a1
      walk_at "w"
      exact f_l_too_few ok nd a2 (by omega) fun sl => q' _
/-! ### the law's own: places that can be -/
theorem canBe_nodup (ts : List (List Str)) (fs : List Str) : (canBe ts fs).Nodup := by
  unfold canBe
  have h : ((ts.zipIdx.map (·.2))).Nodup := by
    rw [List.zipIdx_map_snd]
    exact List.nodup_range' 
  exact ((List.filter_sublist (l := ts.zipIdx) (p := fun z => hasAll z.1 fs)).map (·.2)).nodup h
theorem cansOf_nd (ts fss : List (List Str)) (q : Nat) : ((cansOf ts fss).getD q []).Nodup := by
  rw [cansOf_get]
  split
  · exact canBe_nodup _ _
  · exact List.nodup_nil
theorem f_l_cans {ts fss : List (List Str)} (h1 : ts.length ≤ 100) (h2 : fss.length ≤ 100) (h3 : ∀ fs ∈ fss, fs.length ≤ 100) (h4 : ∀ fs ∈ fss, ∀ s ∈ fs, NameS s) {P : PyData → List Sl → Prop} (h : ∀ sl, P (cansD (cansOf ts fss)) sl) : F__law_cans [.fz (.list (ts.map thD)), .fz (.list (fss.map fdD))] P := by
  have lin : sizeLine = 16777216 := by decide +kernel
  unfold F__law_cans
  walk_at "w"
  refine for_map fss fdD (fun i ρ => ρ = [.fz (.list (ts.map thD)), .fz (.list (fss.map fdD)), .own ((cansOf ts (fss.take i)).map fun r => PyData.list (r.map natD)), .no, .no, .no, .no]) rfl rfl ?_ ?_
  · rintro i fs ρ hfi hi rfl
    have tk : fss.take (i + 1) = fss.take i ++ [fs] := by rw [List.take_add_one, hfi]; rfl
    have sn : cansOf ts (fss.take i ++ [fs]) = cansOf ts (fss.take i) ++ [canBe ts fs] := by unfold cansOf; rw [List.map_append]; rfl
    have hf := h3 fs (List.mem_of_getElem? hfi)
    have hn := h4 fs (List.mem_of_getElem? hfi)
    have ln : (cansOf ts (fss.take i)).length ≤ 100 := by unfold cansOf; rw [List.length_map, List.length_take]; omega
    rw [tk, sn]
    generalize cansOf ts (fss.take i) = cs at ln
    unfold fdD
    walk_at "w"
    unfold F__law_cans_4
    walk_at "w"
    rw [enumD_th]
    refine lc_map ts.zipIdx (fun z => .tuple [.int (z.2 : Nat), thD z.1]) (fun z => if hasAll z.1 fs = true then some (.int (z.2 : Nat)) else none) rfl rfl (by rw [List.length_zipIdx, lin]; omega) (fun z R acc hz hacc hR => ?_) ?_
    · unfold F__law_cans_3
      walk_at "w"
      refine lc_map fs PyData.str (fun w => if decide (¬ w ∈ z.1) = true then some (.str w) else none) rfl rfl (by rw [lin]; omega) (fun w R2 acc2 hw hacc2 hR2 => ?_) ?_
      · unfold F__law_cans_2
        walk_at "w"
        refine ⟨rfl, flat_strsD z.1, ?_⟩
        rw [inD_strs]
        by_cases c : w ∈ z.1
        · rw [decide_eq_true c]
          rw [if_neg (by rw [decide_eq_true_eq]; exact fun w => w c), Option.toList_none, List.append_nil] at hR2
          exact if0 (fun w => nomatch w) hR2
        · rw [decide_eq_false c]
          rw [if_pos (decide_eq_true c)] at hR2
          exact if1 rfl ⟨hacc2, hR2⟩
      · rw [filterMap_if]
        walk_at "w"
        refine ⟨(th_strs fun s hs => hn s (List.mem_filter.mp hs).1).shapedL (by decide) (by decide), rfl, ?_⟩
        rw [eqv_nilL]
        have e : (List.map PyData.str (List.filter (fun w => decide ¬ w ∈ z.1) fs)).isEmpty = hasAll z.1 fs := by
          refine Bool.eq_iff_iff.mpr ?_
          unfold hasAll
          rw [List.isEmpty_iff, List.map_eq_nil_iff, List.filter_eq_nil_iff, List.all_eq_true]
          constructor
          · intro w x hx
            have := w x hx
            rw [decide_eq_true_eq] at this
            exact decide_eq_true (Decidable.not_not.mp this)
          · intro w x hx
            rw [decide_eq_true_eq]
            exact fun n => n (of_decide_eq_true (w x hx))
        rw [e]
        cases hh : hasAll z.1 fs with
        | true =>
          rw [hh, if_pos rfl] at hR
          exact if1 rfl ⟨hacc, hR⟩
        | false =>
          rw [hh, if_neg (by decide), Option.toList_none, List.append_nil] at hR
          exact if0 (by decide) hR
    · rw [filterMap_if]
      walk_at "w"
      refine ⟨by rw [List.length_map, lin]; omega, ?_⟩
      rw [List.map_append]
      have e : (List.map (fun z => PyData.int ((z.2 : Nat) : Int)) (List.filter (fun z => hasAll z.1 fs) ts.zipIdx)) = natsD (canBe ts fs) := by
        unfold natsD canBe
        rw [List.map_map]
        rfl
      rw [e]
      rfl
  · rintro ρ rfl
    rw [List.take_length]
    unfold F__law_cans_1
    walk_at "w"
    exact h _
theorem f_given {ds : List PyData} {n : Nat} {xs : List PyData} (hb : BoxD ds n) (hn : n < 10000000) {P : PyData → List Sl → Prop} (q : ∀ ds' sl d, d = .list xs ∨ d = .tuple xs → BoxD ds' (n + 1) → P d (.own ds' :: sl)) : F__law_given [.own ds, .fz (.list xs)] P := by
  unfold F__law_given
  walk_at "w"
  refine take_step hb (by decide) (by decide) (by omega) fun r ds' a c b => ?_
  have h12 : r = 0 ∨ r = 1 := by omega
  rcases h12 with rfl | rfl
  · exact ⟨_, at0, q _ _ _ (.inl rfl) b⟩
  · exact ⟨_, at1, q _ _ _ (.inr rfl) b⟩
/-! one step otherwise -/
structure Sm (d : PyData) : Prop where
  ok : okD 1000 d = true
  dp : d.depth ≤ 1
  nd : nodes d ≤ 2
theorem sm_int {i : Int} (h : i.natAbs ≤ 1000) : Sm (.int i) := ⟨okI h, Nat.zero_le _, by show 1 ≤ 2; decide⟩
theorem cutT (ds : List PyData) (k : Nat) : cutD ds none (some (k : Int)) = ds.take k := by
  have := cutD_take ds id k
  rw [List.map_id, List.map_id] at this
  exact this
theorem cutF (ds : List PyData) (k : Nat) : cutD ds (some (k : Int)) none = ds.drop k := by
  have := cutD_drop ds id k
  rw [List.map_id, List.map_id] at this
  exact this
theorem cutM (ds : List PyData) (k m : Nat) : cutD ds (some (k : Int)) (some (m : Int)) = (ds.drop (min k ds.length)).take (min m ds.length - min k ds.length) := by
  unfold cutD
  rw [HT.sIx_nat, HT.sIx_nat]
theorem f_bent {ds : List PyData} {n many L : Nat} {xs : List PyData} (hb : BoxD ds n) (hn : n < 10000000) (hm : many ≤ 100) (hl : xs.length ≤ L) (hL : L ≤ 900) (hx : ∀ x ∈ xs, Sm x) {P : PyData → List Sl → Prop} (q : ∀ ds' sl ys, ys.length ≤ L + 1 → (∀ y ∈ ys, Sm y) → BoxD ds' (n + 3) → P (.list ys) (.own ds' :: sl)) : F__law_bent [.own ds, .fz (.list xs), .fz (natD many)] P := by
  have lin : sizeLine = 16777216 := by decide +kernel
  unfold F__law_bent
  walk_at "w"
  refine take_step hb (by decide) (by decide) (by omega) fun r1 d1 a1 c1 b1 => ?_
  refine take_step b1 (by omega) (by omega) (by omega) fun r2 d2 a2 c2 b2 => ?_
  refine take_step b2 (by decide) (by decide) (by omega) fun r3 d3 a3 c3 b3 => ?_
  obtain ⟨k, rfl⟩ := Int.eq_ofNat_of_zero_le a2
  obtain ⟨w, rfl⟩ := Int.eq_ofNat_of_zero_le a1
  have one : ∃ d, atI [PyData.int ((k : Int) - 1), PyData.int ((k : Int) + 1), natD many, PyData.int (-1), PyData.bool true, PyData.none, PyData.str (Str.ofString "0"), PyData.list [PyData.int (k : Int)], PyData.tuple [PyData.int 0], PyData.bool false] r3 = some d ∧ Sm d := by
    have h : r3 = 0 ∨ r3 = 1 ∨ r3 = 2 ∨ r3 = 3 ∨ r3 = 4 ∨ r3 = 5 ∨ r3 = 6 ∨ r3 = 7 ∨ r3 = 8 ∨ r3 = 9 := by omega
    rcases h with rfl | rfl | rfl | rfl | rfl | rfl | rfl | rfl | rfl | rfl
    · exact ⟨_, rfl, sm_int (by omega)⟩
    · exact ⟨_, rfl, sm_int (by omega)⟩
    · exact ⟨_, rfl, sm_int (by omega)⟩
    · exact ⟨_, rfl, sm_int (by decide)⟩
    · exact ⟨_, rfl, rfl, by decide, by decide⟩
    · exact ⟨_, rfl, rfl, by decide, by decide⟩
    · exact ⟨_, rfl, by decide +kernel, by decide, by decide⟩
    · exact ⟨_, rfl, by show okAll 1000 [PyData.int (k : Int)] = true; exact okAll_iff.mpr fun d hd => by rw [List.mem_singleton.mp hd]; exact okI (by omega), by show 0 + 1 ≤ 1; decide, by show 1 + 0 + 1 ≤ 2; decide⟩
    · exact ⟨_, rfl, by decide +kernel, by decide, by decide⟩
    · exact ⟨_, rfl, rfl, by decide, by decide⟩
  obtain ⟨one, eo, so⟩ := one
  refine ⟨one, eo, ?_⟩
  have hk : k ≤ xs.length := by omega
  have fin : ∀ ys : List PyData, ys.length ≤ L + 1 → (∀ y ∈ ys, y ∈ xs ∨ y = one) → ∀ sl, P (.list ys) (.own d3 :: sl) := fun ys h1 h2 sl => q _ _ ys h1 (fun y hy => by
    rcases h2 y hy with h | h
    · exact hx y h
    · rw [h]; exact so) (b3.mono (by omega))
  clear q hb b1 b2 b3
  rw [show ((k : Int) + 1) = ((k + 1 : Nat) : Int) from rfl, cutT, cutF]
  have mt : ∀ {m : Nat} {y : PyData}, y ∈ xs.take m → y ∈ xs := fun h => List.mem_of_mem_take h
  have md : ∀ {m : Nat} {y : PyData}, y ∈ xs.drop m → y ∈ xs := fun h => List.mem_of_mem_drop h
  by_cases c0 : (w : Int) = 0
  · refine if1 c0 ⟨by simp only [List.length_take, List.length_drop]; rw [lin]; omega, fin _ (by simp only [List.length_append, List.length_take, List.length_drop]; omega) (fun y hy => ?_) _⟩
    rcases List.mem_append.mp hy with h | h
    · exact .inl (mt h)
    · exact .inl (md h)
  refine if0 c0 ?_
  unfold F__law_bent_5
  walk_at "w"
  rw [show ((k : Int) + 1) = ((k + 1 : Nat) : Int) from rfl, cutT, cutF, cutM]
  by_cases c1 : (w : Int) = 1
  · refine if1 c1 ⟨by simp only [List.length_take, List.length_drop]; rw [lin]; omega, by simp only [List.length_append, List.length_take, List.length_drop]; rw [lin]; omega, fin _ (by simp only [List.length_append, List.length_take, List.length_drop]; omega) (fun y hy => ?_) _⟩
    rcases List.mem_append.mp hy with h | h
    · rcases List.mem_append.mp h with h | h
      · exact .inl (mt h)
      · exact .inl (md (List.mem_of_mem_take h))
    · exact .inl (md h)
  refine if0 c1 ?_
  unfold F__law_bent_4
  walk_at "w"
  rw [show ((k : Int) + 2) = ((k + 2 : Nat) : Int) from rfl, cutT, cutF, cutM]
  by_cases c2 : (w : Int) = 2
  · refine if1 c2 ⟨by simp only [List.length_take, List.length_drop, List.length_reverse]; rw [lin]; omega, by simp only [List.length_append, List.length_take, List.length_drop, List.length_reverse]; rw [lin]; omega, fin _ (by simp only [List.length_append, List.length_take, List.length_drop, List.length_reverse]; omega) (fun y hy => ?_) _⟩
    rcases List.mem_append.mp hy with h | h
    · rcases List.mem_append.mp h with h | h
      · exact .inl (mt h)
      · exact .inl (md (List.mem_of_mem_take (List.mem_reverse.mp h)))
    · exact .inl (md h)
  refine if0 c2 ?_
  unfold F__law_bent_3
  walk_at "w"
  have hw : ((k : Int) + (w : Int) % 2) = ((k + w % 2 : Nat) : Int) := by omega
  rw [hw, cutT, cutF]
  by_cases c5 : (w : Int) < 5
  · refine if1 c5 ⟨by simp only [List.length_take, List.length_drop]; rw [lin]; omega, by simp only [List.length_append, List.length_take, List.length_drop, List.length_singleton]; rw [lin]; omega, fin _ (by simp only [List.length_append, List.length_take, List.length_drop, List.length_singleton]; omega) (fun y hy => ?_) _⟩
    rcases List.mem_append.mp hy with h | h
    · rcases List.mem_append.mp h with h | h
      · exact .inl (mt h)
      · exact .inr (List.mem_singleton.mp h)
    · exact .inl (md h)
  refine if0 c5 ?_
  unfold F__law_bent_2
  walk_at "w"
  by_cases c6 : (w : Int) = 5
  · refine if1 c6 ?_
    exact fin _ (by rw [List.length_reverse]; omega) (fun y hy => .inl (List.mem_reverse.mp hy)) _
  refine if0 c6 ?_
  unfold F__law_bent_1
  walk_at "w"
  rw [show ((k : Int) + 1) = ((k + 1 : Nat) : Int) from rfl, cutT, cutF]
  by_cases c8 : (w : Int) < 8
  · refine if1 c8 ⟨by simp only [List.length_take, List.length_drop]; rw [lin]; omega, by simp only [List.length_append, List.length_take, List.length_drop, List.length_singleton]; rw [lin]; omega, fin _ (by simp only [List.length_append, List.length_take, List.length_drop, List.length_singleton]; omega) (fun y hy => ?_) _⟩
    rcases List.mem_append.mp hy with h | h
    · rcases List.mem_append.mp h with h | h
      · exact .inl (mt h)
      · exact .inr (List.mem_singleton.mp h)
    · exact .inl (md h)
  · refine if0 c8 ?_
    exact fin _ (by omega) (fun y hy => .inl hy) _
/-! all of it -/
def Pap (L : Nat) (d : PyData) : Prop := ∃ xs, d = .list xs ∧ xs.length ≤ L ∧ ∀ x ∈ xs, Sm x
theorem Pap.mono {L M : Nat} {d : PyData} (h : Pap L d) (hl : L ≤ M) : Pap M d := by
  obtain ⟨xs, e, h1, h2⟩ := h
  exact ⟨xs, e, Nat.le_trans h1 hl, h2⟩
theorem pap_nats {xs : List Nat} {L : Nat} (hl : xs.length ≤ L) (h : ∀ x ∈ xs, x ≤ 1000) : Pap L (.list (natsD xs)) := by
  refine ⟨_, rfl, by rw [List.length_map]; exact hl, fun x hx => ?_⟩
  obtain ⟨n, hn, rfl⟩ := List.mem_map.mp hx
  exact sm_int (by have := h n hn; omega)
def Fz (s : Sl) : Prop := s = .no ∨ ∃ d, s = .fz d
theorem f_right_5 {E : FEnds} {ds : List PyData} {n many L : Nat} {ps : List PyData} {u1 u2 u3 u4 u6 u7 u9 u10 u11 u12 u13 u14 : Sl} (h11 : Fz u11) (hb : BoxD ds n) (hn : n < 1000000) (hm : many ≤ 100) (hL : L ≤ 800) (hp0 : 0 < ps.length) (hp1 : ps.length ≤ 1000) (hp : ∀ p ∈ ps, Pap L p)
    (h : ∀ ds' d, Pap (L + 2) d → BoxD ds' (n + 10) → E.nx [.own ds', u1, u2, u3, u4, .fz (natD many), u6, u7, .own (ps ++ [d]), u9, u10, .fz d, u12, u13, u14]) :
    F__law_right_5 E [.own ds, u1, u2, u3, u4, .fz (natD many), u6, u7, .own ps, u9, u10, u11, u12, u13, u14] := by
  have lin : sizeLine = 16777216 := by decide +kernel
  unfold F__law_right_5
  walk_at "w"
  refine take_step hb (by omega) (by omega) (by omega) fun r1 d1 a1 c1 b1 => ?_
  obtain ⟨k, rfl⟩ := Int.eq_ofNat_of_zero_le a1
  have hk : k < ps.length := by omega
  refine ⟨ps[k], by rw [atI_nat' (List.getElem?_eq_getElem hk)], ?_⟩
  obtain ⟨xs, e, x1, x2⟩ := hp _ (List.getElem_mem hk)
  rw [e]
  refine f_bent b1 (by omega) hm x1 (by omega) x2 fun d2 sl ys y1 y2 b2 => ?_
  walk_at "w"
  refine ⟨by rcases h11 with rfl | ⟨d, rfl⟩ <;> rfl, ?_⟩
  refine take_step b2 (by decide) (by decide) (by omega) fun r2 d3 a2 c2 b3 => ?_
  have fin : ∀ (d4 : List PyData) (d : PyData), Pap (L + 2) d → BoxD d4 (n + 10) → F__law_right_4 E [.own d4, u1, u2, u3, u4, .fz (natD many), u6, u7, .own ps, u9, u10, .fz d, u12, u13, u14] := fun d4 d p b => by
    unfold F__law_right_4
    walk_at "w"
    exact ⟨by rw [lin]; omega, h _ _ p b⟩
  by_cases c : r2 = 0
  · refine if1 c ?_
    refine f_bent b3 (by omega) hm y1 (by omega) y2 fun d4 sl ys y1 y2 b4 => ?_
    exact fin _ _ ⟨ys, rfl, y1, y2⟩ (b4.mono (by omega))
  · refine if0 c ?_
    exact fin _ _ ⟨ys, rfl, by omega, y2⟩ (b3.mono (by omega))
theorem shaped_nats (row : List Nat) : SeqAt.shaped (.list (row.map natD)) = true := by
  rw [show row.map natD = (row.map fun n : Nat => (n : Int)).map PyData.int from by rw [List.map_map]; rfl]
  exact shaped_ints _
theorem f_right_8 {E : FEnds} {ds : List PyData} {n one : Nat} {cans : List (List Nat)} {ps : List PyData} {u1 u2 u3 u4 u7 u11 u12 u13 u14 : Sl} (hb : BoxD ds n) (hn : n < 1000000) (ok : CansOk cans) (ho : one < cans.length) (hp1 : ps.length ≤ 1000)
    (h : ∀ ds' d d', Pap 100 d → Pap 100 d' → BoxD ds' (n + 1) → E.nx [.own ds', u1, u2, u3, u4, .fz (natD cans.length), .fz (cansD cans), u7, .own (ps ++ [d] ++ [d']), .fz (natD one), .no, u11, u12, u13, u14]) :
    F__law_right_8 E [.own ds, u1, u2, u3, u4, .fz (natD cans.length), .fz (cansD cans), u7, .own ps, .fz (natD one), .no, u11, u12, u13, u14] := by
  have lin : sizeLine = 16777216 := by decide +kernel
  have few := ok.few
  unfold F__law_right_8
  walk_at "w"
  rw [show ((cans.length : Int)).toNat = cans.length from rfl]
  refine ⟨by omega, by omega, ?_⟩
  refine lc_map (List.range cans.length) (fun k : Nat => .int (0 + (k : Int))) (fun k => if (PyData.list ((cans.getD k []).map natD)).eqv (PyData.list ((cans.getD one []).map natD)) = true then some (natD k) else none) rfl rfl (by rw [List.length_range, lin]; omega) (fun k R acc hk hacc hR => ?_) ?_
  · have hk := List.mem_range.mp hk
    rw [Int.zero_add]
    walk_at "w"
    unfold F__law_right_7 cansD
    walk_at "w"
    refine ⟨_, cans_at hk, _, cans_at ho, ?_⟩
    refine ⟨shaped_nats _, shaped_nats _, ?_⟩
    cases c : (PyData.list ((cans.getD k []).map natD)).eqv (PyData.list ((cans.getD one []).map natD)) with
    | true =>
      rw [c, if_pos rfl] at hR
      exact if1 rfl ⟨hacc, hR⟩
    | false =>
      rw [c, if_neg (by decide), Option.toList_none, List.append_nil] at hR
      exact if0 (by decide) hR
  · rw [filterMap_if]
    have pl : Pap 100 (.list (natsD ((List.range cans.length).filter fun k => (PyData.list ((cans.getD k []).map natD)).eqv (PyData.list ((cans.getD one []).map natD))))) := by
      refine pap_nats ?_ fun x hx => ?_
      · refine Nat.le_trans (List.length_filter_le _ _) ?_
        rw [List.length_range]
        exact few
      · have := List.mem_range.mp (List.mem_filter.mp hx).1
        omega
    walk_at "w"
    refine ⟨by rw [lin]; omega, ?_⟩
    refine take_step hb (by omega) (by omega) (by omega) fun r d1 a c b => ?_
    refine ⟨by rw [List.length_append, List.length_singleton, lin]; omega, ?_⟩
    exact h _ _ _ pl ⟨_, rfl, Nat.le_of_ble_eq_true rfl, fun x hx => by
      rcases List.mem_cons.mp hx with rfl | hx
      · exact sm_int (by omega)
      · rw [List.mem_singleton.mp hx]; exact sm_int (by omega)⟩ b
mutual
theorem unD_ok {B : Nat} : ∀ {d : PyData}, okD B d = true → unD d = d
  | .none, _ => by rw [unD] <;> (intros; contradiction)
  | .bool _, _ => by rw [unD] <;> (intros; contradiction)
  | .int _, _ => by rw [unD] <;> (intros; contradiction)
  | .str _, _ => by rw [unD] <;> (intros; contradiction)
  | .list xs, q => by rw [unD, unAll_ok (ds := xs) q]
  | .tuple xs, q => by rw [unD, unAll_ok (ds := xs) q]
  | .dict _, q => by cases q
theorem unAll_ok {B : Nat} : ∀ {ds : List PyData}, okAll B ds = true → unAll ds = ds
  | [], _ => by rw [unAll]
  | x :: r, q => by
    have q' : (okD B x && okAll B r) = true := q
    rw [Bool.and_eq_true] at q'
    rw [unAll, unD_ok q'.1, unAll_ok q'.2]
end
theorem str_ways {d : PyData} (h : okD 1000 d = true) (hd : d.depth ≤ 50) (hn : nodes d ≤ 10000) : (∀ P : PyData → Prop, P (.str d.shown) → bRepr [d] P) ∨ ∃ t, strD d = some t := by
  have r := fun P q => repr_th (B := 1000) (by decide) h hd hn (P := P) q
  cases d with
  | dict _ => cases h
  | list ds => exact .inl r
  | tuple ds => exact .inl r
  | none => exact .inr ⟨_, rfl⟩
  | bool _ => exact .inr ⟨_, rfl⟩
  | str _ => exact .inr ⟨_, rfl⟩
  | int i =>
    have : i.natAbs ≤ 1000 := of_decide_eq_true h
    refine .inr ⟨_, if_pos ?_⟩
    exact log2_ok18 (by omega)
/-- what comes of one paper -/
theorem f_right_2 {E : FEnds} {ts fss : List (List Str)} {td fd z : PyData} {u0 u1 u2 u3 u4 u5 u7 u8 u9 u10 : Sl} (n0 : noSt [u0, u1, u2, u3, u4, u5, u7, u8, u9, u10] = true) (ht : td = .list (ts.map thD) ∨ td = .tuple (ts.map thD)) (hf : fd = .list (fss.map fdD) ∨ fd = .tuple (fss.map fdD)) (h1 : ts.length ≤ 100) (h2 : fss.length ≤ 100) (h3 : ∀ fs ∈ fss, fs.length ≤ 100) (hz : okD 1000 z = true) (hd : z.depth ≤ 50) (hn : nodes z ≤ 10000)
    (h : ∀ a13 a14, E.nx [u0, u1, u2, u3, u4, u5, .fz (cansD (cansOf ts fss)), u7, u8, u9, u10, .fz z, .fz (.list [td, fd]), .fz a13, .fz a14]) :
    F__law_right_2 E [u0, u1, u2, u3, u4, u5, .fz (cansD (cansOf ts fss)), u7, u8, u9, u10, .fz z, .fz (.list [td, fd]), .no, .no] := by
  have lin : sizeLine = 16777216 := by decide +kernel
  have eu := unD_ok hz
  unfold F__law_right_2
  walk_at "w"
  rw [eu]
  have sh : ∀ b : Bool, SeqAt.shaped (.bool b) = true := fun _ => rfl
  rcases str_ways hz hd hn with w | ⟨t, ht'⟩
  · refine .inl (w _ ?_)
    refine f_shows_none ht hf h1 h2 h3 hz hn fun sl => ?_
    refine f_l_due (cansOf_ok h1 h2) (cansOf_nd ts fss) hz hn fun sl => ?_
    refine ⟨rfl, rfl, by show 0 < 8; decide, by show 1 ≤ 1000000; decide, fun sl => .inl (w _ ?_)⟩
    walk_at "w"
    exact h _ _
  · refine .inr ⟨t, ht', ?_⟩
    refine f_shows_none ht hf h1 h2 h3 hz hn fun sl => ?_
    refine f_l_due (cansOf_ok h1 h2) (cansOf_nd ts fss) hz hn fun sl => ?_
    refine ⟨rfl, rfl, by show 0 < 8; decide, by show 1 ≤ 1000000; decide, fun sl => .inr ⟨t, ht', if1 rfl (h _ _)⟩⟩
theorem pap_ok {L : Nat} {d : PyData} (h : Pap L d) (hL : L ≤ 1000) : okD 1000 d = true ∧ d.depth ≤ 50 ∧ nodes d ≤ 10000 := by
  obtain ⟨xs, rfl, h1, h2⟩ := h
  have : ∀ ys : List PyData, (∀ y ∈ ys, Sm y) → okAll 1000 ys = true ∧ PyData.depthAll ys ≤ 1 ∧ nodesAll ys ≤ 2 * ys.length := by
    intro ys
    induction ys with
    | nil => exact fun _ => ⟨rfl, Nat.zero_le _, Nat.zero_le _⟩
    | cons y r ih =>
      intro h
      obtain ⟨i1, i2, i3⟩ := ih fun z hz => h z (List.mem_cons_of_mem _ hz)
      have s := h y List.mem_cons_self
      refine ⟨?_, ?_, ?_⟩
      · show (okD 1000 y && okAll 1000 r) = true
        rw [s.ok, i1]; rfl
      · show max y.depth (PyData.depthAll r) ≤ 1
        have := s.dp
        omega
      · show nodes y + nodesAll r ≤ 2 * (r.length + 1)
        have := s.nd
        omega
  obtain ⟨a, b, c⟩ := this xs h2
  exact ⟨a, by show PyData.depthAll xs + 1 ≤ 50; omega, by show nodesAll xs + 1 ≤ 10000; omega⟩
theorem pap_tup {L : Nat} {xs : List PyData} (h : Pap L (.list xs)) (hL : L ≤ 1000) : okD 1000 (.tuple xs) = true ∧ (PyData.tuple xs).depth ≤ 50 ∧ nodes (.tuple xs) ≤ 10000 := by
  obtain ⟨a, b, c⟩ := pap_ok h hL
  exact ⟨a, b, c⟩
theorem f_right_3 {E : FEnds} {ds : List PyData} {n L : Nat} {ts fss : List (List Str)} {ps : List PyData} {u1 u4 u5 u7 u9 u10 u11 : Sl} (h11 : Fz u11) (hb : BoxD ds n) (hn : n < 1000000) (n0 : ∀ ds x, noSt [.own ds, u1, .fz (.list (ts.map thD)), .fz (.list (fss.map fdD)), u4, u5, u7, .fz x, u9, u10] = true) (h1 : ts.length ≤ 100) (h2 : fss.length ≤ 100) (h3 : ∀ fs ∈ fss, fs.length ≤ 100) (hL : L ≤ 1000) (hp0 : 0 < ps.length) (hp1 : ps.length ≤ 1000) (hp : ∀ p ∈ ps, Pap L p)
    (h : ∀ ds' sl, E.rt (.bool true) (.own ds' :: sl)) :
    F__law_right_3 E [.own ds, u1, .fz (.list (ts.map thD)), .fz (.list (fss.map fdD)), u4, u5, .fz (cansD (cansOf ts fss)), u7, .own ps, u9, u10, u11, .no, .no, .no] := by
  have lin : sizeLine = 16777216 := by decide +kernel
  unfold F__law_right_3
  walk_at "w"
  obtain ⟨xs, ex, x1, x2⟩ := hp _ (List.getElem_mem hp0)
  refine ⟨.list xs, by rw [show (0 : Int) = ((0 : Nat) : Int) from rfl, atI_nat' (List.getElem?_eq_getElem hp0), ex], ?_⟩
  have px : Pap L (.list xs) := ⟨xs, rfl, x1, x2⟩
  refine ⟨by rw [lin]; omega, ?_⟩
  refine f_given hb (by omega) fun d1 sl td ht b1 => ?_
  walk_at "w"
  refine f_given b1 (by omega) fun d2 sl fd hf b2 => ?_
  walk_at "w"
  have all : ∀ z ∈ ps ++ [PyData.tuple [], PyData.tuple xs, PyData.none, PyData.bool true, PyData.int 0, PyData.str (Str.ofString "0"), PyData.list [PyData.list [PyData.int 0, PyData.int 1]], PyData.list [PyData.list [PyData.list [PyData.list [PyData.list [PyData.list []]]]]], PyData.list [PyData.tuple [PyData.int 0, PyData.int 1]], PyData.bool false], okD 1000 z = true ∧ z.depth ≤ 50 ∧ nodes z ≤ 10000 := fun z hz => by
    rcases List.mem_append.mp hz with w | w
    · exact pap_ok (hp z w) hL
    · simp only [List.mem_cons, List.not_mem_nil, or_false] at w
      rcases w with rfl | rfl | rfl | rfl | rfl | rfl | rfl | rfl | rfl | rfl
      · exact ⟨rfl, by decide, Nat.le_of_ble_eq_true rfl⟩
      · exact pap_tup px hL
      · exact ⟨rfl, by decide, Nat.le_of_ble_eq_true rfl⟩
      · exact ⟨rfl, by decide, Nat.le_of_ble_eq_true rfl⟩
      · exact ⟨rfl, by decide, Nat.le_of_ble_eq_true rfl⟩
      · exact ⟨by decide +kernel, by decide, Nat.le_of_ble_eq_true rfl⟩
      · exact ⟨by decide +kernel, by decide, Nat.le_of_ble_eq_true rfl⟩
      · exact ⟨rfl, by decide, Nat.le_of_ble_eq_true rfl⟩
      · exact ⟨by decide +kernel, by decide, Nat.le_of_ble_eq_true rfl⟩
      · exact ⟨rfl, by decide, Nat.le_of_ble_eq_true rfl⟩
  generalize ps ++ [PyData.tuple [], PyData.tuple xs, PyData.none, PyData.bool true, PyData.int 0, PyData.str (Str.ofString "0"), PyData.list [PyData.list [PyData.int 0, PyData.int 1]], PyData.list [PyData.list [PyData.list [PyData.list [PyData.list [PyData.list []]]]]], PyData.list [PyData.tuple [PyData.int 0, PyData.int 1]], PyData.bool false] = zs at all
  refine for_map zs id (fun i ρ => ∃ a11, Fz a11 ∧ ρ = [.own d2, u1, .fz (.list (ts.map thD)), .fz (.list (fss.map fdD)), u4, u5, .fz (cansD (cansOf ts fss)), u7, .fz (.list zs), u9, u10, a11, .fz (.list [td, fd]), .no, .no]) (by simp) ⟨u11, h11, rfl⟩ ?_ ?_
  · rintro i z ρ hz hi ⟨a11, g11, rfl⟩
    obtain ⟨o1, o2, o3⟩ := all z (List.mem_of_getElem? hz)
    refine ⟨by rcases g11 with rfl | ⟨d, rfl⟩ <;> rfl, ?_⟩
    refine f_right_2 (u0 := .own d2) (u8 := .fz (.list zs)) (n0 _ _) ht hf h1 h2 h3 o1 o2 o3 fun a13 a14 => ?_
    exact ⟨_, .inr ⟨_, rfl⟩, rfl⟩
  · rintro ρ ⟨a11, g11, rfl⟩
    unfold F__law_right_1
    walk_at "w"
    exact h _ _
theorem rangeD_nats (m : Nat) : rangeD 0 m = natsD (List.range m) := by
  show (List.range m).map (fun k : Nat => PyData.int (0 + (k : Int))) = (List.range m).map natD
  refine List.map_congr_left fun k _ => ?_
  rw [Int.zero_add]
theorem f_right {ds : List PyData} (hb : BoxD ds 0) {P : PyData → List Sl → Prop} (h : ∀ sl, P (.bool true) sl) : F__law_right [.own ds] P := by
  have lin : sizeLine = 16777216 := by decide +kernel
  unfold F__law_right
  walk_at "w"
  refine take_step hb (by decide) (by decide) (by omega) fun r1 d1 a1 c1 b1 => ?_
  obtain ⟨m1, rfl⟩ := Int.eq_ofNat_of_zero_le a1
  rw [show (3 : Int) + (m1 : Int) = ((3 + m1 : Nat) : Int) by omega]
  refine f_names b1 (by omega) (by omega) fun ss d2 _ l1 hs b2 => ?_
  walk_at "w"
  refine take_step b2 (by decide) (by decide) (by omega) fun r2 d3 a2 c2 b3 => ?_
  obtain ⟨m2, rfl⟩ := Int.eq_ofNat_of_zero_le a2
  rw [show (2 : Int) + (m2 : Int) = ((2 + m2 : Nat) : Int) by omega]
  refine f_things b3 (by omega) (by omega) (by omega) hs fun ts d4 _ lt ht b4 => ?_
  walk_at "w"
  refine take_step b4 (by decide) (by decide) (by omega) fun r3 d5 a3 c3 b5 => ?_
  obtain ⟨m3, rfl⟩ := Int.eq_ofNat_of_zero_le a3
  rw [show (3 : Int) + (m3 : Int) = ((3 + m3 : Nat) : Int) by omega, Int.toNat_natCast]
  refine ⟨by omega, by omega, ?_⟩
  have b5' : BoxD d5 5000 := b5.mono (by omega)
  clear b1 b2 b3 b4 b5
  refine lc_inv (List.range (3 + m3)) (fun k : Nat => .int (0 + (k : Int))) (fun j acc ρ => ∃ (d6 : List PyData) (fss : List (List Str)), BoxD d6 (5000 + 40 * j) ∧ fss.length = j ∧ (∀ fs ∈ fss, fs.length ≤ 6 ∧ ∀ s ∈ fs, s ∈ ss) ∧ acc = fss.map fdD ∧ ρ = [.own d6, .fz (.list (ss.map .str)), .fz (.list (ts.map thD)), .no, .no, .no, .no, .no, .no, .no, .no, .no, .no, .no, .no]) rfl rfl ⟨d5, [], b5', rfl, fun _ h => absurd h List.not_mem_nil, rfl, rfl⟩ ?_ ?_
  · rintro j x acc ρ hx hj ⟨d6, fss, b6, l6, f6, rfl, rfl⟩
    rw [List.length_range] at hj
    walk_at "w"
    unfold F__law_right_10
    walk_at "w"
    rw [show (3 : Int) = ((3 : Nat) : Int) from rfl, cutD_take]
    refine f_find b6 (by omega) (by omega) (by omega) hs (by rw [List.length_take]; omega) (fun ws hw => ht ws (List.mem_of_mem_take hw)) fun fs d7 _ g1 g2 b7 => ?_
    walk_at "w"
    refine ⟨by rw [List.length_map, lin]; omega, d7, fss ++ [fs], b7.mono (by omega), by rw [List.length_append, List.length_singleton, l6], fun x hx => ?_, by rw [List.map_append]; rfl, rfl⟩
    rcases List.mem_append.mp hx with q | q
    · exact f6 x q
    · rw [List.mem_singleton.mp q]; exact ⟨g1, g2⟩
  · rintro acc ρ ⟨d6, fss, b6, l6, f6, rfl, e⟩
    rw [e]
    rw [List.length_range] at b6 l6
    walk_at "w"
    have f1 : ∀ fs ∈ fss, fs.length ≤ 100 := fun fs hf => by have := (f6 fs hf).1; omega
    have f2 : ∀ fs ∈ fss, ∀ s ∈ fs, NameS s := fun fs hf s hs' => hs s ((f6 fs hf).2 s hs')
    refine f_l_cans (by omega) (by omega) f1 f2 fun sl => ?_
    walk_at "w"
    have cl : (cansOf ts fss).length = fss.length := by unfold cansOf; rw [List.length_map]
    have ok : CansOk (cansOf ts fss) := cansOf_ok (by omega) (by omega)
    have pr : Pap 100 (.list (natsD (List.range fss.length))) := pap_nats (by rw [List.length_range]; omega) fun x hx => by have := List.mem_range.mp hx; omega
    have next : ∀ (told : PyData) (p0 : PyData), Pap 100 p0 → F__law_right_9 { nx := fun ρ' => P PyData.none (List.take 1 ρ'), rt := fun d ρ' => P d (List.take 1 ρ') } [.own d6, .fz (.list (ss.map .str)), .fz (.list (ts.map thD)), .fz (.list (fss.map fdD)), .no, .fz (natD fss.length), .fz (cansD (cansOf ts fss)), .fz told, .own [p0, .list (natsD (List.range fss.length))], .no, .no, .no, .no, .no, .no] := by
      intro told p0 hp0
      unfold F__law_right_9
      walk_at "w"
      rw [Int.toNat_natCast]
      refine ⟨by omega, by omega, ?_⟩
      refine for_range (fun k ρ => ∃ (d7 : List PyData) (ps : List PyData), BoxD d7 (6000 + k) ∧ ps.length = 2 + 2 * k ∧ (∀ p ∈ ps, Pap 100 p) ∧ ρ = [.own d7, .fz (.list (ss.map .str)), .fz (.list (ts.map thD)), .fz (.list (fss.map fdD)), .no, .fz (natD fss.length), .fz (cansD (cansOf ts fss)), .fz told, .own ps, .no, .no, .no, .no, .no, .no]) ⟨d6, _, b6.mono (by omega), rfl, fun p hp => ?_, rfl⟩ ?_ ?_
      · rcases List.mem_cons.mp hp with rfl | hp
        · exact hp0
        · rw [List.mem_singleton.mp hp]; exact pr
      · rintro k ρ hk ⟨d7, ps, b7, l7, p7, rfl⟩
        rw [Int.zero_add]
        refine ⟨rfl, ?_⟩
        rw [← cl]
        refine f_right_8 b7 (by omega) ok (by rw [cl]; exact hk) (by omega) fun d8 p p' q q' b8 => ?_
        refine ⟨d8, ps ++ [p] ++ [p'], b8.mono (by omega), by simp only [List.length_append, List.length_singleton]; omega, fun x hx => ?_, rfl⟩
        rcases List.mem_append.mp hx with w | w
        · rcases List.mem_append.mp w with w | w
          · exact p7 x w
          · rw [List.mem_singleton.mp w]; exact q
        · rw [List.mem_singleton.mp w]; exact q'
      · rintro ρ ⟨d7, ps, b7, l7, p7, rfl⟩
        unfold F__law_right_6
        walk_at "w"
        refine for_range (fun k ρ => ∃ (d8 : List PyData) (ps : List PyData) (a11 : Sl), Fz a11 ∧ BoxD d8 (7000 + 10 * k) ∧ ps.length = 2 + 2 * fss.length + k ∧ (∀ p ∈ ps, Pap (100 + 2 * k) p) ∧ ρ = [.own d8, .fz (.list (ss.map .str)), .fz (.list (ts.map thD)), .fz (.list (fss.map fdD)), .no, .fz (natD fss.length), .fz (cansD (cansOf ts fss)), .fz told, .own ps, .no, .no, a11, .no, .no, .no]) ⟨d7, ps, .no, .inl rfl, b7.mono (by omega), l7, p7, rfl⟩ ?_ ?_
        · rintro k ρ hk ⟨d8, ps, a11, g11, b8, l8, p8, rfl⟩
          have hk' : k < 14 := hk
          refine ⟨rfl, ?_⟩
          refine f_right_5 (L := 100 + 2 * k) g11 b8 (by omega) (by omega) (by omega) (by omega) (by omega) p8 fun d9 d pd b9 => ?_
          refine ⟨d9, ps ++ [d], _, .inr ⟨_, rfl⟩, b9.mono (by omega), by rw [List.length_append, List.length_singleton]; omega, fun x hx => ?_, rfl⟩
          rcases List.mem_append.mp hx with w | w
          · exact (p8 x w).mono (by omega)
          · rw [List.mem_singleton.mp w]; exact pd.mono (by omega)
        · rintro ρ ⟨d8, ps, a11, g11, b8, l8, p8, rfl⟩
          have l8 : ps.length = 2 + 2 * fss.length + 14 := l8
          have p8 : ∀ p ∈ ps, Pap 128 p := p8
          refine f_right_3 g11 b8 (by decide) (fun _ _ => rfl) (by omega) (by omega) f1 (by decide) (by omega) (by omega) p8 fun d9 sl => ?_
          exact h _
    refine f_way_for (by omega) (by omega) f1 (fun ps sl p1 p2 => ?_) fun X Y sl e py pw => ?_
    · walk_at "w"
      refine if0 (by decide +kernel) ?_
      rw [List.length_map, Int.toNat_natCast, rangeD_nats]
      refine ⟨by omega, by omega, by omega, by omega, next _ _ pr⟩
    · walk_at "w"
      rw [List.length_map, Int.toNat_natCast, rangeD_nats]
      refine ⟨by omega, by omega, next _ _ ?_⟩
      obtain ⟨T, fw⟩ := lacking_some (by omega) e
      have lt : ∀ x ∈ Y, x < fss.length := fun x hx => by rw [← cl]; exact fw.lt x (py.mem_iff.mp hx)
      have nd : Y.Nodup := py.symm.nodup fw.nd
      have := below_len nd lt
      exact pap_nats (by omega) fun x hx => by have := lt x hx; omega
theorem f_law {ns : List Int} (hl : ns.length ≤ 63) : F_law [.fz (.list (ns.map .int))] fun d _ => d = .bool true := by
  have lin : sizeLine = 16777216 := by decide +kernel
  unfold F_law
  walk_at "w"
  refine f_folded (m := 4) (by decide) (by decide) hl fun ms hm sl => ?_
  walk_at "w"
  obtain ⟨z, hz, hz4⟩ : ∃ z : Nat, (if ((ms.map PyData.int).length : Int) > 2 then ((ms.map PyData.int).length : Int) else 2) = (z : Int) ∧ z ≤ 4 := by
    rw [List.length_map]
    split
    · exact ⟨ms.length, rfl, hm⟩
    · exact ⟨2, rfl, by decide⟩
  rw [hz, Int.toNat_natCast]
  refine ⟨by omega, by omega, ?_⟩
  refine lc_map (List.range z) (fun k : Nat => .int (0 + (k : Int))) (fun _ => some (.bool true)) rfl rfl (by rw [List.length_range]; omega) (fun k R acc hk hacc hR => ?_) ?_
  · have hk' := List.mem_range.mp hk
    unfold F_law_1
    walk_at "w"
    refine f_box (by omega) fun d sl hb => ?_
    refine f_right hb fun sl => ?_
    walk_at "w"
    exact ⟨hacc, hR⟩
  · rw [filterMap_some]
    refine boolsF_f ?_
    have e : ((List.range z).map fun _ => true).all id = true := by
      rw [List.all_map]
      exact List.all_eq_true.mpr fun _ _ => rfl
    rw [e]
def top (i : Nat) : Stmt := PySem.Challenge.pw_stallshares_k29_papers_of_finds_spoilt.main.body.getD i (.Pass ⟨0, 0, 0, 0⟩)
abbrev s__law_folded : Stmt := top 17
abbrev N__law_folded : List Str := ["_law_script", "_law_size", "_law_cells", "_law_k", "_law_cell"]
theorem sc__law_folded : FnScope N__law_folded ["_law_script", "_law_size"] (defScope s__law_folded) := ⟨rfl, rfl, rfl, by decide +kernel, rfl, by decide +kernel, by decide +kernel⟩
abbrev s__law_take : Stmt := top 16
abbrev N__law_take : List Str := ["_law_box_here", "_law_size", "_law_found", "_law_step", "_law_once", "_law_twice"]
theorem sc__law_take : FnScope N__law_take ["_law_box_here", "_law_size"] (defScope s__law_take) := ⟨rfl, rfl, rfl, by decide +kernel, rfl, by decide +kernel, by decide +kernel⟩
abbrev s__law_names : Stmt := top 18
abbrev N__law_names : List Str := ["_law_box_here", "_law_many", "_law_letters", "_law_found", "_law_first", "_law_step", "_law_words", "_law_k", "_law_own", "_law_tail", "_law_turn", "_law_name"]
theorem sc__law_names : FnScope N__law_names ["_law_box_here", "_law_many"] (defScope s__law_names) := ⟨rfl, rfl, rfl, by decide +kernel, rfl, by decide +kernel, by decide +kernel⟩
abbrev s__law_some_words : Stmt := top 19
abbrev N__law_some_words : List Str := ["_law_box_here", "_law_pool", "_law_most", "_law_left", "_law_found", "_law_turn"]
theorem sc__law_some_words : FnScope N__law_some_words ["_law_box_here", "_law_pool", "_law_most"] (defScope s__law_some_words) := ⟨rfl, rfl, rfl, by decide +kernel, rfl, by decide +kernel, by decide +kernel⟩
abbrev s__law_things : Stmt := top 21
abbrev N__law_things : List Str := ["_law_box_here", "_law_pool", "_law_many", "_law_found", "_law_k"]
theorem sc__law_things : FnScope N__law_things ["_law_box_here", "_law_pool", "_law_many"] (defScope s__law_things) := ⟨rfl, rfl, rfl, by decide +kernel, rfl, by decide +kernel, by decide +kernel⟩
abbrev s_can_be : Stmt := top 10
abbrev N_can_be : List Str := ["things", "find", "place", "words", "word"]
theorem sc_can_be : FnScope N_can_be ["things", "find"] (defScope s_can_be) := ⟨rfl, rfl, rfl, by decide +kernel, rfl, by decide +kernel, by decide +kernel⟩
abbrev s_cans_of : Stmt := top 11
abbrev N_cans_of : List Str := ["things", "finds", "find"]
theorem sc_cans_of : FnScope N_cans_of ["things", "finds"] (defScope s_cans_of) := ⟨rfl, rfl, rfl, by decide +kernel, rfl, by decide +kernel, by decide +kernel⟩
abbrev s_led_on : Stmt := top 1
abbrev N_led_on : List Str := ["cans", "held", "one", "seen", "place"]
theorem sc_led_on : FnScope N_led_on ["cans", "held", "one", "seen"] (defScope s_led_on) := ⟨rfl, rfl, rfl, by decide +kernel, rfl, by decide +kernel, by decide +kernel⟩
abbrev s_paired_off : Stmt := top 2
abbrev N_paired_off : List Str := ["cans", "held", "one", "seen", "place"]
theorem sc_paired_off : FnScope N_paired_off ["cans"] (defScope s_paired_off) := ⟨rfl, rfl, rfl, by decide +kernel, rfl, by decide +kernel, by decide +kernel⟩
abbrev s_short_by : Stmt := top 6
abbrev N_short_by : List Str := ["cans"]
theorem sc_short_by : FnScope N_short_by ["cans"] (defScope s_short_by) := ⟨rfl, rfl, rfl, by decide +kernel, rfl, by decide +kernel, by decide +kernel⟩
abbrev s_with_place : Stmt := top 3
abbrev N_with_place : List Str := ["cans", "one", "place"]
theorem sc_with_place : FnScope N_with_place ["cans", "one", "place"] (defScope s_with_place) := ⟨rfl, rfl, rfl, by decide +kernel, rfl, by decide +kernel, by decide +kernel⟩
abbrev s_least_place : Stmt := top 4
abbrev N_least_place : List Str := ["cans", "one", "place"]
theorem sc_least_place : FnScope N_least_place ["cans", "one"] (defScope s_least_place) := ⟨rfl, rfl, rfl, by decide +kernel, rfl, by decide +kernel, by decide +kernel⟩
abbrev s_first_pairing : Stmt := top 5
abbrev N_first_pairing : List Str := ["cans", "left", "one", "places"]
theorem sc_first_pairing : FnScope N_first_pairing ["cans"] (defScope s_first_pairing) := ⟨rfl, rfl, rfl, by decide +kernel, rfl, by decide +kernel, by decide +kernel⟩
abbrev s_way_for : Stmt := top 12
abbrev N_way_for : List Str := ["things", "finds", "cans", "lacking"]
theorem sc_way_for : FnScope N_way_for ["things", "finds"] (defScope s_way_for) := ⟨rfl, rfl, rfl, by decide +kernel, rfl, by decide +kernel, by decide +kernel⟩
abbrev s__law_find : Stmt := top 22
abbrev N__law_find : List Str := ["_law_box_here", "_law_pool", "_law_things_here", "_law_way", "_law_words", "_law_kept", "_law_word"]
theorem sc__law_find : FnScope N__law_find ["_law_box_here", "_law_pool", "_law_things_here"] (defScope s__law_find) := ⟨rfl, rfl, rfl, by decide +kernel, rfl, by decide +kernel, by decide +kernel⟩
abbrev s__law_cans : Stmt := top 23
abbrev N__law_cans : List Str := ["_law_things_here", "_law_finds", "_law_found", "_law_find_here", "_law_place", "_law_words", "_law_one"]
theorem sc__law_cans : FnScope N__law_cans ["_law_things_here", "_law_finds"] (defScope s__law_cans) := ⟨rfl, rfl, rfl, by decide +kernel, rfl, by decide +kernel, by decide +kernel⟩
abbrev s__law_bent : Stmt := top 27
abbrev N__law_bent : List Str := ["_law_box_here", "_law_thing", "_law_many", "_law_way", "_law_at", "_law_one"]
theorem sc__law_bent : FnScope N__law_bent ["_law_box_here", "_law_thing", "_law_many"] (defScope s__law_bent) := ⟨rfl, rfl, rfl, by decide +kernel, rfl, by decide +kernel, by decide +kernel⟩
abbrev s__law_given : Stmt := top 25
abbrev N__law_given : List Str := ["_law_box_here", "_law_rows"]
theorem sc__law_given : FnScope N__law_given ["_law_box_here", "_law_rows"] (defScope s__law_given) := ⟨rfl, rfl, rfl, by decide +kernel, rfl, by decide +kernel, by decide +kernel⟩
abbrev s_are_places : Stmt := top 7
abbrev N_are_places : List Str := ["thing", "many", "one", "other"]
theorem sc_are_places : FnScope N_are_places ["thing", "many"] (defScope s_are_places) := ⟨rfl, rfl, rfl, by decide +kernel, rfl, by decide +kernel, by decide +kernel⟩
abbrev s_are_too_few : Stmt := top 8
abbrev N_are_too_few : List Str := ["cans", "ones", "found", "one", "place"]
theorem sc_are_too_few : FnScope N_are_too_few ["cans", "ones"] (defScope s_are_too_few) := ⟨rfl, rfl, rfl, by decide +kernel, rfl, by decide +kernel, by decide +kernel⟩
abbrev s_shows_none : Stmt := top 13
abbrev N_shows_none : List Str := ["things", "finds", "thing"]
theorem sc_shows_none : FnScope N_shows_none ["things", "finds", "thing"] (defScope s_shows_none) := ⟨rfl, rfl, rfl, by decide +kernel, rfl, by decide +kernel, by decide +kernel⟩
abbrev s__law_same : Stmt := top 20
abbrev N__law_same : List Str := ["_law_found", "_law_due_here", "_law_one", "_law_other"]
theorem sc__law_same : FnScope N__law_same ["_law_found", "_law_due_here"] (defScope s__law_same) := ⟨rfl, rfl, rfl, by decide +kernel, rfl, by decide +kernel, by decide +kernel⟩
abbrev s__law_too_few : Stmt := top 24
abbrev N__law_too_few : List Str := ["_law_cans_here", "_law_ones", "_law_met", "_law_one", "_law_place"]
theorem sc__law_too_few : FnScope N__law_too_few ["_law_cans_here", "_law_ones"] (defScope s__law_too_few) := ⟨rfl, rfl, rfl, by decide +kernel, rfl, by decide +kernel, by decide +kernel⟩
abbrev s__law_due : Stmt := top 26
abbrev N__law_due : List Str := ["_law_cans_here", "_law_thing", "_law_at", "_law_one"]
theorem sc__law_due : FnScope N__law_due ["_law_cans_here", "_law_thing"] (defScope s__law_due) := ⟨rfl, rfl, rfl, by decide +kernel, rfl, by decide +kernel, by decide +kernel⟩
abbrev s__law_right : Stmt := top 28
abbrev N__law_right : List Str := ["_law_box_here", "_law_pool", "_law_things_here", "_law_finds", "_law_turn", "_law_many", "_law_cans_here", "_law_told", "_law_papers", "_law_one", "_law_two", "_law_thing", "_law_handed", "_law_kept", "_law_found"]
theorem sc__law_right : FnScope N__law_right ["_law_box_here"] (defScope s__law_right) := ⟨rfl, rfl, rfl, by decide +kernel, rfl, by decide +kernel, by decide +kernel⟩
abbrev s__law_box : Stmt := top 15
abbrev N__law_box : List Str := ["_law_script", "_law_k", "_law_cell"]
theorem sc__law_box : FnScope N__law_box ["_law_script", "_law_k"] (defScope s__law_box) := ⟨rfl, rfl, rfl, by decide +kernel, rfl, by decide +kernel, by decide +kernel⟩
abbrev s_law : Stmt := top 29
abbrev N_law : List Str := ["_law_script", "_law_cells", "_law_k"]
theorem sc_law : FnScope N_law ["_law_script"] (defScope s_law) := ⟨rfl, rfl, rfl, by decide +kernel, rfl, by decide +kernel, by decide +kernel⟩
structure Ad where
  f__law_folded : Addr
  d__law_folded : FuncData
  f__law_take : Addr
  d__law_take : FuncData
  f__law_names : Addr
  d__law_names : FuncData
  f__law_some_words : Addr
  d__law_some_words : FuncData
  f__law_things : Addr
  d__law_things : FuncData
  f_can_be : Addr
  d_can_be : FuncData
  f_cans_of : Addr
  d_cans_of : FuncData
  f_led_on : Addr
  d_led_on : FuncData
  f_paired_off : Addr
  d_paired_off : FuncData
  f_short_by : Addr
  d_short_by : FuncData
  f_with_place : Addr
  d_with_place : FuncData
  f_least_place : Addr
  d_least_place : FuncData
  f_first_pairing : Addr
  d_first_pairing : FuncData
  f_way_for : Addr
  d_way_for : FuncData
  f__law_find : Addr
  d__law_find : FuncData
  f__law_cans : Addr
  d__law_cans : FuncData
  f__law_bent : Addr
  d__law_bent : FuncData
  f__law_given : Addr
  d__law_given : FuncData
  f_are_places : Addr
  d_are_places : FuncData
  f_are_too_few : Addr
  d_are_too_few : FuncData
  f_shows_none : Addr
  d_shows_none : FuncData
  f__law_same : Addr
  d__law_same : FuncData
  f__law_too_few : Addr
  d__law_too_few : FuncData
  f__law_due : Addr
  d__law_due : FuncData
  f__law_right : Addr
  d__law_right : FuncData
  f__law_box : Addr
  d__law_box : FuncData
  f_law : Addr
  d_law : FuncData
structure Txt (K : PySem.W.Frag) (mg : Str → Option Value) (a : Ad) : Prop where
  n_list : mg "list" = none
  n_enumerate : mg "enumerate" = none
  n_divmod : mg "divmod" = none
  n_range : mg "range" = none
  n_tuple : mg "tuple" = none
  n_sorted : mg "sorted" = none
  n_min : mg "min" = none
  n_len : mg "len" = none
  n_all : mg "all" = none
  n_set : mg "set" = none
  n_isinstance : mg "isinstance" = none
  n_zip : mg "zip" = none
  n_int : mg "int" = none
  n_bool : mg "bool" = none
  n_str : mg "str" = none
  n_abs : mg "abs" = none
  n_max : mg "max" = none
  F__law_folded : Fun K "_law_folded" "_law_folded" s__law_folded a.f__law_folded a.d__law_folded
  g__law_folded : mg "_law_folded" = some (.ref a.f__law_folded)
  b__law_folded : Binds K a.d__law_folded ["_law_script", "_law_size"] []
  F__law_take : Fun K "_law_take" "_law_take" s__law_take a.f__law_take a.d__law_take
  g__law_take : mg "_law_take" = some (.ref a.f__law_take)
  b__law_take : Binds K a.d__law_take ["_law_box_here", "_law_size"] []
  F__law_names : Fun K "_law_names" "_law_names" s__law_names a.f__law_names a.d__law_names
  g__law_names : mg "_law_names" = some (.ref a.f__law_names)
  b__law_names : Binds K a.d__law_names ["_law_box_here", "_law_many"] []
  F__law_some_words : Fun K "_law_some_words" "_law_some_words" s__law_some_words a.f__law_some_words a.d__law_some_words
  g__law_some_words : mg "_law_some_words" = some (.ref a.f__law_some_words)
  b__law_some_words : Binds K a.d__law_some_words ["_law_box_here", "_law_pool", "_law_most"] []
  F__law_things : Fun K "_law_things" "_law_things" s__law_things a.f__law_things a.d__law_things
  g__law_things : mg "_law_things" = some (.ref a.f__law_things)
  b__law_things : Binds K a.d__law_things ["_law_box_here", "_law_pool", "_law_many"] []
  F_can_be : Fun K "can_be" "can_be" s_can_be a.f_can_be a.d_can_be
  g_can_be : mg "can_be" = some (.ref a.f_can_be)
  b_can_be : Binds K a.d_can_be ["things", "find"] []
  F_cans_of : Fun K "cans_of" "cans_of" s_cans_of a.f_cans_of a.d_cans_of
  g_cans_of : mg "cans_of" = some (.ref a.f_cans_of)
  b_cans_of : Binds K a.d_cans_of ["things", "finds"] []
  F_led_on : Fun K "led_on" "led_on" s_led_on a.f_led_on a.d_led_on
  g_led_on : mg "led_on" = some (.ref a.f_led_on)
  b_led_on : Binds K a.d_led_on ["cans", "held", "one", "seen"] []
  F_paired_off : Fun K "paired_off" "paired_off" s_paired_off a.f_paired_off a.d_paired_off
  g_paired_off : mg "paired_off" = some (.ref a.f_paired_off)
  b_paired_off : Binds K a.d_paired_off ["cans"] []
  F_short_by : Fun K "short_by" "short_by" s_short_by a.f_short_by a.d_short_by
  g_short_by : mg "short_by" = some (.ref a.f_short_by)
  b_short_by : Binds K a.d_short_by ["cans"] []
  F_with_place : Fun K "with_place" "with_place" s_with_place a.f_with_place a.d_with_place
  g_with_place : mg "with_place" = some (.ref a.f_with_place)
  b_with_place : Binds K a.d_with_place ["cans", "one", "place"] []
  F_least_place : Fun K "least_place" "least_place" s_least_place a.f_least_place a.d_least_place
  g_least_place : mg "least_place" = some (.ref a.f_least_place)
  b_least_place : Binds K a.d_least_place ["cans", "one"] []
  F_first_pairing : Fun K "first_pairing" "first_pairing" s_first_pairing a.f_first_pairing a.d_first_pairing
  g_first_pairing : mg "first_pairing" = some (.ref a.f_first_pairing)
  b_first_pairing : Binds K a.d_first_pairing ["cans"] []
  F_way_for : Fun K "way_for" "way_for" s_way_for a.f_way_for a.d_way_for
  g_way_for : mg "way_for" = some (.ref a.f_way_for)
  b_way_for : Binds K a.d_way_for ["things", "finds"] []
  F__law_find : Fun K "_law_find" "_law_find" s__law_find a.f__law_find a.d__law_find
  g__law_find : mg "_law_find" = some (.ref a.f__law_find)
  b__law_find : Binds K a.d__law_find ["_law_box_here", "_law_pool", "_law_things_here"] []
  F__law_cans : Fun K "_law_cans" "_law_cans" s__law_cans a.f__law_cans a.d__law_cans
  g__law_cans : mg "_law_cans" = some (.ref a.f__law_cans)
  b__law_cans : Binds K a.d__law_cans ["_law_things_here", "_law_finds"] []
  F__law_bent : Fun K "_law_bent" "_law_bent" s__law_bent a.f__law_bent a.d__law_bent
  g__law_bent : mg "_law_bent" = some (.ref a.f__law_bent)
  b__law_bent : Binds K a.d__law_bent ["_law_box_here", "_law_thing", "_law_many"] []
  F__law_given : Fun K "_law_given" "_law_given" s__law_given a.f__law_given a.d__law_given
  g__law_given : mg "_law_given" = some (.ref a.f__law_given)
  b__law_given : Binds K a.d__law_given ["_law_box_here", "_law_rows"] []
  F_are_places : Fun K "are_places" "are_places" s_are_places a.f_are_places a.d_are_places
  g_are_places : mg "are_places" = some (.ref a.f_are_places)
  b_are_places : Binds K a.d_are_places ["thing", "many"] []
  F_are_too_few : Fun K "are_too_few" "are_too_few" s_are_too_few a.f_are_too_few a.d_are_too_few
  g_are_too_few : mg "are_too_few" = some (.ref a.f_are_too_few)
  b_are_too_few : Binds K a.d_are_too_few ["cans", "ones"] []
  F_shows_none : Fun K "shows_none" "shows_none" s_shows_none a.f_shows_none a.d_shows_none
  g_shows_none : mg "shows_none" = some (.ref a.f_shows_none)
  b_shows_none : Binds K a.d_shows_none ["things", "finds", "thing"] []
  F__law_same : Fun K "_law_same" "_law_same" s__law_same a.f__law_same a.d__law_same
  g__law_same : mg "_law_same" = some (.ref a.f__law_same)
  b__law_same : Binds K a.d__law_same ["_law_found", "_law_due_here"] []
  F__law_too_few : Fun K "_law_too_few" "_law_too_few" s__law_too_few a.f__law_too_few a.d__law_too_few
  g__law_too_few : mg "_law_too_few" = some (.ref a.f__law_too_few)
  b__law_too_few : Binds K a.d__law_too_few ["_law_cans_here", "_law_ones"] []
  F__law_due : Fun K "_law_due" "_law_due" s__law_due a.f__law_due a.d__law_due
  g__law_due : mg "_law_due" = some (.ref a.f__law_due)
  b__law_due : Binds K a.d__law_due ["_law_cans_here", "_law_thing"] []
  F__law_right : Fun K "_law_right" "_law_right" s__law_right a.f__law_right a.d__law_right
  g__law_right : mg "_law_right" = some (.ref a.f__law_right)
  b__law_right : Binds K a.d__law_right ["_law_box_here"] []
  F__law_box : Fun K "_law_box" "_law_box" s__law_box a.f__law_box a.d__law_box
  g__law_box : mg "_law_box" = some (.ref a.f__law_box)
  b__law_box : Binds K a.d__law_box ["_law_script", "_law_k"] []
  F_law : Fun K "law" "law" s_law a.f_law a.d_law
/-! ### the draw -/
def sp__law_take : Sp := fun vs H Q _ => ∃ (B : Addr) (m : Int) (n : Nat), vs = [.ref B, .int m] ∧ Box H B n ∧ 0 < m ∧ m < 1073741824 ∧ n < 1000000000 ∧
  ∀ r H', 0 ≤ r → r < m → Fr [B] H H' → Box H' B (n + 1) → Q (.int r) H'
theorem ok__law_take {P : Program} {w : World} {K : PySem.W.Frag} {mg : Str → Option Value} {base : Heap} {ad : Ad} (T : Txt K mg ad) : FnOk P w K mg base CX0 1 ad.f__law_take ad.d__law_take ["_law_box_here", "_law_size"] sp__law_take := by
  refine T.F__law_take.ok sc__law_take (fun vs H Q E h => ?_) (fun cdv A outer s H vs Q E hr h => ?_)
  · obtain ⟨a, ns, k, rfl, _⟩ := h
    rfl
  · obtain ⟨B, m, n, rfl, ⟨b0, b1, b2, hB, h0, h1, h2, h3, h4⟩, m0, m1, hn, q⟩ := h
    refine ⟨_, (pss_cons (ps_if (pt_cmpR op_gt (pe_ix ix_list (pv 0) pe_int (fun _ _ => rfl)) pe_int (nomark _)) (pss_cons (ps_asg (pe_callB call_divmod (by rfl) T.n_divmod (by decide +kernel) (pa_cons (pe_ix ix_list (pv 0) pe_int (fun _ _ => rfl)) (pa_cons (pv 1) pa_nil))) (pg_tup (by rfl) (pgs_cons (pg_sub (pv 0) pe_int set_list) (pgs_cons (pg_name (i := 2) sc__law_take.nd rfl (Or.inl rfl)) pgs_nil))))
    (pss_one (ps_ret (pv 2)))) pss_nil)
    (pss_cons (ps_asg (pe_op op_add (pe_ix ix_list (pv 0) pe_int (fun _ _ => rfl)) pe_int) (pg_sub (pv 0) pe_int set_list))
    (pss_cons (ps_set (i := 3) sc__law_take.nd rfl (Or.inl rfl) (pe_op op_add pe_int (pe_op op_mul (pe_ix ix_list (pv 0) pe_int (fun _ _ => rfl)) (pe_ix ix_list (pv 0) pe_int (fun _ _ => rfl)))))
    (pss_cons (ps_set (i := 4) sc__law_take.nd rfl (Or.inl rfl) (pe_op op_mod (pe_op op_mul (pe_op op_add (pe_ix ix_list (pv 0) pe_int (fun _ _ => rfl)) (pe_op op_mul pe_int (pe_ix ix_list (pv 0) pe_int (fun _ _ => rfl)))) (pv 3)) pe_int))
    (pss_cons (ps_set (i := 5) sc__law_take.nd rfl (Or.inl rfl) (pe_op op_mod (pe_op op_add (pe_op op_mul (pv 4) (pe_op op_add (pe_op op_mod (pv 4) pe_int) pe_int)) (pe_ix ix_list (pv 0) pe_int (fun _ _ => rfl))) pe_int))
    (pss_one (ps_ret (pe_op op_mod (pe_op op_fdiv (pe_op op_mod (pe_op op_mul (pv 5) (pe_op op_add (pe_op op_mod (pv 5) pe_int) pe_int)) pe_int) pe_int) (pv 1))))))))), ?_⟩
    walk_at "z"
    refine ite2 (fun h => ?_) (fun h => ?_)
    · walk_at "z"
      refine fun p hp => ?_
      have hBp : B ≠ p := ne_of_none hB hp
      have hB' : upd H p (.tup [.int (b0 / m), .int (b0 % m)]) B = some (.lst [.int b0, .int b1, .int b2]) := by rw [upd_ne hBp]; exact hB
      walk_at "z"
      refine q _ _ (Int.emod_nonneg _ (by omega)) (Int.emod_lt_of_pos _ m0) ?_ ?_
      · exact (Fr.new hp).put (by simp)
      · exact ⟨_, _, _, upd_same, Int.ediv_nonneg h0 (by omega), h1, h2, h3, by omega⟩
    · walk_at "z"
      refine q _ _ (Int.emod_nonneg _ (by omega)) (Int.emod_lt_of_pos _ m0) ((Fr.refl _ _).put (by simp)) ⟨_, _, _, upd_same, h0, h1, h2, by omega, by omega⟩

theorem okD__law_take {P : Program} {w : World} {K : PySem.W.Frag} {mg : Str → Option Value} {base : Heap} {ad : Ad} (T : Txt K mg ad) : FnOk P w K mg base CX0 1 ad.f__law_take ad.d__law_take ["_law_box_here", "_law_size"] (spF K 2 F__law_take) :=
  (ok__law_take T).imp fun _ _ _ _ h => take_of h

/-! ### the law's own likeness, kind by kind -/
def sp__law_same (K : PySem.W.Frag) (n : Nat) : Sp := fun vs H Q _ => ∃ (v1 v2 : V) (d : PyData), vs = [v1, v2] ∧ Dp K H v1 d ∧ Dp K H v2 d ∧ SeqAt.shaped d = true ∧ d.depth < n ∧ nodes d ≤ 1000000 ∧ ∀ H', Same H H' → Q (.bl true) H'
theorem ok__law_same {P : Program} {w : World} {K : PySem.W.Frag} {mg : Str → Option Value} {base : Heap} {ad : Ad} (T : Txt K mg ad) : ∀ n : Nat, FnOk P w K mg base CX0 n ad.f__law_same ad.d__law_same ["_law_found", "_law_due_here"] (sp__law_same K n)
  | 0 => ⟨fun vs H Q E ⟨_, _, _, _, _, _, _, h, _, _⟩ => absurd h (Nat.not_lt_zero _), fun _ _ _ _ _ _ _ _ _ _ _ _ _ ⟨_, _, _, _, _, _, _, h, _, _⟩ => absurd h (Nat.not_lt_zero _)⟩
  | n + 1 => by
    have G__law_same := ok__law_same (P := P) (w := w) (base := base) T n
    refine T.F__law_same.ok sc__law_same (fun vs H Q E h => ?_) (fun cdv A outer s H vs Q E hr h => ?_)
    · obtain ⟨v1, v2, d, rfl, _⟩ := h
      rfl
    · obtain ⟨v1, v2, d, rfl, d1, d2, sh, dep, nod, q⟩ := h
      refine ⟨_, (pss_cons (ps_if (pt_val (pe_callB call_isiT (by rfl) T.n_isinstance (by decide +kernel) (pa_cons (pv 1) (pa_cons (pe_tup (pa_cons (pe_bltn (v := .ty "list") (by rfl) T.n_list (by decide +kernel) rfl) (pa_cons (pe_bltn (v := .ty "tuple") (by rfl) T.n_tuple (by decide +kernel) rfl) pa_nil))) pa_nil)))) (pss_cons (ps_if (PW.pt (pw_or (pt_cmpR op_ne (pe_callB call_isi (by rfl) T.n_isinstance (by decide +kernel) (pa_cons (pv 0) (pa_cons (pe_bltn (v := .ty "list") (by rfl) T.n_list (by decide +kernel) rfl) pa_nil))) (pe_callB call_isi (by rfl) T.n_isinstance (by decide +kernel) (pa_cons (pv 1) (pa_cons (pe_bltn (v := .ty "list") (by rfl) T.n_list (by decide +kernel) rfl) pa_nil))) (nomark _)) (pw_or1 (pt_cmpR op_ne (pe_callB call_isi (by rfl) T.n_isinstance (by decide +kernel) (pa_cons (pv 0) (pa_cons (pe_bltn (v := .ty "tuple") (by rfl) T.n_tuple (by decide +kernel) rfl) pa_nil))) (pe_callB call_isi (by rfl) T.n_isinstance (by decide +kernel) (pa_cons (pv 1) (pa_cons (pe_bltn (v := .ty "tuple") (by rfl) T.n_tuple (by decide +kernel) rfl) pa_nil))) (nomark _))))) (pss_one (ps_ret pe_bl)) pss_nil)
    (pss_one (ps_ret (pe_and (pe_cmpR op_eq (pe_callB call_len_seq (by rfl) T.n_len PySem.boot_len (pa_cons (pv 0) pa_nil)) (pe_callB call_len_seq (by rfl) T.n_len PySem.boot_len (pa_cons (pv 1) pa_nil)) (nomark _)) (pe_one (pe_callB (cr_all rfl) (by rfl) T.n_all (by decide +kernel) (pa_cons (pe_lc (own := [("_law_one", 2), ("_law_other", 3)]) (g := gTup K 2 (gCons (gName 2) (gCons (gName 3) gNil))) (by rfl) sc__law_same.nd (RZ.pi_zipA (by rfl) T.n_zip (pa_cons (pv 0) (pa_cons (pv 1) pa_nil))) (blkOk_by (own := [("_law_one", 2), ("_law_other", 3)]) (N := N__law_same) (sc := defScope s__law_same) (by decide +kernel)) (fun _ _ _ _ _ => (pg_tup (by rfl) (pgs_cons (pg_name (i := 2) sc__law_same.nd rfl (Or.inl rfl)) (pgs_cons (pg_name (i := 3) sc__law_same.nd rfl (Or.inl rfl)) pgs_nil)))) (fun _ _ _ _ _ => pts_nil) (fun _ _ _ _ _ => (pe_call G__law_same hr rfl T.g__law_same T.F__law_same.kp T.b__law_same .nil pass0 (pa_cons (pv 2) (pa_cons (pv 3) pa_nil))))) pa_nil))))))) pss_nil)
    (pss_cons (ps_if (PW.pt (pw_or (pt_cmpR op_isN (pv 1) pe_non (nomark _)) (pw_or1 (pt_val (pe_callB call_isi (by rfl) T.n_isinstance (by decide +kernel) (pa_cons (pv 1) (pa_cons (pe_bltn (v := .ty "str") (by rfl) T.n_str (by decide +kernel) rfl) pa_nil))))))) (pss_one (ps_ret (pe_and (pe_cmpR (op_eqD hr.units) (pv 0) (pv 1) (nomark _)) (pe_one (pe_cmpR op_eq (pe_callB call_isi (by rfl) T.n_isinstance (by decide +kernel) (pa_cons (pv 0) (pa_cons (pe_bltn (v := .ty "str") (by rfl) T.n_str (by decide +kernel) rfl) pa_nil))) (pe_callB call_isi (by rfl) T.n_isinstance (by decide +kernel) (pa_cons (pv 1) (pa_cons (pe_bltn (v := .ty "str") (by rfl) T.n_str (by decide +kernel) rfl) pa_nil))) (nomark _)))))) pss_nil)
    (pss_one (ps_ret (pe_and (pe_callB call_isi (by rfl) T.n_isinstance (by decide +kernel) (pa_cons (pv 0) (pa_cons (pe_bltn (v := .ty "int") (by rfl) T.n_int (by decide +kernel) rfl) pa_nil))) (pe_and (pe_cmpR op_eq (pe_callB call_isi (by rfl) T.n_isinstance (by decide +kernel) (pa_cons (pv 0) (pa_cons (pe_bltn (v := .ty "bool") (by rfl) T.n_bool (by decide +kernel) rfl) pa_nil))) (pe_callB call_isi (by rfl) T.n_isinstance (by decide +kernel) (pa_cons (pv 1) (pa_cons (pe_bltn (v := .ty "bool") (by rfl) T.n_bool (by decide +kernel) rfl) pa_nil))) (nomark _)) (pe_one (pe_cmpR (op_eqD hr.units) (pv 0) (pv 1) (nomark _))))))))), ?_⟩
      have fin : ∀ {p : Addr} {o : HO}, H p = none → Q (.bl true) (upd H p o) := fun hp => q _ (Same.new hp)
      cases d with
      | dict _ => cases d1
      | none =>
        refine ⟨_, rfl, Nat.le_of_ble_eq_true rfl, fun p hp => ?_⟩
        have d1' := Dp.mono (Same.new (o := .tup [.ty "list", .ty "tuple"]) hp) d1
        have d2' := Dp.mono (Same.new (o := .tup [.ty "list", .ty "tuple"]) hp) d2
        refine ⟨_, _, _, _, _, false, rfl, upd_same, ltC, tyD "NoneType" d2' rfl, kitLT "NoneType" false false (by decide +kernel) (by decide +kernel), ?_⟩
        cases d1
        cases d2
        walk_at "z"
        refine ⟨.none, .none, .non, .non, rfl, rfl, ?_⟩
        walk_at "z"
        refine ⟨_, _, _, _, false, rfl, .ty _, tyD "NoneType" d1' rfl, kit_ty (by decide +kernel), ?_⟩
        walk_at "z"
        refine ⟨_, _, _, _, false, rfl, .ty _, tyD "NoneType" d2' rfl, kit_ty (by decide +kernel), ?_⟩
        walk_at "z"
        exact fin hp
      | bool b =>
        refine ⟨_, rfl, Nat.le_of_ble_eq_true rfl, fun p hp => ?_⟩
        have d1' := Dp.mono (Same.new (o := .tup [.ty "list", .ty "tuple"]) hp) d1
        have d2' := Dp.mono (Same.new (o := .tup [.ty "list", .ty "tuple"]) hp) d2
        refine ⟨_, _, _, _, _, false, rfl, upd_same, ltC, tyD "bool" d2' rfl, kitLT "bool" false false (by decide +kernel) (by decide +kernel), ?_⟩
        cases d1
        cases d2
        walk_at "z"
        refine ⟨_, _, _, _, false, rfl, .ty _, tyD "bool" d2' rfl, kit_ty (by decide +kernel), ?_⟩
        walk_at "z"
        refine ⟨_, _, _, _, true, rfl, .ty _, tyD "bool" d1' rfl, kit_ty (by decide +kernel), ?_⟩
        walk_at "z"
        refine ⟨_, _, _, _, true, rfl, .ty _, tyD "bool" d1' rfl, kit_ty (by decide +kernel), ?_⟩
        walk_at "z"
        refine ⟨_, _, _, _, true, rfl, .ty _, tyD "bool" d2' rfl, kit_ty (by decide +kernel), ?_⟩
        walk_at "z"
        refine ⟨.bool b, .bool b, .bl _, .bl _, rfl, rfl, ?_⟩
        rw [SeqAt.eqv_refl _ rfl]
        exact fin hp
      | int i =>
        refine ⟨_, rfl, Nat.le_of_ble_eq_true rfl, fun p hp => ?_⟩
        have d1' := Dp.mono (Same.new (o := .tup [.ty "list", .ty "tuple"]) hp) d1
        have d2' := Dp.mono (Same.new (o := .tup [.ty "list", .ty "tuple"]) hp) d2
        refine ⟨_, _, _, _, _, false, rfl, upd_same, ltC, tyD "int" d2' rfl, kitLT "int" false false (by decide +kernel) (by decide +kernel), ?_⟩
        cases d1
        cases d2
        walk_at "z"
        refine ⟨.int i, .int i, .int _, .int _, rfl, rfl, ?_⟩
        rw [SeqAt.eqv_refl _ rfl]
        exact fin hp
      | str x =>
        refine ⟨_, rfl, Nat.le_of_ble_eq_true rfl, fun p hp => ?_⟩
        have d1' := Dp.mono (Same.new (o := .tup [.ty "list", .ty "tuple"]) hp) d1
        have d2' := Dp.mono (Same.new (o := .tup [.ty "list", .ty "tuple"]) hp) d2
        refine ⟨_, _, _, _, _, false, rfl, upd_same, ltC, tyD "str" d2' rfl, kitLT "str" false false (by decide +kernel) (by decide +kernel), ?_⟩
        cases d1
        cases d2
        walk_at "z"
        refine ⟨.str x, .str x, .str _, .str _, sh, sh, ?_⟩
        rw [SeqAt.eqv_refl _ (SeqAt.canLay_of_shaped sh)]
        walk_at "z"
        exact fin hp
      | list ds =>
        obtain ⟨a1, xs, rfl, s1, r1⟩ := Dp.list_of d1
        obtain ⟨a2, ys, rfl, s2, r2⟩ := Dp.list_of d2
        refine ⟨_, rfl, Nat.le_of_ble_eq_true rfl, fun p hp => ?_⟩
        have sm := Same.new (o := .tup [.ty "list", .ty "tuple"]) hp
        have d1' := Dp.mono sm d1
        have d2' := Dp.mono sm d2
        refine ⟨_, _, _, _, _, true, rfl, upd_same, ltC, tyD "list" d2' rfl, kitLT "list" true false (by decide +kernel) (by decide +kernel), ?_⟩
        walk_at "z"
        refine ⟨_, _, _, _, true, rfl, .ty _, tyD "list" d1' rfl, kit_ty (by decide +kernel), ?_⟩
        walk_at "z"
        refine ⟨_, _, _, _, true, rfl, .ty _, tyD "list" d2' rfl, kit_ty (by decide +kernel), ?_⟩
        walk_at "z"
        refine ⟨_, _, _, _, false, rfl, .ty _, tyD "list" d1' rfl, kit_ty (by decide +kernel), ?_⟩
        walk_at "z"
        refine ⟨_, _, _, _, false, rfl, .ty _, tyD "list" d2' rfl, kit_ty (by decide +kernel), ?_⟩
        walk_at "z"
        have hl : xs.length = ys.length := by rw [DpAll.length r1, DpAll.length r2]
        refine ⟨a1, _, rfl, .inl (SqL.mono sm s1), ?_⟩
        refine ⟨_, rfl, a2, _, rfl, .inl (SqL.mono sm s2), ?_⟩
        refine ⟨rfl, _, rfl, ?_⟩
        with_reducible refine iteDS (by rw [hl]) ?_
        refine ⟨_, rfl, _, rfl, a1, a2, xs, ys, rfl, .inl ⟨SqL.mono sm s1, SqL.mono sm s2, fun D hD => ?_⟩⟩
        refine lc_it (walk_zip (xs := xs) (ys := ys) (n := xs.length) (by omega)) (fun i H' => LcP (upd H p (.tup [.ty "list", .ty "tuple"])) D xs (fun _ => V.bl true) i H') (LcP.start hD) ?_ ?_ ?_
        · intro i H' _ lp
          exact ⟨SqL.mono (sm.trans lp.same) s1, SqL.mono (sm.trans lp.same) s2⟩
        · rintro i x H' _ hi lp ⟨t, x, y, rfl, ht, rfl, hx, hy⟩
          walk_at "z"
          obtain ⟨dd, hd, dx⟩ := DpAll.get r1 hx
          obtain ⟨dd', hd', dy⟩ := DpAll.get r2 hy
          have ed : dd' = dd := Option.some.inj (hd'.symm.trans hd)
          subst ed
          have sx : Same H (upd H' t (.tup [x, y])) := (sm.trans lp.same).trans (Same.new ht)
          obtain ⟨c1, c2⟩ := shaped_mem (.inl sh) (List.mem_of_getElem? hd)
          refine ⟨x, y, _, rfl, Dp.mono sx dx, Dp.mono sx dy, c1, ?_, ?_, fun H4 s4 => ?_⟩
          · have : PyData.depthAll ds + 1 < n + 1 := dep
            omega
          · have h1 := nodes_mem (List.mem_of_getElem? hd)
            have h2 : nodesAll ds + 1 ≤ 1000000 := nod
            omega
          · refine lp.step ((Same.new ht).trans s4) hx rfl ?_
            have h1 := len_nodes ds
            have h2 : nodesAll ds + 1 ≤ 1000000 := nod
            have h3 : sizeLine = 16777216 := by decide +kernel
            rw [DpAll.length r1]
            omega
        · intro H' lp
          refine ⟨D, xs.map fun _ => true, rfl, SqL.of (by rw [lp.done, List.map_map]; rfl), ?_⟩
          have e : (xs.map fun _ => true).all id = true := by simp
          rw [e]
          exact q _ (sm.trans lp.same)
      | tuple ds =>
        obtain ⟨a1, xs, rfl, s1, r1⟩ := Dp.tuple_of d1
        obtain ⟨a2, ys, rfl, s2, r2⟩ := Dp.tuple_of d2
        refine ⟨_, rfl, Nat.le_of_ble_eq_true rfl, fun p hp => ?_⟩
        have sm := Same.new (o := .tup [.ty "list", .ty "tuple"]) hp
        have d1' := Dp.mono sm d1
        have d2' := Dp.mono sm d2
        refine ⟨_, _, _, _, _, true, rfl, upd_same, ltC, tyD "tuple" d2' rfl, kitLT "tuple" false true (by decide +kernel) (by decide +kernel), ?_⟩
        walk_at "z"
        refine ⟨_, _, _, _, false, rfl, .ty _, tyD "tuple" d1' rfl, kit_ty (by decide +kernel), ?_⟩
        walk_at "z"
        refine ⟨_, _, _, _, false, rfl, .ty _, tyD "tuple" d2' rfl, kit_ty (by decide +kernel), ?_⟩
        walk_at "z"
        refine ⟨_, _, _, _, true, rfl, .ty _, tyD "tuple" d1' rfl, kit_ty (by decide +kernel), ?_⟩
        walk_at "z"
        refine ⟨_, _, _, _, true, rfl, .ty _, tyD "tuple" d2' rfl, kit_ty (by decide +kernel), ?_⟩
        walk_at "z"
        have hl : xs.length = ys.length := by rw [DpAll.length r1, DpAll.length r2]
        refine ⟨a1, _, rfl, .inr (SqT.mono sm s1), ?_⟩
        refine ⟨_, rfl, a2, _, rfl, .inr (SqT.mono sm s2), ?_⟩
        refine ⟨rfl, _, rfl, ?_⟩
        with_reducible refine iteDS (by rw [hl]) ?_
        refine ⟨_, rfl, _, rfl, a1, a2, xs, ys, rfl, .inr ⟨SqT.mono sm s1, SqT.mono sm s2, fun D hD => ?_⟩⟩
        refine lc_it (walk_zipT (xs := xs) (ys := ys) (n := xs.length) (by omega)) (fun i H' => LcP (upd H p (.tup [.ty "list", .ty "tuple"])) D xs (fun _ => V.bl true) i H') (LcP.start hD) ?_ ?_ ?_
        · intro i H' _ lp
          exact ⟨SqT.mono (sm.trans lp.same) s1, SqT.mono (sm.trans lp.same) s2⟩
        · rintro i x H' _ hi lp ⟨t, x, y, rfl, ht, rfl, hx, hy⟩
          walk_at "z"
          obtain ⟨dd, hd, dx⟩ := DpAll.get r1 hx
          obtain ⟨dd', hd', dy⟩ := DpAll.get r2 hy
          have ed : dd' = dd := Option.some.inj (hd'.symm.trans hd)
          subst ed
          have sx : Same H (upd H' t (.tup [x, y])) := (sm.trans lp.same).trans (Same.new ht)
          obtain ⟨c1, c2⟩ := shaped_mem (.inr sh) (List.mem_of_getElem? hd)
          refine ⟨x, y, _, rfl, Dp.mono sx dx, Dp.mono sx dy, c1, ?_, ?_, fun H4 s4 => ?_⟩
          · have : PyData.depthAll ds + 1 < n + 1 := dep
            omega
          · have h1 := nodes_mem (List.mem_of_getElem? hd)
            have h2 : nodesAll ds + 1 ≤ 1000000 := nod
            omega
          · refine lp.step ((Same.new ht).trans s4) hx rfl ?_
            have h1 := len_nodes ds
            have h2 : nodesAll ds + 1 ≤ 1000000 := nod
            have h3 : sizeLine = 16777216 := by decide +kernel
            rw [DpAll.length r1]
            omega
        · intro H' lp
          refine ⟨D, xs.map fun _ => true, rfl, SqL.of (by rw [lp.done, List.map_map]; rfl), ?_⟩
          have e : (xs.map fun _ => true).all id = true := by simp
          rw [e]
          exact q _ (sm.trans lp.same)

theorem okD__law_same {P : Program} {w : World} {K : PySem.W.Frag} {mg : Str → Option Value} {base : Heap} {ad : Ad} (T : Txt K mg ad) (_ : Nat) : FnOk P w K mg base CX0 8 ad.f__law_same ad.d__law_same ["_law_found", "_law_due_here"] (spF K 2 F__law_same) :=
  (ok__law_same T 8).imp fun _ _ _ _ h => same_of h

theorem okD__law_folded {P : Program} {w : World} {K : PySem.W.Frag} {mg : Str → Option Value} {base : Heap} {ad : Ad} (T : Txt K mg ad) : FnOk P w K mg base CX0 1 ad.f__law_folded ad.d__law_folded ["_law_script", "_law_size"] (spF K 2 F__law_folded) := by
  refine okF0 T.F__law_folded sc__law_folded fun cdv A outer s H E hr => ⟨_, (pss_cons (ps_set (i := 2) sc__law_folded.nd rfl (Or.inl rfl) (pe_callTy call_list_of (by rfl) T.n_list (by decide +kernel) (pa_cons (pe_slice sl_list (pv 0) po_none (po_some (pv 1))) pa_nil)))
    (pss_cons (ps_for PassesOwn.never rfl (pi_enum (by rfl) T.n_enumerate (pa_cons (pe_slice sl_list (pv 0) (po_some (pv 1)) (po_some pe_int)) pa_nil)) (pg_tup (by rfl) (pgs_cons (pg_name (i := 3) sc__law_folded.nd rfl (Or.inl rfl)) (pgs_cons (pg_name (i := 4) sc__law_folded.nd rfl (Or.inl rfl)) pgs_nil))) (pss_one (ps_asg (pe_op op_add (pe_ix ix_list (pv 2) (pe_op op_mod (pv 3) (pv 1)) (fun _ _ => rfl)) (pe_op op_mul (pv 4) (pe_op op_add (pv 3) pe_int))) (pg_sub (pv 2) (pe_op op_mod (pv 3) (pv 1)) set_list))))
    (pss_one (ps_ret (pv 2))))), ?_⟩
  intro J
  exact (rs_seq (rs_own (by decide) (rn_cb rbn_list (ra_cons (re_sl rl_list re_v ro_no (ro_so re_v)) ra_nil)))
    (rs_seq (rs_for (by decide) (ri_enum (ra_cons (re_sl rl_list re_v (ro_so re_v) (ro_so (re_c fun _ => .int _))) ra_nil)) (rg_tup (rgs_cons rg_name (rgs_cons rg_name rgs_nil))) (rs_asg (re_op rr_add (re_ixO (re_op rr_mod re_v re_v)) (re_op rr_mul re_v (re_op rr_add re_v (re_c fun _ => .int _)))) (rg_subO (re_op rr_mod re_v re_v))))
    (rs_freeze (by decide) (rs_ret re_v))))
theorem okD__law_names {P : Program} {w : World} {K : PySem.W.Frag} {mg : Str → Option Value} {base : Heap} {ad : Ad} (T : Txt K mg ad) : FnOk P w K mg base CX0 2 ad.f__law_names ad.d__law_names ["_law_box_here", "_law_many"] (spF K 2 F__law_names) := by
  have G__law_take := okD__law_take (P := P) (w := w) (base := base) T
  refine okF0 T.F__law_names sc__law_names fun cdv A outer s H E hr => ⟨_, (pss_cons (ps_asg (pe_tup (pa_cons pe_str (pa_cons (pe_lst pa_nil) pa_nil))) (pg_tup (by rfl) (pgs_cons (pg_name (i := 2) sc__law_names.nd rfl (Or.inr rfl)) (pgs_cons (pg_name (i := 3) sc__law_names.nd rfl (Or.inl rfl)) pgs_nil))))
    (pss_cons (ps_par (i := 4) (j := 5) (by rfl) sc__law_names.nd rfl rfl (by decide) rfl rfl (pa_cons (pe_call G__law_take (hr.mono (by first | decide | omega)) rfl T.g__law_take T.F__law_take.kp T.b__law_take .nil pass0 (pa_cons (pv 0) (pa_cons pe_int pa_nil))) (pa_cons (pe_ix ix_list (pe_lst (pa_cons pe_int (pa_cons pe_int (pa_cons pe_int (pa_cons pe_int (pa_cons pe_int (pa_cons pe_int pa_nil))))))) (pe_call G__law_take (hr.mono (by first | decide | omega)) rfl T.g__law_take T.F__law_take.kp T.b__law_take .nil pass0 (pa_cons (pv 0) (pa_cons pe_int pa_nil))) (fun _ _ => rfl)) pa_nil)) (by rfl))
    (pss_cons (ps_set (i := 6) sc__law_names.nd rfl (Or.inl rfl) (pe_lst (pa_cons pe_str (pa_cons pe_str (pa_cons pe_str (pa_cons pe_str (pa_cons pe_str (pa_cons pe_str (pa_cons pe_str (pa_cons pe_str (pa_cons pe_str (pa_cons pe_str (pa_cons pe_str (pa_cons pe_str pa_nil))))))))))))))
    (pss_cons (ps_for PassesOwn.never rfl (pi_range1 rfl T.n_range (pa_cons (pv 1) pa_nil)) (pg_name (i := 7) sc__law_names.nd rfl (Or.inl rfl)) (pss_cons (ps_set (i := 8) sc__law_names.nd rfl (Or.inl rfl) (pe_op op_mod (pe_op op_add (pv 4) (pe_op op_mul (pv 5) (pv 7))) pe_int))
    (pss_cons (ps_set (i := 9) sc__law_names.nd rfl (Or.inl rfl) (pe_bm PySem.F.plainAttrs_str PySem.F.slot_str_join PySem.F.type_str_join mt_join pe_str (pa_cons (pe_lc (own := [("_law_turn", 10)]) (g := gName 10) (by rfl) sc__law_names.nd (pi_range1 rfl T.n_range (pa_cons (pe_op op_add pe_int (pe_call G__law_take (hr.mono (by first | decide | omega)) rfl T.g__law_take T.F__law_take.kp T.b__law_take .nil pass0 (pa_cons (pv 0) (pa_cons pe_int pa_nil)))) pa_nil)) (blkOk_by (own := [("_law_turn", 10)]) (N := N__law_names) (sc := defScope s__law_names) (by decide +kernel)) (fun _ _ _ _ _ => (pg_name (i := 10) sc__law_names.nd rfl (Or.inl rfl))) (fun _ _ _ _ _ => pts_nil) (fun _ _ _ _ _ => (pe_ix ix_str (pv 2) (pe_call G__law_take (hr.mono (by first | decide | omega)) rfl T.g__law_take T.F__law_take.kp T.b__law_take .nil pass0 (pa_cons (pv 0) (pa_cons pe_int pa_nil))) (fun _ _ => rfl)))) pa_nil)))
    (pss_cons (ps_set (i := 11) sc__law_names.nd rfl (Or.inl rfl) (pe_op op_add_str (pe_op op_add_str (pe_ix ix_str (pv 2) (pe_op op_fdiv (pv 8) pe_int) (fun _ _ => rfl)) (pe_ix ix_str (pv 2) (pe_op op_mod (pv 8) pe_int) (fun _ _ => rfl))) (pv 9)))
    (pss_cons (ps_if (PW.pt (pw_and (pt_cmpR op_lt (pv 1) pe_int (nomark _)) (pw_and1 (pt_cmpR op_eq (pe_call G__law_take (hr.mono (by first | decide | omega)) rfl T.g__law_take T.F__law_take.kp T.b__law_take .nil pass0 (pa_cons (pv 0) (pa_cons pe_int pa_nil))) pe_int (nomark _))))) (pss_one (ps_set (i := 11) sc__law_names.nd rfl (Or.inl rfl) (pe_ix ix_list (pv 6) (pv 7) (fun _ _ => rfl)))) pss_nil)
    (pss_cons (ps_if (pt_cmpR op_in_seq (pv 11) (pv 3) rfl) (pss_one (ps_set (i := 11) sc__law_names.nd rfl (Or.inl rfl) (pe_op op_add_str (pe_op op_add_str (pe_ix ix_str (pv 2) (pe_op op_fdiv (pv 8) pe_int) (fun _ _ => rfl)) (pe_ix ix_str (pv 2) (pe_op op_mod (pv 8) pe_int) (fun _ _ => rfl))) pe_str))) pss_nil)
    (pss_one (ps_expr (pe_bm PySem.F.plainAttrs_list PySem.F.slot_list_append PySem.F.type_list_append mt_append (pv 3) (pa_cons (pv 11) pa_nil))))))))))
    (pss_one (ps_ret (pv 3))))))), ?_⟩
  intro J
  exact (rs_seq (rs_asgO2 (by decide) (re_c fun _ => .str _) (rn_lst ra_nil))
    (rs_seq (rs_par (ra_cons (re_call (fun _ => .nil) (rc_own (rc_dat (re_c fun _ => .int _) rc_nil))) (ra_cons (re_op rr_ixL (RN.re (rn_lst (ra_cons (re_c fun _ => .int _) (ra_cons (re_c fun _ => .int _) (ra_cons (re_c fun _ => .int _) (ra_cons (re_c fun _ => .int _) (ra_cons (re_c fun _ => .int _) (ra_cons (re_c fun _ => .int _) ra_nil)))))))) (re_call (fun _ => .nil) (rc_own (rc_dat (re_c fun _ => .int _) rc_nil)))) ra_nil)))
    (rs_seq (rs_asg (RN.re (rn_lst (ra_cons (re_c fun _ => .str _) (ra_cons (re_c fun _ => .str _) (ra_cons (re_c fun _ => .str _) (ra_cons (re_c fun _ => .str _) (ra_cons (re_c fun _ => .str _) (ra_cons (re_c fun _ => .str _) (ra_cons (re_c fun _ => .str _) (ra_cons (re_c fun _ => .str _) (ra_cons (re_c fun _ => .str _) (ra_cons (re_c fun _ => .str _) (ra_cons (re_c fun _ => .str _) (ra_cons (re_c fun _ => .str _) ra_nil)))))))))))))) rg_name)
    (rs_seq (rs_for (by decide) (ri_rng1 (ra_cons re_v ra_nil)) rg_name (rs_seq (rs_asg (re_op rr_mod (re_op rr_add re_v (re_op rr_mul re_v re_v)) (re_c fun _ => .int _)) rg_name)
    (rs_seq (rs_asg (re_bm rm_join (re_c fun _ => .str _) (ra_cons (RN.re (rn_lc (by decide) (ri_rng1 (ra_cons (re_op rr_add (re_c fun _ => .int _) (re_call (fun _ => .nil) (rc_own (rc_dat (re_c fun _ => .int _) rc_nil)))) ra_nil)) (fun _ le => rg_name) (fun _ le => rt_yes) (fun _ le => (re_op rr_ixS re_v (re_call (fun _ => .nil) (rc_own (rc_dat (re_c fun _ => .int _) rc_nil))))))) ra_nil)) rg_name)
    (rs_seq (rs_asg (re_op rr_add_str (re_op rr_add_str (re_op rr_ixS re_v (re_op rr_fdiv re_v (re_c fun _ => .int _))) (re_op rr_ixS re_v (re_op rr_mod re_v (re_c fun _ => .int _)))) re_v) rg_name)
    (rs_seq (rs_if (rt_and (rt_test (re_op rr_lt re_v (re_c fun _ => .int _))) (rt_test (re_op rr_eq (re_call (fun _ => .nil) (rc_own (rc_dat (re_c fun _ => .int _) rc_nil))) (re_c fun _ => .int _)))) (rs_asg (re_op rr_ixL re_v re_v) rg_name) rs_next)
    (rs_seq (rs_if (rt_test (re_inO re_v)) (rs_asg (re_op rr_add_str (re_op rr_add_str (re_op rr_ixS re_v (re_op rr_fdiv re_v (re_c fun _ => .int _))) (re_op rr_ixS re_v (re_op rr_mod re_v (re_c fun _ => .int _)))) (re_c fun _ => .str _)) rg_name) rs_next)
    (rs_append re_v)))))))
    (rs_freeze (by decide) (rs_ret re_v))))))
theorem okD__law_some_words {P : Program} {w : World} {K : PySem.W.Frag} {mg : Str → Option Value} {base : Heap} {ad : Ad} (T : Txt K mg ad) : FnOk P w K mg base CX0 2 ad.f__law_some_words ad.d__law_some_words ["_law_box_here", "_law_pool", "_law_most"] (spF K 3 F__law_some_words) := by
  have G__law_take := okD__law_take (P := P) (w := w) (base := base) T
  refine okF0 T.F__law_some_words sc__law_some_words fun cdv A outer s H E hr => ⟨_, (pss_cons (ps_par (i := 3) (j := 4) (by rfl) sc__law_some_words.nd rfl rfl (by decide) rfl rfl (pa_cons (pe_callTy call_list_of (by rfl) T.n_list (by decide +kernel) (pa_cons (pv 1) pa_nil)) (pa_cons (pe_lst pa_nil) pa_nil)) (by rfl))
    (pss_cons (ps_for PassesOwn.never rfl (pi_range1 rfl T.n_range (pa_cons (pe_call G__law_take (hr.mono (by first | decide | omega)) rfl T.g__law_take T.F__law_take.kp T.b__law_take .nil pass0 (pa_cons (pv 0) (pa_cons (pe_op op_add (pe_callB (call_min2 rfl) (by rfl) T.n_min (by decide +kernel) (pa_cons (pv 2) (pa_cons (pe_callB call_len_seq (by rfl) T.n_len PySem.boot_len (pa_cons (pv 1) pa_nil)) pa_nil))) pe_int) pa_nil))) pa_nil)) (pg_name (i := 5) sc__law_some_words.nd rfl (Or.inl rfl)) (pss_one (ps_expr (pe_bm PySem.F.plainAttrs_list PySem.F.slot_list_append PySem.F.type_list_append mt_append (pv 4) (pa_cons (pe_bm PySem.F.plainAttrs_list PySem.F.slot_list_pop PySem.F.type_list_pop mt_popAt (pv 3) (pa_cons (pe_call G__law_take (hr.mono (by first | decide | omega)) rfl T.g__law_take T.F__law_take.kp T.b__law_take .nil pass0 (pa_cons (pv 0) (pa_cons (pe_callB call_len_seq (by rfl) T.n_len PySem.boot_len (pa_cons (pv 3) pa_nil)) pa_nil))) pa_nil)) pa_nil)))))
    (pss_one (ps_ret (pe_callTy cr_tupN (by rfl) T.n_tuple (by decide +kernel) (pa_cons (pe_callB cr_sortedS (by rfl) T.n_sorted (by decide +kernel) (pa_cons (pv 4) pa_nil)) pa_nil)))))), ?_⟩
  intro J
  exact (rs_seq (rs_parOO (by decide) (by decide) (by decide) (rn_cb rbn_list (ra_cons re_v ra_nil)) (rn_lst ra_nil))
    (rs_seq (rs_for (by decide) (ri_rng1 (ra_cons (re_call (fun _ => .nil) (rc_own (rc_dat (re_op rr_add (re_cb rb_min2 (ra_cons re_v (ra_cons (re_cb rb_len (ra_cons re_v ra_nil)) ra_nil))) (re_c fun _ => .int _)) rc_nil))) ra_nil)) rg_name (rs_append (re_popAt (re_call (fun _ => .nil) (rc_own (rc_dat re_lenO rc_nil))))))
    (rs_freeze (by decide) (rs_ret (re_tupN (RN.re (rn_cb rbn_sortS (ra_cons re_v ra_nil))))))))
theorem okD__law_things {P : Program} {w : World} {K : PySem.W.Frag} {mg : Str → Option Value} {base : Heap} {ad : Ad} (T : Txt K mg ad) : FnOk P w K mg base CX0 3 ad.f__law_things ad.d__law_things ["_law_box_here", "_law_pool", "_law_many"] (spF K 3 F__law_things) := by
  have G__law_take := okD__law_take (P := P) (w := w) (base := base) T
  have G__law_some_words := okD__law_some_words (P := P) (w := w) (base := base) T
  refine okF0 T.F__law_things sc__law_things fun cdv A outer s H E hr => ⟨_, (pss_cons (ps_set (i := 3) sc__law_things.nd rfl (Or.inl rfl) (pe_lst pa_nil))
    (pss_cons (ps_for PassesOwn.never rfl (pi_range1 rfl T.n_range (pa_cons (pv 2) pa_nil)) (pg_name (i := 4) sc__law_things.nd rfl (Or.inl rfl)) (pss_one (ps_if (PW.pt (pw_and (pt_cmpR op_eq (pe_call G__law_take (hr.mono (by first | decide | omega)) rfl T.g__law_take T.F__law_take.kp T.b__law_take .nil pass0 (pa_cons (pv 0) (pa_cons pe_int pa_nil))) pe_int (nomark _)) (pw_and1 (pt_cmpR (op_neD hr.units) (pv 3) (pe_lst pa_nil) (nomark _))))) (pss_one (ps_expr (pe_bm PySem.F.plainAttrs_list PySem.F.slot_list_append PySem.F.type_list_append mt_append (pv 3) (pa_cons (pe_ix ix_list (pv 3) (pe_call G__law_take (hr.mono (by first | decide | omega)) rfl T.g__law_take T.F__law_take.kp T.b__law_take .nil pass0 (pa_cons (pv 0) (pa_cons (pe_callB call_len_seq (by rfl) T.n_len PySem.boot_len (pa_cons (pv 3) pa_nil)) pa_nil))) (fun _ _ => rfl)) pa_nil)))) (pss_one (ps_expr (pe_bm PySem.F.plainAttrs_list PySem.F.slot_list_append PySem.F.type_list_append mt_append (pv 3) (pa_cons (pe_call G__law_some_words (hr.mono (by first | decide | omega)) rfl T.g__law_some_words T.F__law_some_words.kp T.b__law_some_words .nil pass0 (pa_cons (pv 0) (pa_cons (pv 1) (pa_cons pe_int pa_nil)))) pa_nil)))))))
    (pss_one (ps_ret (pv 3))))), ?_⟩
  intro J
  exact (rs_seq (rs_own (by decide) (rn_lst ra_nil))
    (rs_seq (rs_for (by decide) (ri_rng1 (ra_cons re_v ra_nil)) rg_name (rs_if (rt_and (rt_test (re_op rr_eq (re_call (fun _ => .nil) (rc_own (rc_dat (re_c fun _ => .int _) rc_nil))) (re_c fun _ => .int _))) (rt_test (re_neOU (RN.re (rn_lst ra_nil))))) (rs_append (re_ixO (re_call (fun _ => .nil) (rc_own (rc_dat re_lenO rc_nil))))) (rs_append (re_call (fun _ => .nil) (rc_own (rc_dat re_v (rc_dat (re_c fun _ => .int _) rc_nil)))))))
    (rs_freeze (by decide) (rs_ret re_v))))
theorem okD_can_be {P : Program} {w : World} {K : PySem.W.Frag} {mg : Str → Option Value} {base : Heap} {ad : Ad} (T : Txt K mg ad) : FnOk P w K mg base CX0 1 ad.f_can_be ad.d_can_be ["things", "find"] (spF K 2 F_can_be) := by
  refine okF0 T.F_can_be sc_can_be fun cdv A outer s H E hr => ⟨_, (pss_one (ps_ret (pe_lc (own := [("place", 2), ("words", 3)]) (g := gTup K 2 (gCons (gName 2) (gCons (gName 3) gNil))) (by rfl) sc_can_be.nd (EM.pi_enumM (by rfl) T.n_enumerate (pa_cons (pv 0) pa_nil)) (blkOk_by (own := [("place", 2), ("words", 3)]) (N := N_can_be) (sc := defScope s_can_be) (by decide +kernel)) (fun _ _ _ _ _ => (pg_tup (by rfl) (pgs_cons (pg_name (i := 2) sc_can_be.nd rfl (Or.inl rfl)) (pgs_cons (pg_name (i := 3) sc_can_be.nd rfl (Or.inr rfl)) pgs_nil)))) (fun _ _ _ _ _ => (pts_one (pt_val (pe_callB (r := rAll K) (cr_all rfl) (by rfl) T.n_all (by decide +kernel) (pa_cons (pe_lc (own := [("word", 4)]) (g := gName 4) (by rfl) sc_can_be.nd (show PI _ _ _ (iTup K (tVar 1)) from pi_tup (pv 1)) (blkOk_by (own := [("word", 4)]) (by first | rfl | kernel_rfl | decide +kernel)) (fun _ _ _ _ _ => (pg_name (i := 4) sc_can_be.nd rfl (Or.inl rfl))) (fun _ _ _ _ _ => pts_nil) (fun _ _ _ _ _ => (pe_cmpR (r := rIn K false) op_in_seq (pv 4) (pv 3) rfl))) pa_nil))))) (fun _ _ _ _ _ => (pv 2))))), ?_⟩
  intro J
  exact (rs_ret (RN.re (rn_lc (by decide) (ri_enumM (ra_cons re_v ra_nil)) (fun _ le => (rg_tup (rgs_cons rg_name (rgs_cons rg_name rgs_nil)))) (fun _ le => (rt_b (re_cb rb_all (ra_cons (RN.re (rn_lc (by decide) (ri_tup re_v) (fun _ le => rg_name) (fun _ le => rt_yes) (fun _ le => (re_op rr_in re_v (re_unT re_v))))) ra_nil)))) (fun _ le => re_v))))
theorem okD_cans_of {P : Program} {w : World} {K : PySem.W.Frag} {mg : Str → Option Value} {base : Heap} {ad : Ad} (T : Txt K mg ad) : FnOk P w K mg base CX0 2 ad.f_cans_of ad.d_cans_of ["things", "finds"] (spF K 2 F_cans_of) := by
  have G_can_be := okD_can_be (P := P) (w := w) (base := base) T
  refine okF0 T.F_cans_of sc_cans_of fun cdv A outer s H E hr => ⟨_, (pss_one (ps_ret (pe_lc (own := [("find", 2)]) (g := gName 2) (by rfl) sc_cans_of.nd (pi_any (pv 1)) (blkOk_by (own := [("find", 2)]) (N := N_cans_of) (sc := defScope s_cans_of) (by decide +kernel)) (fun _ _ _ _ _ => (pg_name (i := 2) sc_cans_of.nd rfl (Or.inl rfl))) (fun _ _ _ _ _ => pts_nil) (fun _ _ _ _ _ => (pe_call G_can_be (hr.mono (by first | decide | omega)) rfl T.g_can_be T.F_can_be.kp T.b_can_be .nil pass0 (pa_cons (pv 0) (pa_cons (pv 2) pa_nil))))))), ?_⟩
  intro J
  exact (rs_ret (RN.re (rn_lc (by decide) (ri_any re_v) (fun _ le => rg_name) (fun _ le => rt_yes) (fun _ le => (re_call (fun _ => .nil) (rc_dat re_v (rc_dat re_v rc_nil)))))))
theorem okD_led_on {P : Program} {w : World} {K : PySem.W.Frag} {mg : Str → Option Value} {base : Heap} {ad : Ad} (T : Txt K mg ad) : ∀ d : Nat, FnOk P w K mg base CX0 (1 + d) ad.f_led_on ad.d_led_on ["cans", "held", "one", "seen"] (spS K 4 (F_led_on d))
  | 0 => ⟨fun _ _ _ _ h => (by obtain ⟨_, _, _, _, _, _, _, _, h, _⟩ := h; exact h.elim), fun _ _ _ _ _ _ _ _ _ _ _ _ _ h => (by obtain ⟨_, _, _, _, _, _, _, _, h, _⟩ := h; exact h.elim)⟩
  | d + 1 => by
    have G_led_on := okD_led_on (P := P) (w := w) (base := base) T d
    refine okS0 T.F_led_on sc_led_on fun cdv A outer s H E hr => ⟨_, (pss_cons (ps_for PassesOwn.never rfl (pi_list (pe_ix ix_list (pv 0) (pv 2) (fun _ _ => rfl))) (pg_name (i := 4) sc_led_on.nd rfl (Or.inl rfl)) (pss_one (ps_if (pt_cmp (pc_dnotin (hu_of hr) (pv 4) (pv 3))) (pss_cons (ps_dput (hu_of hr) (pv 3) (pv 4) pe_bl rfl)
    (pss_one (ps_if (PW.pt (pw_or (pt_cmp (pc_dnotin (hu_of hr) (pv 4) (pv 1))) (pw_or1 (pt_truth (pe_call G_led_on hr rfl T.g_led_on T.F_led_on.kp T.b_led_on .nil pass0 (pa_cons (pv 0) (pa_cons (pv 1) (pa_cons (pe_dget (hu_of hr) (pv 1) (pv 4) (fun _ _ => rfl)) (pa_cons (pv 3) pa_nil))))) (by intro _; rfl))))) (pss_cons (ps_dput (hu_of hr) (pv 1) (pv 4) (pv 2) rfl)
    (pss_one (ps_ret pe_bl))) pss_nil))) pss_nil)))
    (pss_one (ps_ret pe_bl))), ?_⟩
    intro J
    exact (rs_seq (rs_for (by decide) (ri_list (re_op rr_ixL re_v re_v)) rg_name (rs_if (rt_b (re_dnotin re_v re_v)) (rs_seq (rs_dput re_v re_v (re_c fun _ => .bl _))
    (rs_if (rt_or (rt_b (re_dnotin re_v re_v)) (rt_tru (re_callS (fun _ => .nil) (rc_dat re_v (rc_dat re_v (rc_dat (re_dget re_v re_v) (rc_dat re_v rc_nil))))))) (rs_seq (rs_dput re_v re_v re_v)
    (rs_ret (re_c fun _ => .bl _))) rs_next)) rs_next))
    (rs_ret (re_c fun _ => .bl _)))
theorem okD_paired_off {P : Program} {w : World} {K : PySem.W.Frag} {mg : Str → Option Value} {base : Heap} {ad : Ad} (T : Txt K mg ad) : FnOk P w K mg base CX0 14 ad.f_paired_off ad.d_paired_off ["cans"] (spS K 1 F_paired_off) := by
  have G_led_on := okD_led_on (P := P) (w := w) (base := base) T 12
  refine okS0 T.F_paired_off sc_paired_off fun cdv A outer s H E hr => ⟨_, (pss_cons (ps_set (i := 1) sc_paired_off.nd rfl (Or.inr rfl) pe_dnewK)
    (pss_cons (ps_for PassesOwn.never rfl (pi_range1 rfl T.n_range (pa_cons (pe_callB call_len_seq (by rfl) T.n_len PySem.boot_len (pa_cons (pv 0) pa_nil)) pa_nil)) (pg_name (i := 2) sc_paired_off.nd rfl (Or.inl rfl)) (pss_cons (ps_set (i := 3) sc_paired_off.nd rfl (Or.inl rfl) pe_dnewK)
    (pss_one (ps_if (pt_not (pt_val (pe_call G_led_on (hr.mono (by first | decide | omega)) rfl T.g_led_on T.F_led_on.kp T.b_led_on .nil pass0 (pa_cons (pv 0) (pa_cons (pv 1) (pa_cons (pv 2) (pa_cons (pv 3) pa_nil))))))) (pss_one (ps_ret (pe_tup (pa_cons (pv 1) (pa_cons (pe_callB cr_sortedI (by rfl) T.n_sorted (by decide +kernel) (pa_cons (pe_op op_catK (pe_lst (pa_cons (pv 2) pa_nil)) (pe_lock (pe_lc (own := [("place", 4)]) (g := gName 4) (by rfl) sc_paired_off.nd (pi_keys (pv 3)) (blkOk_by (own := [("place", 4)]) (N := N_paired_off) (sc := defScope s_paired_off) (by decide +kernel)) (fun _ _ _ _ _ => (pg_name (i := 4) sc_paired_off.nd rfl (Or.inl rfl))) (fun _ _ _ _ _ => pts_nil) (fun _ _ _ _ _ => (pe_dget (hu_of hr) (pv 1) (pv 4) (fun _ _ => rfl)))))) pa_nil)) pa_nil))))) pss_nil))))
    (pss_one (ps_ret (pe_tup (pa_cons (pv 1) (pa_cons pe_non pa_nil))))))), ?_⟩
  intro J
  exact (rs_seq (rs_asg re_dnew rg_name)
    (rs_seq (rs_for (by decide) (ri_rng1 (ra_cons (re_cb rb_len (ra_cons re_v ra_nil)) ra_nil)) rg_name (rs_seq (rs_asg re_dnew rg_name)
    (rs_if (rt_not (rt_b (re_callS (fun _ => .nil) (rc_dat re_v (rc_dat re_v (rc_dat re_v (rc_dat re_v rc_nil))))))) (rs_ret (re_tup (ra_cons re_v (ra_cons (RN.re (rn_cb rbn_sortI (ra_cons (re_op rr_cat (RN.re (rn_lst (ra_cons re_v ra_nil))) (RN.re (rn_lckLc (by decide) (fun _ => rg_name) (fun _ => rt_yes) (fun _ => (re_dget re_v re_v))))) ra_nil))) ra_nil)))) rs_next)))
    (rs_ret (re_tup (ra_cons re_v (ra_cons (re_c fun _ => .non) ra_nil))))))
theorem okD_short_by {P : Program} {w : World} {K : PySem.W.Frag} {mg : Str → Option Value} {base : Heap} {ad : Ad} (T : Txt K mg ad) : FnOk P w K mg base CX0 15 ad.f_short_by ad.d_short_by ["cans"] (spS K 1 F_short_by) := by
  have G_paired_off := okD_paired_off (P := P) (w := w) (base := base) T
  refine okS0 T.F_short_by sc_short_by fun cdv A outer s H E hr => ⟨_, (pss_one (ps_ret (pe_ix ix_tup (pe_call G_paired_off (hr.mono (by first | decide | omega)) rfl T.g_paired_off T.F_paired_off.kp T.b_paired_off .nil pass0 (pa_cons (pv 0) pa_nil)) pe_int (fun _ _ => rfl)))), ?_⟩
  intro J
  exact (rs_ret (re_op rr_ixT (re_callS (fun _ => .nil) (rc_dat re_v rc_nil)) (re_c fun _ => .int _)))
theorem okD_with_place {P : Program} {w : World} {K : PySem.W.Frag} {mg : Str → Option Value} {base : Heap} {ad : Ad} (T : Txt K mg ad) : FnOk P w K mg base CX0 1 ad.f_with_place ad.d_with_place ["cans", "one", "place"] (spF K 3 F_with_place) := by
  refine okF0 T.F_with_place sc_with_place fun cdv A outer s H E hr => ⟨_, (pss_one (ps_ret (pe_op op_catK (pe_op op_catK (pe_slice sl_list (pv 0) po_none (po_some (pv 1))) (pe_lst (pa_cons (pe_lst (pa_cons (pv 2) pa_nil)) pa_nil))) (pe_slice sl_list (pv 0) (po_some (pe_op op_add (pv 1) pe_int)) po_none)))), ?_⟩
  intro J
  exact (rs_ret (re_op rr_cat (re_op rr_cat (re_sl rl_list re_v ro_no (ro_so re_v)) (RN.re (rn_lst (ra_cons (RN.re (rn_lst (ra_cons re_v ra_nil))) ra_nil)))) (re_sl rl_list re_v (ro_so (re_op rr_add re_v (re_c fun _ => .int _))) ro_no)))
theorem okD_least_place {P : Program} {w : World} {K : PySem.W.Frag} {mg : Str → Option Value} {base : Heap} {ad : Ad} (T : Txt K mg ad) : FnOk P w K mg base CX0 16 ad.f_least_place ad.d_least_place ["cans", "one"] (spF K 2 F_least_place) := by
  have G_short_by := okD_short_by (P := P) (w := w) (base := base) T
  have G_with_place := okD_with_place (P := P) (w := w) (base := base) T
  refine okF0 T.F_least_place sc_least_place fun cdv A outer s H E hr => ⟨_, (pss_cons (ps_for PassesOwn.never rfl (pi_list (pe_ix ix_list (pv 0) (pv 1) (fun _ _ => rfl))) (pg_name (i := 2) sc_least_place.nd rfl (Or.inl rfl)) (pss_one (ps_if (pt_cmpR op_isN (pe_call G_short_by (hr.mono (by first | decide | omega)) rfl T.g_short_by T.F_short_by.kp T.b_short_by .nil pass0 (pa_cons (pe_call G_with_place (hr.mono (by first | decide | omega)) rfl T.g_with_place T.F_with_place.kp T.b_with_place .nil pass0 (pa_cons (pv 0) (pa_cons (pv 1) (pa_cons (pv 2) pa_nil)))) pa_nil)) pe_non (nomark _)) (pss_one (ps_ret (pv 2))) pss_nil)))
    (pss_one (ps_ret pe_non))), ?_⟩
  intro J
  exact (rs_seq (rs_for (by decide) (ri_list (re_op rr_ixL re_v re_v)) rg_name (rs_if (rt_test (re_op rr_isN (re_callZ (fun _ => .nil) (ra_cons (re_call (fun _ => .nil) (rc_dat re_v (rc_dat re_v (rc_dat re_v rc_nil)))) ra_nil)) (re_c fun _ => .non))) (rs_ret re_v) rs_next))
    (rs_ret (re_c fun _ => .non)))
theorem okD_first_pairing {P : Program} {w : World} {K : PySem.W.Frag} {mg : Str → Option Value} {base : Heap} {ad : Ad} (T : Txt K mg ad) : FnOk P w K mg base CX0 17 ad.f_first_pairing ad.d_first_pairing ["cans"] (spF K 1 F_first_pairing) := by
  have G_with_place := okD_with_place (P := P) (w := w) (base := base) T
  have G_least_place := okD_least_place (P := P) (w := w) (base := base) T
  refine okF0 T.F_first_pairing sc_first_pairing fun cdv A outer s H E hr => ⟨_, (pss_cons (ps_set (i := 1) sc_first_pairing.nd rfl (Or.inl rfl) (pe_callTy call_list_of (by rfl) T.n_list (by decide +kernel) (pa_cons (pv 0) pa_nil)))
    (pss_cons (ps_for PassesOwn.never rfl (pi_range1 rfl T.n_range (pa_cons (pe_callB call_len_seq (by rfl) T.n_len PySem.boot_len (pa_cons (pv 0) pa_nil)) pa_nil)) (pg_name (i := 2) sc_first_pairing.nd rfl (Or.inl rfl)) (pss_one (ps_set (i := 1) sc_first_pairing.nd rfl (Or.inl rfl) (pe_call G_with_place (hr.mono (by first | decide | omega)) rfl T.g_with_place T.F_with_place.kp T.b_with_place .nil pass0 (pa_cons (pv 1) (pa_cons (pv 2) (pa_cons (pe_call G_least_place (hr.mono (by first | decide | omega)) rfl T.g_least_place T.F_least_place.kp T.b_least_place .nil pass0 (pa_cons (pv 1) (pa_cons (pv 2) pa_nil))) pa_nil)))))))
    (pss_one (ps_ret (pe_lc (own := [("places", 3)]) (g := gName 3) (by rfl) sc_first_pairing.nd (pi_list (pv 1)) (blkOk_by (own := [("places", 3)]) (N := N_first_pairing) (sc := defScope s_first_pairing) (by decide +kernel)) (fun _ _ _ _ _ => (pg_name (i := 3) sc_first_pairing.nd rfl (Or.inl rfl))) (fun _ _ _ _ _ => pts_nil) (fun _ _ _ _ _ => (pe_ix (r := rIxL K) ix_list (pv 3) pe_int (fun _ _ => rfl)))))))), ?_⟩
  intro J
  exact (rs_seq (rs_asg (re_cb rb_list (ra_cons re_v ra_nil)) rg_name)
    (rs_seq (rs_for (by decide) (ri_rng1 (ra_cons (re_cb rb_len (ra_cons re_v ra_nil)) ra_nil)) rg_name (rs_asg (re_call (fun _ => .nil) (rc_dat re_v (rc_dat re_v (rc_dat (re_call (fun _ => .nil) (rc_dat re_v (rc_dat re_v rc_nil))) rc_nil)))) rg_name))
    (rs_ret (RN.re (rn_lc (by decide) (ri_list re_v) (fun _ le => rg_name) (fun _ le => rt_yes) (fun _ le => (re_op rr_ixL re_v (re_c fun _ => .int _))))))))
theorem okD_way_for {P : Program} {w : World} {K : PySem.W.Frag} {mg : Str → Option Value} {base : Heap} {ad : Ad} (T : Txt K mg ad) : FnOk P w K mg base CX0 18 ad.f_way_for ad.d_way_for ["things", "finds"] (spF K 2 F_way_for) := by
  have G_cans_of := okD_cans_of (P := P) (w := w) (base := base) T
  have G_short_by := okD_short_by (P := P) (w := w) (base := base) T
  have G_first_pairing := okD_first_pairing (P := P) (w := w) (base := base) T
  refine okF0 T.F_way_for sc_way_for fun cdv A outer s H E hr => ⟨_, (pss_cons (ps_set (i := 2) sc_way_for.nd rfl (Or.inl rfl) (pe_call G_cans_of (hr.mono (by first | decide | omega)) rfl T.g_cans_of T.F_cans_of.kp T.b_cans_of .nil pass0 (pa_cons (pv 0) (pa_cons (pv 1) pa_nil))))
    (pss_cons (ps_set (i := 3) sc_way_for.nd rfl (Or.inl rfl) (pe_call G_short_by (hr.mono (by first | decide | omega)) rfl T.g_short_by T.F_short_by.kp T.b_short_by .nil pass0 (pa_cons (pv 2) pa_nil)))
    (pss_cons (ps_if (pt_cmpR op_notN (pv 3) pe_non (nomark _)) (pss_one (ps_ret (pe_tup (pa_cons pe_str (pa_cons (pv 3) pa_nil))))) pss_nil)
    (pss_one (ps_ret (pe_tup (pa_cons pe_str (pa_cons (pe_call G_first_pairing (hr.mono (by first | decide | omega)) rfl T.g_first_pairing T.F_first_pairing.kp T.b_first_pairing .nil pass0 (pa_cons (pv 2) pa_nil)) pa_nil)))))))), ?_⟩
  intro J
  exact (rs_seq (rs_asg (re_call (fun _ => .nil) (rc_dat re_v (rc_dat re_v rc_nil))) rg_name)
    (rs_seq (rs_asg (re_callZ (fun _ => .nil) (ra_cons re_v ra_nil)) rg_name)
    (rs_seq (rs_if (rt_test (re_op rr_notN re_v (re_c fun _ => .non))) (rs_ret (re_tup (ra_cons (re_c fun _ => .str _) (ra_cons re_v ra_nil)))) rs_next)
    (rs_ret (re_tup (ra_cons (re_c fun _ => .str _) (ra_cons (re_call (fun _ => .nil) (rc_dat re_v rc_nil)) ra_nil)))))))
theorem okD__law_find {P : Program} {w : World} {K : PySem.W.Frag} {mg : Str → Option Value} {base : Heap} {ad : Ad} (T : Txt K mg ad) : FnOk P w K mg base CX0 3 ad.f__law_find ad.d__law_find ["_law_box_here", "_law_pool", "_law_things_here"] (spF K 3 F__law_find) := by
  have G__law_take := okD__law_take (P := P) (w := w) (base := base) T
  have G__law_some_words := okD__law_some_words (P := P) (w := w) (base := base) T
  refine okF0 T.F__law_find sc__law_find fun cdv A outer s H E hr => ⟨_, (pss_cons (ps_set (i := 3) sc__law_find.nd rfl (Or.inl rfl) (pe_call G__law_take (hr.mono (by first | decide | omega)) rfl T.g__law_take T.F__law_take.kp T.b__law_take .nil pass0 (pa_cons (pv 0) (pa_cons pe_int pa_nil))))
    (pss_cons (ps_if (PW.pt (pw_or (pt_cmpR op_eq (pv 3) pe_int (nomark _)) (pw_or1 (pt_cmpR (op_eqD hr.units) (pv 2) (pe_lst pa_nil) (nomark _))))) (pss_one (ps_ret (pe_call G__law_some_words (hr.mono (by first | decide | omega)) rfl T.g__law_some_words T.F__law_some_words.kp T.b__law_some_words .nil pass0 (pa_cons (pv 0) (pa_cons (pv 1) (pa_cons pe_int pa_nil)))))) pss_nil)
    (pss_cons (ps_set (i := 4) sc__law_find.nd rfl (Or.inl rfl) (pe_ix ix_list (pv 2) (pe_call G__law_take (hr.mono (by first | decide | omega)) rfl T.g__law_take T.F__law_take.kp T.b__law_take .nil pass0 (pa_cons (pv 0) (pa_cons (pe_callB call_len_seq (by rfl) T.n_len PySem.boot_len (pa_cons (pv 2) pa_nil)) pa_nil))) (fun _ _ => rfl)))
    (pss_cons (ps_if (pt_cmpR op_lt (pv 3) pe_int (nomark _)) (pss_one (ps_ret (pe_ix ix_list (pe_lst (pa_cons (pe_tup pa_nil) (pa_cons (pv 4) pa_nil))) (pe_op op_sub (pv 3) pe_int) (fun _ _ => rfl)))) pss_nil)
    (pss_cons (ps_setLc (i := 5) (own := [("_law_word", 6)]) (g := gName 6) (by rfl) sc__law_find.nd rfl rfl (sw_true rfl rfl rfl (by decide +kernel)) (pi_tup (pv 4)) (blkOk_by (own := [("_law_word", 6)]) (N := N__law_find) (sc := defScope s__law_find) (by decide +kernel)) (fun _ _ _ _ _ => (pg_name (i := 6) sc__law_find.nd rfl (Or.inl rfl))) (fun _ _ _ _ _ => (pts_one (pt_cmpR op_eq (pe_call G__law_take (hr.mono (by first | decide | omega)) rfl T.g__law_take T.F__law_take.kp T.b__law_take .nil pass0 (pa_cons (pv 0) (pa_cons pe_int pa_nil))) pe_int (nomark _)))) (fun _ _ _ _ _ => (pv 6)))
    (pss_cons (ps_if (PW.pt (pw_and (pt_cmpR op_eq (pv 3) pe_int (nomark _)) (pw_and1 (pt_cmpR op_lt (pe_callB call_len_seq (by rfl) T.n_len PySem.boot_len (pa_cons (pv 5) pa_nil)) pe_int (nomark _))))) (pss_one (ps_expr (pe_bm PySem.F.plainAttrs_list PySem.F.slot_list_append PySem.F.type_list_append mt_append (pv 5) (pa_cons (pe_ix ix_list (pv 1) (pe_call G__law_take (hr.mono (by first | decide | omega)) rfl T.g__law_take T.F__law_take.kp T.b__law_take .nil pass0 (pa_cons (pv 0) (pa_cons (pe_callB call_len_seq (by rfl) T.n_len PySem.boot_len (pa_cons (pv 1) pa_nil)) pa_nil))) (fun _ _ => rfl)) pa_nil)))) pss_nil)
    (pss_one (ps_ret (pe_callTy cr_tupN (by rfl) T.n_tuple (by decide +kernel) (pa_cons (pe_callB (cr_sortedSetT rfl) (by rfl) T.n_sorted (by decide +kernel) (pa_cons (pe_callTy (cr_setT rfl) (by rfl) T.n_set (by decide +kernel) (pa_cons (pv 5) pa_nil)) pa_nil)) pa_nil)))))))))), ?_⟩
  intro J
  exact (rs_seq (rs_asg (re_call (fun _ => .nil) (rc_own (rc_dat (re_c fun _ => .int _) rc_nil))) rg_name)
    (rs_seq (rs_if (rt_or (rt_test (re_op rr_eq re_v (re_c fun _ => .int _))) (rt_test (re_op rr_eqD (re_unD re_v) (RN.re (rn_lst ra_nil))))) (rs_ret (re_unT (re_call (fun _ => .nil) (rc_own (rc_dat re_v (rc_dat (re_c fun _ => .int _) rc_nil)))))) rs_next)
    (rs_seq (rs_asg (re_op rr_ixL re_v (re_call (fun _ => .nil) (rc_own (rc_dat (re_cb rb_len (ra_cons re_v ra_nil)) rc_nil)))) rg_name)
    (rs_seq (rs_if (rt_test (re_op rr_lt re_v (re_c fun _ => .int _))) (rs_ret (re_op rr_ixL (RN.re (rn_lst (ra_cons (re_tup ra_nil) (ra_cons (re_unT re_v) ra_nil)))) (re_op rr_sub re_v (re_c fun _ => .int _)))) rs_next)
    (rs_seq (rs_own (by decide) (rn_lc (by decide) (ri_tup (re_unT re_v)) (fun _ le => rg_name) (fun _ le => (rt_test (re_op rr_eq (re_call (fun _ => .nil) (rc_own (rc_dat (re_c fun _ => .int _) rc_nil))) (re_c fun _ => .int _)))) (fun _ le => re_v)))
    (rs_seq (rs_if (rt_and (rt_test (re_op rr_eq re_v (re_c fun _ => .int _))) (rt_test (re_op rr_lt re_lenO (re_c fun _ => .int _)))) (rs_append (re_op rr_ixL re_v (re_call (fun _ => .nil) (rc_own (rc_dat (re_cb rb_len (ra_cons re_v ra_nil)) rc_nil))))) rs_next)
    (rs_freeze (by decide) (rs_ret (re_unT (re_tupN (RN.re (rn_sortSetT (ra_cons re_v ra_nil)))))))))))))
theorem okD__law_cans {P : Program} {w : World} {K : PySem.W.Frag} {mg : Str → Option Value} {base : Heap} {ad : Ad} (T : Txt K mg ad) : FnOk P w K mg base CX0 1 ad.f__law_cans ad.d__law_cans ["_law_things_here", "_law_finds"] (spF K 2 F__law_cans) := by
  refine okF0 T.F__law_cans sc__law_cans fun cdv A outer s H E hr => ⟨_, (pss_cons (ps_set (i := 2) sc__law_cans.nd rfl (Or.inl rfl) (pe_lst pa_nil))
    (pss_cons (ps_for PassesOwn.never rfl (pi_list (pv 1)) (pg_name (i := 3) sc__law_cans.nd rfl (Or.inr rfl)) (pss_one (ps_expr (pe_bm PySem.F.plainAttrs_list PySem.F.slot_list_append PySem.F.type_list_append mt_append (pv 2) (pa_cons (pe_lc (own := [("_law_place", 4), ("_law_words", 5)]) (g := gTup K 2 (gCons (gName 4) (gCons (gName 5) gNil))) (by rfl) sc__law_cans.nd (pi_enum (by rfl) T.n_enumerate (pa_cons (pv 0) pa_nil)) (blkOk_by (own := [("_law_place", 4), ("_law_words", 5)]) (N := N__law_cans) (sc := defScope s__law_cans) (by decide +kernel)) (fun _ _ _ _ _ => (pg_tup (by rfl) (pgs_cons (pg_name (i := 4) sc__law_cans.nd rfl (Or.inl rfl)) (pgs_cons (pg_name (i := 5) sc__law_cans.nd rfl (Or.inr rfl)) pgs_nil)))) (fun _ _ _ _ _ => (pts_one (pt_cmpR (r := rEqD K) (op_eqD hr.units) (pe_lc (own := [("_law_one", 6)]) (g := gName 6) (by rfl) sc__law_cans.nd (show PI _ _ _ (iTup K (tVar 3)) from pi_tup (pv 3)) (blkOk_by (own := [("_law_one", 6)]) (by first | rfl | kernel_rfl | decide +kernel)) (fun _ _ _ _ _ => (pg_name (i := 6) sc__law_cans.nd rfl (Or.inl rfl))) (fun _ _ _ _ _ => (pts_one (pt_cmpR (r := rIn K true) op_notIn_seq (pv 6) (pv 5) rfl))) (fun _ _ _ _ _ => (pv 6))) (pe_lst pa_nil) (nomark _)))) (fun _ _ _ _ _ => (pv 4))) pa_nil)))))
    (pss_one (ps_ret (pv 2))))), ?_⟩
  intro J
  exact (rs_seq (rs_own (by decide) (rn_lst ra_nil))
    (rs_seq (rs_for (by decide) (ri_list re_v) rg_name (rs_append (RN.re (rn_lc (by decide) (ri_enum (ra_cons re_v ra_nil)) (fun _ le => (rg_tup (rgs_cons rg_name (rgs_cons rg_name rgs_nil)))) (fun _ le => (rt_test (re_op rr_eqD (RN.re (rn_lc (by decide) (ri_tup re_v) (fun _ le => rg_name) (fun _ le => (rt_test (re_op rr_in re_v (re_unT re_v)))) (fun _ le => re_v))) (RN.re (rn_lst ra_nil))))) (fun _ le => re_v)))))
    (rs_freeze (by decide) (rs_ret re_v))))
theorem okD__law_bent {P : Program} {w : World} {K : PySem.W.Frag} {mg : Str → Option Value} {base : Heap} {ad : Ad} (T : Txt K mg ad) : FnOk P w K mg base CX0 2 ad.f__law_bent ad.d__law_bent ["_law_box_here", "_law_thing", "_law_many"] (spF K 3 F__law_bent) := by
  have G__law_take := okD__law_take (P := P) (w := w) (base := base) T
  refine okF0 T.F__law_bent sc__law_bent fun cdv A outer s H E hr => ⟨_, (pss_cons (ps_par (i := 3) (j := 4) (by rfl) sc__law_bent.nd rfl rfl (by decide) rfl rfl (pa_cons (pe_call G__law_take (hr.mono (by first | decide | omega)) rfl T.g__law_take T.F__law_take.kp T.b__law_take .nil pass0 (pa_cons (pv 0) (pa_cons pe_int pa_nil))) (pa_cons (pe_call G__law_take (hr.mono (by first | decide | omega)) rfl T.g__law_take T.F__law_take.kp T.b__law_take .nil pass0 (pa_cons (pv 0) (pa_cons (pe_op op_add (pe_callB call_len_seq (by rfl) T.n_len PySem.boot_len (pa_cons (pv 1) pa_nil)) pe_int) pa_nil))) pa_nil)) (by rfl))
    (pss_cons (ps_set (i := 5) sc__law_bent.nd rfl (Or.inl rfl) (pe_ix ix_list (pe_lst (pa_cons (pe_op op_sub (pv 4) pe_int) (pa_cons (pe_op op_add (pv 4) pe_int) (pa_cons (pv 2) (pa_cons (pe_un un_neg pe_int) (pa_cons pe_bl (pa_cons pe_non (pa_cons pe_str (pa_cons (pe_lst (pa_cons (pv 4) pa_nil)) (pa_cons (pe_tup (pa_cons pe_int pa_nil)) (pa_cons pe_bl pa_nil))))))))))) (pe_call G__law_take (hr.mono (by first | decide | omega)) rfl T.g__law_take T.F__law_take.kp T.b__law_take .nil pass0 (pa_cons (pv 0) (pa_cons pe_int pa_nil))) (fun _ _ => rfl)))
    (pss_cons (ps_if (pt_cmpR op_eq (pv 3) pe_int (nomark _)) (pss_one (ps_ret (pe_op op_catK (pe_slice sl_list (pv 1) po_none (po_some (pv 4))) (pe_slice sl_list (pv 1) (po_some (pe_op op_add (pv 4) pe_int)) po_none)))) pss_nil)
    (pss_cons (ps_if (pt_cmpR op_eq (pv 3) pe_int (nomark _)) (pss_one (ps_ret (pe_op op_catK (pe_op op_catK (pe_slice sl_list (pv 1) po_none (po_some (pv 4))) (pe_slice sl_list (pv 1) (po_some (pv 4)) (po_some (pe_op op_add (pv 4) pe_int)))) (pe_slice sl_list (pv 1) (po_some (pv 4)) po_none)))) pss_nil)
    (pss_cons (ps_if (pt_cmpR op_eq (pv 3) pe_int (nomark _)) (pss_one (ps_ret (pe_op op_catK (pe_op op_catK (pe_slice sl_list (pv 1) po_none (po_some (pv 4))) (pe_revL (pe_slice sl_list (pv 1) (po_some (pv 4)) (po_some (pe_op op_add (pv 4) pe_int))))) (pe_slice sl_list (pv 1) (po_some (pe_op op_add (pv 4) pe_int)) po_none)))) pss_nil)
    (pss_cons (ps_if (pt_cmpR op_lt (pv 3) pe_int (nomark _)) (pss_one (ps_ret (pe_op op_catK (pe_op op_catK (pe_slice sl_list (pv 1) po_none (po_some (pv 4))) (pe_lst (pa_cons (pv 5) pa_nil))) (pe_slice sl_list (pv 1) (po_some (pe_op op_add (pv 4) (pe_op op_mod (pv 3) pe_int))) po_none)))) pss_nil)
    (pss_cons (ps_if (pt_cmpR op_eq (pv 3) pe_int (nomark _)) (pss_one (ps_ret (pe_revL (pv 1)))) pss_nil)
    (pss_one (ps_ret (pe_ifExp (pt_cmpR op_lt (pv 3) pe_int (nomark _)) (pe_op op_catK (pe_op op_catK (pe_slice sl_list (pv 1) po_none (po_some (pv 4))) (pe_lst (pa_cons (pv 5) pa_nil))) (pe_slice sl_list (pv 1) (po_some (pe_op op_add (pv 4) pe_int)) po_none)) (pv 1))))))))))), ?_⟩
  intro J
  exact (rs_seq (rs_par (ra_cons (re_call (fun _ => .nil) (rc_own (rc_dat (re_c fun _ => .int _) rc_nil))) (ra_cons (re_call (fun _ => .nil) (rc_own (rc_dat (re_op rr_add (re_cb rb_len (ra_cons re_v ra_nil)) (re_c fun _ => .int _)) rc_nil))) ra_nil)))
    (rs_seq (rs_asg (re_op rr_ixL (RN.re (rn_lst (ra_cons (re_op rr_sub re_v (re_c fun _ => .int _)) (ra_cons (re_op rr_add re_v (re_c fun _ => .int _)) (ra_cons re_v (ra_cons (re_un ru_neg (re_c fun _ => .int _)) (ra_cons (re_c fun _ => .bl _) (ra_cons (re_c fun _ => .non) (ra_cons (re_c fun _ => .str _) (ra_cons (RN.re (rn_lst (ra_cons re_v ra_nil))) (ra_cons (re_tup (ra_cons (re_c fun _ => .int _) ra_nil)) (ra_cons (re_c fun _ => .bl _) ra_nil)))))))))))) (re_call (fun _ => .nil) (rc_own (rc_dat (re_c fun _ => .int _) rc_nil)))) rg_name)
    (rs_seq (rs_if (rt_test (re_op rr_eq re_v (re_c fun _ => .int _))) (rs_ret (re_op rr_cat (re_sl rl_list re_v ro_no (ro_so re_v)) (re_sl rl_list re_v (ro_so (re_op rr_add re_v (re_c fun _ => .int _))) ro_no))) rs_next)
    (rs_seq (rs_if (rt_test (re_op rr_eq re_v (re_c fun _ => .int _))) (rs_ret (re_op rr_cat (re_op rr_cat (re_sl rl_list re_v ro_no (ro_so re_v)) (re_sl rl_list re_v (ro_so re_v) (ro_so (re_op rr_add re_v (re_c fun _ => .int _))))) (re_sl rl_list re_v (ro_so re_v) ro_no))) rs_next)
    (rs_seq (rs_if (rt_test (re_op rr_eq re_v (re_c fun _ => .int _))) (rs_ret (re_op rr_cat (re_op rr_cat (re_sl rl_list re_v ro_no (ro_so re_v)) (RN.re (rn_rev (re_sl rl_list re_v (ro_so re_v) (ro_so (re_op rr_add re_v (re_c fun _ => .int _))))))) (re_sl rl_list re_v (ro_so (re_op rr_add re_v (re_c fun _ => .int _))) ro_no))) rs_next)
    (rs_seq (rs_if (rt_test (re_op rr_lt re_v (re_c fun _ => .int _))) (rs_ret (re_op rr_cat (re_op rr_cat (re_sl rl_list re_v ro_no (ro_so re_v)) (RN.re (rn_lst (ra_cons re_v ra_nil)))) (re_sl rl_list re_v (ro_so (re_op rr_add re_v (re_op rr_mod re_v (re_c fun _ => .int _)))) ro_no))) rs_next)
    (rs_seq (rs_if (rt_test (re_op rr_eq re_v (re_c fun _ => .int _))) (rs_ret (RN.re (rn_rev re_v))) rs_next)
    (rs_ret (re_if (rt_test (re_op rr_lt re_v (re_c fun _ => .int _))) (re_op rr_cat (re_op rr_cat (re_sl rl_list re_v ro_no (ro_so re_v)) (RN.re (rn_lst (ra_cons re_v ra_nil)))) (re_sl rl_list re_v (ro_so (re_op rr_add re_v (re_c fun _ => .int _))) ro_no)) re_v)))))))))
theorem okD__law_given {P : Program} {w : World} {K : PySem.W.Frag} {mg : Str → Option Value} {base : Heap} {ad : Ad} (T : Txt K mg ad) : FnOk P w K mg base CX0 2 ad.f__law_given ad.d__law_given ["_law_box_here", "_law_rows"] (spF K 2 F__law_given) := by
  have G__law_take := okD__law_take (P := P) (w := w) (base := base) T
  refine okF0 T.F__law_given sc__law_given fun cdv A outer s H E hr => ⟨_, (pss_one (ps_ret (pe_ix ix_list (pe_lst (pa_cons (pe_callTy call_list_of (by rfl) T.n_list (by decide +kernel) (pa_cons (pv 1) pa_nil)) (pa_cons (pe_callTy cr_tupN (by rfl) T.n_tuple (by decide +kernel) (pa_cons (pv 1) pa_nil)) pa_nil))) (pe_call G__law_take (hr.mono (by first | decide | omega)) rfl T.g__law_take T.F__law_take.kp T.b__law_take .nil pass0 (pa_cons (pv 0) (pa_cons pe_int pa_nil))) (fun _ _ => rfl)))), ?_⟩
  intro J
  exact (rs_ret (re_op rr_ixL (RN.re (rn_lst (ra_cons (re_cb rb_list (ra_cons re_v ra_nil)) (ra_cons (re_unT (re_tupN re_v)) ra_nil)))) (re_call (fun _ => .nil) (rc_own (rc_dat (re_c fun _ => .int _) rc_nil)))))
theorem okD_are_places {P : Program} {w : World} {K : PySem.W.Frag} {mg : Str → Option Value} {base : Heap} {ad : Ad} (T : Txt K mg ad) : FnOk P w K mg base CX0 1 ad.f_are_places ad.d_are_places ["thing", "many"] (spF K 2 F_are_places) := by
  refine okF0 T.F_are_places sc_are_places fun cdv A outer s H E hr => ⟨_, (pss_cons (ps_if (PW.pt (pw_or (pt_not (pt_val (pe_callB call_isi (by rfl) T.n_isinstance (by decide +kernel) (pa_cons (pv 0) (pa_cons (pe_bltn (v := .ty "list") (by rfl) T.n_list (by decide +kernel) rfl) pa_nil))))) (pw_or1 (pt_cmpR op_eq (pe_callB call_len_seq (by rfl) T.n_len PySem.boot_len (pa_cons (pv 0) pa_nil)) pe_int (nomark _))))) (pss_one (ps_ret pe_bl)) pss_nil)
    (pss_cons (ps_if (pt_not (pt_val (pe_callB (cr_all rfl) (by rfl) T.n_all (by decide +kernel) (pa_cons (pe_lc (own := [("one", 2)]) (g := gName 2) (by rfl) sc_are_places.nd (pi_list (pv 0)) (blkOk_by (own := [("one", 2)]) (N := N_are_places) (sc := defScope s_are_places) (by decide +kernel)) (fun _ _ _ _ _ => (pg_name (i := 2) sc_are_places.nd rfl (Or.inl rfl))) (fun _ _ _ _ _ => pts_nil) (fun _ _ _ _ _ => (pe_and (pe_callB (r := rIsi K) call_isi (by rfl) T.n_isinstance (by decide +kernel) (pa_cons (pv 2) (pa_cons (pe_bltn (v := .ty "int") (by rfl) T.n_int (by decide +kernel) rfl) pa_nil))) (pe_and (pe_not (pe_callB (r := rIsi K) call_isi (by rfl) T.n_isinstance (by decide +kernel) (pa_cons (pv 2) (pa_cons (pe_bltn (v := .ty "bool") (by rfl) T.n_bool (by decide +kernel) rfl) pa_nil)))) (pe_one (pe_chain op_le op_lt pe_int (pv 2) (pv 1))))))) pa_nil)))) (pss_one (ps_ret pe_bl)) pss_nil)
    (pss_one (ps_ret (pe_callB (cr_all rfl) (by rfl) T.n_all (by decide +kernel) (pa_cons (pe_lc (own := [("one", 2), ("other", 3)]) (g := gTup K 2 (gCons (gName 2) (gCons (gName 3) gNil))) (by rfl) sc_are_places.nd (RZ.pi_zipA (by rfl) T.n_zip (pa_cons (pv 0) (pa_cons (pe_slice sl_list (pv 0) (po_some pe_int) po_none) pa_nil))) (blkOk_by (own := [("one", 2), ("other", 3)]) (N := N_are_places) (sc := defScope s_are_places) (by decide +kernel)) (fun _ _ _ _ _ => (pg_tup (by rfl) (pgs_cons (pg_name (i := 2) sc_are_places.nd rfl (Or.inl rfl)) (pgs_cons (pg_name (i := 3) sc_are_places.nd rfl (Or.inl rfl)) pgs_nil)))) (fun _ _ _ _ _ => pts_nil) (fun _ _ _ _ _ => (pe_cmpR op_lt (pv 2) (pv 3) (nomark _)))) pa_nil)))))), ?_⟩
  intro J
  exact (rs_seq (rs_if (rt_or (rt_not (rt_b (re_isi re_v))) (rt_test (re_op rr_eq (re_cb rb_len (ra_cons re_v ra_nil)) (re_c fun _ => .int _)))) (rs_ret (re_c fun _ => .bl _)) rs_next)
    (rs_seq (rs_if (rt_not (rt_b (re_cb rb_all (ra_cons (RN.re (rn_lc (by decide) (ri_list re_v) (fun _ le => rg_name) (fun _ le => rt_yes) (fun _ le => (re_and (re_isi re_v) (re_and (re_not (re_isi re_v)) (re_chain rr_le rr_lt (re_c fun _ => .int _) re_v re_v)))))) ra_nil)))) (rs_ret (re_c fun _ => .bl _)) rs_next)
    (rs_ret (re_cb rb_all (ra_cons (RN.re (rn_lc (by decide) (ri_zip (ra_cons re_v (ra_cons (re_sl rl_list re_v (ro_so (re_c fun _ => .int _)) ro_no) ra_nil))) (fun _ le => (rg_tup (rgs_cons rg_name (rgs_cons rg_name rgs_nil)))) (fun _ le => rt_yes) (fun _ le => (re_op rr_lt re_v re_v)))) ra_nil)))))
theorem okD_are_too_few {P : Program} {w : World} {K : PySem.W.Frag} {mg : Str → Option Value} {base : Heap} {ad : Ad} (T : Txt K mg ad) : FnOk P w K mg base CX0 1 ad.f_are_too_few ad.d_are_too_few ["cans", "ones"] (spS K 2 F_are_too_few) := by
  refine okS0 T.F_are_too_few sc_are_too_few fun cdv A outer s H E hr => ⟨_, (pss_cons (ps_set (i := 2) sc_are_too_few.nd rfl (Or.inl rfl) pe_dnewK)
    (pss_cons (ps_for PassesOwn.never rfl (pi_list (pv 1)) (pg_name (i := 3) sc_are_too_few.nd rfl (Or.inl rfl)) (pss_one (ps_for PassesOwn.never rfl (pi_list (pe_ix ix_list (pv 0) (pv 3) (fun _ _ => rfl))) (pg_name (i := 4) sc_are_too_few.nd rfl (Or.inl rfl)) (pss_one (ps_dput (hu_of hr) (pv 2) (pv 4) pe_bl rfl)))))
    (pss_one (ps_ret (pe_cmpR op_lt (pe_callB call_lenD (by rfl) T.n_len PySem.boot_len (pa_cons (pv 2) pa_nil)) (pe_callB call_len_seq (by rfl) T.n_len PySem.boot_len (pa_cons (pv 1) pa_nil)) (nomark _)))))), ?_⟩
  intro J
  exact (rs_seq (rs_asg re_dnew rg_name)
    (rs_seq (rs_for (by decide) (ri_list re_v) rg_name (rs_for (by decide) (ri_list (re_op rr_ixL re_v re_v)) rg_name (rs_dput re_v re_v (re_c fun _ => .bl _))))
    (rs_ret (re_op rr_lt (re_dlen re_v) (re_cb rb_len (ra_cons re_v ra_nil))))))
theorem okD_shows_none {P : Program} {w : World} {K : PySem.W.Frag} {mg : Str → Option Value} {base : Heap} {ad : Ad} (T : Txt K mg ad) : FnOk P w K mg base CX0 3 ad.f_shows_none ad.d_shows_none ["things", "finds", "thing"] (spF K 3 F_shows_none) := by
  have G_are_places := okD_are_places (P := P) (w := w) (base := base) T
  have G_are_too_few := okD_are_too_few (P := P) (w := w) (base := base) T
  have G_cans_of := okD_cans_of (P := P) (w := w) (base := base) T
  refine okF0 T.F_shows_none sc_shows_none fun cdv A outer s H E hr => ⟨_, (pss_one (ps_ret (pe_and (pe_call G_are_places (hr.mono (by first | decide | omega)) rfl T.g_are_places T.F_are_places.kp T.b_are_places .nil pass0 (pa_cons (pv 2) (pa_cons (pe_callB call_len_seq (by rfl) T.n_len PySem.boot_len (pa_cons (pv 1) pa_nil)) pa_nil))) (pe_one (pe_call G_are_too_few (hr.mono (by first | decide | omega)) rfl T.g_are_too_few T.F_are_too_few.kp T.b_are_too_few .nil pass0 (pa_cons (pe_call G_cans_of (hr.mono (by first | decide | omega)) rfl T.g_cans_of T.F_cans_of.kp T.b_cans_of .nil pass0 (pa_cons (pv 0) (pa_cons (pv 1) pa_nil))) (pa_cons (pv 2) pa_nil))))))), ?_⟩
  intro J
  exact (rs_ret (re_and (re_call (fun _ => .nil) (rc_dat re_v (rc_dat (re_cb rb_len (ra_cons re_v ra_nil)) rc_nil))) (re_callZ (fun _ => .nil) (ra_cons (re_call (fun _ => .nil) (rc_dat re_v (rc_dat re_v rc_nil))) (ra_cons re_v ra_nil)))))
theorem okD__law_too_few {P : Program} {w : World} {K : PySem.W.Frag} {mg : Str → Option Value} {base : Heap} {ad : Ad} (T : Txt K mg ad) : FnOk P w K mg base CX0 1 ad.f__law_too_few ad.d__law_too_few ["_law_cans_here", "_law_ones"] (spF K 2 F__law_too_few) := by
  refine okF0 T.F__law_too_few sc__law_too_few fun cdv A outer s H E hr => ⟨_, (pss_cons (ps_set (i := 2) sc__law_too_few.nd rfl (Or.inr rfl) (pe_lst pa_nil))
    (pss_cons (ps_for PassesOwn.never rfl (pi_list (pv 1)) (pg_name (i := 3) sc__law_too_few.nd rfl (Or.inl rfl)) (pss_one (ps_expr (pe_bm PySem.F.plainAttrs_list PySem.F.slot_list_extend PySem.F.type_list_extend mt_extend (pv 2) (pa_cons (pe_lc (own := [("_law_place", 4)]) (g := gName 4) (by rfl) sc__law_too_few.nd (pi_list (pe_ix ix_list (pv 0) (pv 3) (fun _ _ => rfl))) (blkOk_by (own := [("_law_place", 4)]) (N := N__law_too_few) (sc := defScope s__law_too_few) (by decide +kernel)) (fun _ _ _ _ _ => (pg_name (i := 4) sc__law_too_few.nd rfl (Or.inl rfl))) (fun _ _ _ _ _ => (pts_one (pt_cmpR (r := rIn K true) op_notIn_seq (pv 4) (pv 2) rfl))) (fun _ _ _ _ _ => (pv 4))) pa_nil)))))
    (pss_one (ps_ret (pe_cmpR op_lt (pe_callB call_len_seq (by rfl) T.n_len PySem.boot_len (pa_cons (pv 2) pa_nil)) (pe_callB call_len_seq (by rfl) T.n_len PySem.boot_len (pa_cons (pv 1) pa_nil)) (nomark _)))))), ?_⟩
  intro J
  exact (rs_seq (rs_own (by decide) (rn_lst ra_nil))
    (rs_seq (rs_for (by decide) (ri_list re_v) rg_name (rs_extend (rn_lc (by decide) (ri_list (re_op rr_ixL re_v re_v)) (fun _ le => rg_name) (fun _ le => (rt_test (re_inO re_v))) (fun _ le => re_v))))
    (rs_ret (re_op rr_lt re_lenO (re_cb rb_len (ra_cons re_v ra_nil))))))
theorem okD__law_due {P : Program} {w : World} {K : PySem.W.Frag} {mg : Str → Option Value} {base : Heap} {ad : Ad} (T : Txt K mg ad) : FnOk P w K mg base CX0 2 ad.f__law_due ad.d__law_due ["_law_cans_here", "_law_thing"] (spF K 2 F__law_due) := by
  have G__law_too_few := okD__law_too_few (P := P) (w := w) (base := base) T
  refine okF0 T.F__law_due sc__law_due fun cdv A outer s H E hr => ⟨_, (pss_cons (ps_if (PW.pt (pw_or (pt_not (pt_val (pe_callB call_isi (by rfl) T.n_isinstance (by decide +kernel) (pa_cons (pv 1) (pa_cons (pe_bltn (v := .ty "list") (by rfl) T.n_list (by decide +kernel) rfl) pa_nil))))) (pw_or1 (pt_cmpR op_eq (pe_callB call_len_seq (by rfl) T.n_len PySem.boot_len (pa_cons (pv 1) pa_nil)) pe_int (nomark _))))) (pss_one (ps_ret pe_bl)) pss_nil)
    (pss_cons (ps_for PassesOwn.never rfl (pi_enum (by rfl) T.n_enumerate (pa_cons (pv 1) pa_nil)) (pg_tup (by rfl) (pgs_cons (pg_name (i := 2) sc__law_due.nd rfl (Or.inl rfl)) (pgs_cons (pg_name (i := 3) sc__law_due.nd rfl (Or.inl rfl)) pgs_nil))) (pss_cons (ps_if (PW.pt (pw_or (pt_not (pt_val (pe_callB call_isi (by rfl) T.n_isinstance (by decide +kernel) (pa_cons (pv 3) (pa_cons (pe_bltn (v := .ty "int") (by rfl) T.n_int (by decide +kernel) rfl) pa_nil))))) (pw_or (pt_val (pe_callB call_isi (by rfl) T.n_isinstance (by decide +kernel) (pa_cons (pv 3) (pa_cons (pe_bltn (v := .ty "bool") (by rfl) T.n_bool (by decide +kernel) rfl) pa_nil)))) (pw_or1 (pt_not (pt_chain op_le op_lt pe_int (pv 3) (pe_callB call_len_seq (by rfl) T.n_len PySem.boot_len (pa_cons (pv 0) pa_nil)))))))) (pss_one (ps_ret pe_bl)) pss_nil)
    (pss_one (ps_if (PW.pt (pw_and (pt_cmpR op_gt (pv 2) pe_int (nomark _)) (pw_and1 (pt_cmpR op_ge (pe_ix ix_list (pv 1) (pe_op op_sub (pv 2) pe_int) (fun _ _ => rfl)) (pv 3) (nomark _))))) (pss_one (ps_ret pe_bl)) pss_nil))))
    (pss_one (ps_ret (pe_call G__law_too_few (hr.mono (by first | decide | omega)) rfl T.g__law_too_few T.F__law_too_few.kp T.b__law_too_few .nil pass0 (pa_cons (pv 0) (pa_cons (pv 1) pa_nil))))))), ?_⟩
  intro J
  exact (rs_seq (rs_if (rt_or (rt_not (rt_b (re_isi re_v))) (rt_test (re_op rr_eq (re_cb rb_len (ra_cons re_v ra_nil)) (re_c fun _ => .int _)))) (rs_ret (re_c fun _ => .bl _)) rs_next)
    (rs_seq (rs_for (by decide) (ri_enum (ra_cons re_v ra_nil)) (rg_tup (rgs_cons rg_name (rgs_cons rg_name rgs_nil))) (rs_seq (rs_if (rt_or (rt_not (rt_b (re_isi re_v))) (rt_or (rt_b (re_isi re_v)) (rt_not (rt_test (re_chain rr_le rr_lt (re_c fun _ => .int _) re_v (re_cb rb_len (ra_cons re_v ra_nil))))))) (rs_ret (re_c fun _ => .bl _)) rs_next)
    (rs_if (rt_and (rt_test (re_op rr_gt re_v (re_c fun _ => .int _))) (rt_test (re_op rr_ge (re_op rr_ixL re_v (re_op rr_sub re_v (re_c fun _ => .int _))) re_v))) (rs_ret (re_c fun _ => .bl _)) rs_next)))
    (rs_ret (re_call (fun _ => .nil) (rc_dat re_v (rc_dat re_v rc_nil))))))
theorem okD__law_right {P : Program} {w : World} {K : PySem.W.Frag} {mg : Str → Option Value} {base : Heap} {ad : Ad} (T : Txt K mg ad) : FnG P w K mg base 19 ad.f__law_right ad.d__law_right ["_law_box_here"] (spF K 1 F__law_right) := by
  have G__law_names := okD__law_names (P := P) (w := w) (base := base) T
  have G__law_things := okD__law_things (P := P) (w := w) (base := base) T
  have G_way_for := okD_way_for (P := P) (w := w) (base := base) T
  have G__law_find := okD__law_find (P := P) (w := w) (base := base) T
  have G__law_cans := okD__law_cans (P := P) (w := w) (base := base) T
  have G__law_bent := okD__law_bent (P := P) (w := w) (base := base) T
  have G__law_given := okD__law_given (P := P) (w := w) (base := base) T
  have G__law_take := okD__law_take (P := P) (w := w) (base := base) T
  have G_shows_none := okD_shows_none (P := P) (w := w) (base := base) T
  have G__law_same := okD__law_same (P := P) (w := w) (base := base) T 8
  have G__law_due := okD__law_due (P := P) (w := w) (base := base) T
  refine okF T.F__law_right sc__law_right fun cdv A outer s H E hr hg => ⟨_, (pss_cons (ps_set (i := 1) sc__law_right.nd rfl (Or.inr rfl) (pe_call G__law_names (hr.mono (by first | decide | omega)) rfl T.g__law_names T.F__law_names.kp T.b__law_names .nil pass0 (pa_cons (pv 0) (pa_cons (pe_op op_add pe_int (pe_call G__law_take (hr.mono (by first | decide | omega)) rfl T.g__law_take T.F__law_take.kp T.b__law_take .nil pass0 (pa_cons (pv 0) (pa_cons pe_int pa_nil)))) pa_nil))))
    (pss_cons (ps_set (i := 2) sc__law_right.nd rfl (Or.inr rfl) (pe_call G__law_things (hr.mono (by first | decide | omega)) rfl T.g__law_things T.F__law_things.kp T.b__law_things .nil pass0 (pa_cons (pv 0) (pa_cons (pv 1) (pa_cons (pe_op op_add pe_int (pe_call G__law_take (hr.mono (by first | decide | omega)) rfl T.g__law_take T.F__law_take.kp T.b__law_take .nil pass0 (pa_cons (pv 0) (pa_cons pe_int pa_nil)))) pa_nil)))))
    (pss_cons (ps_setLc (i := 3) (own := [("_law_turn", 4)]) (g := gName 4) (by rfl) sc__law_right.nd rfl rfl (sw_true rfl rfl rfl (by decide +kernel)) (pi_range1 rfl T.n_range (pa_cons (pe_op op_add pe_int (pe_call G__law_take (hr.mono (by first | decide | omega)) rfl T.g__law_take T.F__law_take.kp T.b__law_take .nil pass0 (pa_cons (pv 0) (pa_cons pe_int pa_nil)))) pa_nil)) (blkOk_by (own := [("_law_turn", 4)]) (N := N__law_right) (sc := defScope s__law_right) (by decide +kernel)) (fun _ _ _ _ _ => (pg_name (i := 4) sc__law_right.nd rfl (Or.inl rfl))) (fun _ _ _ _ _ => pts_nil) (fun _ _ _ _ _ => (pe_call G__law_find (hr.mono (by first | decide | omega)) rfl T.g__law_find T.F__law_find.kp T.b__law_find .nil pass0 (pa_cons (pv 0) (pa_cons (pv 1) (pa_cons (pe_slice (r := rSlL K) sl_list (pv 2) po_none (po_some pe_int)) pa_nil))))))
    (pss_cons (ps_asg (pe_tup (pa_cons (pe_callB call_len_seq (by rfl) T.n_len PySem.boot_len (pa_cons (pv 3) pa_nil)) (pa_cons (pe_call G__law_cans (hr.mono (by first | decide | omega)) rfl T.g__law_cans T.F__law_cans.kp T.b__law_cans .nil pass0 (pa_cons (pv 2) (pa_cons (pv 3) pa_nil))) pa_nil))) (pg_tup (by rfl) (pgs_cons (pg_name (i := 5) sc__law_right.nd rfl (Or.inl rfl)) (pgs_cons (pg_name (i := 6) sc__law_right.nd rfl (Or.inr rfl)) pgs_nil))))
    (pss_cons (ps_set (i := 7) sc__law_right.nd rfl (Or.inl rfl) (pe_call G_way_for (hr.mono (by first | decide | omega)) rfl T.g_way_for T.F_way_for.kp T.b_way_for .nil pass0 (pa_cons (pv 2) (pa_cons (pv 3) pa_nil))))
    (pss_cons (ps_set (i := 8) sc__law_right.nd rfl (Or.inl rfl) (pe_lst (pa_cons (pe_ifExp (pt_cmpR op_eq (pe_ix ix_tup (pv 7) pe_int (fun _ _ => rfl)) pe_str (nomark _)) (pe_ix ix_tup (pv 7) pe_int (fun _ _ => rfl)) (pe_callTy (cr_lstRng rfl) (by rfl) T.n_list (by decide +kernel) (pa_cons (pe_callTy cr_rng1 (by rfl) T.n_range (by decide +kernel) (pa_cons (pv 5) pa_nil)) pa_nil))) (pa_cons (pe_callTy (cr_lstRng rfl) (by rfl) T.n_list (by decide +kernel) (pa_cons (pe_callTy cr_rng1 (by rfl) T.n_range (by decide +kernel) (pa_cons (pv 5) pa_nil)) pa_nil)) pa_nil))))
    (pss_cons (ps_for PassesOwn.never rfl (pi_range1 rfl T.n_range (pa_cons (pv 5) pa_nil)) (pg_name (i := 9) sc__law_right.nd rfl (Or.inr rfl)) (pss_cons (ps_expr (pe_bm PySem.F.plainAttrs_list PySem.F.slot_list_append PySem.F.type_list_append mt_append (pv 8) (pa_cons (pe_lc (own := [("_law_two", 10)]) (g := gName 10) (by rfl) sc__law_right.nd (pi_range1 rfl T.n_range (pa_cons (pv 5) pa_nil)) (blkOk_by (own := [("_law_two", 10)]) (N := N__law_right) (sc := defScope s__law_right) (by decide +kernel)) (fun _ _ _ _ _ => (pg_name (i := 10) sc__law_right.nd rfl (Or.inl rfl))) (fun _ _ _ _ _ => (pts_one (pt_cmpR (r := rEqD K) (op_eqD hr.units) (pe_ix (r := rIxL K) ix_list (pv 6) (pv 10) (fun _ _ => rfl)) (pe_ix (r := rIxL K) ix_list (pv 6) (pv 9) (fun _ _ => rfl)) (nomark _)))) (fun _ _ _ _ _ => (pv 10))) pa_nil)))
    (pss_one (ps_expr (pe_bm PySem.F.plainAttrs_list PySem.F.slot_list_append PySem.F.type_list_append mt_append (pv 8) (pa_cons (pe_lst (pa_cons (pv 9) (pa_cons (pe_op op_add (pe_op op_add (pv 9) pe_int) (pe_call G__law_take (hr.mono (by first | decide | omega)) rfl T.g__law_take T.F__law_take.kp T.b__law_take .nil pass0 (pa_cons (pv 0) (pa_cons (pv 5) pa_nil)))) pa_nil))) pa_nil))))))
    (pss_cons (ps_for PassesOwn.never rfl (pi_range1 rfl T.n_range (pa_cons pe_int pa_nil)) (pg_name (i := 4) sc__law_right.nd rfl (Or.inl rfl)) (pss_cons (ps_set (i := 11) sc__law_right.nd rfl (Or.inl rfl) (pe_call G__law_bent (hr.mono (by first | decide | omega)) rfl T.g__law_bent T.F__law_bent.kp T.b__law_bent .nil pass0 (pa_cons (pv 0) (pa_cons (pe_ix ix_list (pv 8) (pe_call G__law_take (hr.mono (by first | decide | omega)) rfl T.g__law_take T.F__law_take.kp T.b__law_take .nil pass0 (pa_cons (pv 0) (pa_cons (pe_callB call_len_seq (by rfl) T.n_len PySem.boot_len (pa_cons (pv 8) pa_nil)) pa_nil))) (fun _ _ => rfl)) (pa_cons (pv 5) pa_nil)))))
    (pss_cons (ps_if (pt_cmpR op_eq (pe_call G__law_take (hr.mono (by first | decide | omega)) rfl T.g__law_take T.F__law_take.kp T.b__law_take .nil pass0 (pa_cons (pv 0) (pa_cons pe_int pa_nil))) pe_int (nomark _)) (pss_one (ps_set (i := 11) sc__law_right.nd rfl (Or.inl rfl) (pe_call G__law_bent (hr.mono (by first | decide | omega)) rfl T.g__law_bent T.F__law_bent.kp T.b__law_bent .nil pass0 (pa_cons (pv 0) (pa_cons (pv 11) (pa_cons (pv 5) pa_nil)))))) pss_nil)
    (pss_one (ps_expr (pe_bm PySem.F.plainAttrs_list PySem.F.slot_list_append PySem.F.type_list_append mt_append (pv 8) (pa_cons (pv 11) pa_nil)))))))
    (pss_cons (ps_set (i := 8) sc__law_right.nd rfl (Or.inl rfl) (pe_op op_catK (pv 8) (pe_lst (pa_cons (pe_tup pa_nil) (pa_cons (pe_callTy cr_tupN (by rfl) T.n_tuple (by decide +kernel) (pa_cons (pe_ix ix_list (pv 8) pe_int (fun _ _ => rfl)) pa_nil)) (pa_cons pe_non (pa_cons pe_bl (pa_cons pe_int (pa_cons pe_str (pa_cons (pe_lst (pa_cons (pe_lst (pa_cons pe_int (pa_cons pe_int pa_nil))) pa_nil)) (pa_cons (pe_lst (pa_cons (pe_lst (pa_cons (pe_lst (pa_cons (pe_lst (pa_cons (pe_lst (pa_cons (pe_lst pa_nil) pa_nil)) pa_nil)) pa_nil)) pa_nil)) pa_nil)) (pa_cons (pe_lst (pa_cons (pe_tup (pa_cons pe_int (pa_cons pe_int pa_nil))) pa_nil)) (pa_cons pe_bl pa_nil)))))))))))))
    (pss_cons (ps_set (i := 12) sc__law_right.nd rfl (Or.inl rfl) (pe_lst (pa_cons (pe_call G__law_given (hr.mono (by first | decide | omega)) rfl T.g__law_given T.F__law_given.kp T.b__law_given .nil pass0 (pa_cons (pv 0) (pa_cons (pv 2) pa_nil))) (pa_cons (pe_call G__law_given (hr.mono (by first | decide | omega)) rfl T.g__law_given T.F__law_given.kp T.b__law_given .nil pass0 (pa_cons (pv 0) (pa_cons (pv 3) pa_nil))) pa_nil))))
    (pss_cons (ps_for PassesOwn.never rfl (pi_list (pv 8)) (pg_name (i := 11) sc__law_right.nd rfl (Or.inl rfl)) (pss_cons (ps_par (i := 13) (j := 14) (by rfl) sc__law_right.nd rfl rfl (by decide) rfl rfl (pa_cons (pe_callTy (call_or (call_strD hg hr.units) call_strV) (by rfl) T.n_str (by decide +kernel) (pa_cons (pv 11) pa_nil)) (pa_cons (pe_call G_shows_none (hr.mono (by first | decide | omega)) rfl T.g_shows_none T.F_shows_none.kp T.b_shows_none .nil pass0 (pa_cons (pe_ix ix_list (pv 12) pe_int (fun _ _ => rfl)) (pa_cons (pe_ix ix_list (pv 12) pe_int (fun _ _ => rfl)) (pa_cons (pv 11) pa_nil)))) pa_nil)) (by rfl))
    (pss_one (ps_if (PW.pt (pw_or (pt_not (pt_val (pe_call G__law_same (hr.mono (by first | decide | omega)) rfl T.g__law_same T.F__law_same.kp T.b__law_same .nil pass0 (pa_cons (pv 14) (pa_cons (pe_call G__law_due (hr.mono (by first | decide | omega)) rfl T.g__law_due T.F__law_due.kp T.b__law_due .nil pass0 (pa_cons (pv 6) (pa_cons (pv 11) pa_nil))) pa_nil))))) (pw_or1 (pt_cmpR op_ne (pe_callTy (call_or (call_strD hg hr.units) call_strV) (by rfl) T.n_str (by decide +kernel) (pa_cons (pv 11) pa_nil)) (pv 13) (nomark _))))) (pss_one (ps_ret pe_bl)) pss_nil))))
    (pss_one (ps_ret pe_bl))))))))))))), ?_⟩
  intro J
  exact (rs_seq (rs_asg (re_call (fun _ => .nil) (rc_own (rc_dat (re_op rr_add (re_c fun _ => .int _) (re_call (fun _ => .nil) (rc_own (rc_dat (re_c fun _ => .int _) rc_nil)))) rc_nil))) rg_name)
    (rs_seq (rs_asg (re_call (fun _ => .nil) (rc_own (rc_dat re_v (rc_dat (re_op rr_add (re_c fun _ => .int _) (re_call (fun _ => .nil) (rc_own (rc_dat (re_c fun _ => .int _) rc_nil)))) rc_nil)))) rg_name)
    (rs_seq (rs_asg (RN.re (rn_lc (by decide) (ri_rng1 (ra_cons (re_op rr_add (re_c fun _ => .int _) (re_call (fun _ => .nil) (rc_own (rc_dat (re_c fun _ => .int _) rc_nil)))) ra_nil)) (fun _ le => rg_name) (fun _ le => rt_yes) (fun _ le => (re_call (fun _ => .nil) (rc_own (rc_dat re_v (rc_dat (re_sl rl_list re_v ro_no (ro_so (re_c fun _ => .int _))) rc_nil))))))) rg_name)
    (rs_seq (rs_asg (re_tup (ra_cons (re_cb rb_len (ra_cons re_v ra_nil)) (ra_cons (re_call (fun _ => .nil) (rc_dat re_v (rc_dat re_v rc_nil))) ra_nil))) (rg_tup (rgs_cons rg_name (rgs_cons rg_name rgs_nil))))
    (rs_seq (rs_asg (re_call (fun _ => .nil) (rc_dat re_v (rc_dat re_v rc_nil))) rg_name)
    (rs_seq (rs_own (by decide) (rn_lst (ra_cons (re_if (rt_test (re_op rr_eq (re_op rr_ixT re_v (re_c fun _ => .int _)) (re_c fun _ => .str _))) (re_op rr_ixT re_v (re_c fun _ => .int _)) (RN.re (rn_lstRng re_v))) (ra_cons (RN.re (rn_lstRng re_v)) ra_nil))))
    (rs_seq (rs_for (by decide) (ri_rng1 (ra_cons re_v ra_nil)) rg_name (rs_seq (rs_append (RN.re (rn_lc (by decide) (ri_rng1 (ra_cons re_v ra_nil)) (fun _ le => rg_name) (fun _ le => (rt_test (re_op rr_eqD (re_op rr_ixL re_v re_v) (re_op rr_ixL re_v re_v)))) (fun _ le => re_v))))
    (rs_append (RN.re (rn_lst (ra_cons re_v (ra_cons (re_op rr_add (re_op rr_add re_v (re_c fun _ => .int _)) (re_call (fun _ => .nil) (rc_own (rc_dat re_v rc_nil)))) ra_nil)))))))
    (rs_seq (rs_for (by decide) (ri_rng1 (ra_cons (re_c fun _ => .int _) ra_nil)) rg_name (rs_seq (rs_asg (re_call (fun _ => .nil) (rc_own (rc_dat (re_ixO (re_call (fun _ => .nil) (rc_own (rc_dat re_lenO rc_nil)))) (rc_dat re_v rc_nil)))) rg_name)
    (rs_seq (rs_if (rt_test (re_op rr_eq (re_call (fun _ => .nil) (rc_own (rc_dat (re_c fun _ => .int _) rc_nil))) (re_c fun _ => .int _))) (rs_asg (re_call (fun _ => .nil) (rc_own (rc_dat re_v (rc_dat re_v rc_nil)))) rg_name) rs_next)
    (rs_append re_v))))
    (rs_seq (rs_freeze (by decide) (rs_own (by decide) (rn_op rrn_cat re_v (RN.re (rn_lst (ra_cons (re_tup ra_nil) (ra_cons (re_unT (re_tupN (re_op rr_ixL re_v (re_c fun _ => .int _)))) (ra_cons (re_c fun _ => .non) (ra_cons (re_c fun _ => .bl _) (ra_cons (re_c fun _ => .int _) (ra_cons (re_c fun _ => .str _) (ra_cons (RN.re (rn_lst (ra_cons (RN.re (rn_lst (ra_cons (re_c fun _ => .int _) (ra_cons (re_c fun _ => .int _) ra_nil)))) ra_nil))) (ra_cons (RN.re (rn_lst (ra_cons (RN.re (rn_lst (ra_cons (RN.re (rn_lst (ra_cons (RN.re (rn_lst (ra_cons (RN.re (rn_lst (ra_cons (RN.re (rn_lst ra_nil)) ra_nil))) ra_nil))) ra_nil))) ra_nil))) ra_nil))) (ra_cons (RN.re (rn_lst (ra_cons (re_tup (ra_cons (re_c fun _ => .int _) (ra_cons (re_c fun _ => .int _) ra_nil))) ra_nil))) (ra_cons (re_c fun _ => .bl _) ra_nil)))))))))))))))
    (rs_seq (rs_asg (RN.re (rn_lst (ra_cons (re_call (fun _ => .nil) (rc_own (rc_dat re_v rc_nil))) (ra_cons (re_call (fun _ => .nil) (rc_own (rc_dat re_v rc_nil))) ra_nil)))) rg_name)
    (rs_seq (rs_freeze (by decide) (rs_for (by decide) (ri_list re_v) rg_name (rs_seq (rs_par (ra_cons (re_cb (rb_or rb_repr rb_strV) (ra_cons (re_unD re_v) ra_nil)) (ra_cons (re_call (fun _ => .nil) (rc_dat (re_op rr_ixL re_v (re_c fun _ => .int _)) (rc_dat (re_op rr_ixL re_v (re_c fun _ => .int _)) (rc_dat re_v rc_nil)))) ra_nil)))
    (rs_if (rt_or (rt_not (rt_b (re_call (fun _ => .nil) (rc_dat re_v (rc_dat (re_call (fun _ => .nil) (rc_dat re_v (rc_dat re_v rc_nil))) rc_nil))))) (rt_test (re_op rr_ne (re_cb (rb_or rb_repr rb_strV) (ra_cons (re_unD re_v) ra_nil)) re_v))) (rs_ret (re_c fun _ => .bl _)) rs_next))))
    (rs_ret (re_c fun _ => .bl _)))))))))))))
theorem okD__law_box {P : Program} {w : World} {K : PySem.W.Frag} {mg : Str → Option Value} {base : Heap} {ad : Ad} (T : Txt K mg ad) : FnOk P w K mg base CX0 1 ad.f__law_box ad.d__law_box ["_law_script", "_law_k"] (spN K 2 F__law_box) := by
  refine okN0 T.F__law_box sc__law_box fun cdv A outer s H E hr => ⟨_, (pss_cons (ps_set (i := 2) sc__law_box.nd rfl (Or.inl rfl) (pe_ifExp (pt_cmpR op_lt (pv 1) (pe_callB call_len_seq (by rfl) T.n_len PySem.boot_len (pa_cons (pv 0) pa_nil)) (nomark _)) (pe_ix ix_list (pv 0) (pv 1) (fun _ _ => rfl)) pe_int))
    (pss_one (ps_ret (pe_lst (pa_cons (pe_op op_mul (pe_callB call_abs (by rfl) T.n_abs (by decide +kernel) (pa_cons (pv 2) pa_nil)) (pe_callTy call_int1 (by rfl) T.n_int (by decide +kernel) (pa_cons (pe_cmpR op_ge (pe_callB call_abs (by rfl) T.n_abs (by decide +kernel) (pa_cons (pv 2) pa_nil)) (pe_op op_pow pe_int pe_int) (nomark _)) pa_nil))) (pa_cons (pe_op op_mod (pe_op op_mul (pe_op op_add (pe_op op_add (pe_op op_mod (pv 2) pe_int) (pe_op op_mul pe_int (pv 1))) pe_int) pe_int) pe_int) (pa_cons pe_int pa_nil))))))), ?_⟩
  intro J
  exact (rs_seq (rs_asg (re_if (rt_test (re_op rr_lt re_v (re_cb rb_len (ra_cons re_v ra_nil)))) (re_op rr_ixL re_v re_v) (re_c fun _ => .int _)) rg_name)
    (rs_retW (rn_lst (ra_cons (re_op rr_mul (re_cb rb_abs (ra_cons re_v ra_nil)) (re_cb rb_int (ra_cons (re_op rr_ge (re_cb rb_abs (ra_cons re_v ra_nil)) (re_op rr_pow (re_c fun _ => .int _) (re_c fun _ => .int _))) ra_nil))) (ra_cons (re_op rr_mod (re_op rr_mul (re_op rr_add (re_op rr_add (re_op rr_mod re_v (re_c fun _ => .int _)) (re_op rr_mul (re_c fun _ => .int _) re_v)) (re_c fun _ => .int _)) (re_c fun _ => .int _)) (re_c fun _ => .int _)) (ra_cons (re_c fun _ => .int _) ra_nil))))))
theorem okD_law {P : Program} {w : World} {K : PySem.W.Frag} {mg : Str → Option Value} {base : Heap} {ad : Ad} (T : Txt K mg ad) : FnG P w K mg base 20 ad.f_law ad.d_law ["_law_script"] (spF K 1 F_law) := by
  have G__law_folded := okD__law_folded (P := P) (w := w) (base := base) T
  have G__law_right := okD__law_right (P := P) (w := w) (base := base) T
  have G__law_box := okD__law_box (P := P) (w := w) (base := base) T
  refine okF T.F_law sc_law fun cdv A outer s H E hr hg => ⟨_, (pss_cons (ps_set (i := 1) sc_law.nd rfl (Or.inr rfl) (pe_call G__law_folded (hr.mono (by first | decide | omega)) rfl T.g__law_folded T.F__law_folded.kp T.b__law_folded .nil pass0 (pa_cons (pv 0) (pa_cons pe_int pa_nil))))
    (pss_one (ps_ret (pe_callB (cr_all rfl) (by rfl) T.n_all (by decide +kernel) (pa_cons (pe_lc (own := [("_law_k", 2)]) (g := gName 2) (by rfl) sc_law.nd (pi_range1 rfl T.n_range (pa_cons (pe_callB (call_max2 rfl) (by rfl) T.n_max (by decide +kernel) (pa_cons pe_int (pa_cons (pe_callB call_len_seq (by rfl) T.n_len PySem.boot_len (pa_cons (pv 1) pa_nil)) pa_nil))) pa_nil)) (blkOk_by (own := [("_law_k", 2)]) (N := N_law) (sc := defScope s_law) (by decide +kernel)) (fun _ _ _ _ _ => (pg_name (i := 2) sc_law.nd rfl (Or.inl rfl))) (fun _ _ _ _ _ => pts_nil) (fun _ _ _ _ _ => (pe_callG G__law_right (hr.mono (by first | decide | omega)) hg rfl T.g__law_right T.F__law_right.kp T.b__law_right .nil (pa_cons (pe_call G__law_box (hr.mono (by first | decide | omega)) rfl T.g__law_box T.F__law_box.kp T.b__law_box .nil pass0 (pa_cons (pv 1) (pa_cons (pv 2) pa_nil))) pa_nil)))) pa_nil))))), ?_⟩
  intro J
  exact (rs_seq (rs_asg (re_call (fun _ => .nil) (rc_dat re_v (rc_dat (re_c fun _ => .int _) rc_nil))) rg_name)
    (rs_ret (re_cb rb_all (ra_cons (RN.re (rn_lc (by decide) (ri_rng1 (ra_cons (re_cb rb_max2 (ra_cons (re_c fun _ => .int _) (ra_cons (re_cb rb_len (ra_cons re_v ra_nil)) ra_nil))) ra_nil)) (fun _ le => rg_name) (fun _ le => rt_yes) (fun _ le => (re_callT (fun _ => .nil) (rn_call (fun _ => .nil) (rc_dat re_v (rc_dat re_v rc_nil))) rc_nil)))) ra_nil))))
abbrev sp_law (K : PySem.W.Frag) : Sp := spLaw K
theorem ok_law {P : Program} {w : World} {K : PySem.W.Frag} {mg : Str → Option Value} {base : Heap} {ad : Ad} (T : Txt K mg ad) : FnG P w K mg base 20 ad.f_law ad.d_law ["_law_script"] (sp_law K) :=
  (okD_law T).imp fun _ _ _ _ h => law_of (fun ns hl => f_law hl) h

theorem all_mk {l : PySem.W.OpenLaw} {w : World} {K : PySem.W.Frag} {h : Heap} {mg : Str → Option Value} {fa : Addr} (X : K.In h) (G : h.Ns mainGlobals mg) (hfa : mg "law" = some (.ref fa))
    {f__law_folded : Addr} {od__law_folded an__law_folded : Option Addr} {sl__law_folded : Array (Option Value)} {oc__law_folded kV__law_folded dc__law_folded pm__law_folded cd__law_folded ct__law_folded : Value}
    {f__law_take : Addr} {od__law_take an__law_take : Option Addr} {sl__law_take : Array (Option Value)} {oc__law_take kV__law_take dc__law_take pm__law_take cd__law_take ct__law_take : Value}
    {f__law_names : Addr} {od__law_names an__law_names : Option Addr} {sl__law_names : Array (Option Value)} {oc__law_names kV__law_names dc__law_names pm__law_names cd__law_names ct__law_names : Value}
    {f__law_some_words : Addr} {od__law_some_words an__law_some_words : Option Addr} {sl__law_some_words : Array (Option Value)} {oc__law_some_words kV__law_some_words dc__law_some_words pm__law_some_words cd__law_some_words ct__law_some_words : Value}
    {f__law_things : Addr} {od__law_things an__law_things : Option Addr} {sl__law_things : Array (Option Value)} {oc__law_things kV__law_things dc__law_things pm__law_things cd__law_things ct__law_things : Value}
    {f_can_be : Addr} {od_can_be an_can_be : Option Addr} {sl_can_be : Array (Option Value)} {oc_can_be kV_can_be dc_can_be pm_can_be cd_can_be ct_can_be : Value}
    {f_cans_of : Addr} {od_cans_of an_cans_of : Option Addr} {sl_cans_of : Array (Option Value)} {oc_cans_of kV_cans_of dc_cans_of pm_cans_of cd_cans_of ct_cans_of : Value}
    {f_led_on : Addr} {od_led_on an_led_on : Option Addr} {sl_led_on : Array (Option Value)} {oc_led_on kV_led_on dc_led_on pm_led_on cd_led_on ct_led_on : Value}
    {f_paired_off : Addr} {od_paired_off an_paired_off : Option Addr} {sl_paired_off : Array (Option Value)} {oc_paired_off kV_paired_off dc_paired_off pm_paired_off cd_paired_off ct_paired_off : Value}
    {f_short_by : Addr} {od_short_by an_short_by : Option Addr} {sl_short_by : Array (Option Value)} {oc_short_by kV_short_by dc_short_by pm_short_by cd_short_by ct_short_by : Value}
    {f_with_place : Addr} {od_with_place an_with_place : Option Addr} {sl_with_place : Array (Option Value)} {oc_with_place kV_with_place dc_with_place pm_with_place cd_with_place ct_with_place : Value}
    {f_least_place : Addr} {od_least_place an_least_place : Option Addr} {sl_least_place : Array (Option Value)} {oc_least_place kV_least_place dc_least_place pm_least_place cd_least_place ct_least_place : Value}
    {f_first_pairing : Addr} {od_first_pairing an_first_pairing : Option Addr} {sl_first_pairing : Array (Option Value)} {oc_first_pairing kV_first_pairing dc_first_pairing pm_first_pairing cd_first_pairing ct_first_pairing : Value}
    {f_way_for : Addr} {od_way_for an_way_for : Option Addr} {sl_way_for : Array (Option Value)} {oc_way_for kV_way_for dc_way_for pm_way_for cd_way_for ct_way_for : Value}
    {f__law_find : Addr} {od__law_find an__law_find : Option Addr} {sl__law_find : Array (Option Value)} {oc__law_find kV__law_find dc__law_find pm__law_find cd__law_find ct__law_find : Value}
    {f__law_cans : Addr} {od__law_cans an__law_cans : Option Addr} {sl__law_cans : Array (Option Value)} {oc__law_cans kV__law_cans dc__law_cans pm__law_cans cd__law_cans ct__law_cans : Value}
    {f__law_bent : Addr} {od__law_bent an__law_bent : Option Addr} {sl__law_bent : Array (Option Value)} {oc__law_bent kV__law_bent dc__law_bent pm__law_bent cd__law_bent ct__law_bent : Value}
    {f__law_given : Addr} {od__law_given an__law_given : Option Addr} {sl__law_given : Array (Option Value)} {oc__law_given kV__law_given dc__law_given pm__law_given cd__law_given ct__law_given : Value}
    {f_are_places : Addr} {od_are_places an_are_places : Option Addr} {sl_are_places : Array (Option Value)} {oc_are_places kV_are_places dc_are_places pm_are_places cd_are_places ct_are_places : Value}
    {f_are_too_few : Addr} {od_are_too_few an_are_too_few : Option Addr} {sl_are_too_few : Array (Option Value)} {oc_are_too_few kV_are_too_few dc_are_too_few pm_are_too_few cd_are_too_few ct_are_too_few : Value}
    {f_shows_none : Addr} {od_shows_none an_shows_none : Option Addr} {sl_shows_none : Array (Option Value)} {oc_shows_none kV_shows_none dc_shows_none pm_shows_none cd_shows_none ct_shows_none : Value}
    {f__law_same : Addr} {od__law_same an__law_same : Option Addr} {sl__law_same : Array (Option Value)} {oc__law_same kV__law_same dc__law_same pm__law_same cd__law_same ct__law_same : Value}
    {f__law_too_few : Addr} {od__law_too_few an__law_too_few : Option Addr} {sl__law_too_few : Array (Option Value)} {oc__law_too_few kV__law_too_few dc__law_too_few pm__law_too_few cd__law_too_few ct__law_too_few : Value}
    {f__law_due : Addr} {od__law_due an__law_due : Option Addr} {sl__law_due : Array (Option Value)} {oc__law_due kV__law_due dc__law_due pm__law_due cd__law_due ct__law_due : Value}
    {f__law_right : Addr} {od__law_right an__law_right : Option Addr} {sl__law_right : Array (Option Value)} {oc__law_right kV__law_right dc__law_right pm__law_right cd__law_right ct__law_right : Value}
    {f__law_box : Addr} {od__law_box an__law_box : Option Addr} {sl__law_box : Array (Option Value)} {oc__law_box kV__law_box dc__law_box pm__law_box cd__law_box ct__law_box : Value}
    {f_law : Addr} {od_law an_law : Option Addr} {sl_law : Array (Option Value)} {oc_law kV_law dc_law pm_law cd_law ct_law : Value}
    (a__law_folded : PySem.W.nsIn K mainGlobals "_law_folded" = some (some (.ref f__law_folded)))
    (l__law_folded : K.lookup f__law_folded = some ⟨oc__law_folded, od__law_folded, .func (PySem.W.fnOf "_law_folded" "_law_folded" (defArgs s__law_folded) (defBody s__law_folded) (defScope s__law_folded) .none kV__law_folded dc__law_folded pm__law_folded an__law_folded cd__law_folded ct__law_folded), sl__law_folded⟩)
    (e__law_folded : PySem.W.codeIn K cd__law_folded "_law_folded" = true)
    (k__law_folded : PySem.W.keepIn K (.ref f__law_folded) = true)
    (a__law_take : PySem.W.nsIn K mainGlobals "_law_take" = some (some (.ref f__law_take)))
    (l__law_take : K.lookup f__law_take = some ⟨oc__law_take, od__law_take, .func (PySem.W.fnOf "_law_take" "_law_take" (defArgs s__law_take) (defBody s__law_take) (defScope s__law_take) .none kV__law_take dc__law_take pm__law_take an__law_take cd__law_take ct__law_take), sl__law_take⟩)
    (e__law_take : PySem.W.codeIn K cd__law_take "_law_take" = true)
    (k__law_take : PySem.W.keepIn K (.ref f__law_take) = true)
    (a__law_names : PySem.W.nsIn K mainGlobals "_law_names" = some (some (.ref f__law_names)))
    (l__law_names : K.lookup f__law_names = some ⟨oc__law_names, od__law_names, .func (PySem.W.fnOf "_law_names" "_law_names" (defArgs s__law_names) (defBody s__law_names) (defScope s__law_names) .none kV__law_names dc__law_names pm__law_names an__law_names cd__law_names ct__law_names), sl__law_names⟩)
    (e__law_names : PySem.W.codeIn K cd__law_names "_law_names" = true)
    (k__law_names : PySem.W.keepIn K (.ref f__law_names) = true)
    (a__law_some_words : PySem.W.nsIn K mainGlobals "_law_some_words" = some (some (.ref f__law_some_words)))
    (l__law_some_words : K.lookup f__law_some_words = some ⟨oc__law_some_words, od__law_some_words, .func (PySem.W.fnOf "_law_some_words" "_law_some_words" (defArgs s__law_some_words) (defBody s__law_some_words) (defScope s__law_some_words) .none kV__law_some_words dc__law_some_words pm__law_some_words an__law_some_words cd__law_some_words ct__law_some_words), sl__law_some_words⟩)
    (e__law_some_words : PySem.W.codeIn K cd__law_some_words "_law_some_words" = true)
    (k__law_some_words : PySem.W.keepIn K (.ref f__law_some_words) = true)
    (a__law_things : PySem.W.nsIn K mainGlobals "_law_things" = some (some (.ref f__law_things)))
    (l__law_things : K.lookup f__law_things = some ⟨oc__law_things, od__law_things, .func (PySem.W.fnOf "_law_things" "_law_things" (defArgs s__law_things) (defBody s__law_things) (defScope s__law_things) .none kV__law_things dc__law_things pm__law_things an__law_things cd__law_things ct__law_things), sl__law_things⟩)
    (e__law_things : PySem.W.codeIn K cd__law_things "_law_things" = true)
    (k__law_things : PySem.W.keepIn K (.ref f__law_things) = true)
    (a_can_be : PySem.W.nsIn K mainGlobals "can_be" = some (some (.ref f_can_be)))
    (l_can_be : K.lookup f_can_be = some ⟨oc_can_be, od_can_be, .func (PySem.W.fnOf "can_be" "can_be" (defArgs s_can_be) (defBody s_can_be) (defScope s_can_be) .none kV_can_be dc_can_be pm_can_be an_can_be cd_can_be ct_can_be), sl_can_be⟩)
    (e_can_be : PySem.W.codeIn K cd_can_be "can_be" = true)
    (k_can_be : PySem.W.keepIn K (.ref f_can_be) = true)
    (a_cans_of : PySem.W.nsIn K mainGlobals "cans_of" = some (some (.ref f_cans_of)))
    (l_cans_of : K.lookup f_cans_of = some ⟨oc_cans_of, od_cans_of, .func (PySem.W.fnOf "cans_of" "cans_of" (defArgs s_cans_of) (defBody s_cans_of) (defScope s_cans_of) .none kV_cans_of dc_cans_of pm_cans_of an_cans_of cd_cans_of ct_cans_of), sl_cans_of⟩)
    (e_cans_of : PySem.W.codeIn K cd_cans_of "cans_of" = true)
    (k_cans_of : PySem.W.keepIn K (.ref f_cans_of) = true)
    (a_led_on : PySem.W.nsIn K mainGlobals "led_on" = some (some (.ref f_led_on)))
    (l_led_on : K.lookup f_led_on = some ⟨oc_led_on, od_led_on, .func (PySem.W.fnOf "led_on" "led_on" (defArgs s_led_on) (defBody s_led_on) (defScope s_led_on) .none kV_led_on dc_led_on pm_led_on an_led_on cd_led_on ct_led_on), sl_led_on⟩)
    (e_led_on : PySem.W.codeIn K cd_led_on "led_on" = true)
    (k_led_on : PySem.W.keepIn K (.ref f_led_on) = true)
    (a_paired_off : PySem.W.nsIn K mainGlobals "paired_off" = some (some (.ref f_paired_off)))
    (l_paired_off : K.lookup f_paired_off = some ⟨oc_paired_off, od_paired_off, .func (PySem.W.fnOf "paired_off" "paired_off" (defArgs s_paired_off) (defBody s_paired_off) (defScope s_paired_off) .none kV_paired_off dc_paired_off pm_paired_off an_paired_off cd_paired_off ct_paired_off), sl_paired_off⟩)
    (e_paired_off : PySem.W.codeIn K cd_paired_off "paired_off" = true)
    (k_paired_off : PySem.W.keepIn K (.ref f_paired_off) = true)
    (a_short_by : PySem.W.nsIn K mainGlobals "short_by" = some (some (.ref f_short_by)))
    (l_short_by : K.lookup f_short_by = some ⟨oc_short_by, od_short_by, .func (PySem.W.fnOf "short_by" "short_by" (defArgs s_short_by) (defBody s_short_by) (defScope s_short_by) .none kV_short_by dc_short_by pm_short_by an_short_by cd_short_by ct_short_by), sl_short_by⟩)
    (e_short_by : PySem.W.codeIn K cd_short_by "short_by" = true)
    (k_short_by : PySem.W.keepIn K (.ref f_short_by) = true)
    (a_with_place : PySem.W.nsIn K mainGlobals "with_place" = some (some (.ref f_with_place)))
    (l_with_place : K.lookup f_with_place = some ⟨oc_with_place, od_with_place, .func (PySem.W.fnOf "with_place" "with_place" (defArgs s_with_place) (defBody s_with_place) (defScope s_with_place) .none kV_with_place dc_with_place pm_with_place an_with_place cd_with_place ct_with_place), sl_with_place⟩)
    (e_with_place : PySem.W.codeIn K cd_with_place "with_place" = true)
    (k_with_place : PySem.W.keepIn K (.ref f_with_place) = true)
    (a_least_place : PySem.W.nsIn K mainGlobals "least_place" = some (some (.ref f_least_place)))
    (l_least_place : K.lookup f_least_place = some ⟨oc_least_place, od_least_place, .func (PySem.W.fnOf "least_place" "least_place" (defArgs s_least_place) (defBody s_least_place) (defScope s_least_place) .none kV_least_place dc_least_place pm_least_place an_least_place cd_least_place ct_least_place), sl_least_place⟩)
    (e_least_place : PySem.W.codeIn K cd_least_place "least_place" = true)
    (k_least_place : PySem.W.keepIn K (.ref f_least_place) = true)
    (a_first_pairing : PySem.W.nsIn K mainGlobals "first_pairing" = some (some (.ref f_first_pairing)))
    (l_first_pairing : K.lookup f_first_pairing = some ⟨oc_first_pairing, od_first_pairing, .func (PySem.W.fnOf "first_pairing" "first_pairing" (defArgs s_first_pairing) (defBody s_first_pairing) (defScope s_first_pairing) .none kV_first_pairing dc_first_pairing pm_first_pairing an_first_pairing cd_first_pairing ct_first_pairing), sl_first_pairing⟩)
    (e_first_pairing : PySem.W.codeIn K cd_first_pairing "first_pairing" = true)
    (k_first_pairing : PySem.W.keepIn K (.ref f_first_pairing) = true)
    (a_way_for : PySem.W.nsIn K mainGlobals "way_for" = some (some (.ref f_way_for)))
    (l_way_for : K.lookup f_way_for = some ⟨oc_way_for, od_way_for, .func (PySem.W.fnOf "way_for" "way_for" (defArgs s_way_for) (defBody s_way_for) (defScope s_way_for) .none kV_way_for dc_way_for pm_way_for an_way_for cd_way_for ct_way_for), sl_way_for⟩)
    (e_way_for : PySem.W.codeIn K cd_way_for "way_for" = true)
    (k_way_for : PySem.W.keepIn K (.ref f_way_for) = true)
    (a__law_find : PySem.W.nsIn K mainGlobals "_law_find" = some (some (.ref f__law_find)))
    (l__law_find : K.lookup f__law_find = some ⟨oc__law_find, od__law_find, .func (PySem.W.fnOf "_law_find" "_law_find" (defArgs s__law_find) (defBody s__law_find) (defScope s__law_find) .none kV__law_find dc__law_find pm__law_find an__law_find cd__law_find ct__law_find), sl__law_find⟩)
    (e__law_find : PySem.W.codeIn K cd__law_find "_law_find" = true)
    (k__law_find : PySem.W.keepIn K (.ref f__law_find) = true)
    (a__law_cans : PySem.W.nsIn K mainGlobals "_law_cans" = some (some (.ref f__law_cans)))
    (l__law_cans : K.lookup f__law_cans = some ⟨oc__law_cans, od__law_cans, .func (PySem.W.fnOf "_law_cans" "_law_cans" (defArgs s__law_cans) (defBody s__law_cans) (defScope s__law_cans) .none kV__law_cans dc__law_cans pm__law_cans an__law_cans cd__law_cans ct__law_cans), sl__law_cans⟩)
    (e__law_cans : PySem.W.codeIn K cd__law_cans "_law_cans" = true)
    (k__law_cans : PySem.W.keepIn K (.ref f__law_cans) = true)
    (a__law_bent : PySem.W.nsIn K mainGlobals "_law_bent" = some (some (.ref f__law_bent)))
    (l__law_bent : K.lookup f__law_bent = some ⟨oc__law_bent, od__law_bent, .func (PySem.W.fnOf "_law_bent" "_law_bent" (defArgs s__law_bent) (defBody s__law_bent) (defScope s__law_bent) .none kV__law_bent dc__law_bent pm__law_bent an__law_bent cd__law_bent ct__law_bent), sl__law_bent⟩)
    (e__law_bent : PySem.W.codeIn K cd__law_bent "_law_bent" = true)
    (k__law_bent : PySem.W.keepIn K (.ref f__law_bent) = true)
    (a__law_given : PySem.W.nsIn K mainGlobals "_law_given" = some (some (.ref f__law_given)))
    (l__law_given : K.lookup f__law_given = some ⟨oc__law_given, od__law_given, .func (PySem.W.fnOf "_law_given" "_law_given" (defArgs s__law_given) (defBody s__law_given) (defScope s__law_given) .none kV__law_given dc__law_given pm__law_given an__law_given cd__law_given ct__law_given), sl__law_given⟩)
    (e__law_given : PySem.W.codeIn K cd__law_given "_law_given" = true)
    (k__law_given : PySem.W.keepIn K (.ref f__law_given) = true)
    (a_are_places : PySem.W.nsIn K mainGlobals "are_places" = some (some (.ref f_are_places)))
    (l_are_places : K.lookup f_are_places = some ⟨oc_are_places, od_are_places, .func (PySem.W.fnOf "are_places" "are_places" (defArgs s_are_places) (defBody s_are_places) (defScope s_are_places) .none kV_are_places dc_are_places pm_are_places an_are_places cd_are_places ct_are_places), sl_are_places⟩)
    (e_are_places : PySem.W.codeIn K cd_are_places "are_places" = true)
    (k_are_places : PySem.W.keepIn K (.ref f_are_places) = true)
    (a_are_too_few : PySem.W.nsIn K mainGlobals "are_too_few" = some (some (.ref f_are_too_few)))
    (l_are_too_few : K.lookup f_are_too_few = some ⟨oc_are_too_few, od_are_too_few, .func (PySem.W.fnOf "are_too_few" "are_too_few" (defArgs s_are_too_few) (defBody s_are_too_few) (defScope s_are_too_few) .none kV_are_too_few dc_are_too_few pm_are_too_few an_are_too_few cd_are_too_few ct_are_too_few), sl_are_too_few⟩)
    (e_are_too_few : PySem.W.codeIn K cd_are_too_few "are_too_few" = true)
    (k_are_too_few : PySem.W.keepIn K (.ref f_are_too_few) = true)
    (a_shows_none : PySem.W.nsIn K mainGlobals "shows_none" = some (some (.ref f_shows_none)))
    (l_shows_none : K.lookup f_shows_none = some ⟨oc_shows_none, od_shows_none, .func (PySem.W.fnOf "shows_none" "shows_none" (defArgs s_shows_none) (defBody s_shows_none) (defScope s_shows_none) .none kV_shows_none dc_shows_none pm_shows_none an_shows_none cd_shows_none ct_shows_none), sl_shows_none⟩)
    (e_shows_none : PySem.W.codeIn K cd_shows_none "shows_none" = true)
    (k_shows_none : PySem.W.keepIn K (.ref f_shows_none) = true)
    (a__law_same : PySem.W.nsIn K mainGlobals "_law_same" = some (some (.ref f__law_same)))
    (l__law_same : K.lookup f__law_same = some ⟨oc__law_same, od__law_same, .func (PySem.W.fnOf "_law_same" "_law_same" (defArgs s__law_same) (defBody s__law_same) (defScope s__law_same) .none kV__law_same dc__law_same pm__law_same an__law_same cd__law_same ct__law_same), sl__law_same⟩)
    (e__law_same : PySem.W.codeIn K cd__law_same "_law_same" = true)
    (k__law_same : PySem.W.keepIn K (.ref f__law_same) = true)
    (a__law_too_few : PySem.W.nsIn K mainGlobals "_law_too_few" = some (some (.ref f__law_too_few)))
    (l__law_too_few : K.lookup f__law_too_few = some ⟨oc__law_too_few, od__law_too_few, .func (PySem.W.fnOf "_law_too_few" "_law_too_few" (defArgs s__law_too_few) (defBody s__law_too_few) (defScope s__law_too_few) .none kV__law_too_few dc__law_too_few pm__law_too_few an__law_too_few cd__law_too_few ct__law_too_few), sl__law_too_few⟩)
    (e__law_too_few : PySem.W.codeIn K cd__law_too_few "_law_too_few" = true)
    (k__law_too_few : PySem.W.keepIn K (.ref f__law_too_few) = true)
    (a__law_due : PySem.W.nsIn K mainGlobals "_law_due" = some (some (.ref f__law_due)))
    (l__law_due : K.lookup f__law_due = some ⟨oc__law_due, od__law_due, .func (PySem.W.fnOf "_law_due" "_law_due" (defArgs s__law_due) (defBody s__law_due) (defScope s__law_due) .none kV__law_due dc__law_due pm__law_due an__law_due cd__law_due ct__law_due), sl__law_due⟩)
    (e__law_due : PySem.W.codeIn K cd__law_due "_law_due" = true)
    (k__law_due : PySem.W.keepIn K (.ref f__law_due) = true)
    (a__law_right : PySem.W.nsIn K mainGlobals "_law_right" = some (some (.ref f__law_right)))
    (l__law_right : K.lookup f__law_right = some ⟨oc__law_right, od__law_right, .func (PySem.W.fnOf "_law_right" "_law_right" (defArgs s__law_right) (defBody s__law_right) (defScope s__law_right) .none kV__law_right dc__law_right pm__law_right an__law_right cd__law_right ct__law_right), sl__law_right⟩)
    (e__law_right : PySem.W.codeIn K cd__law_right "_law_right" = true)
    (k__law_right : PySem.W.keepIn K (.ref f__law_right) = true)
    (a__law_box : PySem.W.nsIn K mainGlobals "_law_box" = some (some (.ref f__law_box)))
    (l__law_box : K.lookup f__law_box = some ⟨oc__law_box, od__law_box, .func (PySem.W.fnOf "_law_box" "_law_box" (defArgs s__law_box) (defBody s__law_box) (defScope s__law_box) .none kV__law_box dc__law_box pm__law_box an__law_box cd__law_box ct__law_box), sl__law_box⟩)
    (e__law_box : PySem.W.codeIn K cd__law_box "_law_box" = true)
    (k__law_box : PySem.W.keepIn K (.ref f__law_box) = true)
    (a_law : PySem.W.nsIn K mainGlobals "law" = some (some (.ref f_law)))
    (l_law : K.lookup f_law = some ⟨oc_law, od_law, .func (PySem.W.fnOf "law" "law" (defArgs s_law) (defBody s_law) (defScope s_law) .none kV_law dc_law pm_law an_law cd_law ct_law), sl_law⟩)
    (e_law : PySem.W.codeIn K cd_law "law" = true)
    (k_law : PySem.W.keepIn K (.ref f_law) = true)
    (z_list : PySem.W.nsIn K mainGlobals "list" = some none)
    (z_enumerate : PySem.W.nsIn K mainGlobals "enumerate" = some none)
    (z_divmod : PySem.W.nsIn K mainGlobals "divmod" = some none)
    (z_range : PySem.W.nsIn K mainGlobals "range" = some none)
    (z_tuple : PySem.W.nsIn K mainGlobals "tuple" = some none)
    (z_sorted : PySem.W.nsIn K mainGlobals "sorted" = some none)
    (z_min : PySem.W.nsIn K mainGlobals "min" = some none)
    (z_len : PySem.W.nsIn K mainGlobals "len" = some none)
    (z_all : PySem.W.nsIn K mainGlobals "all" = some none)
    (z_set : PySem.W.nsIn K mainGlobals "set" = some none)
    (z_isinstance : PySem.W.nsIn K mainGlobals "isinstance" = some none)
    (z_zip : PySem.W.nsIn K mainGlobals "zip" = some none)
    (z_int : PySem.W.nsIn K mainGlobals "int" = some none)
    (z_bool : PySem.W.nsIn K mainGlobals "bool" = some none)
    (z_str : PySem.W.nsIn K mainGlobals "str" = some none)
    (z_abs : PySem.W.nsIn K mainGlobals "abs" = some none)
    (z_max : PySem.W.nsIn K mainGlobals "max" = some none)
    : ∃ fd : FuncData, (∀ (s : Shared) (v : Value), BindsTo s fd ⟨[v], []⟩ [("_law_script", v)]) ∧ ∀ base : Heap, K.In base → base.Ns mainGlobals mg → FnG l.prog w K mg base 20 fa fd ["_law_script"] (sp_law K) := by
  have e := hfa.symm.trans (PySem.W.mg_of X G a_law)
  cases e
  have F__law_folded := fun_mk (st := s__law_folded) l__law_folded e__law_folded k__law_folded
  have b__law_folded := F__law_folded.binds (ps := ["_law_script", "_law_size"]) fun _ _ _ _ _ _ us hl => match us, hl with | [_, _], _ => rfl
  have F__law_take := fun_mk (st := s__law_take) l__law_take e__law_take k__law_take
  have b__law_take := F__law_take.binds (ps := ["_law_box_here", "_law_size"]) fun _ _ _ _ _ _ us hl => match us, hl with | [_, _], _ => rfl
  have F__law_names := fun_mk (st := s__law_names) l__law_names e__law_names k__law_names
  have b__law_names := F__law_names.binds (ps := ["_law_box_here", "_law_many"]) fun _ _ _ _ _ _ us hl => match us, hl with | [_, _], _ => rfl
  have F__law_some_words := fun_mk (st := s__law_some_words) l__law_some_words e__law_some_words k__law_some_words
  have b__law_some_words := F__law_some_words.binds (ps := ["_law_box_here", "_law_pool", "_law_most"]) fun _ _ _ _ _ _ us hl => match us, hl with | [_, _, _], _ => rfl
  have F__law_things := fun_mk (st := s__law_things) l__law_things e__law_things k__law_things
  have b__law_things := F__law_things.binds (ps := ["_law_box_here", "_law_pool", "_law_many"]) fun _ _ _ _ _ _ us hl => match us, hl with | [_, _, _], _ => rfl
  have F_can_be := fun_mk (st := s_can_be) l_can_be e_can_be k_can_be
  have b_can_be := F_can_be.binds (ps := ["things", "find"]) fun _ _ _ _ _ _ us hl => match us, hl with | [_, _], _ => rfl
  have F_cans_of := fun_mk (st := s_cans_of) l_cans_of e_cans_of k_cans_of
  have b_cans_of := F_cans_of.binds (ps := ["things", "finds"]) fun _ _ _ _ _ _ us hl => match us, hl with | [_, _], _ => rfl
  have F_led_on := fun_mk (st := s_led_on) l_led_on e_led_on k_led_on
  have b_led_on := F_led_on.binds (ps := ["cans", "held", "one", "seen"]) fun _ _ _ _ _ _ us hl => match us, hl with | [_, _, _, _], _ => rfl
  have F_paired_off := fun_mk (st := s_paired_off) l_paired_off e_paired_off k_paired_off
  have b_paired_off := F_paired_off.binds (ps := ["cans"]) fun _ _ _ _ _ _ us hl => match us, hl with | [_], _ => rfl
  have F_short_by := fun_mk (st := s_short_by) l_short_by e_short_by k_short_by
  have b_short_by := F_short_by.binds (ps := ["cans"]) fun _ _ _ _ _ _ us hl => match us, hl with | [_], _ => rfl
  have F_with_place := fun_mk (st := s_with_place) l_with_place e_with_place k_with_place
  have b_with_place := F_with_place.binds (ps := ["cans", "one", "place"]) fun _ _ _ _ _ _ us hl => match us, hl with | [_, _, _], _ => rfl
  have F_least_place := fun_mk (st := s_least_place) l_least_place e_least_place k_least_place
  have b_least_place := F_least_place.binds (ps := ["cans", "one"]) fun _ _ _ _ _ _ us hl => match us, hl with | [_, _], _ => rfl
  have F_first_pairing := fun_mk (st := s_first_pairing) l_first_pairing e_first_pairing k_first_pairing
  have b_first_pairing := F_first_pairing.binds (ps := ["cans"]) fun _ _ _ _ _ _ us hl => match us, hl with | [_], _ => rfl
  have F_way_for := fun_mk (st := s_way_for) l_way_for e_way_for k_way_for
  have b_way_for := F_way_for.binds (ps := ["things", "finds"]) fun _ _ _ _ _ _ us hl => match us, hl with | [_, _], _ => rfl
  have F__law_find := fun_mk (st := s__law_find) l__law_find e__law_find k__law_find
  have b__law_find := F__law_find.binds (ps := ["_law_box_here", "_law_pool", "_law_things_here"]) fun _ _ _ _ _ _ us hl => match us, hl with | [_, _, _], _ => rfl
  have F__law_cans := fun_mk (st := s__law_cans) l__law_cans e__law_cans k__law_cans
  have b__law_cans := F__law_cans.binds (ps := ["_law_things_here", "_law_finds"]) fun _ _ _ _ _ _ us hl => match us, hl with | [_, _], _ => rfl
  have F__law_bent := fun_mk (st := s__law_bent) l__law_bent e__law_bent k__law_bent
  have b__law_bent := F__law_bent.binds (ps := ["_law_box_here", "_law_thing", "_law_many"]) fun _ _ _ _ _ _ us hl => match us, hl with | [_, _, _], _ => rfl
  have F__law_given := fun_mk (st := s__law_given) l__law_given e__law_given k__law_given
  have b__law_given := F__law_given.binds (ps := ["_law_box_here", "_law_rows"]) fun _ _ _ _ _ _ us hl => match us, hl with | [_, _], _ => rfl
  have F_are_places := fun_mk (st := s_are_places) l_are_places e_are_places k_are_places
  have b_are_places := F_are_places.binds (ps := ["thing", "many"]) fun _ _ _ _ _ _ us hl => match us, hl with | [_, _], _ => rfl
  have F_are_too_few := fun_mk (st := s_are_too_few) l_are_too_few e_are_too_few k_are_too_few
  have b_are_too_few := F_are_too_few.binds (ps := ["cans", "ones"]) fun _ _ _ _ _ _ us hl => match us, hl with | [_, _], _ => rfl
  have F_shows_none := fun_mk (st := s_shows_none) l_shows_none e_shows_none k_shows_none
  have b_shows_none := F_shows_none.binds (ps := ["things", "finds", "thing"]) fun _ _ _ _ _ _ us hl => match us, hl with | [_, _, _], _ => rfl
  have F__law_same := fun_mk (st := s__law_same) l__law_same e__law_same k__law_same
  have b__law_same := F__law_same.binds (ps := ["_law_found", "_law_due_here"]) fun _ _ _ _ _ _ us hl => match us, hl with | [_, _], _ => rfl
  have F__law_too_few := fun_mk (st := s__law_too_few) l__law_too_few e__law_too_few k__law_too_few
  have b__law_too_few := F__law_too_few.binds (ps := ["_law_cans_here", "_law_ones"]) fun _ _ _ _ _ _ us hl => match us, hl with | [_, _], _ => rfl
  have F__law_due := fun_mk (st := s__law_due) l__law_due e__law_due k__law_due
  have b__law_due := F__law_due.binds (ps := ["_law_cans_here", "_law_thing"]) fun _ _ _ _ _ _ us hl => match us, hl with | [_, _], _ => rfl
  have F__law_right := fun_mk (st := s__law_right) l__law_right e__law_right k__law_right
  have b__law_right := F__law_right.binds (ps := ["_law_box_here"]) fun _ _ _ _ _ _ us hl => match us, hl with | [_], _ => rfl
  have F__law_box := fun_mk (st := s__law_box) l__law_box e__law_box k__law_box
  have b__law_box := F__law_box.binds (ps := ["_law_script", "_law_k"]) fun _ _ _ _ _ _ us hl => match us, hl with | [_, _], _ => rfl
  have F_law := fun_mk (st := s_law) l_law e_law k_law
  have T : Txt K mg ⟨f__law_folded, PySem.W.fnOf "_law_folded" "_law_folded" (defArgs s__law_folded) (defBody s__law_folded) (defScope s__law_folded) .none kV__law_folded dc__law_folded pm__law_folded an__law_folded cd__law_folded ct__law_folded, f__law_take, PySem.W.fnOf "_law_take" "_law_take" (defArgs s__law_take) (defBody s__law_take) (defScope s__law_take) .none kV__law_take dc__law_take pm__law_take an__law_take cd__law_take ct__law_take, f__law_names, PySem.W.fnOf "_law_names" "_law_names" (defArgs s__law_names) (defBody s__law_names) (defScope s__law_names) .none kV__law_names dc__law_names pm__law_names an__law_names cd__law_names ct__law_names, f__law_some_words, PySem.W.fnOf "_law_some_words" "_law_some_words" (defArgs s__law_some_words) (defBody s__law_some_words) (defScope s__law_some_words) .none kV__law_some_words dc__law_some_words pm__law_some_words an__law_some_words cd__law_some_words ct__law_some_words, f__law_things, PySem.W.fnOf "_law_things" "_law_things" (defArgs s__law_things) (defBody s__law_things) (defScope s__law_things) .none kV__law_things dc__law_things pm__law_things an__law_things cd__law_things ct__law_things, f_can_be, PySem.W.fnOf "can_be" "can_be" (defArgs s_can_be) (defBody s_can_be) (defScope s_can_be) .none kV_can_be dc_can_be pm_can_be an_can_be cd_can_be ct_can_be, f_cans_of, PySem.W.fnOf "cans_of" "cans_of" (defArgs s_cans_of) (defBody s_cans_of) (defScope s_cans_of) .none kV_cans_of dc_cans_of pm_cans_of an_cans_of cd_cans_of ct_cans_of, f_led_on, PySem.W.fnOf "led_on" "led_on" (defArgs s_led_on) (defBody s_led_on) (defScope s_led_on) .none kV_led_on dc_led_on pm_led_on an_led_on cd_led_on ct_led_on, f_paired_off, PySem.W.fnOf "paired_off" "paired_off" (defArgs s_paired_off) (defBody s_paired_off) (defScope s_paired_off) .none kV_paired_off dc_paired_off pm_paired_off an_paired_off cd_paired_off ct_paired_off, f_short_by, PySem.W.fnOf "short_by" "short_by" (defArgs s_short_by) (defBody s_short_by) (defScope s_short_by) .none kV_short_by dc_short_by pm_short_by an_short_by cd_short_by ct_short_by, f_with_place, PySem.W.fnOf "with_place" "with_place" (defArgs s_with_place) (defBody s_with_place) (defScope s_with_place) .none kV_with_place dc_with_place pm_with_place an_with_place cd_with_place ct_with_place, f_least_place, PySem.W.fnOf "least_place" "least_place" (defArgs s_least_place) (defBody s_least_place) (defScope s_least_place) .none kV_least_place dc_least_place pm_least_place an_least_place cd_least_place ct_least_place, f_first_pairing, PySem.W.fnOf "first_pairing" "first_pairing" (defArgs s_first_pairing) (defBody s_first_pairing) (defScope s_first_pairing) .none kV_first_pairing dc_first_pairing pm_first_pairing an_first_pairing cd_first_pairing ct_first_pairing, f_way_for, PySem.W.fnOf "way_for" "way_for" (defArgs s_way_for) (defBody s_way_for) (defScope s_way_for) .none kV_way_for dc_way_for pm_way_for an_way_for cd_way_for ct_way_for, f__law_find, PySem.W.fnOf "_law_find" "_law_find" (defArgs s__law_find) (defBody s__law_find) (defScope s__law_find) .none kV__law_find dc__law_find pm__law_find an__law_find cd__law_find ct__law_find, f__law_cans, PySem.W.fnOf "_law_cans" "_law_cans" (defArgs s__law_cans) (defBody s__law_cans) (defScope s__law_cans) .none kV__law_cans dc__law_cans pm__law_cans an__law_cans cd__law_cans ct__law_cans, f__law_bent, PySem.W.fnOf "_law_bent" "_law_bent" (defArgs s__law_bent) (defBody s__law_bent) (defScope s__law_bent) .none kV__law_bent dc__law_bent pm__law_bent an__law_bent cd__law_bent ct__law_bent, f__law_given, PySem.W.fnOf "_law_given" "_law_given" (defArgs s__law_given) (defBody s__law_given) (defScope s__law_given) .none kV__law_given dc__law_given pm__law_given an__law_given cd__law_given ct__law_given, f_are_places, PySem.W.fnOf "are_places" "are_places" (defArgs s_are_places) (defBody s_are_places) (defScope s_are_places) .none kV_are_places dc_are_places pm_are_places an_are_places cd_are_places ct_are_places, f_are_too_few, PySem.W.fnOf "are_too_few" "are_too_few" (defArgs s_are_too_few) (defBody s_are_too_few) (defScope s_are_too_few) .none kV_are_too_few dc_are_too_few pm_are_too_few an_are_too_few cd_are_too_few ct_are_too_few, f_shows_none, PySem.W.fnOf "shows_none" "shows_none" (defArgs s_shows_none) (defBody s_shows_none) (defScope s_shows_none) .none kV_shows_none dc_shows_none pm_shows_none an_shows_none cd_shows_none ct_shows_none, f__law_same, PySem.W.fnOf "_law_same" "_law_same" (defArgs s__law_same) (defBody s__law_same) (defScope s__law_same) .none kV__law_same dc__law_same pm__law_same an__law_same cd__law_same ct__law_same, f__law_too_few, PySem.W.fnOf "_law_too_few" "_law_too_few" (defArgs s__law_too_few) (defBody s__law_too_few) (defScope s__law_too_few) .none kV__law_too_few dc__law_too_few pm__law_too_few an__law_too_few cd__law_too_few ct__law_too_few, f__law_due, PySem.W.fnOf "_law_due" "_law_due" (defArgs s__law_due) (defBody s__law_due) (defScope s__law_due) .none kV__law_due dc__law_due pm__law_due an__law_due cd__law_due ct__law_due, f__law_right, PySem.W.fnOf "_law_right" "_law_right" (defArgs s__law_right) (defBody s__law_right) (defScope s__law_right) .none kV__law_right dc__law_right pm__law_right an__law_right cd__law_right ct__law_right, f__law_box, PySem.W.fnOf "_law_box" "_law_box" (defArgs s__law_box) (defBody s__law_box) (defScope s__law_box) .none kV__law_box dc__law_box pm__law_box an__law_box cd__law_box ct__law_box, fa, PySem.W.fnOf "law" "law" (defArgs s_law) (defBody s_law) (defScope s_law) .none kV_law dc_law pm_law an_law cd_law ct_law⟩ := ⟨PySem.W.mg_none_of X G z_list, PySem.W.mg_none_of X G z_enumerate, PySem.W.mg_none_of X G z_divmod, PySem.W.mg_none_of X G z_range, PySem.W.mg_none_of X G z_tuple, PySem.W.mg_none_of X G z_sorted, PySem.W.mg_none_of X G z_min, PySem.W.mg_none_of X G z_len, PySem.W.mg_none_of X G z_all, PySem.W.mg_none_of X G z_set, PySem.W.mg_none_of X G z_isinstance, PySem.W.mg_none_of X G z_zip, PySem.W.mg_none_of X G z_int, PySem.W.mg_none_of X G z_bool, PySem.W.mg_none_of X G z_str, PySem.W.mg_none_of X G z_abs, PySem.W.mg_none_of X G z_max, F__law_folded, PySem.W.mg_of X G a__law_folded, b__law_folded, F__law_take, PySem.W.mg_of X G a__law_take, b__law_take, F__law_names, PySem.W.mg_of X G a__law_names, b__law_names, F__law_some_words, PySem.W.mg_of X G a__law_some_words, b__law_some_words, F__law_things, PySem.W.mg_of X G a__law_things, b__law_things, F_can_be, PySem.W.mg_of X G a_can_be, b_can_be, F_cans_of, PySem.W.mg_of X G a_cans_of, b_cans_of, F_led_on, PySem.W.mg_of X G a_led_on, b_led_on, F_paired_off, PySem.W.mg_of X G a_paired_off, b_paired_off, F_short_by, PySem.W.mg_of X G a_short_by, b_short_by, F_with_place, PySem.W.mg_of X G a_with_place, b_with_place, F_least_place, PySem.W.mg_of X G a_least_place, b_least_place, F_first_pairing, PySem.W.mg_of X G a_first_pairing, b_first_pairing, F_way_for, PySem.W.mg_of X G a_way_for, b_way_for, F__law_find, PySem.W.mg_of X G a__law_find, b__law_find, F__law_cans, PySem.W.mg_of X G a__law_cans, b__law_cans, F__law_bent, PySem.W.mg_of X G a__law_bent, b__law_bent, F__law_given, PySem.W.mg_of X G a__law_given, b__law_given, F_are_places, PySem.W.mg_of X G a_are_places, b_are_places, F_are_too_few, PySem.W.mg_of X G a_are_too_few, b_are_too_few, F_shows_none, PySem.W.mg_of X G a_shows_none, b_shows_none, F__law_same, PySem.W.mg_of X G a__law_same, b__law_same, F__law_too_few, PySem.W.mg_of X G a__law_too_few, b__law_too_few, F__law_due, PySem.W.mg_of X G a__law_due, b__law_due, F__law_right, PySem.W.mg_of X G a__law_right, b__law_right, F__law_box, PySem.W.mg_of X G a__law_box, b__law_box, F_law⟩
  exact ⟨_, fun s v => .of_eq rfl, fun base _ _ => ok_law T⟩
theorem walk {l : PySem.W.OpenLaw} {q : Program} {loose : List Str} {XP : (Str → Option Value) → Heap → Prop} {YP : World → Heap → Prop} {d : DefRec} {K : Params → PySem.W.Frag} (hn : l.most = some 63) (hdf : d.params.defaults = [])
    (hY : ∀ (w : World) (h : Heap), YP w h → (K w.params).In h)
    (F : ∀ (w : World) (mg : Str → Option Value) (fa : Addr) (h : Heap), (K w.params).In h → h.Ns mainGlobals mg → mg d.name = some (.ref fa) →
      ∃ fd : FuncData, (∀ (s : Shared) (u : Value), BindsTo s fd ⟨[u], []⟩ [("_law_script", u)]) ∧ ∀ base : Heap, (K w.params).In base → base.Ns mainGlobals mg → FnG l.prog w (K w.params) mg base 20 fa fd ["_law_script"] (sp_law (K w.params))) :
    PySem.W.WalkO q loose XP YP l.row.toRowW d [] (fun f vs => PySem.call f vs) :=
  walk_ofG (n := 63) (k := 20) (x := "_law_script") (sp := sp_law) hn (by decide) hdf ⟨rfl, by decide, by decide⟩ hY F (fun _ _ a ns hl _ hS => ⟨a, ns, rfl, hS, hl, (fun _ hp => nomatch hp), fun _ => rfl⟩)
end K

open PySem PySem.W PyProof.Rows in
set_option maxRecDepth 100000 in
set_option maxHeartbeats 0 in
theorem PySem.Challenge.cw_stallshares_k29_papers_of_finds_spoilt_holds : PySem.Challenge.rw_stallshares_k29_papers_of_finds_spoilt.Holds := by
  w_on; o_law; k_head; (case hw => w_witness2)
  k_fill
  refine K.walk (l := PySem.Challenge.rw_stallshares_k29_papers_of_finds_spoilt) rfl rfl (fun w h Y => PySem.W.kIn_of Y) ?F
  case F =>
    intro w mg fa h KX G hmg
    refine' K.all_mk KX G hmg ?a__law_folded ?l__law_folded ?e__law_folded ?k__law_folded ?a__law_take ?l__law_take ?e__law_take ?k__law_take ?a__law_names ?l__law_names ?e__law_names ?k__law_names ?a__law_some_words ?l__law_some_words ?e__law_some_words ?k__law_some_words ?a__law_things ?l__law_things ?e__law_things ?k__law_things ?a_can_be ?l_can_be ?e_can_be ?k_can_be ?a_cans_of ?l_cans_of ?e_cans_of ?k_cans_of ?a_led_on ?l_led_on ?e_led_on ?k_led_on ?a_paired_off ?l_paired_off ?e_paired_off ?k_paired_off ?a_short_by ?l_short_by ?e_short_by ?k_short_by ?a_with_place ?l_with_place ?e_with_place ?k_with_place ?a_least_place ?l_least_place ?e_least_place ?k_least_place ?a_first_pairing ?l_first_pairing ?e_first_pairing ?k_first_pairing ?a_way_for ?l_way_for ?e_way_for ?k_way_for ?a__law_find ?l__law_find ?e__law_find ?k__law_find ?a__law_cans ?l__law_cans ?e__law_cans ?k__law_cans ?a__law_bent ?l__law_bent ?e__law_bent ?k__law_bent ?a__law_given ?l__law_given ?e__law_given ?k__law_given ?a_are_places ?l_are_places ?e_are_places ?k_are_places ?a_are_too_few ?l_are_too_few ?e_are_too_few ?k_are_too_few ?a_shows_none ?l_shows_none ?e_shows_none ?k_shows_none ?a__law_same ?l__law_same ?e__law_same ?k__law_same ?a__law_too_few ?l__law_too_few ?e__law_too_few ?k__law_too_few ?a__law_due ?l__law_due ?e__law_due ?k__law_due ?a__law_right ?l__law_right ?e__law_right ?k__law_right ?a__law_box ?l__law_box ?e__law_box ?k__law_box ?a_law ?l_law ?e_law ?k_law ?z_list ?z_enumerate ?z_divmod ?z_range ?z_tuple ?z_sorted ?z_min ?z_len ?z_all ?z_set ?z_isinstance ?z_zip ?z_int ?z_bool ?z_str ?z_abs ?z_max
    (case a__law_folded => k_is)
    (case l__law_folded => k_is)
    (case e__law_folded => k_is)
    (case k__law_folded => k_is)
    (case a__law_take => k_is)
    (case l__law_take => k_is)
    (case e__law_take => k_is)
    (case k__law_take => k_is)
    (case a__law_names => k_is)
    (case l__law_names => k_is)
    (case e__law_names => k_is)
    (case k__law_names => k_is)
    (case a__law_some_words => k_is)
    (case l__law_some_words => k_is)
    (case e__law_some_words => k_is)
    (case k__law_some_words => k_is)
    (case a__law_things => k_is)
    (case l__law_things => k_is)
    (case e__law_things => k_is)
    (case k__law_things => k_is)
    (case a_can_be => k_is)
    (case l_can_be => k_is)
    (case e_can_be => k_is)
    (case k_can_be => k_is)
    (case a_cans_of => k_is)
    (case l_cans_of => k_is)
    (case e_cans_of => k_is)
    (case k_cans_of => k_is)
    (case a_led_on => k_is)
    (case l_led_on => k_is)
    (case e_led_on => k_is)
    (case k_led_on => k_is)
    (case a_paired_off => k_is)
    (case l_paired_off => k_is)
    (case e_paired_off => k_is)
    (case k_paired_off => k_is)
    (case a_short_by => k_is)
    (case l_short_by => k_is)
    (case e_short_by => k_is)
    (case k_short_by => k_is)
    (case a_with_place => k_is)
    (case l_with_place => k_is)
    (case e_with_place => k_is)
    (case k_with_place => k_is)
    (case a_least_place => k_is)
    (case l_least_place => k_is)
    (case e_least_place => k_is)
    (case k_least_place => k_is)
    (case a_first_pairing => k_is)
    (case l_first_pairing => k_is)
    (case e_first_pairing => k_is)
    (case k_first_pairing => k_is)
    (case a_way_for => k_is)
    (case l_way_for => k_is)
    (case e_way_for => k_is)
    (case k_way_for => k_is)
    (case a__law_find => k_is)
    (case l__law_find => k_is)
    (case e__law_find => k_is)
    (case k__law_find => k_is)
    (case a__law_cans => k_is)
    (case l__law_cans => k_is)
    (case e__law_cans => k_is)
    (case k__law_cans => k_is)
    (case a__law_bent => k_is)
    (case l__law_bent => k_is)
    (case e__law_bent => k_is)
    (case k__law_bent => k_is)
    (case a__law_given => k_is)
    (case l__law_given => k_is)
    (case e__law_given => k_is)
    (case k__law_given => k_is)
    (case a_are_places => k_is)
    (case l_are_places => k_is)
    (case e_are_places => k_is)
    (case k_are_places => k_is)
    (case a_are_too_few => k_is)
    (case l_are_too_few => k_is)
    (case e_are_too_few => k_is)
    (case k_are_too_few => k_is)
    (case a_shows_none => k_is)
    (case l_shows_none => k_is)
    (case e_shows_none => k_is)
    (case k_shows_none => k_is)
    (case a__law_same => k_is)
    (case l__law_same => k_is)
    (case e__law_same => k_is)
    (case k__law_same => k_is)
    (case a__law_too_few => k_is)
    (case l__law_too_few => k_is)
    (case e__law_too_few => k_is)
    (case k__law_too_few => k_is)
    (case a__law_due => k_is)
    (case l__law_due => k_is)
    (case e__law_due => k_is)
    (case k__law_due => k_is)
    (case a__law_right => k_is)
    (case l__law_right => k_is)
    (case e__law_right => k_is)
    (case k__law_right => k_is)
    (case a__law_box => k_is)
    (case l__law_box => k_is)
    (case e__law_box => k_is)
    (case k__law_box => k_is)
    (case a_law => k_is)
    (case l_law => k_is)
    (case e_law => k_is)
    (case k_law => k_is)
    (case z_list => k_is)
    (case z_enumerate => k_is)
    (case z_divmod => k_is)
    (case z_range => k_is)
    (case z_tuple => k_is)
    (case z_sorted => k_is)
    (case z_min => k_is)
    (case z_len => k_is)
    (case z_all => k_is)
    (case z_set => k_is)
    (case z_isinstance => k_is)
    (case z_zip => k_is)
    (case z_int => k_is)
    (case z_bool => k_is)
    (case z_str => k_is)
    (case z_abs => k_is)
    (case z_max => k_is)
