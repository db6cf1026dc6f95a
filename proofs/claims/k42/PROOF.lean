import PyProof.Rows.All
import Wide.All
import OpenK.AllK
import Wide.FinOn
import HandS.ForMost
import HandS.Wide
import HandS.Defaults
import HandS.IsInst
import HandS.Walk
import HandS.Head0
import HandS.Head1
import HandS.Head2
import HandS.HeadEnd
import HandS.HeadHook1
import HandS.HeadHook2
import HandS.Deep
import HandS.FStr
import HandS.RaiseMore
import HandS.TupMul
import PyProof.StrOps2
import PyProof.ListStr
import HandS.ExcInit
import HandS.ExcField
import HandS.ExcIs
import HandS.ExcOwn
import HandS.WordsExc
import HandS.TryMany
import HandS.TryOnly
import HandS.Codes
import KE.IntTextText
import HandS.HotCalls
import HandS.ExcInitHot
import PySem.Challenge.RW_drillrow_k42_invalid_drill_texts
set_option Elab.async false
set_option linter.all false
set_option maxRecDepth 100000
set_option maxHeartbeats 4000000
namespace Q
open PySem PySem.Spec PyProof.Rows L2
/-! ### heaps: what is stable, what is new -/
theorem same_upd {H : Hp} {p : Addr} {o : HO} (h : H p = none) : Same H (upd H p o) := fun b x e => by
  rw [upd_ne (ne_of_none e h)]
  exact e
/-- the heap without the addresses M -/
def cut (M : List Addr) (H : Hp) : Hp := fun b => if b ∈ M then none else H b
/-- what H' has beside H -/
def nw (H H' : Hp) : Hp := fun b => match H b with
  | some _ => none
  | none => H' b
/-- all but M stands -/
def Fr (M : List Addr) (H H' : Hp) : Prop := ∀ b o, b ∉ M → H b = some o → H' b = some o
/-- M is tracked -/
def Trk (M : List Addr) (H : Hp) : Prop := ∀ b ∈ M, ∃ o, H b = some o
section
variable {M N : List Addr} {H H1 H2 H3 : Hp} {p : Addr} {o : HO}
theorem cut_in {b : Addr} (h : b ∈ M) : cut M H b = none := if_pos h
theorem cut_out {b : Addr} (h : b ∉ M) : cut M H b = H b := if_neg h
theorem cut_some {b : Addr} (h : cut M H b = some o) : b ∉ M ∧ H b = some o := by
  by_cases hb : b ∈ M
  · rw [cut_in hb] at h
    cases h
  · rw [cut_out hb] at h
    exact ⟨hb, h⟩
theorem cut_same : Same (cut M H) H := fun b o h => (cut_some h).2
theorem nw_none {b : Addr} (h : H b = none) : nw H H1 b = H1 b := by
  unfold nw
  rw [h]
theorem nw_some {b : Addr} (h : nw H H1 b = some o) : H b = none ∧ H1 b = some o := by
  unfold nw at h
  cases e : H b with
  | none =>
    rw [e] at h
    exact ⟨rfl, h⟩
  | some u =>
    rw [e] at h
    cases h
theorem nw_same : Same (nw H H1) H1 := fun b o h => (nw_some h).2
theorem Fr.refl : Fr M H H := fun _ _ _ h => h
theorem Fr.trans (a : Fr M H1 H2) (b : Fr M H2 H3) : Fr M H1 H3 := fun c o hc h => b c o hc (a c o hc h)
theorem Fr.of (a : Same H1 H2) : Fr M H1 H2 := fun b o _ h => a b o h
theorem Fr.same (a : Fr [] H1 H2) : Same H1 H2 := fun b o h => a b o (by simp) h
theorem Fr.more (a : Fr M H1 H2) (h : ∀ b ∈ M, b ∈ N) : Fr N H1 H2 := fun b o hb e => a b o (fun m => hb (h b m)) e
theorem Fr.mut (h : p ∈ M) : Fr M H (upd H p o) := fun b u hb e => by
  rw [upd_ne (fun z => hb (by rw [z]; exact h))]
  exact e
theorem Fr.new (h : H p = none) : Fr M H (upd H p o) := Fr.of (same_upd h)
/-- what was not tracked at the start may change -/
theorem Fr.drop (a : Fr (p :: M) H1 H2) (h : H1 p = none) : Fr M H1 H2 := fun b o hb e => a b o (by
  simp only [List.mem_cons, not_or]
  exact ⟨ne_of_none e h, hb⟩) e
theorem Fr.cut (a : Fr M H1 H2) : Same (cut M H1) (cut M H2) := fun b o h => by
  obtain ⟨hb, e⟩ := cut_some h
  rw [cut_out hb]
  exact a b o hb e
theorem cut_more (h : ∀ b ∈ N, b ∈ M) : Same (cut M H) (cut N H) := fun b o e => by
  obtain ⟨hb, e⟩ := cut_some e
  rw [cut_out (fun m => hb (h b m))]
  exact e
/-- new things are none of the tracked ones -/
theorem nw_cut (h : Trk M H1) : Same (nw H1 H2) (cut M H2) := fun b o e => by
  obtain ⟨e1, e2⟩ := nw_some e
  rw [cut_out]
  · exact e2
  · intro m
    obtain ⟨u, hu⟩ := h b m
    rw [e1] at hu
    cases hu
theorem nw_from (a : Same H1 H2) : Same (nw H2 H3) (nw H1 H3) := fun b o e => by
  obtain ⟨e1, e2⟩ := nw_some e
  rw [nw_none (a.free e1)]
  exact e2
/-- the new of a first step stands behind the second -/
theorem nw_on (h : Fr M H2 H3) (t : Trk M H1) : Same (nw H1 H2) (nw H1 H3) := fun b o e => by
  obtain ⟨e1, e2⟩ := nw_some e
  rw [nw_none e1]
  refine h b o (fun m => ?_) e2
  obtain ⟨u, hu⟩ := t b m
  rw [e1] at hu
  cases hu
theorem nw_on' (h : Same H2 H3) : Same (nw H1 H2) (nw H1 H3) := fun b o e => by
  obtain ⟨e1, e2⟩ := nw_some e
  rw [nw_none e1]
  exact h b o e2
/-- dom of H1 is in dom of H2 -/
theorem nw_from' (a : ∀ b o, H1 b = some o → ∃ u, H2 b = some u) : Same (nw H2 H3) (nw H1 H3) := fun b o e => by
  obtain ⟨e1, e2⟩ := nw_some e
  rw [nw_none]
  · exact e2
  · cases q : H1 b with
    | none => rfl
    | some u =>
      obtain ⟨v, hv⟩ := a b u q
      rw [e1] at hv
      cases hv
theorem nw_upd (h : H p = none) : nw H (upd H1 p o) p = some o := by
  rw [nw_none h, upd_same]
theorem cut_upd (h : p ∉ M) : cut M (upd H p o) p = some o := by
  rw [cut_out h, upd_same]
theorem Trk.ne {b : Addr} (t : Trk M H) (h : H b = none) : b ∉ M := fun m => by
  obtain ⟨u, hu⟩ := t b m
  rw [h] at hu
  cases hu
theorem Trk.up (t : Trk M H) (a : Same H H1) : Trk M H1 := fun b m => by
  obtain ⟨u, hu⟩ := t b m
  exact ⟨u, a b u hu⟩
end
theorem _root_.L2.Same.new {H : Hp} {p : Addr} {o : HO} (h : H p = none) : Same H (upd H p o) := same_upd h
/-- an object that the start does not know may change -/
theorem _root_.L2.Same.mut {H H' : Hp} {p : Addr} {o : HO} (e : Same H H') (h : H p = none) : Same H (upd H' p o) := fun a u ha => by
  rw [upd_ne (ne_of_none ha h)]
  exact e a u ha
theorem len_ok {xs : List V} (h : Nat.ble xs.length 1000 = true) : xs.length ≤ sizeLine := Nat.le_of_lt (small1000 (Nat.le_of_ble_eq_true h))
/-! ### data -/
mutual
inductive Dt (H : Hp) : V → PyData → Prop
  | non : Dt H .non .none
  | bl (b : Bool) : Dt H (.bl b) (.bool b)
  | int (i : Int) : Dt H (.int i) (.int i)
  | str (x : Str) : Dt H (.str x) (.str x)
  | lst {a : Addr} {xs : List V} {ds : List PyData} : H a = some (.lst xs) → DtAll H xs ds → Dt H (.ref a) (.list ds)
  | tup {a : Addr} {xs : List V} {ds : List PyData} : H a = some (.tup xs) → DtAll H xs ds → Dt H (.ref a) (.tuple ds)
inductive DtAll (H : Hp) : List V → List PyData → Prop
  | nil : DtAll H [] []
  | cons {v : V} {vs : List V} {d : PyData} {ds : List PyData} : Dt H v d → DtAll H vs ds → DtAll H (v :: vs) (d :: ds)
end
section
variable {H H1 : Hp} {K : PySem.W.Frag}
mutual
theorem Dt.mono (e : Same H H1) : ∀ {d : PyData} {v : V}, Dt H v d → Dt H1 v d
  | _, _, .non => .non
  | _, _, .bl b => .bl b
  | _, _, .int i => .int i
  | _, _, .str x => .str x
  | _, _, .lst h a => .lst (e _ _ h) (DtAll.mono e a)
  | _, _, .tup h a => .tup (e _ _ h) (DtAll.mono e a)
theorem DtAll.mono (e : Same H H1) : ∀ {ds : List PyData} {vs : List V}, DtAll H vs ds → DtAll H1 vs ds
  | _, _, .nil => .nil
  | _, _, .cons h a => .cons (Dt.mono e h) (DtAll.mono e a)
end
mutual
theorem Dt.dp : ∀ {d : PyData} {v : V}, Dt H v d → Dp K H v d
  | _, _, .non => .non
  | _, _, .bl b => .bl b
  | _, _, .int i => .int i
  | _, _, .str x => .str x
  | _, _, .lst h a => .lst (SqL.of h) (DtAll.dp a)
  | _, _, .tup h a => .tup (SqT.of h) (DtAll.dp a)
theorem DtAll.dp : ∀ {ds : List PyData} {vs : List V}, DtAll H vs ds → DpAll K H vs ds
  | _, _, .nil => .nil
  | _, _, .cons h a => .cons (Dt.dp h) (DtAll.dp a)
end
theorem Dt.int_inv {v : V} {i : Int} (h : Dt H v (.int i)) : v = .int i := by cases h <;> rfl
theorem Dt.str_inv {v : V} {x : Str} (h : Dt H v (.str x)) : v = .str x := by cases h <;> rfl
theorem Dt.bl_inv {v : V} {b : Bool} (h : Dt H v (.bool b)) : v = .bl b := by cases h <;> rfl
theorem Dt.non_inv {v : V} (h : Dt H v .none) : v = .non := by cases h <;> rfl
theorem Dt.lst_inv {v : V} {ds : List PyData} (h : Dt H v (.list ds)) : ∃ a xs, v = .ref a ∧ H a = some (.lst xs) ∧ DtAll H xs ds := by
  cases h with
  | lst h a => exact ⟨_, _, rfl, h, a⟩
theorem Dt.tup_inv {v : V} {ds : List PyData} (h : Dt H v (.tuple ds)) : ∃ a xs, v = .ref a ∧ H a = some (.tup xs) ∧ DtAll H xs ds := by
  cases h with
  | tup h a => exact ⟨_, _, rfl, h, a⟩
theorem DtAll.cons_inv {vs : List V} {d : PyData} {ds : List PyData} (h : DtAll H vs (d :: ds)) : ∃ v r, vs = v :: r ∧ Dt H v d ∧ DtAll H r ds := by
  cases h with
  | cons h a => exact ⟨_, _, rfl, h, a⟩
theorem DtAll.nil_inv {vs : List V} (h : DtAll H vs []) : vs = [] := by cases h <;> rfl
theorem DtAll.length : ∀ {ds : List PyData} {vs : List V}, DtAll H vs ds → vs.length = ds.length
  | _, _, .nil => rfl
  | _, _, .cons h a => congrArg Nat.succ (DtAll.length a)
theorem DtAll.get : ∀ {ds : List PyData} {vs : List V} {i : Nat} {d : PyData}, DtAll H vs ds → ds[i]? = some d → ∃ v, vs[i]? = some v ∧ Dt H v d
  | _, _, _, _, .nil, e => by simp at e
  | _, _, 0, d, .cons h a, e => by
    simp only [List.getElem?_cons_zero, Option.some.injEq] at e
    subst e
    exact ⟨_, by simp, h⟩
  | _, _, i + 1, d, .cons h a, e => by
    simp only [List.getElem?_cons_succ] at e
    obtain ⟨v, h1, h2⟩ := DtAll.get a e
    exact ⟨v, by simpa using h1, h2⟩
theorem DtAll.getV : ∀ {ds : List PyData} {vs : List V} {i : Nat} {v : V}, DtAll H vs ds → vs[i]? = some v → ∃ d, ds[i]? = some d ∧ Dt H v d
  | _, _, _, _, .nil, e => by simp at e
  | _, _, 0, d, .cons h a, e => by
    simp only [List.getElem?_cons_zero, Option.some.injEq] at e
    subst e
    exact ⟨_, by simp, h⟩
  | _, _, i + 1, d, .cons h a, e => by
    simp only [List.getElem?_cons_succ] at e
    obtain ⟨v, h1, h2⟩ := DtAll.getV a e
    exact ⟨v, by simpa using h1, h2⟩
theorem DtAll.append : ∀ {ds es : List PyData} {vs ws : List V}, DtAll H vs ds → DtAll H ws es → DtAll H (vs ++ ws) (ds ++ es)
  | _, _, _, _, .nil, b => b
  | _, _, _, _, .cons h a, b => .cons h (DtAll.append a b)
theorem DtAll.snoc {ds : List PyData} {d : PyData} {vs : List V} {v : V} (h : DtAll H vs ds) (k : Dt H v d) : DtAll H (vs ++ [v]) (ds ++ [d]) := h.append (.cons k .nil)
theorem DtAll.take : ∀ {ds : List PyData} {vs : List V} (n : Nat), DtAll H vs ds → DtAll H (vs.take n) (ds.take n)
  | _, _, 0, _ => by
    rw [List.take_zero, List.take_zero]
    exact .nil
  | _, _, n + 1, .nil => by
    rw [List.take_nil, List.take_nil]
    exact .nil
  | _, _, n + 1, .cons h a => by
    rw [List.take_succ_cons, List.take_succ_cons]
    exact .cons h (DtAll.take n a)
theorem DtAll.drop : ∀ {ds : List PyData} {vs : List V} (n : Nat), DtAll H vs ds → DtAll H (vs.drop n) (ds.drop n)
  | _, _, 0, h => h
  | _, _, n + 1, .nil => by
    rw [List.drop_nil, List.drop_nil]
    exact .nil
  | _, _, n + 1, .cons h a => by
    rw [List.drop_succ_cons, List.drop_succ_cons]
    exact DtAll.drop n a
theorem DtAll.ints : ∀ {ns : List Int} {vs : List V}, DtAll H vs (ns.map PyData.int) → vs = ns.map V.int
  | [], _, h => h.nil_inv
  | n :: ns, _, h => by
    obtain ⟨v, r, rfl, h1, h2⟩ := DtAll.cons_inv h
    rw [h1.int_inv, DtAll.ints h2]
    rfl
theorem DtAll.strs : ∀ {ns : List Str} {vs : List V}, DtAll H vs (ns.map PyData.str) → vs = ns.map V.str
  | [], _, h => h.nil_inv
  | n :: ns, _, h => by
    obtain ⟨v, r, rfl, h1, h2⟩ := DtAll.cons_inv h
    rw [h1.str_inv, DtAll.strs h2]
    rfl
theorem DtAll.ofInts : ∀ (ns : List Int), DtAll H (ns.map V.int) (ns.map PyData.int)
  | [] => .nil
  | n :: ns => .cons (.int n) (DtAll.ofInts ns)
theorem DtAll.ofStrs : ∀ (ns : List Str), DtAll H (ns.map V.str) (ns.map PyData.str)
  | [] => .nil
  | n :: ns => .cons (.str n) (DtAll.ofStrs ns)
theorem Dt.ints {ns : List Int} {v : V} (h : Dt H v (.list (ns.map PyData.int))) : ∃ a, v = .ref a ∧ H a = some (.lst (ns.map V.int)) := by
  obtain ⟨a, xs, rfl, e, k⟩ := h.lst_inv
  rw [k.ints] at e
  exact ⟨a, rfl, e⟩
theorem Dt.strs {ns : List Str} {v : V} (h : Dt H v (.list (ns.map PyData.str))) : ∃ a, v = .ref a ∧ H a = some (.lst (ns.map V.str)) := by
  obtain ⟨a, xs, rfl, e, k⟩ := h.lst_inv
  rw [k.strs] at e
  exact ⟨a, rfl, e⟩
theorem Dt.ofInts {a : Addr} {ns : List Int} (h : H a = some (.lst (ns.map V.int))) : Dt H (.ref a) (.list (ns.map PyData.int)) := .lst h (DtAll.ofInts ns)
theorem Dt.ofStrs {a : Addr} {ns : List Str} (h : H a = some (.lst (ns.map V.str))) : Dt H (.ref a) (.list (ns.map PyData.str)) := .lst h (DtAll.ofStrs ns)
theorem Dt.tup2 {v : V} {d1 d2 : PyData} (h : Dt H v (.tuple [d1, d2])) : ∃ a x1 x2, v = .ref a ∧ H a = some (.tup [x1, x2]) ∧ Dt H x1 d1 ∧ Dt H x2 d2 := by
  obtain ⟨a, xs, rfl, e, k⟩ := h.tup_inv
  obtain ⟨x1, r, rfl, h1, k⟩ := k.cons_inv
  obtain ⟨x2, r, rfl, h2, k⟩ := k.cons_inv
  rw [k.nil_inv] at e
  exact ⟨a, x1, x2, rfl, e, h1, h2⟩
theorem Dt.tup3 {v : V} {d1 d2 d3 : PyData} (h : Dt H v (.tuple [d1, d2, d3])) : ∃ a x1 x2 x3, v = .ref a ∧ H a = some (.tup [x1, x2, x3]) ∧ Dt H x1 d1 ∧ Dt H x2 d2 ∧ Dt H x3 d3 := by
  obtain ⟨a, xs, rfl, e, k⟩ := h.tup_inv
  obtain ⟨x1, r, rfl, h1, k⟩ := k.cons_inv
  obtain ⟨x2, r, rfl, h2, k⟩ := k.cons_inv
  obtain ⟨x3, r, rfl, h3, k⟩ := k.cons_inv
  rw [k.nil_inv] at e
  exact ⟨a, x1, x2, x3, rfl, e, h1, h2, h3⟩
theorem Dt.mk2 {a : Addr} {x1 x2 : V} {d1 d2 : PyData} (e : H a = some (.tup [x1, x2])) (h1 : Dt H x1 d1) (h2 : Dt H x2 d2) : Dt H (.ref a) (.tuple [d1, d2]) := .tup e (.cons h1 (.cons h2 .nil))
theorem Dt.mk3 {a : Addr} {x1 x2 x3 : V} {d1 d2 d3 : PyData} (e : H a = some (.tup [x1, x2, x3])) (h1 : Dt H x1 d1) (h2 : Dt H x2 d2) (h3 : Dt H x3 d3) : Dt H (.ref a) (.tuple [d1, d2, d3]) := .tup e (.cons h1 (.cons h2 (.cons h3 .nil)))
end
/-- a bundle of data -/
def Ct (S : Hp) (l : List (V × PyData)) : Prop := ∀ p ∈ l, Dt S p.1 p.2
theorem Ct.nil {S : Hp} : Ct S [] := fun p h => nomatch h
theorem Ct.mono {S S' : Hp} {l : List (V × PyData)} (h : Ct S l) (e : Same S S') : Ct S' l := fun p m => (h p m).mono e
theorem Ct.push {S : Hp} {l : List (V × PyData)} {v : V} {d : PyData} (h : Ct S l) (k : Dt S v d) : Ct S ((v, d) :: l) := fun p m => by
  rcases List.mem_cons.mp m with e | m
  · rw [e]
    exact k
  · exact h p m
theorem Ct.at {S : Hp} {l : List (V × PyData)} {v : V} {d : PyData} (h : Ct S l) (i : Nat) (e : l[i]? = some (v, d) := by rfl) : Dt S v d := h (v, d) (List.mem_of_getElem? e)
theorem Ct.tail {S : Hp} {l : List (V × PyData)} {p : V × PyData} (h : Ct S (p :: l)) : Ct S l := fun q m => h q (List.mem_cons_of_mem _ m)
end Q

set_option Elab.async false
set_option linter.all false
set_option maxRecDepth 100000
set_option maxHeartbeats 4000000
namespace Q
open PySem PySem.Spec PyProof.Rows L2
/-! ### the operators by names -/
def rAddI : R2 := rI0 fun i j => .int (i + j)
def rSubI : R2 := rI0 fun i j => .int (i - j)
def rMulI : R2 := rI CMul fun i j => .int (i * j)
def rModI : R2 := rI (fun _ j => 0 < j) fun i j => .int (i % j)
def rDivI : R2 := rI CDivW fun i j => .int (i / j)
def rPowI : R2 := rI CPow fun i j => .int (i ^ j.toNat)
def rLtI : R2 := rI0 fun i j => .bl (decide (i < j))
def rLeI : R2 := rI0 fun i j => .bl (decide (i ≤ j))
def rGtI : R2 := rI0 fun i j => .bl (decide (j < i))
def rGeI : R2 := rI0 fun i j => .bl (decide (j ≤ i))
def rAddS : R2 := fun x y H Q => ∃ i j, x = .str i ∧ y = .str j ∧ i.length + j.length ≤ sizeLine ∧ Q (.str (i ++ j)) H
def rInC : R2 := fun x y H Q => ∃ (c : Nat) (z : Str), x = .str ⟨#[c]⟩ ∧ y = .str z ∧ Q (.bl (decide (c ∈ z.cps.toList))) H
def rNotInC : R2 := fun x y H Q => ∃ (c : Nat) (z : Str), x = .str ⟨#[c]⟩ ∧ y = .str z ∧ Q (.bl (!decide (c ∈ z.cps.toList))) H
def rIsN : R2 := fun x y H Q => y = .non ∧ Q (.bl (decide (x = .non))) H
def rNotN : R2 := fun x y H Q => y = .non ∧ Q (.bl (!decide (x = .non))) H
abbrev RC := List V → Hp → VK → Prop
def rMax2 : RC := fun xs H Q => ∃ i j, xs = [.int i, .int j] ∧ Q (.int (if j > i then j else i)) H
def rMin2 : RC := fun xs H Q => ∃ i j, xs = [.int i, .int j] ∧ Q (.int (if j < i then j else i)) H
def rLenL (K : PySem.W.Frag) : RC := fun xs H Q => ∃ p ys, xs = [.ref p] ∧ (SqL K H p ys ∨ SqT K H p ys) ∧ Q (.int ys.length) H
def rLenS : RC := fun xs H Q => ∃ z, xs = [.str z] ∧ z.length ≤ sizeLine ∧ Q (.int z.length) H
def rLenA (K : PySem.W.Frag) : RC := fun xs H Q => ∃ x n, xs = [x] ∧ LenV K x H n ∧ Q (.int n) H
def rInt1 : RC := fun xs H Q => (∃ i, xs = [.int i] ∧ Q (.int i) H) ∨ ∃ k, xs = [.bl k] ∧ Q (.int (if k then 1 else 0)) H
def rStrI : RC := fun xs H Q => ∃ i, xs = [.int i] ∧ i.natAbs.log2 < 1920 ∧ Q (.str (toString i)) H
def rIntS : RC := fun xs H Q => ∃ a n, xs = [.str a] ∧ PySem.intText? a = some n ∧ a.length ≤ 640 ∧ Q (.int n) H
def rListL (K : PySem.W.Frag) : RC := fun xs H Q => ∃ p ys, xs = [.ref p] ∧ (SqL K H p ys ∨ SqT K H p ys) ∧ ∀ l, H l = none → Q (.ref l) (upd H l (.lst ys))
def rSplit : V → List V → Hp → VK → Prop := fun x xs H Q => ∃ a b, x = .str a ∧ xs = [.str b] ∧ (b.length == 0) = false ∧ a.length + 2 ≤ sizeLine ∧ rNewStrs (Txt.split a b) H Q
def rJoin (K : PySem.W.Frag) : V → List V → Hp → VK → Prop := fun x xs H Q => ∃ a p, ∃ ys : List Str, x = .str a ∧ xs = [.ref p] ∧ (SqL K H p (ys.map V.str) ∨ SqT K H p (ys.map V.str)) ∧ (ys.map (·.length)).sum + ys.length * a.length ≤ 16777216 ∧ Q (.str (Txt.join a ys)) H
def rCount : V → List V → Hp → VK → Prop := fun x xs H Q => ∃ a b, x = .str a ∧ xs = [.str b] ∧ Q (.int (Txt.count a b)) H
/-! ### steps of a reading -/
section
variable {σ : L2.St} {H : Hp} {Q : VK} {i : Nat} {v x y : V} {ta tb te : TE} {t u c : TT} {A B : TA} {r : R2} {K : PySem.W.Frag}
theorem w_var (h : σ[i]? = some (some v)) (q : Q v H) : tVar i σ H Q := ⟨v, h, q⟩
theorem w_c (q : Q v H) : tC v σ H Q := q
theorem w_op (q : ta σ H fun x H1 => tb σ H1 fun y H2 => r x y H2 Q) : tOp r ta tb σ H Q := q
theorem w_un {r : V → Hp → VK → Prop} (q : ta σ H fun x H1 => r x H1 Q) : tUn r ta σ H Q := q
theorem w_chain {r r' : R2} (q : ta σ H fun x H1 => tb σ H1 fun y H2 => r x y H2 fun z H3 => ∃ k, z = .bl k ∧ (if k = true then te σ H3 fun w' H4 => r' y w' H4 Q else Q (.bl false) H3)) : tChain r r' ta tb te σ H Q := q
theorem w_andV (q : ta σ H fun x H1 => ∃ c, x = .bl c ∧ if c = true then tb σ H1 Q else Q (.bl false) H1) : tAndV ta tb σ H Q := q
theorem w_orV (q : ta σ H fun x H1 => ∃ c, x = .bl c ∧ if c = true then Q (.bl true) H1 else tb σ H1 Q) : tOrV ta tb σ H Q := q
theorem w_notV (q : ta σ H fun x H1 => ∃ c, x = .bl c ∧ Q (.bl (!c)) H1) : tNotV ta σ H Q := q
theorem w_if (q : c σ H fun k H1 => if k = true then ta σ H1 Q else tb σ H1 Q) : tIf c ta tb σ H Q := q
theorem w_nil {Q : List V → Hp → Prop} (q : Q [] H) : tNil σ H Q := q
theorem w_cons {Q : List V → Hp → Prop} (q : ta σ H fun x H1 => A σ H1 fun xs H2 => Q (x :: xs) H2) : tCons ta A σ H Q := q
theorem w_cb {r : RC} (q : A σ H fun vs H1 => r vs H1 Q) : tCB r A σ H Q := q
theorem w_call {sp : Sp} {E : XK} (q : A σ H fun vs H1 => sp (vs ++ []) H1 Q E) : tCall sp [] E A σ H Q := q
theorem w_bm {T : String} {r : V → List V → Hp → VK → Prop} (q : ta σ H fun x H1 => tyV K T x H1 ∧ A σ H1 fun xs H2 => r x xs H2 Q) : tBM K T r ta A σ H Q := q
theorem w_bm0 {T : String} {r : V → List V → Hp → VK → Prop} (q : ta σ H fun x H1 => tyV K T x H1 ∧ r x [] H1 Q) : tBM0 K T r ta σ H Q := q
theorem w_m1 {r : V → List V → Hp → VK → Prop} (q : ta σ H fun x H1 => (∃ a, x = .str a) ∧ te σ H1 fun y H2 => r x [y] H2 Q) : tM1 r ta te σ H Q := q
theorem w_m0 {r : V → List V → Hp → VK → Prop} (q : ta σ H fun x H1 => (∃ a, x = .str a) ∧ r x [] H1 Q) : tM0 r ta σ H Q := q
theorem w_sl {r : V → Option Int → Option Int → Hp → VK → Prop} {tl th : TO} (q : te σ H fun x H1 => tl σ H1 fun l H2 => th σ H2 fun u H3 => r x l u H3 Q) : tSl r te tl th σ H Q := q
theorem w_nopart {Q : Option Int → Hp → Prop} (q : Q none H) : tNoPart σ H Q := q
theorem w_part {Q : Option Int → Hp → Prop} (q : te σ H fun x H1 => ∃ i, x = .int i ∧ Q (some i) H1) : tPart te σ H Q := q
theorem w_tup (q : A σ H fun xs H1 => xs.length ≤ sizeLine ∧ ∀ p, H1 p = none → Q (.ref p) (upd H1 p (.tup xs))) : tTup A σ H Q := q
theorem w_lst (q : A σ H fun xs H1 => xs.length ≤ sizeLine ∧ ∀ p, H1 p = none → Q (.ref p) (upd H1 p (.lst xs))) : tLst A σ H Q := q
/-- tests -/
theorem w_test {Q : Bool → Hp → Prop} (q : te σ H fun x H' => ∃ k, x = .bl k ∧ Q k H') : tTest te σ H Q := q
theorem w_tb {Q : Bool → Hp → Prop} (q : te σ H fun x H' => ∃ k, x = .bl k ∧ Q k H') : tB te σ H Q := q
theorem w_and {Q : Bool → Hp → Prop} (q : t σ H fun c H1 => if c = true then u σ H1 Q else Q false H1) : tAnd t u σ H Q := q
theorem w_or {Q : Bool → Hp → Prop} (q : t σ H fun c H1 => if c = true then Q true H1 else u σ H1 Q) : tOr t u σ H Q := q
theorem w_not {Q : Bool → Hp → Prop} (q : t σ H fun c H1 => Q (!c) H1) : tNot t σ H Q := q
theorem w_yes {Q : Bool → Hp → Prop} (q : Q true H) : tYes σ H Q := q
theorem ite_nt {A B : Prop} (h : B) : if (!true) = true then A else B := iteF h
theorem ite_nf {A B : Prop} (h : A) : if (!false) = true then A else B := iteT h
/-- operators on known kinds -/
theorem o_I0 {g : Int → Int → V} {i j : Int} (q : Q (g i j) H) : rI0 g (.int i) (.int j) H Q := ⟨i, j, rfl, rfl, q⟩
theorem o_I {C : Int → Int → Prop} {g : Int → Int → V} {i j : Int} (h : C i j) (q : Q (g i j) H) : rI C g (.int i) (.int j) H Q := ⟨i, j, rfl, rfl, h, q⟩
theorem o_add {i j : Int} (q : Q (.int (i + j)) H) : rAddI (.int i) (.int j) H Q := ⟨i, j, rfl, rfl, q⟩
theorem o_sub {i j : Int} (q : Q (.int (i - j)) H) : rSubI (.int i) (.int j) H Q := ⟨i, j, rfl, rfl, q⟩
theorem o_mul {i j : Int} (h : CMul i j) (q : Q (.int (i * j)) H) : rMulI (.int i) (.int j) H Q := ⟨i, j, rfl, rfl, h, q⟩
theorem o_mod {i j : Int} (h : 0 < j) (q : Q (.int (i % j)) H) : rModI (.int i) (.int j) H Q := ⟨i, j, rfl, rfl, h, q⟩
theorem o_div {i j : Int} (h : CDivW i j) (q : Q (.int (i / j)) H) : rDivI (.int i) (.int j) H Q := ⟨i, j, rfl, rfl, h, q⟩
theorem o_pow {i j : Int} (h : CPow i j) (q : Q (.int (i ^ j.toNat)) H) : rPowI (.int i) (.int j) H Q := ⟨i, j, rfl, rfl, h, q⟩
theorem o_lt {i j : Int} (q : Q (.bl (decide (i < j))) H) : rLtI (.int i) (.int j) H Q := ⟨i, j, rfl, rfl, q⟩
theorem o_le {i j : Int} (q : Q (.bl (decide (i ≤ j))) H) : rLeI (.int i) (.int j) H Q := ⟨i, j, rfl, rfl, q⟩
theorem o_gt {i j : Int} (q : Q (.bl (decide (j < i))) H) : rGtI (.int i) (.int j) H Q := ⟨i, j, rfl, rfl, q⟩
theorem o_ge {i j : Int} (q : Q (.bl (decide (j ≤ i))) H) : rGeI (.int i) (.int j) H Q := ⟨i, j, rfl, rfl, q⟩
theorem o_adds {i j : Str} (h : i.length + j.length ≤ sizeLine) (q : Q (.str (i ++ j)) H) : rAddS (.str i) (.str j) H Q := ⟨i, j, rfl, rfl, h, q⟩
theorem o_eq (h : scal x y = true) (q : Q (.bl (decide (x = y))) H) : rEq x y H Q := ⟨h, q⟩
theorem o_ne (h : scal x y = true) (q : Q (.bl (!decide (x = y))) H) : rNe x y H Q := ⟨h, q⟩
theorem o_inc {c : Nat} {z : Str} (q : Q (.bl (decide (c ∈ z.cps.toList))) H) : rInC (.str ⟨#[c]⟩) (.str z) H Q := ⟨c, z, rfl, rfl, q⟩
theorem o_notinc {c : Nat} {z : Str} (q : Q (.bl (!decide (c ∈ z.cps.toList))) H) : rNotInC (.str ⟨#[c]⟩) (.str z) H Q := ⟨c, z, rfl, rfl, q⟩
theorem o_isn (q : Q (.bl (decide (x = .non))) H) : rIsN x .non H Q := ⟨rfl, q⟩
theorem o_notn (q : Q (.bl (!decide (x = .non))) H) : rNotN x .non H Q := ⟨rfl, q⟩
theorem o_eqD {d e : PyData} (hd : Dp K H x d) (he : Dp K H y e) (sd : SeqAt.shaped d = true) (se : SeqAt.shaped e = true) (q : Q (.bl (PyData.eqv d e)) H) : rEqD K x y H Q := ⟨d, e, hd, he, sd, se, q⟩
theorem o_neD {d e : PyData} (hd : Dp K H x d) (he : Dp K H y e) (sd : SeqAt.shaped d = true) (se : SeqAt.shaped e = true) (q : Q (.bl (!PyData.eqv d e)) H) : rNeD K x y H Q := ⟨d, e, hd, he, sd, se, q⟩
theorem o_ixL {p : Addr} {xs : List V} {j : Nat} (h : H p = some (.lst xs)) (e : xs[j]? = some v) (q : Q v H) : rIxL K (.ref p) (.int (j : Int)) H Q := ⟨p, xs, _, v, rfl, rfl, SqL.of h, atI_nat e, q⟩
theorem o_ixL' {p : Addr} {xs : List V} {i : Int} (j : Nat) (hi : i = (j : Int)) (h : H p = some (.lst xs)) (e : xs[j]? = some v) (q : Q v H) : rIxL K (.ref p) (.int i) H Q := ⟨p, xs, _, v, rfl, rfl, SqL.of h, by rw [hi]; exact atI_nat e, q⟩
theorem o_ixLn {p : Addr} {xs : List V} {i : Int} (h : H p = some (.lst xs)) (hi : 0 ≤ i) (e : xs[i.toNat]? = some v) (q : Q v H) : rIxL K (.ref p) (.int i) H Q := o_ixL' i.toNat (Int.toNat_of_nonneg hi).symm h e q
theorem o_ixT' {p : Addr} {xs : List V} {i : Int} (j : Nat) (hi : i = (j : Int)) (h : H p = some (.tup xs)) (e : xs[j]? = some v) (q : Q v H) : rIxT K (.ref p) (.int i) H Q := ⟨p, xs, _, v, rfl, rfl, SqT.of h, by rw [hi]; exact atI_nat e, q⟩
theorem o_ixS' {z : Str} {i : Int} {c : Nat} (j : Nat) (hi : i = (j : Int)) (hz : z.length ≤ sizeLine) (e : z.cps.toList[j]? = some c) (q : Q (.str ⟨#[c]⟩) H) : rIxS (.str z) (.int i) H Q := ⟨z, i, c, rfl, rfl, hz, by rw [hi]; exact atI_nat e, q⟩
theorem o_ixTn {p : Addr} {xs : List V} {i : Int} (h : H p = some (.tup xs)) (hi : 0 ≤ i) (e : xs[i.toNat]? = some v) (q : Q v H) : rIxT K (.ref p) (.int i) H Q := o_ixT' i.toNat (Int.toNat_of_nonneg hi).symm h e q
theorem o_max2 {i j : Int} (q : Q (.int (if j > i then j else i)) H) : rMax2 [.int i, .int j] H Q := ⟨i, j, rfl, q⟩
theorem o_min2 {i j : Int} (q : Q (.int (if j < i then j else i)) H) : rMin2 [.int i, .int j] H Q := ⟨i, j, rfl, q⟩
theorem o_lenL {p : Addr} {ys : List V} (h : H p = some (.lst ys)) (q : Q (.int ys.length) H) : rLenL K [.ref p] H Q := ⟨p, ys, rfl, .inl (SqL.of h), q⟩
theorem o_lenT {p : Addr} {ys : List V} (h : H p = some (.tup ys)) (q : Q (.int ys.length) H) : rLenL K [.ref p] H Q := ⟨p, ys, rfl, .inr (SqT.of h), q⟩
theorem o_lenS {z : Str} (h : z.length ≤ sizeLine) (q : Q (.int z.length) H) : rLenS [.str z] H Q := ⟨z, rfl, h, q⟩
theorem o_isi {t T : String} {r : Bool} (ty : TyX K H x (.type t)) (k : kitB t T = some r) (q : Q (.bl r) H) : rIsi K [x, .ty T] H Q := ⟨x, .ty T, _, _, r, rfl, .ty T, ty, kit_ty k, q⟩
theorem o_intB {k : Bool} (q : Q (.int (if k then 1 else 0)) H) : rInt1 [.bl k] H Q := .inr ⟨k, rfl, q⟩
theorem o_strI {i : Int} (h : i.natAbs.log2 < 1920) (q : Q (.str (toString i)) H) : rStrI [.int i] H Q := ⟨i, rfl, h, q⟩
theorem o_listL {p : Addr} {ys : List V} (h : H p = some (.lst ys)) (q : ∀ l, H l = none → Q (.ref l) (upd H l (.lst ys))) : rListL K [.ref p] H Q := ⟨p, ys, rfl, .inl (SqL.of h), q⟩
theorem ty_list {p : Addr} {ys : List V} (h : H p = some (.lst ys)) : tyV K "list" (.ref p) H := .inl ⟨rfl, _, SqL.of h⟩
theorem o_append {p : Addr} {xs : List V} (h : H p = some (.lst xs)) (hz : xs.length < sizeLine) (q : Q .non (upd H p (.lst (xs ++ [y])))) : rAppend (.ref p) [y] H Q := ⟨p, xs, y, rfl, rfl, h, hz, q⟩
theorem o_join {a : Str} {p : Addr} {ys : List Str} (h : H p = some (.lst (ys.map V.str))) (hz : (ys.map (·.length)).sum + ys.length * a.length ≤ 16777216) (q : Q (.str (Txt.join a ys)) H) : rJoin K (.str a) [.ref p] H Q := ⟨a, p, ys, rfl, rfl, .inl (SqL.of h), hz, q⟩
end
section
variable {σ : L2.St} {H : Hp} {D : Ends} {i : Nat} {v : V} {ta tb te : TE} {c : TT} {t u rest : TS} {g : TG} {K : PySem.W.Frag} {wi : TI}
theorem z_asg (q : te σ H fun x H1 => g x σ H1 (rest D)) : tSeq (tAsg te g) rest D σ H := q
theorem z_asg1 (q : te σ H fun x H1 => g x σ H1 D.nx) : tAsg te g D σ H := q
theorem z_drop (q : te σ H fun _ H1 => rest D σ H1) : tSeq (tDrop te) rest D σ H := q
theorem z_drop1 (q : te σ H fun _ H1 => D.nx σ H1) : tDrop te D σ H := q
theorem z_ret (q : te σ H D.rt) : tRet te D σ H := q
theorem z_ret' (q : te σ H D.rt) : tSeq (tRet te) rest D σ H := q
theorem z_if (q : c σ H fun b H1 => if b = true then t { D with nx := rest D } σ H1 else u { D with nx := rest D } σ H1) : tSeq (tIfS c t u) rest D σ H := q
theorem z_if1 (q : c σ H fun b H1 => if b = true then t D σ H1 else u D σ H1) : tIfS c t u D σ H := q
theorem z_next (q : D.nx σ H) : tNext D σ H := q
theorem z_aug {f : TIp} (q : ∃ x, σ[i]? = some (some x) ∧ te σ H fun y H1 => f x y H1 fun z H2 => rest D (σ.set i (some z)) H2) : tSeq (tAug i te f) rest D σ H := q
theorem z_aug1 {f : TIp} (q : ∃ x, σ[i]? = some (some x) ∧ te σ H fun y H1 => f x y H1 fun z H2 => D.nx (σ.set i (some z)) H2) : tAug i te f D σ H := q
theorem g_name {Q : L2.St → Hp → Prop} (q : Q (σ.set i (some v)) H) : gName i v σ H Q := q
theorem g_nil {Q : L2.St → Hp → Prop} (q : Q σ H) : gNil [] σ H Q := ⟨rfl, q⟩
theorem g_cons {Q : L2.St → Hp → Prop} {t : TG} {u : TGs} {vs : List V} (q : t v σ H fun σ' H' => u vs σ' H' Q) : gCons t u (v :: vs) σ H Q := ⟨v, vs, rfl, q⟩
theorem g_tup {Q : L2.St → Hp → Prop} {n : Nat} {t : TGs} {a : Addr} {xs : List V} (h : H a = some (.tup xs)) (hn : xs.length = n) (q : t xs σ H Q) : gTup K n t (.ref a) σ H Q := ⟨a, xs, rfl, SqT.of h, hn, q⟩
theorem g_sub {Q : L2.St → Hp → Prop} {to ti : TE} {s : TSet} (q : to σ H fun o H1 => ti σ H1 fun i H2 => s o i v H2 fun H3 => Q σ H3) : gSub to ti s v σ H Q := q
theorem seq0 {α : Type} {x : α} {xs : List α} : seqIndex? 0 (x :: xs).length = some 0 := by
  unfold seqIndex?
  rw [List.length_cons]
  simp
theorem g_setLn {Q : Hp → Prop} {p : Addr} {xs : List V} {i : Int} (h : H p = some (.lst xs)) (hi : 0 ≤ i) (hj : Nat.blt i.toNat xs.length = true) (q : Q (upd H p (.lst (xs.set i.toNat v)))) : rSetL (.ref p) (.int i) v H Q := ⟨p, xs, i, i.toNat, rfl, rfl, h, by
  have hj := Nat.blt_eq.mp hj
  unfold ixN
  rw [if_pos hi, if_pos (by omega)], q⟩
theorem g_setL {Q : Hp → Prop} {p : Addr} {xs : List V} {j : Nat} (h : H p = some (.lst xs)) (hj : j < xs.length) (q : Q (upd H p (.lst (xs.set j v)))) : rSetL (.ref p) (.int (j : Int)) v H Q := ⟨p, xs, j, j, rfl, rfl, h, by
  unfold ixN
  rw [if_pos (Int.natCast_nonneg j), if_pos (by omega), Int.toNat_natCast], q⟩
/-! loops -/
theorem l_list (xs : List V) (Pv : Nat → L2.St → Hp → Prop)
    (q : ta σ H fun x H1 => ∃ a, x = .ref a ∧ SqL K H1 a xs ∧ Pv 0 σ H1 ∧ (∀ i σ' H', i ≤ xs.length → Pv i σ' H' → SqL K H' a xs) ∧
      (∀ i x σ' H', xs[i]? = some x → Pv i σ' H' → g x σ' H' fun σ2 H2 => t { D with nx := Pv (i + 1), ct := Pv (i + 1), bk := rest D } σ2 H2) ∧ (∀ σ' H', Pv xs.length σ' H' → rest D σ' H'))
    (mono : ∀ σ H Q Q', (∀ b H1, Q b H1 → Q' b H1) → ta σ H Q → ta σ H Q') : tSeq (tFor (iList K ta) g t) rest D σ H := by
  refine mono σ H _ _ (fun x H1 q => ?_) q
  obtain ⟨a, e, h, h0, hl, hs, hd⟩ := q
  exact ⟨a, e, ⟨_, h⟩, for_list (D := { D with nx := rest D }) Pv h0 hl hs hd⟩
theorem m_var {i : Nat} : ∀ (σ : L2.St) (H : Hp) (Q Q' : VK), (∀ b H1, Q b H1 → Q' b H1) → tVar i σ H Q → tVar i σ H Q' := fun σ H Q Q' h ⟨v, e, q⟩ => ⟨v, e, h _ _ q⟩
/-- for x in a list that stands at a name: l its address -/
theorem l_listV {j : Nat} {a : Addr} (xs : List V) (Pv : Nat → L2.St → Hp → Prop) (hv : σ[j]? = some (some (.ref a))) (h : SqL K H a xs) (h0 : Pv 0 σ H) (hl : ∀ i σ' H', i ≤ xs.length → Pv i σ' H' → SqL K H' a xs)
    (hs : ∀ i x σ' H', xs[i]? = some x → Pv i σ' H' → g x σ' H' fun σ2 H2 => t { D with nx := Pv (i + 1), ct := Pv (i + 1), bk := rest D } σ2 H2) (hd : ∀ σ' H', Pv xs.length σ' H' → rest D σ' H') : tSeq (tFor (iList K (tVar j)) g t) rest D σ H :=
  ⟨_, hv, a, rfl, ⟨_, h⟩, for_list (D := { D with nx := rest D }) Pv h0 hl hs hd⟩
/-- for k in range(n), n what ta gives -/
theorem l_range {A : TA} (n : Nat) (Pv : Nat → L2.St → Hp → Prop)
    (q : A σ H fun vs H1 => ∃ z : Int, vs = [.int z] ∧ z.toNat = n ∧ -(2 ^ 62) ≤ z ∧ z < 2 ^ 62 ∧ Pv 0 σ H1)
    (hs : ∀ i σ' H', i < n → Pv i σ' H' → g (.int (i : Nat)) σ' H' fun σ2 H2 => t { D with nx := Pv (i + 1), ct := Pv (i + 1), bk := rest D } σ2 H2) (hd : ∀ σ' H', Pv n σ' H' → rest D σ' H')
    (mono : ∀ (Q Q' : List V → Hp → Prop), (∀ b H1, Q b H1 → Q' b H1) → A σ H Q → A σ H Q') : tSeq (tFor (iRng1 A) g t) rest D σ H := by
  refine mono _ _ (fun vs H1 q => ?_) q
  obtain ⟨z, e, hz, b1, b2, h0⟩ := q
  refine ⟨z, e, b1, b2, ?_⟩
  rw [hz]
  refine for_range (D := { D with nx := rest D }) Pv h0 (fun i σ' H' hi p => ?_) hd
  have w := hs i σ' H' hi p
  rw [show (0 : Int) + (i : Nat) = (i : Nat) from Int.zero_add _]
  exact w
end
end Q

set_option Elab.async false
set_option linter.all false
set_option maxRecDepth 100000
set_option maxHeartbeats 4000000
namespace Q
open PySem PySem.Spec PyProof.Rows L2
/-! ### defs of the text, called by name -/
/-- a def of the top that keeps its promise -/
def Def (P : Program) (w : World) (K : PySem.W.Frag) (mg : Str → Option Value) (base : Heap) (CX : CXT) (k : Nat) (x : Str) (ps : List Str) (st : Stmt) (sp : Sp) : Prop :=
  ∃ f fd, mg x = some (.ref f) ∧ PySem.W.keepIn K (.ref f) = true ∧ FunD K x x (defArgs st) (defBody st) (defScope st) [] [] f fd ∧ Binds K fd ps [] ∧ FnOk P w K mg base CX k f fd ps sp
/-- what K and the module's names say of a def -/
def HasDef (K : PySem.W.Frag) (mg : Str → Option Value) (x : Str) (st : Stmt) : Prop := ∃ fd, FunD K x x (defArgs st) (defBody st) (defScope st) [] [] (He.ga K x) fd ∧ mg x = some (.ref (He.ga K x))
theorem HasDef.ok {P : Program} {w : World} {K : PySem.W.Frag} {mg : Str → Option Value} {base : Heap} {CX : CXT} {k : Nat} {x : Str} {N ps : List Str} {st : Stmt} {sp : Sp} (T : HasDef K mg x st) (S : FnScope N ps (defScope st)) (len : ∀ vs H Q E, sp vs H Q E → vs.length = ps.length)
    (hb : ∀ (kV doc pm : Value) (an : Option Addr) (cdv ct : Value) (us : List Value), us.length = ps.length → bindArgs (PySem.W.fnOf x x (defArgs st) (defBody st) (defScope st) .none kV doc pm an cdv ct) ⟨us, []⟩ = pure (ps.zip us))
    (hbody : ∀ (f : Addr) (cdv : Value) (A : Around) (outer : List Env) (s : Shared) (H : Hp) (vs : List V) (Q : VK) (E : XK), Room k (A.deeper (envOfC x (defScope st) s.heap.objs.size f cdv)) → sp vs H Q E →
      ∃ t, PSs (cxOf CX P w K mg base N x (defScope st) f cdv A outer s H E) (defBody st) t ∧ t { nx := fun _ H' => Q .non H', rt := Q } (start N vs) H) : Def P w K mg base CX (k + 1) x ps st sp := by
  obtain ⟨fd, F, hm⟩ := T
  exact ⟨_, fd, hm, F.kp, F, F.bindsN hb, F.ok S len (hbody _)⟩
/-- a def of which nothing is promised -/
theorem HasDef.none {P : Program} {w : World} {K : PySem.W.Frag} {mg : Str → Option Value} {base : Heap} {CX : CXT} {x : Str} {N ps : List Str} {st : Stmt} (T : HasDef K mg x st) (S : FnScope N ps (defScope st))
    (hb : ∀ (kV doc pm : Value) (an : Option Addr) (cdv ct : Value) (us : List Value), us.length = ps.length → bindArgs (PySem.W.fnOf x x (defArgs st) (defBody st) (defScope st) .none kV doc pm an cdv ct) ⟨us, []⟩ = pure (ps.zip us)) : Def P w K mg base CX 0 x ps st (fun _ _ _ _ => False) := by
  obtain ⟨fd, F, hm⟩ := T
  exact ⟨_, fd, hm, F.kp, F, F.bindsN hb, ⟨fun _ _ _ _ h => h.elim, fun _ _ _ _ _ _ _ _ _ _ _ _ _ h => h.elim⟩⟩
section
variable {X : Cx} {CX : CXT} {k : Nat} {ps ks : List Str} {sp : Sp} {st : Stmt} {E : XK} {x : Str} {p pos : Pos} {e : Expr} {es : List Expr} {kws : List Keyword} {t tk : TA}
theorem pe_callD (F : Def X.prog X.w X.K X.mg X.base CX k x ps st sp) (hr : Room k X.A) (hg : Gl X x) (hx : Passes CX X E)
    (ha : PA X (e :: es) t) (hdb : (x == ("__debug__" : Str)) = false := by decide) (he : starEach (e :: es) X.env = (false, eval e X.env) :: starEach es X.env := by rfl) (hpl : (backTo pos (starEach es X.env)).any (·.1) = false := by rfl) :
    PE X (.Call (.Name x p) (e :: es) [] pos) (tCall sp [] E t) := by
  obtain ⟨f, fd, hm, kp, _, hb, G⟩ := F
  exact pe_call G hr hg hm kp hb .nil hx ha hdb he hpl
theorem pe_callD0 (F : Def X.prog X.w X.K X.mg X.base CX k x ps st sp) (hr : Room k X.A) (hg : Gl X x) (hx : Passes CX X E) (hdb : (x == ("__debug__" : Str)) = false := by decide) :
    PE X (.Call (.Name x p) [] [] pos) (tCall sp [] E tNil) := by
  obtain ⟨f, fd, hm, kp, _, hb, G⟩ := F
  exact pe_call0 G hr hg hm kp hb .nil hx hdb
/-- the values by places -/
def pick {α : Type} (is : List Nat) (zs : List α) : List α := is.filterMap fun i => zs[i]?
theorem pick_rel {vs : List V} {us : List Value} (r : Vals vs us) : ∀ is : List Nat, Vals (pick is vs) (pick is us)
  | [] => .nil
  | i :: is => by
    unfold pick
    cases e : vs[i]? with
    | none =>
      rw [List.filterMap_cons, List.filterMap_cons, e, r.none_of e]
      exact pick_rel r is
    | some v =>
      obtain ⟨u, hu, ru⟩ := r.get e
      rw [List.filterMap_cons, List.filterMap_cons, e, hu]
      exact .cons ru (pick_rel r is)
/-- f(a = e, ..): every argument by name; is: for each parameter the place among the written ones -/
def tKw (is : List Nat) (sp : Sp) (E : XK) (tk : TA) : TE := fun σ H Q => tk σ H fun zs H2 => zs.length = is.length ∧ sp (pick is zs) H2 Q E
theorem w_kw {is : List Nat} {sp : Sp} {E : XK} {tk : TA} {σ : L2.St} {H : Hp} {Q : VK} (q : tk σ H fun zs H2 => zs.length = is.length ∧ sp (pick is zs) H2 Q E) : tKw is sp E tk σ H Q := q
theorem pe_kwD {is : List Nat} (F : Def X.prog X.w X.K X.mg X.base CX k x ps st sp) (hr : Room k X.A) (hg : Gl X x) (hx : Passes CX X E)
    (hb : ∀ (kV doc pm : Value) (an : Option Addr) (cdv ct : Value) (ws : List Value), ws.length = is.length → bindArgs (PySem.W.fnOf x x (defArgs st) (defBody st) (defScope st) .none kV doc pm an cdv ct) ⟨[], ks.zip ws⟩ = pure (ps.zip (pick is ws)))
    (hkw : PK X kws tk) (hall : (backToKw pos (keywordEach kws X.env)).all (·.1.isSome) = true := by rfl) (hks : (backToKw pos (keywordEach kws X.env)).filterMap (·.1) = ks := by rfl)
    (hdb : (x == ("__debug__" : Str)) = false := by decide)
    (hpl : ((backTo pos (starEach [] X.env)).any (·.1) || (backToKw pos (keywordEach kws X.env)).any (·.1.isNone)) = false := by rfl) :
    PE X (.Call (.Name x p) [] kws pos) (tKw is sp E tk) := by
  obtain ⟨f, fd, hm, kp, FD, _, F⟩ := F
  refine ⟨fun pins s σ H Q I h => ?_⟩
  refine wpAny_Call_Name_kw (ld_glob I hg hm ?_ hdb)
  refine PySem.W.callWith_KW0 (h₀ := X.base) I.ok.mod.kin kp hall (thn (hkw.run pos pins s σ H _ I h) fun ws s1 ⟨zs, H1, I1, r, l1, q⟩ => ⟨I1.kIn, ?_⟩) hpl
  rw [hks]
  have l2 : ws.length = is.length := r.length.symm.trans l1
  have bt : BindsTo s1 fd ⟨[], ks.zip ws⟩ (ps.zip (pick is ws)) := by
    obtain ⟨oc, od, dV, kV, doc, pm, an, cdv, ct, osl, rfl, lk, hcd, hD, hK⟩ := FD.ex
    rcases hD with ⟨_, rfl⟩ | ⟨e, _⟩
    · exact .of_eq (hb kV doc pm an cdv ct ws l2)
    · exact absurd rfl e
  show wpAny (model X.prog X.w) X.A (call (.ref f) [] (ks.zip ws)) _ _ _
  refine wpAny_call (codeAny_mono (F.run X.A X.stack s1 H1 ⟨[], ks.zip ws⟩ (pick is ws) (pick is zs) Q E hr I1.env0 bt (pick_rel r is) q) fun r s' hq => ?_)
  cases r with
  | error e => exact hx pins σ H1 s1 e s' I1 hq
  | ok fl =>
    cases fl with
    | ret u => exact I1.after hq
    | next => exact False.elim hq
    | brk => exact False.elim hq
    | cont => exact False.elim hq
end
/-- a module's constant text, a constant int -/
def HasStr (mg : Str → Option Value) (x z : Str) : Prop := ∃ t, mg x = some (.str z t)
def HasInt (mg : Str → Option Value) (x : Str) (i : Int) : Prop := ∃ t, mg x = some (.int i t)
section
variable {X : Cx} {x z : Str} {i : Int} {pos : Pos}
theorem pe_gstr (h : HasStr X.mg x z) (hg : Gl X x) (hd : (x == ("__debug__" : Str)) = false := by decide) : PE X (.Name x pos) (tC (.str z)) := by
  obtain ⟨t, h⟩ := h
  exact pe_glob hg h ⟨t, rfl⟩ hd
theorem pe_gint (h : HasInt X.mg x i) (hg : Gl X x) (hd : (x == ("__debug__" : Str)) = false := by decide) : PE X (.Name x pos) (tC (.int i)) := by
  obtain ⟨t, h⟩ := h
  exact pe_glob hg h ⟨t, rfl⟩ hd
end
/-- the law's def, from its promise -/
theorem law_of {P : Program} {w : World} {K : PySem.W.Frag} {mg : Str → Option Value} {base : Heap} {CX : CXT} {k : Nat} {x : Str} {p : Str} {st : Stmt} {sp : Sp} {f : Addr} (F : Def P w K mg base CX k x [p] st sp) (hf : mg x = some (.ref f)) :
    ∃ fd, FunD K x x (defArgs st) (defBody st) (defScope st) [] [] f fd ∧ FnOk P w K mg base CX k f fd [p] sp := by
  obtain ⟨g, fd, hm, kp, FD, hb, G⟩ := F
  obtain rfl : g = f := by
    have e := hm.symm.trans hf
    cases e
    rfl
  exact ⟨fd, FD, G⟩
end Q

set_option Elab.async false
set_option linter.all false
set_option maxRecDepth 100000
set_option maxHeartbeats 4000000
namespace Q
open PySem PySem.Spec PyProof.Rows L2
/-! ### loops and comprehensions over any walk -/
/-- a for's loop over J, then k -/
def FF (g : TG) (t : TS) (D : Ends) (k : L2.St → Hp → Prop) (σ : L2.St) (J : It) (H : Hp) : Prop := ∃ W : Nat → Nat → L2.St → Hp → Prop, (∃ m, W 0 m σ H) ∧ ∀ i m σ H, W i m σ H →
  (J.stop i H ∧ k σ H) ∨ (J.go i H ∧ ∃ N : L2.St → Hp → Prop, (∀ σ' H', N σ' H' → ∃ m', m' < m ∧ W (i + 1) m' σ' H') ∧ ∀ x H', J.yld i H x H' → g x σ H' fun σ2 H2 => t { D with nx := N, ct := N, bk := k } σ2 H2)
/-- a comprehension's loop over J, the new list at Dl -/
def CC (g : TG) (tt : TT) (te : TE) (vs : List Nat) (σ : L2.St) (Q : VK) (J : It) (Dl : Addr) (H1 : Hp) : Prop := ∃ W : Nat → Nat → Hp → Prop, (∃ m, W 0 m (upd H1 Dl (.lst []))) ∧ ∀ i m H, W i m H →
  (J.stop i H ∧ Q (.ref Dl) H) ∨ (J.go i H ∧ ∃ Nx : Hp → Prop, (∀ H', Nx H' → ∃ m', m' < m ∧ W (i + 1) m' H') ∧ ∀ x H', J.yld i H x H' → g x (wipe σ vs) H' fun σ2 H2 => wipe σ2 vs = wipe σ vs ∧ tt σ2 H2 fun b H3 =>
    if b = true then te σ2 H3 fun y H4 => ∃ acc, H4 Dl = some (.lst acc) ∧ acc.length < sizeLine ∧ Nx (upd H4 Dl (.lst (acc ++ [y]))) else Nx H3)
section
variable {σ : L2.St} {H H1 : Hp} {D : Ends} {g : TG} {t rest : TS} {tt : TT} {te ta : TE} {A : TA} {vs : List Nat} {wi : TI} {K : PySem.W.Frag} {k : L2.St → Hp → Prop} {J : It} {n : Nat} {Q : VK} {R : It → Hp → Prop} {c : TT}
theorem z_for (q : wi σ H fun J H1 => FF g t D (rest D) σ J H1) : tSeq (tFor wi g t) rest D σ H := q
theorem z_for1 (q : wi σ H fun J H1 => FF g t D D.nx σ J H1) : tFor wi g t D σ H := q
theorem w_lc (q : wi σ H fun J H1 => ∀ Dl, H1 Dl = none → CC g tt te vs σ Q J Dl H1) : tLc wi g tt te vs σ H Q := q
theorem w_ilist (q : ta σ H fun x H1 => ∃ a, x = .ref a ∧ (∃ xs, SqL K H1 a xs) ∧ R (Itl K a) H1) : iList K ta σ H R := q
theorem w_itup (q : ta σ H fun x H1 => ∃ a, x = .ref a ∧ (∃ xs, SqT K H1 a xs) ∧ R (Itt K a) H1) : iTup K ta σ H R := q
theorem w_irng1 (q : A σ H fun vs H1 => ∃ j : Int, vs = [.int j] ∧ -(2 ^ 62) ≤ j ∧ j < 2 ^ 62 ∧ R (Itr 0 j.toNat) H1) : iRng1 A σ H R := q
theorem w_irng2 (q : A σ H fun vs H1 => ∃ i j : Int, vs = [.int i, .int j] ∧ (-(2 ^ 62) ≤ i ∧ i < 2 ^ 62 ∧ -(2 ^ 62) ≤ j ∧ j < 2 ^ 62) ∧ R (Itr i (j - i).toNat) H1) : iRng2 A σ H R := q
theorem w_istr (q : ta σ H fun v H1 => ∃ x, v = .str x ∧ R (Its x) H1) : iStr ta σ H R := q
theorem w_ienum (q : A σ H fun vs H1 => ∃ a xs, vs = [.ref a] ∧ SqL K H1 a xs ∧ R (Ite K a) H1) : iEnum K A σ H R := q
theorem w_izip (q : A σ H fun vs H1 => ∃ a b xs ys, vs = [.ref a, .ref b] ∧ SqL K H1 a xs ∧ SqL K H1 b ys ∧ R (Itz K a b) H1) : iZip K A σ H R := q
theorem f_it {G : Hp → Prop} {Y : Nat → Hp → V → Hp → Prop} (w : Walk J n G Y) (Pv : Nat → L2.St → Hp → Prop) (h0 : Pv 0 σ H) (hG : ∀ i σ H, i ≤ n → Pv i σ H → G H)
    (hs : ∀ i x σ H H', i < n → Pv i σ H → Y i H x H' → g x σ H' fun σ2 H2 => t { D with nx := Pv (i + 1), ct := Pv (i + 1), bk := k } σ2 H2) (hd : ∀ σ H, Pv n σ H → k σ H) : FF g t D k σ J H :=
  for_it w (D := { D with nx := k }) Pv h0 hG hs hd
theorem c_it {Dl : Addr} {G : Hp → Prop} {Y : Nat → Hp → V → Hp → Prop} (w : Walk J n G Y) (Pv : Nat → Hp → Prop) (h0 : Pv 0 (upd H1 Dl (.lst []))) (hG : ∀ i H, i ≤ n → Pv i H → G H)
    (hs : ∀ i x H H', i < n → Pv i H → Y i H x H' → g x (wipe σ vs) H' fun σ2 H2 => wipe σ2 vs = wipe σ vs ∧ tt σ2 H2 fun b H3 =>
      if b = true then te σ2 H3 fun y H4 => ∃ acc, H4 Dl = some (.lst acc) ∧ acc.length < sizeLine ∧ Pv (i + 1) (upd H4 Dl (.lst (acc ++ [y]))) else Pv (i + 1) H3) (hd : ∀ H, Pv n H → Q (.ref Dl) H) : CC g tt te vs σ Q J Dl H1 :=
  lc_it w Pv h0 hG hs hd
/-- over a list: the items are the xs -/
theorem f_list {a : Addr} (xs : List V) (Pv : Nat → L2.St → Hp → Prop) (h0 : Pv 0 σ H) (hG : ∀ i σ H, i ≤ xs.length → Pv i σ H → SqL K H a xs)
    (hs : ∀ i x σ H, xs[i]? = some x → Pv i σ H → g x σ H fun σ2 H2 => t { D with nx := Pv (i + 1), ct := Pv (i + 1), bk := k } σ2 H2) (hd : ∀ σ H, Pv xs.length σ H → k σ H) : FF g t D k σ (Itl K a) H :=
  f_it walk_list Pv h0 hG (fun i x σ H H' hi p y => by
    obtain ⟨e, y⟩ := y
    subst e
    exact hs i x σ _ y p) hd
theorem f_tup {a : Addr} (xs : List V) (Pv : Nat → L2.St → Hp → Prop) (h0 : Pv 0 σ H) (hG : ∀ i σ H, i ≤ xs.length → Pv i σ H → SqT K H a xs)
    (hs : ∀ i x σ H, xs[i]? = some x → Pv i σ H → g x σ H fun σ2 H2 => t { D with nx := Pv (i + 1), ct := Pv (i + 1), bk := k } σ2 H2) (hd : ∀ σ H, Pv xs.length σ H → k σ H) : FF g t D k σ (Itt K a) H :=
  f_it walk_tup Pv h0 hG (fun i x σ H H' hi p y => by
    obtain ⟨e, y⟩ := y
    subst e
    exact hs i x σ _ y p) hd
/-- for i in range(z): i the turn -/
theorem f_rng {z : Int} (Pv : Nat → L2.St → Hp → Prop) (h0 : Pv 0 σ H)
    (hs : ∀ i σ H, i < z.toNat → Pv i σ H → g (.int (i : Int)) σ H fun σ2 H2 => t { D with nx := Pv (i + 1), ct := Pv (i + 1), bk := k } σ2 H2) (hd : ∀ σ H, Pv z.toNat σ H → k σ H) : FF g t D k σ (Itr 0 z.toNat) H :=
  f_it walk_range Pv h0 (fun _ _ _ _ _ => True.intro) (fun i x σ H H' hi p y => by
    obtain ⟨e, y⟩ := y
    subst e
    have e : x = V.int (i : Int) := y.trans (congrArg V.int (Int.zero_add _))
    rw [e]
    exact hs i σ _ hi p) hd
theorem f_rng2 {lo hi : Int} (Pv : Nat → L2.St → Hp → Prop) (h0 : Pv 0 σ H)
    (hs : ∀ i σ H, i < (hi - lo).toNat → Pv i σ H → g (.int (lo + (i : Nat))) σ H fun σ2 H2 => t { D with nx := Pv (i + 1), ct := Pv (i + 1), bk := k } σ2 H2) (hd : ∀ σ H, Pv (hi - lo).toNat σ H → k σ H) : FF g t D k σ (Itr lo (hi - lo).toNat) H :=
  f_it walk_range Pv h0 (fun _ _ _ _ _ => True.intro) (fun i x σ H H' hi p y => by
    obtain ⟨e, y⟩ := y
    subst e
    rw [y]
    exact hs i σ _ hi p) hd
theorem f_str {z : Str} (Pv : Nat → L2.St → Hp → Prop) (h0 : Pv 0 σ H)
    (hs : ∀ i c σ H, z.cps.toList[i]? = some c → Pv i σ H → g (.str ⟨#[c]⟩) σ H fun σ2 H2 => t { D with nx := Pv (i + 1), ct := Pv (i + 1), bk := k } σ2 H2) (hd : ∀ σ H, Pv z.cps.toList.length σ H → k σ H) : FF g t D k σ (Its z) H :=
  f_it walk_str Pv h0 (fun _ _ _ _ _ => True.intro) (fun i x σ H H' hi p y => by
    obtain ⟨e, c, hc, y⟩ := y
    subst e
    rw [y]
    exact hs i c σ _ (by rw [Array.getElem?_toList]; exact hc) p) (fun σ H p => hd σ H (by rw [Array.length_toList]; exact p))
theorem c_list {a Dl : Addr} (xs : List V) (Pv : Nat → Hp → Prop) (h0 : Pv 0 (upd H1 Dl (.lst []))) (hG : ∀ i H, i ≤ xs.length → Pv i H → SqL K H a xs)
    (hs : ∀ i x H, xs[i]? = some x → Pv i H → g x (wipe σ vs) H fun σ2 H2 => wipe σ2 vs = wipe σ vs ∧ tt σ2 H2 fun b H3 =>
      if b = true then te σ2 H3 fun y H4 => ∃ acc, H4 Dl = some (.lst acc) ∧ acc.length < sizeLine ∧ Pv (i + 1) (upd H4 Dl (.lst (acc ++ [y]))) else Pv (i + 1) H3) (hd : ∀ H, Pv xs.length H → Q (.ref Dl) H) : CC g tt te vs σ Q (Itl K a) Dl H1 :=
  c_it walk_list Pv h0 hG (fun i x H H' hi p y => by
    obtain ⟨e, y⟩ := y
    subst e
    exact hs i x _ y p) hd
theorem c_rng {z : Int} {Dl : Addr} (Pv : Nat → Hp → Prop) (h0 : Pv 0 (upd H1 Dl (.lst [])))
    (hs : ∀ (i : Nat) H, i < z.toNat → Pv i H → g (.int (i : Int)) (wipe σ vs) H fun σ2 H2 => wipe σ2 vs = wipe σ vs ∧ tt σ2 H2 fun b H3 =>
      if b = true then te σ2 H3 fun y H4 => ∃ acc, H4 Dl = some (.lst acc) ∧ acc.length < sizeLine ∧ Pv (i + 1) (upd H4 Dl (.lst (acc ++ [y]))) else Pv (i + 1) H3) (hd : ∀ H, Pv z.toNat H → Q (.ref Dl) H) : CC g tt te vs σ Q (Itr 0 z.toNat) Dl H1 :=
  c_it walk_range Pv h0 (fun _ _ _ _ => True.intro) (fun i x H H' hi p y => by
    obtain ⟨e, y⟩ := y
    subst e
    have e : x = V.int (i : Int) := y.trans (congrArg V.int (Int.zero_add _))
    rw [e]
    exact hs i _ hi p) hd
theorem c_str {z : Str} {Dl : Addr} (Pv : Nat → Hp → Prop) (h0 : Pv 0 (upd H1 Dl (.lst [])))
    (hs : ∀ i c H, z.cps.toList[i]? = some c → Pv i H → g (.str ⟨#[c]⟩) (wipe σ vs) H fun σ2 H2 => wipe σ2 vs = wipe σ vs ∧ tt σ2 H2 fun b H3 =>
      if b = true then te σ2 H3 fun y H4 => ∃ acc, H4 Dl = some (.lst acc) ∧ acc.length < sizeLine ∧ Pv (i + 1) (upd H4 Dl (.lst (acc ++ [y]))) else Pv (i + 1) H3) (hd : ∀ H, Pv z.cps.toList.length H → Q (.ref Dl) H) : CC g tt te vs σ Q (Its z) Dl H1 :=
  c_it walk_str Pv h0 (fun _ _ _ _ => True.intro) (fun i x H H' hi p y => by
    obtain ⟨e, c, hc, y⟩ := y
    subst e
    rw [y]
    exact hs i c _ (by rw [Array.getElem?_toList]; exact hc) p) (fun H p => hd H (by rw [Array.length_toList]; exact p))
/-- a while: W by its measure, Mid what holds behind it -/
theorem l_while (W : Nat → L2.St → Hp → Prop) (Mid : L2.St → Hp → Prop) (m0 : Nat) (h0 : W m0 σ H)
    (hs : ∀ Ex : L2.St → Hp → Prop, (∀ σ' H', Mid σ' H' → Ex σ' H') → ∀ m σ H, W m σ H → c σ H fun b H1 => if b = true then ∃ N : L2.St → Hp → Prop, (∀ σ' H', N σ' H' → ∃ m', m' < m ∧ W m' σ' H') ∧ t { D with nx := N, ct := N, bk := Ex } σ H1 else Ex σ H1)
    (hd : ∀ σ H, Mid σ H → rest D σ H) : tSeq (tWhile c t) rest D σ H :=
  ⟨W, ⟨m0, h0⟩, hs (rest D) hd⟩
end
section
variable {σ : L2.St} {H : Hp} {g : TG} {tt : TT} {te : TE} {vs : List Nat} {Q : VK} {K : PySem.W.Frag} {a Dl : Addr}
/-- [e for x in xs], the element pure and flat: a new list -/
theorem c_pure {J : It} {n : Nat} {Y : Nat → Hp → V → Hp → Prop} {G : Hp → Prop} {j : Nat} (w : Walk J n G Y) (xs ys : List V) (hn : n = ys.length) (hz : ys.length ≤ sizeLine) (hDl : H Dl = none) (hY : ∀ i H x H', i < n → Y i H x H' → H' = H ∧ xs[i]? = some x) (hG : ∀ H', Same H H' → G H')
    (hw : ∀ x, wipe ((wipe σ vs).set j (some x)) vs = wipe σ vs)
    (he : ∀ (i : Nat) (x y : V) (H' : Hp) (Q' : VK), xs[i]? = some x → ys[i]? = some y → Same H H' → (∀ H'', Same H' H'' → Q' y H'') → te ((wipe σ vs).set j (some x)) H' Q')
    (hq : ∀ H', Same H H' → H' Dl = some (.lst ys) → Q (.ref Dl) H') : CC (gName j) tYes te vs σ Q J Dl H := by
  refine c_it w (fun i H' => Same H H' ∧ H' Dl = some (.lst (ys.take i))) ⟨Same.new hDl, by rw [upd_same, List.take_zero]⟩ (fun i H' _ p => hG H' p.1) (fun i x H1 H2 hi p y => ?_) (fun H' p => hq H' p.1 (by rw [p.2, hn, List.take_length]))
  obtain ⟨rfl, hx⟩ := hY i H1 x H2 hi y
  obtain ⟨p1, p2⟩ := p
  have hi2 : i < ys.length := by omega
  refine ⟨hw x, ?_⟩
  refine w_yes (iteT ?_)
  refine he i x ys[i] _ _ hx (List.getElem?_eq_getElem hi2) p1 fun H4 e4 => ⟨_, e4 _ _ p2, ?_, ?_, ?_⟩
  · rw [List.length_take]
    omega
  · exact Same.mut (p1.trans e4) hDl
  · rw [upd_same, List.take_add_one, List.getElem?_eq_getElem hi2]
    rfl
/-- the same over a list, typed -/
theorem c_pureL {α : Type} {j : Nat} (ns : List α) (f g : α → V) (hz : ns.length ≤ sizeLine) (hDl : H Dl = none) (hS : SqL K H a (ns.map f)) (hw : ∀ x, wipe ((wipe σ vs).set j (some x)) vs = wipe σ vs)
    (he : ∀ (y : α) (H' : Hp) (Q' : VK), y ∈ ns → Same H H' → (∀ H'', Same H' H'' → Q' (g y) H'') → te ((wipe σ vs).set j (some (f y))) H' Q')
    (hq : ∀ H', Same H H' → H' Dl = some (.lst (ns.map g)) → Q (.ref Dl) H') : CC (gName j) tYes te vs σ Q (Itl K a) Dl H := by
  refine c_pure walk_list (ns.map f) (ns.map g) (by rw [List.length_map, List.length_map]) (by rw [List.length_map]; exact hz) hDl (fun i H x H' _ y => y) (fun H' e => e.seq hS) hw (fun i x y H' Q' hx hy e q => ?_) hq
  rw [List.getElem?_map] at hx hy
  cases hn : ns[i]? with
  | none => rw [hn] at hx; cases hx
  | some z =>
    rw [hn] at hx hy
    cases hx
    cases hy
    exact he z H' Q' (List.mem_of_getElem? hn) e q
/-- over a text, sign by sign -/
theorem c_pureS {j : Nat} {z : Str} (g : Nat → V) (hz : z.length ≤ sizeLine) (hDl : H Dl = none) (hw : ∀ x, wipe ((wipe σ vs).set j (some x)) vs = wipe σ vs)
    (he : ∀ (c : Nat) (H' : Hp) (Q' : VK), c ∈ TL.tl z → Same H H' → (∀ H'', Same H' H'' → Q' (g c) H'') → te ((wipe σ vs).set j (some (.str ⟨#[c]⟩))) H' Q')
    (hq : ∀ H', Same H H' → H' Dl = some (.lst ((TL.tl z).map g)) → Q (.ref Dl) H') : CC (gName j) tYes te vs σ Q (Its z) Dl H := by
  refine c_pure walk_str ((TL.tl z).map fun c => V.str ⟨#[c]⟩) ((TL.tl z).map g) (by rw [List.length_map]; exact (Array.length_toList).symm) (by rw [List.length_map, ← TL.len_tl]; exact hz) hDl (fun i H1 x H2 _ y => ?_) (fun _ _ => True.intro) hw (fun i x y H' Q' hx hy e q => ?_) hq
  · obtain ⟨e, c, hc, rfl⟩ := y
    refine ⟨e, ?_⟩
    rw [List.getElem?_map, show (TL.tl z)[i]? = some c by rw [← hc]; exact Array.getElem?_toList]
    rfl
  · rw [List.getElem?_map] at hx hy
    cases hn : (TL.tl z)[i]? with
    | none => rw [hn] at hx; cases hx
    | some c =>
      rw [hn] at hx hy
      cases hx
      cases hy
      exact he c H' Q' (List.mem_of_getElem? hn) e q
end
end Q

set_option Elab.async false
set_option linter.all false
set_option maxRecDepth 100000
set_option maxHeartbeats 4000000
namespace Q
open PySem PySem.Spec PyProof.Rows L2
/-! ### data that may be compared -/
/-- of depth at most n, its texts well-formed, its lists of 100,000 items at most -/
def Sh : Nat → PyData → Prop
  | _, .none => True
  | _, .bool _ => True
  | _, .int _ => True
  | _, .str x => PyData.strOk x = true
  | 0, .list _ => False
  | 0, .tuple _ => False
  | n + 1, .list ds => ds.length ≤ 100000 ∧ ∀ d ∈ ds, Sh n d
  | n + 1, .tuple ds => ds.length ≤ 100000 ∧ ∀ d ∈ ds, Sh n d
  | _, .dict _ => False
theorem Sh.int {n : Nat} (i : Int) : Sh n (.int i) := by cases n <;> exact True.intro
theorem Sh.non {n : Nat} : Sh n .none := by cases n <;> exact True.intro
theorem Sh.bl {n : Nat} (b : Bool) : Sh n (.bool b) := by cases n <;> exact True.intro
theorem Sh.str {n : Nat} {x : Str} (h : PyData.strOk x = true) : Sh n (.str x) := by cases n <;> exact h
theorem Sh.list {n : Nat} {ds : List PyData} (hl : ds.length ≤ 100000) (h : ∀ d ∈ ds, Sh n d) : Sh (n + 1) (.list ds) := ⟨hl, h⟩
theorem Sh.tuple {n : Nat} {ds : List PyData} (hl : ds.length ≤ 100000) (h : ∀ d ∈ ds, Sh n d) : Sh (n + 1) (.tuple ds) := ⟨hl, h⟩
theorem lay_all {n : Nat} : ∀ {ds : List PyData}, (∀ d ∈ ds, d.canLay0 = true ∧ d.depth ≤ n) → PyData.canLayAll0 ds = true ∧ PyData.depthAll ds ≤ n
  | [], _ => ⟨by simp only [PyData.canLayAll0], by simp only [PyData.depthAll]; omega⟩
  | d :: ds, h => by
    have h1 := h d List.mem_cons_self
    have h2 := lay_all fun e m => h e (List.mem_cons_of_mem _ m)
    simp only [PyData.canLayAll0, PyData.depthAll]
    exact ⟨by rw [h1.1, h2.1]; rfl, Nat.max_le.mpr ⟨h1.2, h2.2⟩⟩
theorem Sh.lay : ∀ {n : Nat} {d : PyData}, Sh n d → d.canLay0 = true ∧ d.depth ≤ n
  | n, .none, _ => ⟨by simp only [PyData.canLay0], by simp only [PyData.depth]; omega⟩
  | n, .bool _, _ => ⟨by simp only [PyData.canLay0], by simp only [PyData.depth]; omega⟩
  | n, .int _, _ => ⟨by simp only [PyData.canLay0], by simp only [PyData.depth]; omega⟩
  | 0, .str x, h => ⟨by simp only [PyData.canLay0]; exact h, by simp only [PyData.depth]; omega⟩
  | n + 1, .str x, h => ⟨by simp only [PyData.canLay0]; exact h, by simp only [PyData.depth]; omega⟩
  | 0, .list _, h => h.elim
  | 0, .tuple _, h => h.elim
  | n + 1, .list ds, h => by
    have q := lay_all fun d m => Sh.lay (h.2 d m)
    exact ⟨by simp only [PyData.canLay0]; exact q.1, by simp only [PyData.depth]; omega⟩
  | n + 1, .tuple ds, h => by
    have q := lay_all fun d m => Sh.lay (h.2 d m)
    exact ⟨by simp only [PyData.canLay0]; exact q.1, by simp only [PyData.depth]; omega⟩
  | 0, .dict _, h => h.elim
  | n + 1, .dict _, h => h.elim
theorem Sh.shaped {n : Nat} {d : PyData} (h : Sh n d) (hn : n ≤ 64) : SeqAt.shaped d = true := by
  unfold SeqAt.shaped
  rw [h.lay.1, Bool.true_and]
  exact decide_eq_true (Nat.le_trans h.lay.2 hn)
theorem Sh.mono : ∀ {n m : Nat} {d : PyData}, Sh n d → n ≤ m → Sh m d
  | _, _, .none, _, _ => Sh.non
  | _, _, .bool b, _, _ => Sh.bl b
  | _, _, .int i, _, _ => Sh.int i
  | 0, _, .str x, h, _ => Sh.str h
  | n + 1, _, .str x, h, _ => Sh.str h
  | 0, _, .list _, h, _ => h.elim
  | 0, _, .tuple _, h, _ => h.elim
  | n + 1, 0, .list _, _, e => by omega
  | n + 1, 0, .tuple _, _, e => by omega
  | n + 1, m + 1, .list ds, h, e => ⟨h.1, fun d q => Sh.mono (h.2 d q) (by omega)⟩
  | n + 1, m + 1, .tuple ds, h, e => ⟨h.1, fun d q => Sh.mono (h.2 d q) (by omega)⟩
  | 0, _, .dict _, h, _ => h.elim
  | n + 1, _, .dict _, h, _ => h.elim
theorem Sh.ints {n : Nat} {ns : List Int} (hl : ns.length ≤ 100000) : Sh (n + 1) (.list (ns.map PyData.int)) := Sh.list (by rw [List.length_map]; exact hl) fun d m => by
  obtain ⟨i, _, e⟩ := List.mem_map.mp m
  rw [← e]
  exact Sh.int i
theorem Sh.strs {n : Nat} {ns : List Str} (hl : ns.length ≤ 100000) (h : ∀ x ∈ ns, PyData.strOk x = true) : Sh (n + 1) (.list (ns.map PyData.str)) := Sh.list (by rw [List.length_map]; exact hl) fun d m => by
  obtain ⟨i, hi, e⟩ := List.mem_map.mp m
  rw [← e]
  exact Sh.str (h i hi)
theorem Sh.nil {n : Nat} : Sh (n + 1) (.list []) := Sh.list (Nat.zero_le _) fun d m => nomatch m
theorem Sh.eqv {n : Nat} {d : PyData} (h : Sh n d) : PyData.eqv d d = true := SeqAt.eqv_refl d h.lay.1
/-- what == asks of it alone: any length -/
theorem shaped_ints (ns : List Int) : SeqAt.shaped (.list (ns.map PyData.int)) = true := by
  have q := lay_all (n := 0) (ds := ns.map PyData.int) fun d m => by
    obtain ⟨i, _, e⟩ := List.mem_map.mp m
    rw [← e]
    exact (Sh.int (n := 0) i).lay
  unfold SeqAt.shaped
  rw [show (PyData.list (ns.map PyData.int)).canLay0 = true by simp only [PyData.canLay0]; exact q.1, Bool.true_and]
  exact decide_eq_true (by simp only [PyData.depth]; omega)
theorem shaped_nil : SeqAt.shaped (.list []) = true := (Sh.nil (n := 0)).shaped (by decide)
section
variable {H : Hp} {Q : VK} {v x y : V} {K : PySem.W.Frag} {d e : PyData}
theorem o_eqT {n m : Nat} (hx : Dt H x d) (hy : Dt H y e) (sd : Sh n d) (se : Sh m e) (hn : n ≤ 64) (hm : m ≤ 64) (q : Q (.bl (PyData.eqv d e)) H) : rEqD K x y H Q := o_eqD hx.dp hy.dp (sd.shaped hn) (se.shaped hm) q
theorem o_neT {n m : Nat} (hx : Dt H x d) (hy : Dt H y e) (sd : Sh n d) (se : Sh m e) (hn : n ≤ 64) (hm : m ≤ 64) (q : Q (.bl (!PyData.eqv d e)) H) : rNeD K x y H Q := o_neD hx.dp hy.dp (sd.shaped hn) (se.shaped hm) q
/-- xs == [] and xs != [], the items ints -/
theorem eqv_nil (ds : List PyData) : PyData.eqv (.list ds) (.list []) = ds.isEmpty := by
  cases ds <;> simp [PyData.eqv, PyData.eqvAll]
theorem o_neNil {a p : Addr} {ns : List Int} (ha : H a = some (.lst (ns.map V.int))) (hp : H p = some (.lst [])) (q : Q (.bl (!ns.isEmpty)) H) : rNeD K (.ref a) (.ref p) H Q := by
  refine o_neD (Dt.ofInts ha).dp (Dt.lst hp .nil).dp (shaped_ints ns) shaped_nil ?_
  rw [eqv_nil, List.isEmpty_map]
  exact q
theorem o_eqNil {a p : Addr} {ns : List Int} (ha : H a = some (.lst (ns.map V.int))) (hp : H p = some (.lst [])) (q : Q (.bl ns.isEmpty) H) : rEqD K (.ref a) (.ref p) H Q := by
  refine o_eqD (Dt.ofInts ha).dp (Dt.lst hp .nil).dp (shaped_ints ns) shaped_nil ?_
  rw [eqv_nil, List.isEmpty_map]
  exact q
end

/-! ### written powers -/
section
variable {H : Hp} {Q : VK}
theorem p_2_61 (q : Q (.int 2305843009213693952) H) : rPowI (.int 2) (.int 61) H Q := o_pow (by unfold CPow; decide) (by rw [show (2 : Int) ^ (61 : Int).toNat = 2305843009213693952 by decide +kernel]; exact q)
theorem p_10_18 (q : Q (.int 1000000000000000000) H) : rPowI (.int 10) (.int 18) H Q := o_pow (by unfold CPow; decide) (by rw [show (10 : Int) ^ (18 : Int).toNat = 1000000000000000000 by decide +kernel]; exact q)
theorem p_10_15 (q : Q (.int 1000000000000000) H) : rPowI (.int 10) (.int 15) H Q := o_pow (by unfold CPow; decide) (by rw [show (10 : Int) ^ (15 : Int).toNat = 1000000000000000 by decide +kernel]; exact q)
theorem p_10_30 (q : Q (.int 1000000000000000000000000000000) H) : rPowI (.int 10) (.int 30) H Q := o_pow (by unfold CPow; decide) (by rw [show (10 : Int) ^ (30 : Int).toNat = 1000000000000000000000000000000 by decide +kernel]; exact q)
theorem p_10_29 (q : Q (.int 100000000000000000000000000000) H) : rPowI (.int 10) (.int 29) H Q := o_pow (by unfold CPow; decide) (by rw [show (10 : Int) ^ (29 : Int).toNat = 100000000000000000000000000000 by decide +kernel]; exact q)
end
/-! ### texts well-formed -/
theorem strOk_iff {x : Str} : PyData.strOk x = true ↔ ∀ c ∈ TL.tl x, c < 1114112 := by
  unfold PyData.strOk
  rw [← Array.all_toList, List.all_eq_true]
  simp
theorem strOk_join {a : Str} (ha : PyData.strOk a = true) : ∀ {ys : List Str}, (∀ y ∈ ys, PyData.strOk y = true) → PyData.strOk (Txt.join a ys) = true := by
  intro ys h
  rw [strOk_iff, TL.join_eq, TL.tl_join]
  rw [strOk_iff] at ha
  induction ys with
  | nil => exact fun c m => nomatch m
  | cons y r ih =>
    have h1 := strOk_iff.mp (h y List.mem_cons_self)
    have h2 := ih fun z m => h z (List.mem_cons_of_mem _ m)
    cases r with
    | nil => exact h1
    | cons z r =>
      intro c m
      have m : c ∈ TL.tl y ++ (TL.tl a ++ TL.joinL (TL.tl a) ((z :: r).map TL.tl)) := m
      rcases List.mem_append.mp m with m | m
      · exact h1 c m
      · rcases List.mem_append.mp m with m | m
        · exact ha c m
        · exact h2 c m
end Q

set_option Elab.async false
set_option linter.all false
set_option maxRecDepth 100000
set_option maxHeartbeats 4000000
namespace Q
open PySem PySem.Spec PyProof.Rows L2
/-! ### further operators -/
theorem hu65 {k : Nat} {A : Around} (r : Room k A) : A.units + 65 < cLine := by have := r.un; omega
/-- the signs of a text, as texts -/
def signs (z : Str) : List V := (TL.tl z).map fun c => .str ⟨#[c]⟩
/-- list(x), x a text or a list -/
def rListS : RC := fun xs H Q => ∃ z, xs = [.str z] ∧ z.length ≤ 16777216 ∧ ∀ l, H l = none → Q (.ref l) (upd H l (.lst (signs z)))
def rListA (K : PySem.W.Frag) : RC := fun xs H Q => rListS xs H Q ∨ rListL K xs H Q
/-- str(x), x a text or an int -/
def rStrA : RC := fun xs H Q => (∃ i, xs = [.int i] ∧ i.natAbs.log2 < 1920 ∧ Q (.str (toString i)) H) ∨ ∃ a, xs = [.str a] ∧ Q (.str a) H
section
variable {X : Cx}
theorem call_list_sig (hc : X.calm = true) : CallR X (.type "list") rListS := by
  intro pins s σ H xs us Q I r h
  obtain ⟨z, rfl, hz, q⟩ := h
  obtain ⟨u, rfl, t, rfl⟩ := vals1 r
  refine PySem.call_list_str (I.ok.hd hc) z t (fun h' tk acc c' k e hi => ?_) (by rw [sizeLine_eq]; exact hz)
  have hf := I.hok.fresh (Nat.le_refl s.heap.objs.size)
  have hv : Vals (signs z) acc.toList := by
    obtain ⟨h1, h2⟩ := hi
    have hlen : (signs z).length = acc.toList.length := by
      unfold signs
      rw [List.length_map, Array.length_toList, Array.length_toList, h1]
    have go : ∀ (vs : List V) (us : List Value), vs.length = us.length → (∀ (j : Nat) (v : V) (u : Value), vs[j]? = some v → us[j]? = some u → RelV v u) → Vals vs us := by
      intro vs
      induction vs with
      | nil =>
        intro us hl _
        cases us with
        | nil => exact .nil
        | cons u us => simp at hl
      | cons v vs ih =>
        intro us hl hr
        cases us with
        | nil => simp at hl
        | cons u us => exact .cons (hr 0 v u rfl rfl) (ih us (by simpa using hl) fun j v u a b => hr (j + 1) v u a b)
    refine go _ _ hlen fun j v u a b => ?_
    obtain ⟨c, tt, hc, rfl⟩ := h2 j u (by rw [← Array.getElem?_toList]; exact b)
    unfold signs at a
    rw [List.getElem?_map, show (TL.tl z)[j]? = some c by rw [← hc]; exact Array.getElem?_toList] at a
    cases a
    exact ⟨tt, rfl⟩
  refine ⟨.ref s.heap.objs.size, upd H s.heap.objs.size (.lst (signs z)), I.laid (t' := tk) k (Nat.le_refl _) ?_, rfl, q _ hf⟩
  exact ⟨by unfold signs; rw [List.length_map, Array.length_toList, sizeLine_eq]; exact hz, acc.toList, c', hv, by simpa using e⟩
theorem call_list_any (hc : X.calm = true) : CallR X (.type "list") (rListA X.K) := by
  intro pins s σ H xs us Q I r h
  rcases h with h | h
  · exact call_list_sig hc pins s σ H xs us Q I r h
  · exact call_list_of pins s σ H xs us Q I r h
theorem call_str_any : CallR X (.type "str") rStrA := by
  intro pins s σ H xs us Q I r h
  rcases h with h | h
  · exact call_str_int pins s σ H xs us Q I r h
  · exact SkE.call_str_str pins s σ H xs us Q I r h
end
/-- x * n, x a text -/
def repS (x : Str) (n : Int) : Str := ⟨(List.replicate n.toNat (TL.tl x)).flatten.toArray⟩
def rMulS : R2 := fun x y H Q => ∃ z n, x = .str z ∧ y = .int n ∧ -1000000000 ≤ n ∧ n ≤ 1000000000 ∧ z.length * n.toNat ≤ 16777216 ∧ Q (.str (repS z n)) H
theorem flat_nils {α : Type} : ∀ k : Nat, (List.replicate k ([] : List α)).flatten = []
  | 0 => rfl
  | k + 1 => flat_nils k
theorem op_mulS {X : Cx} : OpR X (binaryOp .Mult) rMulS := by
  intro pins s σ H x y v u Q I rx ry h
  obtain ⟨z, n, rfl, rfl, h1, h2, hz, q⟩ := h
  obtain ⟨t, rfl⟩ := rx
  obtain ⟨t', rfl⟩ := ry
  have hlen : (repS z n).length = n.toNat * z.length := by
    rw [TL.len_tl, TL.len_tl]
    show ((List.replicate n.toNat (TL.tl z)).flatten).length = _
    rw [List.length_flatten, List.map_replicate, List.sum_replicate_nat]
  refine PySem.P.mul_str ?_ (fun hn _ => ?_) (fun _ _ => ?_) ?_
  · rw [decide_eq_false (show ¬ n < -(2 ^ 63 : Int) by omega), decide_eq_false (show ¬ n ≥ (2 ^ 63 : Int) by omega)]
    rfl
  · have e : ((n.toNat : Nat) : Int) = n := Int.toNat_of_nonneg (by omega)
    have e2 : (z.length : Int) * n ≤ 16777216 := by
      have e3 : ((z.length * n.toNat : Nat) : Int) ≤ ((16777216 : Nat) : Int) := Int.ofNat_le.mpr hz
      rw [Int.natCast_mul, e] at e3
      exact e3
    have : (z.length : Int) ≤ (2 ^ 63 - 1) / n := Int.le_ediv_of_mul_le (by omega) (by omega)
    omega
  · unfold PySem.Builtin.Str.tooLong sizeLine
    exact decide_eq_false (by omega)
  · by_cases hn : n < 1
    · rw [if_pos hn]
      have e : repS z n = Str.empty := by
        unfold repS
        rw [show n.toNat = 0 by omega]
        rfl
      rw [e] at q
      exact ⟨by decide, .str Str.empty, H, I.tok _, ⟨_, rfl⟩, q⟩
    · rw [if_neg hn]
      by_cases h3 : (n == 1 || z.length == 0) = true
      · rw [if_pos h3]
        have e : repS z n = z := by
          refine TL.ext_tl ?_
          show (List.replicate n.toNat (TL.tl z)).flatten = TL.tl z
          rcases Bool.or_eq_true_iff.mp h3 with h4 | h4
          · rw [show n.toNat = 1 by have := beq_iff_eq.mp h4; omega]
            simp
          · have h5 : TL.tl z = [] := by
              have := beq_iff_eq.mp h4
              rw [TL.len_tl] at this
              exact List.length_eq_zero_iff.mp this
            rw [h5, flat_nils]
        rw [e] at q
        exact ⟨.str z, H, I, ⟨_, rfl⟩, q⟩
      · rw [if_neg h3]
        have e : (⟨(List.replicate n.toNat z.cps).foldl (· ++ ·) #[]⟩ : Str) = repS z n := by
          unfold repS
          congr 1
          have go : ∀ (k : Nat) (acc : List Nat), (List.replicate k z.cps).foldl (· ++ ·) acc.toArray = (acc ++ (List.replicate k (TL.tl z)).flatten).toArray := by
            intro k
            induction k with
            | zero => intro acc; simp
            | succ k ih =>
              intro acc
              rw [List.replicate_succ, List.foldl_cons, List.replicate_succ, List.flatten_cons, ← List.append_assoc]
              have e3 : acc.toArray ++ z.cps = (acc ++ TL.tl z).toArray := by
                apply Array.toList_inj.mp
                simp
              rw [e3]
              exact ih _
          have e4 := go n.toNat []
          rw [List.nil_append] at e4
          exact e4
        rw [e]
        refine ⟨?_, .str (repS z n), H, I.tok _, ⟨_, rfl⟩, q⟩
        rw [hlen, Nat.mul_comm]
        exact Nat.le_trans hz (by decide)
/-- f'..' -/
def tJoin (ts : List TE) : TE := fun σ H Q => tJs ts Str.empty σ H fun out H1 => Q (.str out) H1
section
variable {σ : L2.St} {H : Hp} {Q : VK} {v x y : V} {te : TE} {ts : List TE} {K : PySem.W.Frag} {d : PyData} {ds : List PyData}
theorem w_join (q : tJs ts Str.empty σ H fun out H1 => Q (.str out) H1) : tJoin ts σ H Q := q
theorem w_js0 {acc : Str} {Q : Str → Hp → Prop} (q : Q acc H) : tJs [] acc σ H Q := q
theorem w_js {acc : Str} {Q : Str → Hp → Prop} (q : te σ H fun x H1 => ∃ y : Str, x = .str y ∧ (acc ++ y).length ≤ sizeLine ∧ tJs ts (acc ++ y) σ H1 Q) : tJs (te :: ts) acc σ H Q := q
theorem w_fmt (q : te σ H fun x H1 => (∃ y : Str, x = .str y ∧ y.length ≤ sizeLine ∧ Q (.str y) H1) ∨ ∃ i : Int, x = .int i ∧ i.natAbs.log2 < 1920 ∧ Q (.str (toString i)) H1) : tFmt te σ H Q := q
theorem o_inD {n m : Nat} (hx : Dt H x d) (hy : Dt H y (.list ds)) (sd : Sh n d) (se : Sh m (.list ds)) (hn : n ≤ 64) (hm : m ≤ 64) (q : Q (.bl (ds.any fun z => PyData.eqv z d)) H) : rInD K x y H Q := ⟨d, ds, hx.dp, hy.dp, sd.shaped hn, se.shaped hm, q⟩
theorem o_listS {z : Str} (hz : z.length ≤ 16777216) (q : ∀ l, H l = none → Q (.ref l) (upd H l (.lst (signs z)))) : rListA K [.str z] H Q := .inl ⟨z, rfl, hz, q⟩
theorem o_listA {p : Addr} {ys : List V} (h : H p = some (.lst ys)) (q : ∀ l, H l = none → Q (.ref l) (upd H l (.lst ys))) : rListA K [.ref p] H Q := .inr (o_listL h q)
theorem o_neg {i : Int} (q : Q (.int (-i)) H) : rU (fun i => .int (-i)) (.int i) H Q := ⟨i, rfl, q⟩
theorem o_mulS {z : Str} {n : Int} (h1 : -1000000000 ≤ n) (h2 : n ≤ 1000000000) (hz : z.length * n.toNat ≤ 16777216) (q : Q (.str (repS z n)) H) : rMulS (.str z) (.int n) H Q := ⟨z, n, rfl, rfl, h1, h2, hz, q⟩
theorem o_rep {l : Addr} {xs : List V} {k : Int} (h : H l = some (.lst xs)) (h1 : -1000000000 ≤ k) (h2 : k ≤ 1000000000) (hz : xs.length * k.toNat ≤ sizeLine) (q : ∀ p, H p = none → Q (.ref p) (upd H p (.lst (List.replicate k.toNat xs).flatten))) : rRep (.ref l) (.int k) H Q := ⟨l, k, xs, rfl, rfl, h, by omega, by omega, hz, q⟩
theorem o_slS {z : Str} {lo hi : Option Int} (hz : z.length ≤ sizeLine) (q : Q (.str (cutS z lo hi)) H) : rSlS (.str z) lo hi H Q := ⟨z, rfl, hz, q⟩
end
/-! ### calls and drills as data -/
inductive Kd where
  | num (i : Int) | txt (z : Str)
  deriving DecidableEq
abbrev Cal := Kd × Str × Str
def Kd.d : Kd → PyData
  | .num i => .int i
  | .txt z => .str z
def Kd.v : Kd → V
  | .num i => .int i
  | .txt z => .str z
def calD (c : Cal) : PyData := .tuple [c.1.d, .str c.2.1, .str c.2.2]
def drillD (cs : List Cal) : PyData := .list (cs.map calD)
section
variable {H : Hp} {x : V}
theorem Dt.kd {k : Kd} (h : Dt H x k.d) : x = k.v := by
  cases k with
  | num i => exact Dt.int_inv h
  | txt z => exact Dt.str_inv h
theorem Dt.ofKd (k : Kd) : Dt H k.v k.d := by
  cases k with
  | num i => exact Dt.int i
  | txt z => exact Dt.str z
theorem Dt.cal {c : Cal} (h : Dt H x (calD c)) : ∃ a, x = .ref a ∧ H a = some (.tup [c.1.v, .str c.2.1, .str c.2.2]) := by
  obtain ⟨a, x1, x2, x3, rfl, e, h1, h2, h3⟩ := Dt.tup3 h
  rw [h1.kd, h2.str_inv, h3.str_inv] at e
  exact ⟨a, rfl, e⟩
theorem Dt.ofCal {c : Cal} {a : Addr} (e : H a = some (.tup [c.1.v, .str c.2.1, .str c.2.2])) : Dt H (.ref a) (calD c) := Dt.mk3 e (Dt.ofKd _) (.str _) (.str _)
theorem Dt.drill {cs : List Cal} (h : Dt H x (drillD cs)) : ∃ a xs, x = .ref a ∧ H a = some (.lst xs) ∧ DtAll H xs (cs.map calD) := Dt.lst_inv h
def okKd : Kd → Bool
  | .num _ => true
  | .txt z => PyData.strOk z
theorem Sh.kd {n : Nat} {k : Kd} (h : okKd k = true) : Sh n k.d := by
  cases k with
  | num i => exact Sh.int i
  | txt z => exact Sh.str h
def okCal (c : Cal) : Bool := okKd c.1 && (PyData.strOk c.2.1 && PyData.strOk c.2.2)
theorem Sh.cal {n : Nat} {c : Cal} (h : okCal c = true) : Sh (n + 1) (calD c) := by
  unfold okCal at h
  simp only [Bool.and_eq_true] at h
  refine Sh.tuple (show 3 ≤ 100000 by decide) fun d m => ?_
  simp only [List.mem_cons, List.not_mem_nil, or_false] at m
  rcases m with rfl | rfl | rfl
  · exact Sh.kd h.1
  · exact Sh.str h.2.1
  · exact Sh.str h.2.2
theorem Sh.drill {n : Nat} {cs : List Cal} (hl : cs.length ≤ 100000) (h : ∀ c ∈ cs, okCal c = true) : Sh (n + 2) (drillD cs) := Sh.list (by rw [List.length_map]; exact hl) fun d m => by
  obtain ⟨c, hc, rfl⟩ := List.mem_map.mp m
  exact Sh.cal (h c hc)
end
/-! ### comprehensions over data -/
section
variable {σ : L2.St} {H : Hp} {g : TG} {tt : TT} {te : TE} {vs : List Nat} {Q : VK} {K : PySem.W.Frag} {a Dl : Addr}
/-- over a list of data: flat results -/
theorem c_dataL {α : Type} (f : α → PyData) (r : α → V) (ns : List α) (xs : List V) (hz : ns.length ≤ sizeLine) (hDl : H Dl = none) (hS : SqL K H a xs) (hD : DtAll H xs (ns.map f))
    (he : ∀ (y : α) (x : V) (H' : Hp) (Q' : VK), y ∈ ns → Same H H' → Dt H' x (f y) → (∀ H'', Same H' H'' → Q' (r y) H'') → g x (wipe σ vs) H' fun σ2 H2 => wipe σ2 vs = wipe σ vs ∧ te σ2 H2 Q')
    (hq : ∀ H', Same H H' → H' Dl = some (.lst (ns.map r)) → Q (.ref Dl) H') (mono : ∀ (x : V) (σ : L2.St) (H : Hp) (Q Q' : L2.St → Hp → Prop), (∀ a b, Q a b → Q' a b) → g x σ H Q → g x σ H Q') : CC g tYes te vs σ Q (Itl K a) Dl H := by
  have hl : xs.length = ns.length := by rw [hD.length, List.length_map]
  refine c_list xs (fun i H' => Same H H' ∧ H' Dl = some (.lst ((ns.map r).take i))) ⟨Same.new hDl, by rw [upd_same, List.take_zero]⟩ (fun i H' _ p => p.1.seq hS) (fun i x H1 hx p => ?_) (fun H' p => hq H' p.1 (by rw [p.2, hl, List.take_of_length_le (by rw [List.length_map]; exact Nat.le_refl _)]))
  obtain ⟨p1, p2⟩ := p
  obtain ⟨d, hd, dx⟩ := hD.getV hx
  rw [List.getElem?_map] at hd
  cases hn : ns[i]? with
  | none => rw [hn] at hd; cases hd
  | some y =>
    rw [hn] at hd
    cases hd
    refine mono _ _ _ _ _ (fun σ2 H2 q2 => ⟨q2.1, w_yes (iteT q2.2)⟩) (he y x H1 _ (List.mem_of_getElem? hn) p1 (dx.mono p1) fun H4 e4 => ⟨_, e4 _ _ p2, ?_, Same.mut (p1.trans e4) hDl, ?_⟩)
    · have := (List.getElem?_eq_some_iff.mp hn).1
      rw [List.length_take, List.length_map]
      omega
    · rw [upd_same, List.take_add_one, List.getElem?_map, hn]
      rfl
theorem mono_name {i : Nat} : ∀ (x : V) (σ : L2.St) (H : Hp) (Q Q' : L2.St → Hp → Prop), (∀ a b, Q a b → Q' a b) → gName i x σ H Q → gName i x σ H Q' := fun _ _ _ _ _ h q => h _ _ q
theorem mono_tup3 {i j k n : Nat} : ∀ (x : V) (σ : L2.St) (H : Hp) (Q Q' : L2.St → Hp → Prop), (∀ a b, Q a b → Q' a b) → gTup K n (gCons (gName i) (gCons (gName j) (gCons (gName k) gNil))) x σ H Q → gTup K n (gCons (gName i) (gCons (gName j) (gCons (gName k) gNil))) x σ H Q' := fun x σ H Q Q' h q => by
  obtain ⟨a, xs, e, hs, hl, v1, r1, e1, v2, r2, e2, v3, r3, e3, e4, q⟩ := q
  exact ⟨a, xs, e, hs, hl, v1, r1, e1, v2, r2, e2, v3, r3, e3, e4, h _ _ q⟩
/-- over a list, each result new data -/
theorem c_newL {α : Type} {j : Nat} (f : α → V) (r : α → PyData) (ns : List α) (hz : ns.length ≤ sizeLine) (hDl : H Dl = none) (hS : SqL K H a (ns.map f)) (hw : ∀ x, wipe ((wipe σ vs).set j (some x)) vs = wipe σ vs)
    (he : ∀ (y : α) (H' : Hp) (Q' : VK), y ∈ ns → Same H H' → (∀ v H'', Same H' H'' → Dt (nw H' H'') v (r y) → Q' v H'') → te ((wipe σ vs).set j (some (f y))) H' Q')
    (hq : ∀ ys H', Same H H' → H' Dl = some (.lst ys) → DtAll (cut [Dl] (nw H H')) ys (ns.map r) → Q (.ref Dl) H') : CC (gName j) tYes te vs σ Q (Itl K a) Dl H := by
  refine c_list (ns.map f) (fun i H' => Same H H' ∧ ∃ ys, H' Dl = some (.lst ys) ∧ DtAll (cut [Dl] (nw H H')) ys ((ns.map r).take i)) ⟨Same.new hDl, [], by rw [upd_same], by rw [List.take_zero]; exact .nil⟩ (fun i H' _ p => p.1.seq hS) (fun i x H1 hx p => ?_)
    (fun H' p => by
      obtain ⟨p1, ys, p2, p3⟩ := p
      rw [List.length_map, List.take_of_length_le (by rw [List.length_map]; exact Nat.le_refl _)] at p3
      exact hq ys H' p1 p2 p3)
  obtain ⟨p1, ys, p2, p3⟩ := p
  rw [List.getElem?_map] at hx
  cases hn : ns[i]? with
  | none => rw [hn] at hx; cases hx
  | some y =>
    rw [hn] at hx
    cases hx
    have hi := (List.getElem?_eq_some_iff.mp hn).1
    refine ⟨hw _, w_yes (iteT ?_)⟩
    refine he y H1 _ (List.mem_of_getElem? hn) p1 fun v H4 e4 dv => ⟨ys, e4 _ _ p2, ?_, Same.mut (p1.trans e4) hDl, ys ++ [v], upd_same, ?_⟩
    · rw [p3.length, List.length_take, List.length_map]
      omega
    · have s1 : Same (cut [Dl] (nw H H1)) (cut [Dl] (nw H (upd H4 Dl (.lst (ys ++ [v]))))) := fun b o e => by
        obtain ⟨e1, e2⟩ := cut_some e
        obtain ⟨e3, e5⟩ := nw_some e2
        rw [cut_out e1, nw_none e3, upd_ne (by simpa using e1)]
        exact e4 _ _ e5
      have s2 : Same (nw H1 H4) (cut [Dl] (nw H (upd H4 Dl (.lst (ys ++ [v]))))) := fun b o e => by
        obtain ⟨e3, e5⟩ := nw_some e
        have hb : b ≠ Dl := (ne_of_none p2 e3).symm
        rw [cut_out (by simpa using hb), nw_none (p1.free e3), upd_ne hb]
        exact e5
      rw [List.take_add_one, List.getElem?_map, hn]
      exact (p3.mono s1).append (.cons (dv.mono s2) .nil)
end
end Q

set_option Elab.async false
set_option linter.all false
set_option maxRecDepth 100000
set_option maxHeartbeats 4000000
namespace Q
open PySem PySem.Spec PyProof.Rows L2
theorem kb_bb : kitB "bool" "bool" = some true := by decide +kernel
theorem kb_ib : kitB "int" "bool" = some false := by decide +kernel
theorem kb_ii : kitB "int" "int" = some true := by decide +kernel
theorem kb_is : kitB "int" "str" = some false := by decide +kernel
theorem kb_sb : kitB "str" "bool" = some false := by decide +kernel
theorem kb_si : kitB "str" "int" = some false := by decide +kernel
theorem kb_ss : kitB "str" "str" = some true := by decide +kernel
theorem kb_lb : kitB "list" "bool" = some false := by decide +kernel
theorem kb_li : kitB "list" "int" = some false := by decide +kernel
theorem kb_ls : kitB "list" "str" = some false := by decide +kernel
theorem kb_ll : kitB "list" "list" = some true := by decide +kernel
theorem kb_lt : kitB "list" "tuple" = some false := by decide +kernel
theorem kb_tb : kitB "tuple" "bool" = some false := by decide +kernel
theorem kb_ti : kitB "tuple" "int" = some false := by decide +kernel
theorem kb_ts : kitB "tuple" "str" = some false := by decide +kernel
theorem kb_tl : kitB "tuple" "list" = some false := by decide +kernel
theorem kb_tt : kitB "tuple" "tuple" = some true := by decide +kernel
theorem str1 {z : Str} {c : Nat} (h : TL.tl z = [c]) : z = ⟨#[c]⟩ := TL.ext_tl (by rw [h])
theorem small5 {n : Nat} (h : n ≤ 100000) : n ≤ sizeLine := Nat.le_trans h (by decide)
theorem abc_len : ("abcdef" : Str).length = 6 := by decide +kernel
theorem dec_self {x : V} : decide (x = x) = true := decide_eq_true rfl
end Q

set_option Elab.async false
set_option linter.all false
set_option maxRecDepth 100000
set_option maxHeartbeats 4000000
namespace Q
open PySem PySem.Spec PyProof.Rows L2
/-! the steps' tactic: runs a reading up to a choice, a call, a loop, a store -/
local macro_rules | `(tactic| walk_at "w1") => `(tactic| (with_reducible first
  | refine w_var (by with_unfolding_all exact rfl) ?_
  | refine w_c ?_
  | refine w_op ?_
  | refine w_test ?_
  | refine w_tb ?_
  | refine w_cons ?_
  | refine w_nil ?_
  | refine w_cb ?_
  | refine w_call ?_
  | refine w_kw ?_
  | refine z_asg ?_
  | refine z_ret ?_
  | refine z_if ?_
  | refine z_drop ?_
  | refine g_name ?_
  | refine g_sub ?_
  | refine w_bm ?_
  | refine w_bm0 ?_
  | refine w_m1 ?_
  | refine w_m0 ?_
  | refine w_and ?_
  | refine w_or ?_
  | refine w_not ?_
  | refine w_chain ?_
  | refine w_andV ?_
  | refine w_orV ?_
  | refine w_notV ?_
  | refine w_if ?_
  | refine w_un ?_
  | refine w_sl ?_
  | refine w_part ?_
  | refine w_nopart ?_
  | refine w_tup ?_
  | refine w_lst ?_
  | refine w_yes ?_
  | refine z_for ?_
  | refine z_for1 ?_
  | refine w_ilist ?_
  | refine w_irng1 ?_
  | refine w_irng2 ?_
  | refine w_istr ?_
  | refine w_itup ?_
  | refine w_lc ?_
  | refine z_asg1 ?_
  | refine z_if1 ?_
  | refine z_drop1 ?_
  | refine z_next ?_
  | refine o_add ?_
  | refine o_sub ?_
  | refine o_lt ?_
  | refine o_le ?_
  | refine o_gt ?_
  | refine o_ge ?_
  | refine o_neg ?_
  | refine o_max2 ?_
  | refine o_min2 ?_
  | refine o_intB ?_
  | refine o_isn ?_
  | refine o_notn ?_
  | refine o_inc ?_
  | refine o_notinc ?_
  | refine o_eq (by with_unfolding_all exact rfl) ?_
  | refine o_ne (by with_unfolding_all exact rfl) ?_
  | refine o_ixLn (by first | assumption | exact upd_same) (by decide) (by with_unfolding_all exact rfl) ?_
  | refine o_ixTn (by first | assumption | exact upd_same) (by decide) (by with_unfolding_all exact rfl) ?_
  | refine g_tup (by first | assumption | exact upd_same) (by with_unfolding_all exact rfl) ?_
  | refine g_cons ?_
  | refine g_nil ?_
  | refine g_setLn (by first | assumption | exact upd_same) (by decide) (by with_unfolding_all exact rfl) ?_
  | refine p_2_61 ?_
  | refine p_10_18 ?_
  | refine p_10_15 ?_
  | refine p_10_30 ?_
  | refine p_10_29 ?_
  | refine iteT ?_
  | refine iteF ?_
  | refine ite_nt ?_
  | refine ite_nf ?_
  | refine ⟨_, rfl, ?_⟩
  | refine ⟨⟨_, rfl⟩, ?_⟩))
local macro_rules | `(tactic| walk_at "w") => `(tactic| (repeat walk_at "w1"))

/-! ### colours, calls -/
abbrev S1 (c : Nat) : Str := ⟨#[c]⟩
def isColN (c : Nat) : Bool := decide (c ∈ TL.tl ("abcdef" : Str))
theorem abc_tl : TL.tl ("abcdef" : Str) = [97, 98, 99, 100, 101, 102] := by decide +kernel
theorem isColN_iff {c : Nat} : isColN c = true ↔ 97 ≤ c ∧ c ≤ 102 := by
  unfold isColN
  rw [abc_tl, decide_eq_true_iff]
  simp only [List.mem_cons, List.not_mem_nil, or_false]
  omega
def isColS (z : Str) : Bool := match TL.tl z with
  | [c] => isColN c
  | _ => false
theorem isColS_one {c : Nat} : isColS (S1 c) = isColN c := rfl
theorem isColS_inv {z : Str} (h : isColS z = true) : ∃ c, z = S1 c ∧ 97 ≤ c ∧ c ≤ 102 := by
  unfold isColS at h
  split at h
  · rename_i c e
    exact ⟨c, str1 e, isColN_iff.mp h⟩
  · cases h
theorem isColS_len {z : Str} (h : z.length ≠ 1) : isColS z = false := by
  unfold isColS
  split
  · rename_i c e
    rw [TL.len_tl, e] at h
    exact absurd rfl h
  · rfl
def sp_is_colour (K : PySem.W.Frag) : Sp := fun vs H Q _ => vs.length = 1 ∧ ∃ z : Str, vs = [.str z] ∧ z.length ≤ 100000 ∧ Q (.bl (isColS z)) H
def t_is_colour (K : PySem.W.Frag) : TS := (tRet (tAndV (tOp rEq (tCB rLenS (tCons (tVar 0) tNil)) (tC (.int 1))) (tOp rInC (tVar 0) (tC (.str "abcdef")))))

theorem pure_is_colour {K : PySem.W.Frag} {vs : List V} {H : Hp} {Q : VK} {E : XK} (h : sp_is_colour K vs H Q E) : t_is_colour K { nx := fun _ H' => Q .non H', rt := Q } (start ["text"] vs) H := by
  obtain ⟨_, z, rfl, hz, q⟩ := h
  unfold t_is_colour
  walk_at "w"
  refine o_lenS (small5 hz) ?_
  walk_at "w"
  by_cases h1 : z.length = 1
  · rw [decide_eq_true (show V.int (z.length : Int) = V.int 1 by rw [h1]; rfl)]
    obtain ⟨c, hc⟩ : ∃ c, TL.tl z = [c] := by
      rw [TL.len_tl] at h1
      exact List.length_eq_one_iff.mp h1
    obtain rfl := str1 hc
    walk_at "w"
    exact q
  · rw [decide_eq_false (show ¬ V.int (z.length : Int) = V.int 1 from fun e => h1 (by have := V.int.inj e; omega))]
    rw [isColS_len h1] at q
    walk_at "w"
    exact q
def kdOk : Kd → Bool
  | .num i => decide (1 ≤ i)
  | .txt z => decide (z = ("all" : Str)) || decide (z = ("swap" : Str))
def isCall (c : Cal) : Bool := kdOk c.1 && (isColS c.2.1 && (isColS c.2.2 && !decide (c.2.1 = c.2.2)))
def kdLen : Kd → Nat
  | .num _ => 0
  | .txt z => z.length
def calLen (c : Cal) : Nat := kdLen c.1 + (c.2.1.length + c.2.2.length)
def sp_is_call (K : PySem.W.Frag) : Sp := fun vs H Q _ => vs.length = 1 ∧ ∃ (x : V) (c : Cal), vs = [x] ∧ Dt H x (calD c) ∧ calLen c ≤ 100000 ∧ ∀ H', Same H H' → Q (.bl (isCall c)) H'
def t_is_call (K : PySem.W.Frag) : TS := (tSeq (tAsg (tVar 0) (gTup K 3 (gCons (gName 1) (gCons (gName 2) (gCons (gName 3) gNil)))))
    (tSeq (tIfS (tB (tCB (rIsi K) (tCons (tVar 1) (tCons (tC (.ty "str")) tNil)))) (tIfS (tTest (tOp (rIn K true) (tVar 1) (tTup (tCons (tC (.str "all")) (tCons (tC (.str "swap")) tNil))))) (tRet (tC (.bl false))) tNext) (tIfS (tTest (tOp rLtI (tVar 1) (tC (.int 1)))) (tRet (tC (.bl false))) tNext))
    (tRet (tAndV (tCall (sp_is_colour K) [] E0 (tCons (tVar 2) tNil)) (tAndV (tCall (sp_is_colour K) [] E0 (tCons (tVar 3) tNil)) (tOp rNe (tVar 2) (tVar 3)))))))

theorem in_all_swap (z : Str) : inV (.str z) [.str "all", .str "swap"] = (decide (z = ("all" : Str)) || decide (z = ("swap" : Str))) := by
  unfold inV
  rw [List.any_cons, List.any_cons, List.any_nil, Bool.or_false]
  have e : ∀ y : Str, eqV (.str y) (.str z) = decide (z = y) := fun y => by
    show (y == z) = decide (z = y)
    rw [Bool.eq_iff_iff, beq_iff_eq, decide_eq_true_iff]
    exact eq_comm
  rw [e, e]
section
variable {K : PySem.W.Frag}
/-- what follows the kind's tests -/
theorem is_call_tail {σ : L2.St} {s t : Str} {H : Hp} {Q : VK} (h2 : σ[2]? = some (some (V.str s))) (h3 : σ[3]? = some (some (V.str t))) (hs : s.length ≤ 100000) (ht : t.length ≤ 100000) (q : Q (.bl (isColS s && (isColS t && !decide (s = t)))) H) :
    sp_is_colour K [.str s] H (fun x H1 => ∃ c, x = .bl c ∧ if c = true then tAndV (tCall (sp_is_colour K) [] E0 (tCons (tVar 3) tNil)) (tOp rNe (tVar 2) (tVar 3)) σ H1 Q else Q (.bl false) H1) E0 := by
  refine ⟨rfl, s, rfl, hs, ?_⟩
  refine ⟨_, rfl, ?_⟩
  cases h1 : isColS s with
  | false =>
    rw [h1] at q
    exact q
  | true =>
    rw [h1] at q
    rw [if_pos rfl]
    refine w_andV ?_
    refine w_call ?_
    refine w_cons ?_
    refine w_var h3 ?_
    refine w_nil ?_
    refine ⟨rfl, t, rfl, ht, ?_⟩
    refine ⟨_, rfl, ?_⟩
    cases h4 : isColS t with
    | false =>
      rw [h4] at q
      exact q
    | true =>
      rw [h4] at q
      rw [if_pos rfl]
      refine w_op ?_
      refine w_var h2 ?_
      refine w_var h3 ?_
      refine o_ne (by with_unfolding_all exact rfl) ?_
      have e : decide (V.str s = V.str t) = decide (s = t) := by
        rw [Bool.eq_iff_iff]
        simp
      rw [e]
      exact q
end
theorem pure_is_call {K : PySem.W.Frag} {vs : List V} {H : Hp} {Q : VK} {E : XK} (h : sp_is_call K vs H Q E) : t_is_call K { nx := fun _ H' => Q .non H', rt := Q } (start ["call", "kind", "source", "target"] vs) H := by
  obtain ⟨_, x, ⟨k, s, t⟩, rfl, hx, hl, q⟩ := h
  obtain ⟨a, rfl, ha⟩ := hx.cal
  have hs : s.length ≤ 100000 := by unfold calLen at hl; simp only at hl; omega
  have ht : t.length ≤ 100000 := by unfold calLen at hl; simp only at hl; omega
  cases k with
  | num i =>
    have ha : H a = some (.tup [V.int i, .str s, .str t]) := ha
    have q : ∀ H', Same H H' → Q (.bl (decide (1 ≤ i) && (isColS s && (isColS t && !decide (s = t))))) H' := q
    unfold t_is_call
    walk_at "w"
    refine o_isi (.base (.int i)) kb_is ?_
    walk_at "w"
    have q := q H (Same.refl H)
    by_cases hi : i < 1
    · rw [decide_eq_true hi]
      walk_at "w"
      rw [decide_eq_false (show ¬ 1 ≤ i by omega)] at q
      exact q
    · rw [decide_eq_false hi]
      walk_at "w"
      refine is_call_tail rfl rfl hs ht ?_
      rw [decide_eq_true (show 1 ≤ i by omega)] at q
      exact q
  | txt z =>
    have ha : H a = some (.tup [V.str z, .str s, .str t]) := ha
    have q : ∀ H', Same H H' → Q (.bl ((decide (z = ("all" : Str)) || decide (z = ("swap" : Str))) && (isColS s && (isColS t && !decide (s = t))))) H' := q
    unfold t_is_call
    walk_at "w"
    refine o_isi (.base (.str z)) kb_ss ?_
    walk_at "w"
    refine ⟨len_ok rfl, fun p hp => ?_⟩
    refine ⟨p, _, rfl, .inr (SqT.of upd_same), rfl, rfl, ?_⟩
    walk_at "w"
    rw [if_pos rfl, in_all_swap]
    have q := q _ (Same.new (o := .tup [V.str "all", V.str "swap"]) hp)
    cases hk : (decide (z = ("all" : Str)) || decide (z = ("swap" : Str))) with
    | false =>
      rw [hk] at q
      walk_at "w"
      exact q
    | true =>
      rw [hk] at q
      walk_at "w"
      exact is_call_tail rfl rfl hs ht q
theorem isCall_inv {c : Cal} (h : isCall c = true) : kdOk c.1 = true ∧ ∃ a b : Nat, c.2.1 = S1 a ∧ c.2.2 = S1 b ∧ isColN a = true ∧ isColN b = true ∧ a ≠ b := by
  unfold isCall at h
  simp only [Bool.and_eq_true, Bool.not_eq_true', decide_eq_false_iff_not] at h
  obtain ⟨h1, h2, h3, h4⟩ := h
  obtain ⟨a, ea, a1⟩ := isColS_inv h2
  obtain ⟨b, eb, b1⟩ := isColS_inv h3
  exact ⟨h1, a, b, ea, eb, isColN_iff.mpr a1, isColN_iff.mpr b1, fun e => h4 (by rw [ea, eb, e])⟩
theorem isCall_mk {k : Kd} {a b : Nat} (h1 : kdOk k = true) (h2 : isColN a = true) (h3 : isColN b = true) (h4 : a ≠ b) : isCall (k, S1 a, S1 b) = true := by
  unfold isCall
  simp only [Bool.and_eq_true, Bool.not_eq_true', decide_eq_false_iff_not]
  refine ⟨h1, h2, h3, fun e => h4 ?_⟩
  have := congrArg TL.tl e
  injection this
theorem kdOk_txt {z : Str} (h : kdOk (.txt z) = true) : z = ("all" : Str) ∨ z = ("swap" : Str) := by
  unfold kdOk at h
  simpa using h
theorem strOk_one {c : Nat} (h : isColN c = true) : PyData.strOk (S1 c) = true := by
  rw [strOk_iff]
  intro d m
  have := isColN_iff.mp h
  rw [show TL.tl (S1 c) = [c] from rfl, List.mem_singleton] at m
  omega
theorem okCal_of {c : Cal} (h : isCall c = true) : okCal c = true := by
  obtain ⟨h1, a, b, e1, e2, c1, c2, _⟩ := isCall_inv h
  unfold okCal
  rw [e1, e2, strOk_one c1, strOk_one c2]
  cases hk : c.1 with
  | num i => rfl
  | txt z =>
    rw [hk] at h1
    rcases kdOk_txt h1 with rfl | rfl <;> decide +kernel
end Q

set_option Elab.async false
set_option linter.all false
set_option maxRecDepth 100000
set_option maxHeartbeats 4000000
namespace Q
open PySem PySem.Spec PyProof.Rows L2
/-! the steps' tactic: runs a reading up to a choice, a call, a loop, a store -/
local macro_rules | `(tactic| walk_at "w1") => `(tactic| (with_reducible first
  | refine w_var (by with_unfolding_all exact rfl) ?_
  | refine w_c ?_
  | refine w_op ?_
  | refine w_test ?_
  | refine w_tb ?_
  | refine w_cons ?_
  | refine w_nil ?_
  | refine w_cb ?_
  | refine w_call ?_
  | refine w_kw ?_
  | refine z_asg ?_
  | refine z_ret ?_
  | refine z_if ?_
  | refine z_drop ?_
  | refine g_name ?_
  | refine g_sub ?_
  | refine w_bm ?_
  | refine w_bm0 ?_
  | refine w_m1 ?_
  | refine w_m0 ?_
  | refine w_and ?_
  | refine w_or ?_
  | refine w_not ?_
  | refine w_chain ?_
  | refine w_andV ?_
  | refine w_orV ?_
  | refine w_notV ?_
  | refine w_if ?_
  | refine w_un ?_
  | refine w_sl ?_
  | refine w_part ?_
  | refine w_nopart ?_
  | refine w_tup ?_
  | refine w_lst ?_
  | refine w_yes ?_
  | refine z_for ?_
  | refine z_for1 ?_
  | refine w_ilist ?_
  | refine w_irng1 ?_
  | refine w_irng2 ?_
  | refine w_istr ?_
  | refine w_itup ?_
  | refine w_lc ?_
  | refine z_asg1 ?_
  | refine z_if1 ?_
  | refine z_drop1 ?_
  | refine z_next ?_
  | refine o_add ?_
  | refine o_sub ?_
  | refine o_lt ?_
  | refine o_le ?_
  | refine o_gt ?_
  | refine o_ge ?_
  | refine o_neg ?_
  | refine o_max2 ?_
  | refine o_min2 ?_
  | refine o_intB ?_
  | refine o_isn ?_
  | refine o_notn ?_
  | refine o_inc ?_
  | refine o_notinc ?_
  | refine o_eq (by with_unfolding_all exact rfl) ?_
  | refine o_ne (by with_unfolding_all exact rfl) ?_
  | refine o_ixLn (by first | assumption | exact upd_same) (by decide) (by with_unfolding_all exact rfl) ?_
  | refine o_ixTn (by first | assumption | exact upd_same) (by decide) (by with_unfolding_all exact rfl) ?_
  | refine g_tup (by first | assumption | exact upd_same) (by with_unfolding_all exact rfl) ?_
  | refine g_cons ?_
  | refine g_nil ?_
  | refine g_setLn (by first | assumption | exact upd_same) (by decide) (by with_unfolding_all exact rfl) ?_
  | refine p_2_61 ?_
  | refine p_10_18 ?_
  | refine p_10_15 ?_
  | refine p_10_30 ?_
  | refine p_10_29 ?_
  | refine iteT ?_
  | refine iteF ?_
  | refine ite_nt ?_
  | refine ite_nf ?_
  | refine ⟨_, rfl, ?_⟩
  | refine ⟨⟨_, rfl⟩, ?_⟩))
local macro_rules | `(tactic| walk_at "w") => `(tactic| (repeat walk_at "w1"))

/-! ### the source of draws -/
/-- the source at s, its digits at d, at most n draws so far -/
def Src (s d : Addr) (n : Int) (H : Hp) : Prop := ∃ (ds : List Int) (a m k : Int), H s = some (.lst [.ref d, .int a, .int m, .int k]) ∧ H d = some (.lst (ds.map V.int)) ∧ s ≠ d ∧ (∀ z ∈ ds, 0 ≤ z) ∧ 0 ≤ a ∧ 0 ≤ m ∧ m < 2305843009213693951 ∧ 0 ≤ k ∧ k ≤ n
theorem Src.more {s d : Addr} {n n' : Int} {H : Hp} (h : Src s d n H) (e : n ≤ n') : Src s d n' H := by
  obtain ⟨ds, a, m, k, h1, h2, h3, h4, h5, h6, h7, h8, h9⟩ := h
  exact ⟨ds, a, m, k, h1, h2, h3, h4, h5, h6, h7, h8, Int.le_trans h9 e⟩
theorem Src.up {s d : Addr} {n : Int} {H H' : Hp} (h : Src s d n H) (e : Same H H') : Src s d n H' := by
  obtain ⟨ds, a, m, k, h1, h2, h3⟩ := h
  exact ⟨ds, a, m, k, e _ _ h1, e _ _ h2, h3⟩
theorem Src.trk {s d : Addr} {n : Int} {H : Hp} (h : Src s d n H) : Trk [s, d] H := fun b m => by
  obtain ⟨ds, a, m2, k, h1, h2, h3⟩ := h
  rcases List.mem_cons.mp m with e | m
  · rw [e]
    exact ⟨_, h1⟩
  · rcases List.mem_cons.mp m with e | m
    · rw [e]
      exact ⟨_, h2⟩
    · cases m
/-- a draw: one of 0, 1, .. below m -/
def sp_law_draw (K : PySem.W.Frag) : Sp := fun vs H Q _ => vs.length = 2 ∧ ∃ (s d : Addr) (n m : Int), vs = [.ref s, .int m] ∧ Src s d n H ∧ n ≤ 1000000000 ∧ 0 < m ∧ m ≤ 1000000000000000000 ∧
  ∀ r H', 0 ≤ r → r < m → Src s d (n + 1) H' → Fr [s, d] H H' → Q (.int r) H'
theorem div_w {i j : Int} (h : 0 < j) (h2 : j ≤ 1000000000000000000) : CDivW i j := wide_div (b := 64) h (by omega) (by decide) (by decide)
def t_law_draw (K : PySem.W.Frag) : TS := (tSeq (tWhile (tAnd (tTest (tOp rLtI (tOp (rIxL K) (tVar 0) (tC (.int 1))) (tC (.int 2)))) (tTest (tOp (rNeD K) (tOp (rIxL K) (tVar 0) (tC (.int 0))) (tLst tNil)))) (tAsg (tBM K "list" rPopAt (tOp (rIxL K) (tVar 0) (tC (.int 0))) (tCons (tC (.int 0)) tNil)) (gSub (tVar 0) (tC (.int 1)) rSetL)))
    (tSeq (tIfS (tTest (tOp rGeI (tOp (rIxL K) (tVar 0) (tC (.int 1))) (tC (.int 2)))) (tSeq (tAsg (tOp rModI (tOp (rIxL K) (tVar 0) (tC (.int 1))) (tVar 1)) (gName 2))
    (tSeq (tAsg (tOp rDivI (tOp (rIxL K) (tVar 0) (tC (.int 1))) (tVar 1)) (gSub (tVar 0) (tC (.int 1)) rSetL))
    (tRet (tVar 2)))) tNext)
    (tSeq (tAsg (tOp rAddI (tOp (rIxL K) (tVar 0) (tC (.int 3))) (tC (.int 1))) (gSub (tVar 0) (tC (.int 3)) rSetL))
    (tSeq (tAsg (tOp rMulI (tOp rAddI (tOp (rIxL K) (tVar 0) (tC (.int 2))) (tC (.int 7))) (tOp rPowI (tOp rAddI (tOp (rIxL K) (tVar 0) (tC (.int 3))) (tC (.int 3))) (tC (.int 3)))) (gName 3))
    (tSeq (tAsg (tOp rModI (tOp rAddI (tVar 3) (tOp rMulI (tC (.int 1000081)) (tOp (rIxL K) (tVar 0) (tC (.int 3))))) (tOp rSubI (tOp rPowI (tC (.int 2)) (tC (.int 61))) (tC (.int 1)))) (gName 3))
    (tRet (tOp rModI (tOp rDivI (tOp rModI (tOp rPowI (tVar 3) (tC (.int 5))) (tOp rAddI (tOp rPowI (tC (.int 10)) (tC (.int 18))) (tC (.int 9)))) (tC (.int 128))) (tVar 1))))))))

theorem pow_2_61' : (2305843009213693952 : Int) - 1 = 2305843009213693951 := by decide
theorem pow_10_18b' : (1000000000000000000 : Int) + 9 = 1000000000000000009 := by decide
theorem pure_law_draw {K : PySem.W.Frag} {vs : List V} {H : Hp} {Q : VK} {E : XK} (h : sp_law_draw K vs H Q E) : t_law_draw K { nx := fun _ H' => Q .non H', rt := Q } (start ["source", "many", "drawn", "mixed"] vs) H := by
  obtain ⟨_, s, d, n, m, rfl, hS, hn, hm, hm2, q⟩ := h
  unfold t_law_draw
  obtain ⟨ds, a, mx, k, h1, h2, hsd, hds, ha, hmx, hmx2, hk, hkn⟩ := hS
  have ms : s ∈ [s, d] := List.mem_cons_self
  have md : d ∈ [s, d] := List.mem_cons_of_mem _ List.mem_cons_self
  refine l_while (fun c σ H1 => σ = [some (.ref s), some (.int m), none, none] ∧ ∃ (ds : List Int) (a : Int), c = ds.length ∧ (∀ z ∈ ds, 0 ≤ z) ∧ 0 ≤ a ∧ Fr [s, d] H H1 ∧ H1 s = some (.lst [.ref d, .int a, .int mx, .int k]) ∧ H1 d = some (.lst (ds.map V.int)))
    (fun σ H1 => σ = [some (.ref s), some (.int m), none, none] ∧ ∃ (ds : List Int) (a : Int), (∀ z ∈ ds, 0 ≤ z) ∧ 0 ≤ a ∧ Fr [s, d] H H1 ∧ H1 s = some (.lst [.ref d, .int a, .int mx, .int k]) ∧ H1 d = some (.lst (ds.map V.int)))
    ds.length ⟨rfl, ds, a, rfl, hds, ha, Fr.refl, h1, h2⟩ (fun Ex hEx c σ H1 hW => ?_) (fun σ H1 hM => ?_)
  · clear h1 h2 hds ha
    obtain ⟨rfl, ds, a, rfl, hds, ha, fr, h1, h2⟩ := hW
    walk_at "w"
    refine ite2 (fun hlt => ?_) (fun hlt => ?_)
    · walk_at "w"
      refine ⟨Nat.zero_le _, fun p hp => ?_⟩
      have h1' := same_upd (o := .lst []) hp _ _ h1
      have h2' := same_upd (o := .lst []) hp _ _ h2
      refine o_neNil h2' upd_same ?_
      walk_at "w"
      cases ds with
      | nil => exact iteF (hEx _ _ ⟨rfl, [], a, hds, ha, fr.trans (Fr.new hp), h1', h2'⟩)
      | cons z ds =>
        refine iteT ⟨fun σ' H' => σ' = [some (.ref s), some (.int m), none, none] ∧ Fr [s, d] H H' ∧ H' s = some (.lst [.ref d, .int z, .int mx, .int k]) ∧ H' d = some (.lst (ds.map V.int)), fun σ' H' hN => ?_, ?_⟩
        · obtain ⟨e, f, e1, e2⟩ := hN
          exact ⟨ds.length, by rw [List.length_cons]; omega, e, ds, z, rfl, fun x hx => hds x (List.mem_cons_of_mem _ hx), hds z List.mem_cons_self, f, e1, e2⟩
        · walk_at "w"
          refine ⟨ty_list h2', ?_⟩
          walk_at "w"
          have e1 : (upd (upd H1 p (.lst [])) d (.lst (ds.map V.int))) s = some (.lst [.ref d, .int a, .int mx, .int k]) := by
            rw [upd_ne hsd]
            exact h1'
          refine ⟨d, _, 0, 0, _, rfl, rfl, h2', by decide, by decide, ?_, rfl, ?_⟩
          · exact seq0
          · walk_at "w"
            refine g_setLn e1 (by decide) rfl ⟨rfl, ((fr.trans (Fr.new hp)).trans (Fr.mut md)).trans (Fr.mut ms), upd_same, ?_⟩
            rw [upd_ne (Ne.symm hsd)]
            exact upd_same
    · exact iteF (hEx _ _ ⟨rfl, ds, a, hds, ha, fr, h1, h2⟩)
  · clear h1 h2 hds ha
    obtain ⟨rfl, ds, a, hds, ha, fr, h1, h2⟩ := hM
    walk_at "w"
    refine ite2 (fun hge => ?_) (fun hge => ?_)
    · have hge : 2 ≤ a := of_decide_eq_true hge
      walk_at "w"
      refine o_mod hm ?_
      walk_at "w"
      refine o_div (div_w hm hm2) ?_
      walk_at "w"
      refine q _ _ (Int.emod_nonneg _ (by omega)) (Int.emod_lt_of_pos _ hm) ⟨ds, a / m, mx, k, upd_same, ?_, hsd, hds, Int.ediv_nonneg ha (by omega), hmx, hmx2, hk, by omega⟩ (fr.trans (Fr.mut ms))
      rw [upd_ne (Ne.symm hsd)]
      exact h2
    · walk_at "w"
      have e3 : upd H1 s (.lst [.ref d, .int a, .int mx, .int (k + 1)]) s = some (.lst [.ref d, .int a, .int mx, .int (k + 1)]) := upd_same
      have hk1 : (k + 1 + 3).natAbs < 2 ^ 64 := by omega
      refine o_pow ⟨by decide, by decide, hk1⟩ ?_
      refine o_mul (.inl ⟨by omega, by omega⟩) ?_
      walk_at "w"
      refine o_mul (.inl ⟨by decide, by decide⟩) ?_
      walk_at "w"
      rw [pow_2_61']
      refine o_mod (by decide) ?_
      walk_at "w"
      generalize hM : ((mx + 7) * (k + 1 + 3) ^ (3 : Int).toNat + 1000081 * (k + 1)) % 2305843009213693951 = M
      have hM1 : 0 ≤ M := by rw [← hM]; exact Int.emod_nonneg _ (by decide)
      have hM2 : M < 2305843009213693951 := by rw [← hM]; exact Int.emod_lt_of_pos _ (by decide)
      refine o_pow ⟨by decide, by decide, by omega⟩ ?_
      walk_at "w"
      rw [pow_10_18b']
      refine o_mod (by decide) ?_
      refine o_div (div_w (by decide) (by decide)) ?_
      walk_at "w"
      refine o_mod hm ?_
      refine q _ _ (Int.emod_nonneg _ (by omega)) (Int.emod_lt_of_pos _ hm) ⟨ds, a, mx, k + 1, upd_same, ?_, hsd, hds, ha, hmx, hmx2, by omega, by omega⟩ (fr.trans (Fr.mut ms))
      rw [upd_ne (Ne.symm hsd)]
      exact h2

/-! ### the source is made -/
def sp_law_source (K : PySem.W.Frag) : Sp := fun vs H Q _ => vs.length = 1 ∧ ∃ (a : Addr) (ns : List Int), vs = [.ref a] ∧ SqL K H a (ns.map V.int) ∧ ns.length ≤ 63 ∧
  ∀ s d H', H s = none → H d = none → Same H H' → Src s d 0 H' → Q (.ref s) H'
def t_law_source (K : PySem.W.Frag) : TS := (tSeq (tAsg (tC (.int 271828182845904)) (gName 1))
    (tSeq (tAsg (tLst tNil) (gName 2))
    (tSeq (tFor (iList K (tVar 0)) (gName 3) (tSeq (tAsg (tOp rModI (tOp rAddI (tOp rMulI (tVar 1) (tC (.int 1000033))) (tVar 3)) (tOp rSubI (tOp rPowI (tC (.int 2)) (tC (.int 61))) (tC (.int 1)))) (gName 1))
    (tSeq (tAsg (tCB rMax2 (tCons (tVar 3) (tCons (tOp rSubI (tC (.int 0)) (tVar 3)) tNil))) (gName 4))
    (tIfS (tTest (tOp rGeI (tVar 4) (tOp rPowI (tC (.int 10)) (tC (.int 18))))) (tDrop (tBM K "list" rAppend (tVar 2) (tCons (tOp rSubI (tVar 4) (tOp rPowI (tC (.int 10)) (tC (.int 18)))) tNil))) tNext))))
    (tRet (tLst (tCons (tVar 2) (tCons (tC (.int 0)) (tCons (tVar 1) (tCons (tC (.int 0)) tNil)))))))))

theorem pure_law_source {K : PySem.W.Frag} {vs : List V} {H : Hp} {Q : VK} {E : XK} (h : sp_law_source K vs H Q E) : t_law_source K { nx := fun _ H' => Q .non H', rt := Q } (start ["script", "mix", "digits", "cell", "size"] vs) H := by
  obtain ⟨_, a, ns, rfl, hS, hlen, q⟩ := h
  unfold t_law_source
  walk_at "w"
  refine ⟨Nat.zero_le _, fun d hd => ?_⟩
  walk_at "w"
  refine ⟨⟨_, (same_upd hd).seq hS⟩, f_list (ns.map V.int) (fun i σ H1 => ∃ (mx : Int) (ds : List Int) (x3 x4 : Option V), σ = [some (.ref a), some (.int mx), some (.ref d), x3, x4] ∧ Same H H1 ∧ H1 d = some (.lst (ds.map V.int)) ∧ ds.length ≤ i ∧ (∀ z ∈ ds, 0 ≤ z) ∧ 0 ≤ mx ∧ mx < 2305843009213693951) ?_ ?_ ?_ ?_⟩
  · exact ⟨271828182845904, [], none, none, rfl, same_upd hd, upd_same, Nat.le_refl _, by simp, by decide, by decide⟩
  · intro i σ H1 _ hP
    obtain ⟨mx, ds, x3, x4, _, e, _⟩ := hP
    exact e.seq hS
  · intro i x σ H1 hx hP
    obtain ⟨mx, ds, x3, x4, rfl, e, hD, hl, hz, h0, h1⟩ := hP
    have hil : i < ns.length := by
      have := (List.getElem?_eq_some_iff.mp hx).1
      rw [List.length_map] at this
      exact this
    obtain ⟨c, rfl⟩ : ∃ c : Int, x = .int c := by
      rw [List.getElem?_map] at hx
      cases hn : ns[i]? with
      | none => rw [hn] at hx; cases hx
      | some c => rw [hn] at hx; exact ⟨c, (Option.some.inj hx).symm⟩
    walk_at "w"
    refine o_mul (.inl ⟨by omega, by omega⟩) ?_
    walk_at "w"
    rw [pow_2_61']
    refine o_mod (by decide) ?_
    have m0 := Int.emod_nonneg (mx * 1000033 + c) (show (2305843009213693951 : Int) ≠ 0 by decide)
    have m1 := Int.emod_lt_of_pos (mx * 1000033 + c) (show (0 : Int) < 2305843009213693951 by decide)
    walk_at "w"
    refine ite2 (fun hge => ?_) (fun hge => ?_)
    · have hge := of_decide_eq_true hge
      walk_at "w"
      refine ⟨ty_list hD, ?_⟩
      walk_at "w"
      refine o_append hD ?_ ?_
      · rw [List.length_map]
        exact small1000 (by omega)
      · refine ⟨_, ds ++ [(if 0 - c > c then 0 - c else c) - 1000000000000000000], _, _, rfl, e.mut hd, ?_, ?_, ?_, m0, m1⟩
        · rw [upd_same, List.map_append]
          rfl
        · rw [List.length_append, List.length_singleton]
          omega
        · intro z m
          rcases List.mem_append.mp m with m | m
          · exact hz z m
          · rw [List.mem_singleton.mp m]
            omega
    · exact ⟨_, ds, _, _, rfl, e, hD, by omega, hz, m0, m1⟩
  · intro σ H1 hP
    obtain ⟨mx, ds, x3, x4, rfl, e, hD, hl, hz, h0, h1⟩ := hP
    walk_at "w"
    refine ⟨len_ok rfl, fun s hs => ?_⟩
    have hsd : d ≠ s := ne_of_none hD hs
    refine q s d _ (e.free hs) hd (e.trans (same_upd hs)) ⟨ds, 0, mx, 0, upd_same, ?_, Ne.symm hsd, hz, by decide, h0, h1, by decide, by decide⟩
    rw [upd_ne hsd]
    exact hD

theorem u_draw {K : PySem.W.Frag} {s d : Addr} {n m : Int} {H : Hp} {Q : VK} {E : XK} (hS : Src s d n H) (hn : n ≤ 1000000000) (hm : 0 < m) (hm2 : m ≤ 1000000000000000000)
    (q : ∀ r H', 0 ≤ r → r < m → Src s d (n + 1) H' → Fr [s, d] H H' → Q (.int r) H') : sp_law_draw K ([.ref s, .int m] ++ []) H Q E := ⟨rfl, s, d, n, m, rfl, hS, hn, hm, hm2, q⟩
end Q

set_option Elab.async false
set_option linter.all false
set_option maxRecDepth 100000
set_option maxHeartbeats 4000000
namespace Q
open PySem PySem.Spec PyProof.Rows L2
/-! the steps' tactic: runs a reading up to a choice, a call, a loop, a store -/
local macro_rules | `(tactic| walk_at "w1") => `(tactic| (with_reducible first
  | refine w_var (by with_unfolding_all exact rfl) ?_
  | refine w_c ?_
  | refine w_op ?_
  | refine w_test ?_
  | refine w_tb ?_
  | refine w_cons ?_
  | refine w_nil ?_
  | refine w_cb ?_
  | refine w_call ?_
  | refine w_kw ?_
  | refine z_asg ?_
  | refine z_ret ?_
  | refine z_if ?_
  | refine z_drop ?_
  | refine g_name ?_
  | refine g_sub ?_
  | refine w_bm ?_
  | refine w_bm0 ?_
  | refine w_m1 ?_
  | refine w_m0 ?_
  | refine w_and ?_
  | refine w_or ?_
  | refine w_not ?_
  | refine w_chain ?_
  | refine w_andV ?_
  | refine w_orV ?_
  | refine w_notV ?_
  | refine w_if ?_
  | refine w_un ?_
  | refine w_sl ?_
  | refine w_part ?_
  | refine w_nopart ?_
  | refine w_tup ?_
  | refine w_lst ?_
  | refine w_yes ?_
  | refine z_for ?_
  | refine z_for1 ?_
  | refine w_ilist ?_
  | refine w_irng1 ?_
  | refine w_irng2 ?_
  | refine w_istr ?_
  | refine w_itup ?_
  | refine w_lc ?_
  | refine z_asg1 ?_
  | refine z_if1 ?_
  | refine z_drop1 ?_
  | refine z_next ?_
  | refine o_add ?_
  | refine o_sub ?_
  | refine o_lt ?_
  | refine o_le ?_
  | refine o_gt ?_
  | refine o_ge ?_
  | refine o_neg ?_
  | refine o_max2 ?_
  | refine o_min2 ?_
  | refine o_intB ?_
  | refine o_isn ?_
  | refine o_notn ?_
  | refine o_inc ?_
  | refine o_notinc ?_
  | refine o_eq (by with_unfolding_all exact rfl) ?_
  | refine o_ne (by with_unfolding_all exact rfl) ?_
  | refine o_ixLn (by first | assumption | exact upd_same) (by decide) (by with_unfolding_all exact rfl) ?_
  | refine o_ixTn (by first | assumption | exact upd_same) (by decide) (by with_unfolding_all exact rfl) ?_
  | refine g_tup (by first | assumption | exact upd_same) (by with_unfolding_all exact rfl) ?_
  | refine g_cons ?_
  | refine g_nil ?_
  | refine g_setLn (by first | assumption | exact upd_same) (by decide) (by with_unfolding_all exact rfl) ?_
  | refine p_2_61 ?_
  | refine p_10_18 ?_
  | refine p_10_15 ?_
  | refine p_10_30 ?_
  | refine p_10_29 ?_
  | refine iteT ?_
  | refine iteF ?_
  | refine ite_nt ?_
  | refine ite_nf ?_
  | refine ⟨_, rfl, ?_⟩
  | refine ⟨⟨_, rfl⟩, ?_⟩))
local macro_rules | `(tactic| walk_at "w") => `(tactic| (repeat walk_at "w1"))

/-! ### equal with equal kinds: both are the data d -/
def sp_law_same (n : Nat) (K : PySem.W.Frag) : Sp := fun vs H Q _ => vs.length = 2 ∧ ∃ (x y : V) (d : PyData), vs = [x, y] ∧ Dt H x d ∧ Dt H y d ∧ Sh n d ∧ ∀ H', Same H H' → Q (.bl true) H'
def t_law_same (rec : Sp) (K : PySem.W.Frag) : TS := (tSeq (tIfS (tTest (tOp rIsN (tVar 1) (tC .non))) (tRet (tOp rIsN (tVar 0) (tC .non))) tNext)
    (tSeq (tIfS (tB (tCB (rIsi K) (tCons (tVar 1) (tCons (tC (.ty "bool")) tNil)))) (tRet (tAndV (tCB (rIsi K) (tCons (tVar 0) (tCons (tC (.ty "bool")) tNil))) (tOp (rEqD K) (tVar 0) (tVar 1)))) tNext)
    (tSeq (tIfS (tB (tCB (rIsi K) (tCons (tVar 1) (tCons (tC (.ty "int")) tNil)))) (tRet (tAndV (tCB (rIsi K) (tCons (tVar 0) (tCons (tC (.ty "int")) tNil))) (tAndV (tNotV (tCB (rIsi K) (tCons (tVar 0) (tCons (tC (.ty "bool")) tNil)))) (tOp (rEqD K) (tVar 0) (tVar 1))))) tNext)
    (tSeq (tIfS (tB (tCB (rIsi K) (tCons (tVar 1) (tCons (tC (.ty "str")) tNil)))) (tRet (tAndV (tCB (rIsi K) (tCons (tVar 0) (tCons (tC (.ty "str")) tNil))) (tOp (rEqD K) (tVar 0) (tVar 1)))) tNext)
    (tSeq (tIfS (tTest (tOp rNe (tCB (rIsi K) (tCons (tVar 0) (tCons (tC (.ty "list")) tNil))) (tCB (rIsi K) (tCons (tVar 1) (tCons (tC (.ty "list")) tNil))))) (tRet (tC (.bl false))) tNext)
    (tSeq (tIfS (tOr (tTest (tOp rNe (tCB (rIsi K) (tCons (tVar 0) (tCons (tC (.ty "tuple")) tNil))) (tCB (rIsi K) (tCons (tVar 1) (tCons (tC (.ty "tuple")) tNil))))) (tTest (tOp rNe (tCB (rLenA K) (tCons (tVar 0) tNil)) (tCB (rLenA K) (tCons (tVar 1) tNil))))) (tRet (tC (.bl false))) tNext)
    (tRet (tOp (rEqD K) (tLc (iRng1 (tCons (tCB (rLenA K) (tCons (tVar 1) tNil)) tNil)) (gName 2) (tNot (tB (tCall rec [] E0 (tCons (tOp (rIx K) (tVar 0) (tVar 2)) (tCons (tOp (rIx K) (tVar 1) (tVar 2)) tNil))))) (tVar 2) [2]) (tLst tNil)))))))))

section
variable {K : PySem.W.Frag} {n : Nat} {rec : Sp}
/-- the items, one by one, by rec -/
theorem same_items {σ : L2.St} {D : Ends} {x y : V} {xs ys : List V} {ds : List PyData} {H : Hp} {Q : VK} (hD : D.rt = Q) (hσ : σ = [some x, some y, none])
    (lx : ∀ H', Same H H' → LenV K x H' xs.length) (ly : ∀ H', Same H H' → LenV K y H' ys.length)
    (gx : ∀ H' (i : Nat) (v : V) (Q' : VK), Same H H' → xs[i]? = some v → Q' v H' → rIx K x (.int (i : Int)) H' Q') (gy : ∀ H' (i : Nat) (v : V) (Q' : VK), Same H H' → ys[i]? = some v → Q' v H' → rIx K y (.int (i : Int)) H' Q')
    (ax : DtAll H xs ds) (ay : DtAll H ys ds) (hds : ∀ d ∈ ds, Sh n d) (hl : ds.length ≤ 100000)
    (hrec : ∀ (x y : V) (d : PyData) (H : Hp) (Q : VK), Dt H x d → Dt H y d → Sh n d → (∀ H', Same H H' → Q (.bl true) H') → rec [x, y] H Q E0) (q : ∀ H', Same H H' → Q (.bl true) H') :
    tRet (tOp (rEqD K) (tLc (iRng1 (tCons (tCB (rLenA K) (tCons (tVar 1) tNil)) tNil)) (gName 2) (tNot (tB (tCall rec [] E0 (tCons (tOp (rIx K) (tVar 0) (tVar 2)) (tCons (tOp (rIx K) (tVar 1) (tVar 2)) tNil))))) (tVar 2) [2]) (tLst tNil)) D σ H := by
  subst hσ
  have ex : xs.length = ds.length := ax.length
  have ey : ys.length = ds.length := ay.length
  walk_at "w"
  refine ⟨y, ys.length, rfl, ly H (Same.refl H), ?_⟩
  walk_at "w"
  refine ⟨by omega, by omega, fun Dl hDl => ?_⟩
  refine c_rng (fun i H' => Same H H' ∧ H' Dl = some (.lst [])) ⟨Same.new hDl, upd_same⟩ (fun i H' hi p => ?_) (fun H' p => ?_)
  · obtain ⟨p1, p2⟩ := p
    refine ⟨rfl, ?_⟩
    have hi : i < ds.length := by omega
    obtain ⟨vx, hx, dx⟩ := ax.get (List.getElem?_eq_getElem hi)
    obtain ⟨vy, hy, dy⟩ := ay.get (List.getElem?_eq_getElem hi)
    walk_at "w"
    refine gx H' i vx _ p1 hx ?_
    walk_at "w"
    refine gy H' i vy _ p1 hy ?_
    walk_at "w"
    refine hrec vx vy ds[i] H' _ (dx.mono p1) (dy.mono p1) (hds _ (List.getElem_mem hi)) fun H2 e2 => ?_
    walk_at "w"
    exact ⟨p1.trans e2, e2 _ _ p2⟩
  · obtain ⟨p1, p2⟩ := p
    walk_at "w"
    refine ⟨len_ok rfl, fun p hp => ?_⟩
    refine o_eqD (d := .list []) (e := .list []) (Dt.lst (same_upd hp _ _ p2) .nil).dp (Dt.lst upd_same .nil).dp shaped_nil shaped_nil ?_
    show D.rt (.bl true) _
    rw [hD]
    exact q _ (p1.trans (same_upd hp))
theorem pure_law_same_ {vs : List V} {H : Hp} {Q : VK} {E : XK} {m : Nat} (h : sp_law_same m K vs H Q E) (hm : m ≤ 64)
    (hn : m = 0 ∨ (m = n + 1 ∧ ∀ (x y : V) (d : PyData) (H : Hp) (Q : VK), Dt H x d → Dt H y d → Sh n d → (∀ H', Same H H' → Q (.bl true) H') → rec [x, y] H Q E0)) :
    t_law_same rec K { nx := fun _ H' => Q .non H', rt := Q } (start ["found", "wanted", "k"] vs) H := by
  obtain ⟨_, x, y, d, rfl, hx, hy, hs, q⟩ := h
  unfold t_law_same
  cases d with
  | none =>
    obtain rfl := hx.non_inv
    obtain rfl := hy.non_inv
    walk_at "w"
    rw [dec_self]
    try refine iteT ?_
    walk_at "w"
    rw [dec_self]
    exact q _ (Same.refl _)
  | bool b =>
    obtain rfl := hx.bl_inv
    obtain rfl := hy.bl_inv
    walk_at "w"
    try refine iteF ?_
    walk_at "w"
    refine o_isi (.base (.bl b)) kb_bb ?_
    walk_at "w"
    try refine iteT ?_
    walk_at "w"
    refine o_isi (.base (.bl b)) kb_bb ?_
    walk_at "w"
    try refine iteT ?_
    walk_at "w"
    refine o_eqT (Dt.bl b) (Dt.bl b) hs hs hm hm ?_
    rw [hs.eqv]
    exact q _ (Same.refl _)
  | int i =>
    obtain rfl := hx.int_inv
    obtain rfl := hy.int_inv
    walk_at "w"
    try refine iteF ?_
    walk_at "w"
    refine o_isi (.base (.int i)) kb_ib ?_
    walk_at "w"
    try refine iteF ?_
    walk_at "w"
    refine o_isi (.base (.int i)) kb_ii ?_
    walk_at "w"
    try refine iteT ?_
    walk_at "w"
    refine o_isi (.base (.int i)) kb_ii ?_
    walk_at "w"
    try refine iteT ?_
    walk_at "w"
    refine o_isi (.base (.int i)) kb_ib ?_
    walk_at "w"
    try refine iteT ?_
    walk_at "w"
    refine o_eqT (Dt.int i) (Dt.int i) hs hs hm hm ?_
    rw [hs.eqv]
    exact q _ (Same.refl _)
  | str i =>
    obtain rfl := hx.str_inv
    obtain rfl := hy.str_inv
    walk_at "w"
    try refine iteF ?_
    walk_at "w"
    refine o_isi (.base (.str i)) kb_sb ?_
    walk_at "w"
    try refine iteF ?_
    walk_at "w"
    refine o_isi (.base (.str i)) kb_si ?_
    walk_at "w"
    try refine iteF ?_
    walk_at "w"
    refine o_isi (.base (.str i)) kb_ss ?_
    walk_at "w"
    try refine iteT ?_
    walk_at "w"
    refine o_isi (.base (.str i)) kb_ss ?_
    walk_at "w"
    try refine iteT ?_
    walk_at "w"
    refine o_eqT (Dt.str i) (Dt.str i) hs hs hm hm ?_
    rw [hs.eqv]
    exact q _ (Same.refl _)
  | list ds =>
    obtain ⟨a, xs, rfl, ha, ax⟩ := hx.lst_inv
    obtain ⟨b, ys, rfl, hb, ay⟩ := hy.lst_inv
    rcases hn with rfl | ⟨rfl, hrec⟩
    · exact hs.elim
    have ta : TyX K H (.ref a) (.type "list") := .base (.lst ha)
    have tb : TyX K H (.ref b) (.type "list") := .base (.lst hb)
    walk_at "w"
    try refine iteF ?_
    walk_at "w"
    refine o_isi tb kb_lb ?_
    walk_at "w"
    try refine iteF ?_
    walk_at "w"
    refine o_isi tb kb_li ?_
    walk_at "w"
    try refine iteF ?_
    walk_at "w"
    refine o_isi tb kb_ls ?_
    walk_at "w"
    try refine iteF ?_
    walk_at "w"
    refine o_isi ta kb_ll ?_
    walk_at "w"
    refine o_isi tb kb_ll ?_
    walk_at "w"
    try refine iteF ?_
    walk_at "w"
    refine o_isi ta kb_lt ?_
    walk_at "w"
    refine o_isi tb kb_lt ?_
    walk_at "w"
    try refine iteF ?_
    walk_at "w"
    refine ⟨_, xs.length, rfl, .inl ⟨xs, SqL.of ha, rfl⟩, ?_⟩
    walk_at "w"
    refine ⟨_, ys.length, rfl, .inl ⟨ys, SqL.of hb, rfl⟩, ?_⟩
    walk_at "w"
    rw [ax.length, ay.length, dec_self]
    try refine iteF ?_
    refine same_items (n := n) rfl rfl (xs := xs) (ys := ys) (fun H' e => .inl ⟨xs, SqL.of (e _ _ ha), rfl⟩) (fun H' e => .inl ⟨ys, SqL.of (e _ _ hb), rfl⟩) (fun H' i v Q' e hv q' => .inl ⟨a, xs, _, v, rfl, rfl, SqL.of (e _ _ ha), atI_nat hv, q'⟩)
      (fun H' i v Q' e hv q' => .inl ⟨b, ys, _, v, rfl, rfl, SqL.of (e _ _ hb), atI_nat hv, q'⟩) ax ay hs.2 hs.1 hrec q
  | tuple ds =>
    obtain ⟨a, xs, rfl, ha, ax⟩ := hx.tup_inv
    obtain ⟨b, ys, rfl, hb, ay⟩ := hy.tup_inv
    rcases hn with rfl | ⟨rfl, hrec⟩
    · exact hs.elim
    have ta : TyX K H (.ref a) (.type "tuple") := .base (.tup ha)
    have tb : TyX K H (.ref b) (.type "tuple") := .base (.tup hb)
    walk_at "w"
    try refine iteF ?_
    walk_at "w"
    refine o_isi tb kb_tb ?_
    walk_at "w"
    try refine iteF ?_
    walk_at "w"
    refine o_isi tb kb_ti ?_
    walk_at "w"
    try refine iteF ?_
    walk_at "w"
    refine o_isi tb kb_ts ?_
    walk_at "w"
    try refine iteF ?_
    walk_at "w"
    refine o_isi ta kb_tl ?_
    walk_at "w"
    refine o_isi tb kb_tl ?_
    walk_at "w"
    try refine iteF ?_
    walk_at "w"
    refine o_isi ta kb_tt ?_
    walk_at "w"
    refine o_isi tb kb_tt ?_
    walk_at "w"
    try refine iteF ?_
    walk_at "w"
    refine ⟨_, xs.length, rfl, .inr ⟨xs, SqT.of ha, rfl⟩, ?_⟩
    walk_at "w"
    refine ⟨_, ys.length, rfl, .inr ⟨ys, SqT.of hb, rfl⟩, ?_⟩
    walk_at "w"
    rw [ax.length, ay.length, dec_self]
    try refine iteF ?_
    refine same_items (n := n) rfl rfl (xs := xs) (ys := ys) (fun H' e => .inr ⟨xs, SqT.of (e _ _ ha), rfl⟩) (fun H' e => .inr ⟨ys, SqT.of (e _ _ hb), rfl⟩) (fun H' i v Q' e hv q' => .inr (.inl ⟨a, xs, _, v, rfl, rfl, SqT.of (e _ _ ha), atI_nat hv, q'⟩))
      (fun H' i v Q' e hv q' => .inr (.inl ⟨b, ys, _, v, rfl, rfl, SqT.of (e _ _ hb), atI_nat hv, q'⟩)) ax ay hs.2 hs.1 hrec q
  | dict kvs => exact nomatch hx
end
theorem pure_law_same0 {K : PySem.W.Frag} {vs : List V} {H : Hp} {Q : VK} {E : XK} (h : sp_law_same 0 K vs H Q E) : t_law_same (fun _ _ _ _ => False) K { nx := fun _ H' => Q .non H', rt := Q } (start ["found", "wanted", "k"] vs) H :=
  pure_law_same_ (n := 0) h (by decide) (.inl rfl)
theorem pure_law_sameS {K : PySem.W.Frag} {vs : List V} {H : Hp} {Q : VK} {E : XK} {n : Nat} (hn : n ≤ 60) (h : sp_law_same (n + 1) K vs H Q E) : t_law_same (sp_law_same n K) K { nx := fun _ H' => Q .non H', rt := Q } (start ["found", "wanted", "k"] vs) H :=
  pure_law_same_ (n := n) h (by omega) (.inr ⟨rfl, fun x y d H Q hx hy hs q => ⟨rfl, x, y, d, rfl, hx, hy, hs, q⟩⟩)

/-- a call of _law_same: both are d -/
theorem u_same {n : Nat} {K : PySem.W.Frag} {x y : V} {d : PyData} {H : Hp} {Q : VK} {E : XK} (hx : Dt H x d) (hy : Dt H y d) (hs : Sh n d) (q : ∀ H', Same H H' → Q (.bl true) H') : sp_law_same n K ([x, y] ++ []) H Q E := ⟨rfl, x, y, d, rfl, hx, hy, hs, q⟩
end Q

set_option Elab.async false
set_option linter.all false
set_option maxRecDepth 100000
set_option maxHeartbeats 4000000
namespace Q
open PySem PySem.Spec PyProof.Rows L2
/-! the steps' tactic: runs a reading up to a choice, a call, a loop, a store -/
local macro_rules | `(tactic| walk_at "w1") => `(tactic| (with_reducible first
  | refine w_var (by with_unfolding_all exact rfl) ?_
  | refine w_c ?_
  | refine w_op ?_
  | refine w_test ?_
  | refine w_tb ?_
  | refine w_cons ?_
  | refine w_nil ?_
  | refine w_cb ?_
  | refine w_call ?_
  | refine w_kw ?_
  | refine z_asg ?_
  | refine z_ret ?_
  | refine z_if ?_
  | refine z_drop ?_
  | refine g_name ?_
  | refine g_sub ?_
  | refine w_bm ?_
  | refine w_bm0 ?_
  | refine w_m1 ?_
  | refine w_m0 ?_
  | refine w_and ?_
  | refine w_or ?_
  | refine w_not ?_
  | refine w_chain ?_
  | refine w_andV ?_
  | refine w_orV ?_
  | refine w_notV ?_
  | refine w_if ?_
  | refine w_un ?_
  | refine w_sl ?_
  | refine w_part ?_
  | refine w_nopart ?_
  | refine w_tup ?_
  | refine w_lst ?_
  | refine w_yes ?_
  | refine z_for ?_
  | refine z_for1 ?_
  | refine w_ilist ?_
  | refine w_irng1 ?_
  | refine w_irng2 ?_
  | refine w_istr ?_
  | refine w_itup ?_
  | refine w_lc ?_
  | refine z_asg1 ?_
  | refine z_if1 ?_
  | refine z_drop1 ?_
  | refine z_next ?_
  | refine o_add ?_
  | refine o_sub ?_
  | refine o_lt ?_
  | refine o_le ?_
  | refine o_gt ?_
  | refine o_ge ?_
  | refine o_neg ?_
  | refine o_max2 ?_
  | refine o_min2 ?_
  | refine o_intB ?_
  | refine o_isn ?_
  | refine o_notn ?_
  | refine o_inc ?_
  | refine o_notinc ?_
  | refine o_eq (by with_unfolding_all exact rfl) ?_
  | refine o_ne (by with_unfolding_all exact rfl) ?_
  | refine o_ixLn (by first | assumption | exact upd_same) (by decide) (by with_unfolding_all exact rfl) ?_
  | refine o_ixTn (by first | assumption | exact upd_same) (by decide) (by with_unfolding_all exact rfl) ?_
  | refine g_tup (by first | assumption | exact upd_same) (by with_unfolding_all exact rfl) ?_
  | refine g_cons ?_
  | refine g_nil ?_
  | refine g_setLn (by first | assumption | exact upd_same) (by decide) (by with_unfolding_all exact rfl) ?_
  | refine p_2_61 ?_
  | refine p_10_18 ?_
  | refine p_10_15 ?_
  | refine p_10_30 ?_
  | refine p_10_29 ?_
  | refine iteT ?_
  | refine iteF ?_
  | refine ite_nt ?_
  | refine ite_nf ?_
  | refine ⟨_, rfl, ?_⟩
  | refine ⟨⟨_, rfl⟩, ?_⟩))
local macro_rules | `(tactic| walk_at "w") => `(tactic| (repeat walk_at "w1"))

/-! ### numbers as texts -/
/-- str(i) -/
def istr (i : Int) : Str := Str.ofString (toString i)
theorem istr_tl {i : Int} (h : 0 ≤ i) : TL.tl (istr i) = TL.numL i.toNat := by
  obtain ⟨m, rfl⟩ := Int.eq_ofNat_of_zero_le h
  exact TL.tl_num m
theorem istr_len {i : Int} (h : 0 ≤ i) (h2 : i < 1000000000000000000000000000000) : (istr i).length ≤ 30 := by
  rw [TL.len_tl, istr_tl h]
  exact TL.numL_len (by decide) (by
    have e : (10 : Nat) ^ 30 = 1000000000000000000000000000000 := by decide
    rw [e]
    omega)
theorem log2_lt {i : Int} {n : Nat} (h : i.natAbs < 2 ^ n) (h0 : 0 < n) : i.natAbs.log2 < n := PySem.Flt.log2_lt_of h0 h
theorem istr_log {i : Int} (h : 0 ≤ i) (h2 : i < 1000000000000000000000000000000) : i.natAbs.log2 < 1920 := Nat.lt_trans (log2_lt (n := 100) (by
  have e : (2 : Nat) ^ 100 = 1267650600228229401496703205376 := by decide
  rw [e]
  omega) (by decide)) (by decide)
/-- what a word writes -/
def isDig (c : Nat) : Bool := decide (c ∈ TL.tl ("0123456789" : Str))
def readNumber (z : Str) : Option Int := if 0 < z.length ∧ z.length ≤ 30 ∧ (TL.tl z).all isDig = true then (if z = ("0" : Str) ∨ (TL.tl z).head? ≠ some 48 then some ((NumText.digitsVal (TL.tl z) : Nat) : Int) else none) else none
def optI : Option Int → V
  | some i => .int i
  | none => .non
theorem isDig_iff {c : Nat} : isDig c = true ↔ 48 ≤ c ∧ c ≤ 57 := by
  have e : TL.tl ("0123456789" : Str) = [48, 49, 50, 51, 52, 53, 54, 55, 56, 57] := by decide +kernel
  unfold isDig
  rw [e, decide_eq_true_iff]
  simp only [List.mem_cons, List.not_mem_nil, or_false]
  omega
def sp_read_number (K : PySem.W.Frag) : Sp := fun vs H Q _ => vs.length = 1 ∧ ∃ z : Str, vs = [.str z] ∧ z.length ≤ 100000 ∧ ∀ H', Same H H' → Q (optI (readNumber z)) H'
def t_read_number (K : PySem.W.Frag) : TS := (tSeq (tIfS (tOr (tNot (tTest (tChain rLtI rLeI (tC (.int 0)) (tCB rLenS (tCons (tVar 0) tNil)) (tC (.int 30))))) (tNot (tB (tCB (rAll K) (tCons (tLc (iStr (tVar 0)) (gName 1) tYes (tOp rInC (tVar 1) (tC (.str "0123456789"))) [1]) tNil))))) (tRet (tC .non)) tNext)
    (tRet (tIf (tOr (tTest (tOp rEq (tVar 0) (tC (.str "0")))) (tTest (tOp rNe (tOp rIxS (tVar 0) (tC (.int 0))) (tC (.str "0"))))) (tCB rIntS (tCons (tVar 0) tNil)) (tC .non))))

theorem pure_read_number {K : PySem.W.Frag} {vs : List V} {H : Hp} {Q : VK} {E : XK} (h : sp_read_number K vs H Q E) : t_read_number K { nx := fun _ H' => Q .non H', rt := Q } (start ["word", "sign"] vs) H := by
  obtain ⟨_, z, rfl, hz, q⟩ := h
  unfold t_read_number
  walk_at "w"
  refine o_lenS (small5 hz) ?_
  walk_at "w"
  by_cases h0 : 0 < z.length
  · rw [decide_eq_true (show (0 : Int) < (z.length : Int) by omega)]
    walk_at "w"
    by_cases h30 : z.length ≤ 30
    · rw [decide_eq_true (show (z.length : Int) ≤ 30 by omega)]
      walk_at "w"
      intro Dl hDl
      refine c_pureS (j := 1) (fun c => .bl (isDig c)) (small5 hz) hDl (fun x => rfl) (fun c H' Q' _ e q' => ?_) ?_
      · walk_at "w"
        exact q' _ (Same.refl _)
      · intro H' e hD
        walk_at "w"
        refine ⟨Dl, (TL.tl z).map isDig, rfl, SqL.of (by rw [List.map_map]; exact hD), ?_⟩
        walk_at "w"
        rw [List.all_map]
        by_cases ha : (TL.tl z).all isDig = true
        · rw [show (TL.tl z).all (id ∘ isDig) = true from ha]
          walk_at "w"
          by_cases hz0 : z = ("0" : Str)
          · subst hz0
            rw [dec_self]
            walk_at "w"
            have er : readNumber ("0" : Str) = some 0 := by decide +kernel
            rw [er] at q
            exact ⟨_, 0, rfl, by decide +kernel, by decide, q _ e⟩
          · rw [decide_eq_false (fun h => hz0 (V.str.inj h))]
            walk_at "w"
            cases hl : TL.tl z with
            | nil =>
              rw [TL.len_tl, hl] at h0
              exact absurd h0 (by decide)
            | cons c r =>
              refine o_ixS' 0 rfl (small5 hz) (show (TL.tl z)[0]? = some c by rw [hl]; rfl) ?_
              walk_at "w"
              by_cases hc : c = 48
              · subst hc
                rw [show decide (V.str ⟨#[48]⟩ = V.str ("0" : Str)) = true by decide +kernel]
                walk_at "w"
                have er : readNumber z = none := by
                  unfold readNumber
                  rw [if_pos ⟨h0, h30, ha⟩, if_neg]
                  rw [hl]
                  simp [hz0]
                rw [er] at q
                exact q _ e
              · rw [show decide (V.str ⟨#[c]⟩ = V.str ("0" : Str)) = false from decide_eq_false (fun h => hc (by
                  have h2 := congrArg TL.tl (V.str.inj h)
                  rw [show TL.tl (⟨#[c]⟩ : Str) = [c] from rfl, show TL.tl ("0" : Str) = [48] by decide +kernel] at h2
                  injection h2))]
                walk_at "w"
                have er : readNumber z = some ((NumText.digitsVal (TL.tl z) : Nat) : Int) := by
                  unfold readNumber
                  rw [if_pos ⟨h0, h30, ha⟩, if_pos (Or.inr (by rw [hl]; simp [hc]))]
                rw [er] at q
                refine ⟨z, _, rfl, intText_digits (x := z) (fun c hc => isDig_iff.mp (List.all_eq_true.mp ha c hc)) ?_ (by omega), by omega, q _ e⟩
                rw [show z.cps.toList = c :: r from hl]
                simp
        · rw [show (TL.tl z).all (id ∘ isDig) = false from Bool.eq_false_iff.mpr ha]
          walk_at "w"
          have er : readNumber z = none := if_neg (fun h => ha h.2.2)
          rw [er] at q
          exact q _ e
    · rw [decide_eq_false (show ¬ (z.length : Int) ≤ 30 by omega)]
      walk_at "w"
      have e : readNumber z = none := if_neg (fun h => h30 h.2.1)
      rw [e] at q
      exact q _ (Same.refl _)
  · rw [decide_eq_false (show ¬ (0 : Int) < (z.length : Int) by omega)]
    walk_at "w"
    have e : readNumber z = none := if_neg (fun h => h0 h.1)
    rw [e] at q
    exact q _ (Same.refl _)

/-! ### counts written and read -/
theorem istr_nocomma {i : Int} (h : 0 ≤ i) : (44 : Nat) ∉ TL.tl (istr i) := by
  rw [istr_tl h]
  exact TL.numL_free (.inl (by decide))
theorem istr_nospace {i : Int} (h : 0 ≤ i) : (32 : Nat) ∉ TL.tl (istr i) := by
  rw [istr_tl h]
  exact TL.numL_free (.inl (by decide))
/-- no leading zero -/
theorem numL_head : ∀ n : Nat, n ≠ 0 → (TL.numL n).head? ≠ some 48 := by
  intro n
  induction n using Nat.strongRecOn with
  | _ n ih =>
    intro h
    by_cases h1 : n < 10
    · rw [TL.numL_lt h1]
      simp
      omega
    · rw [TL.numL_step (by omega)]
      have h2 := ih (n / 10) (by omega) (by omega)
      cases e : TL.numL (n / 10) with
      | nil => exact absurd e (TL.numL_ne _)
      | cons c r =>
        rw [e] at h2
        exact h2
theorem read_istr {i : Int} (h : 0 ≤ i) (h2 : i < 1000000000000000000000000000000) : readNumber (istr i) = some i := by
  have e := istr_tl h
  unfold readNumber
  have hl : 0 < (istr i).length := by
    rw [TL.len_tl, e]
    exact List.length_pos_iff.mpr (TL.numL_ne _)
  rw [if_pos ⟨hl, istr_len h h2, by rw [e]; exact List.all_eq_true.mpr fun c hc => isDig_iff.mpr (TL.numL_digits _ c hc)⟩, e, TL.numL_val, if_pos]
  · rw [Int.toNat_of_nonneg h]
  · by_cases h0 : i = 0
    · subst h0
      exact .inl (by decide +kernel)
    · exact .inr (numL_head _ (by omega))
def joinC (ns : List Int) : Str := Txt.join ("," : Str) (ns.map istr)
theorem sum_le {α : Type} {f : α → Nat} {k : Nat} : ∀ {l : List α}, (∀ x ∈ l, f x ≤ k) → (l.map f).sum ≤ l.length * k
  | [], _ => by simp
  | x :: l, h => by
    have h1 := h x List.mem_cons_self
    have h2 := sum_le (l := l) fun y m => h y (List.mem_cons_of_mem _ m)
    rw [List.map_cons, List.sum_cons, List.length_cons, Nat.add_mul]
    omega
theorem sp_len : ("," : Str).length = 1 := by decide +kernel
theorem joinC_size {ns : List Int} (h : ∀ i ∈ ns, 0 ≤ i ∧ i < 1000000000000000000000000000000) (hl : ns.length ≤ 1000) : ((ns.map istr).map (·.length)).sum + (ns.map istr).length * ("," : Str).length ≤ 16777216 := by
  rw [List.map_map, List.length_map, sp_len]
  have := sum_le (l := ns) (f := (fun x : Str => x.length) ∘ istr) (k := 30) fun i m => istr_len (h i m).1 (h i m).2
  omega
theorem split_joinC {ns : List Int} (hne : ns ≠ []) (h : ∀ i ∈ ns, 0 ≤ i) : Txt.split (joinC ns) ("," : Str) = ns.map istr :=
  TL.split_join (s := 44) (S := []) (by decide +kernel) (by decide +kernel) (fun e => hne (List.map_eq_nil_iff.mp e)) fun p m => by
    obtain ⟨i, hi, rfl⟩ := List.mem_map.mp m
    exact istr_nocomma (h i hi)
theorem join_len (a : Str) : ∀ ys : List Str, (Txt.join a ys).length ≤ (ys.map (·.length)).sum + ys.length * a.length := by
  intro ys
  rw [TL.join_eq, TL.len_tl, TL.tl_join]
  induction ys with
  | nil => exact Nat.zero_le _
  | cons y r ih =>
    cases r with
    | nil =>
      show (TL.tl y).length ≤ _
      rw [← TL.len_tl]
      simp
    | cons z r =>
      show (TL.tl y ++ (TL.tl a ++ TL.joinL (TL.tl a) ((z :: r).map TL.tl))).length ≤ _
      rw [List.length_append, List.length_append, ← TL.len_tl, ← TL.len_tl]
      have e1 : ((y :: z :: r).map (·.length)).sum = y.length + ((z :: r).map (·.length)).sum := by rw [List.map_cons, List.sum_cons]
      have e2 : (y :: z :: r).length * a.length = (z :: r).length * a.length + a.length := by rw [List.length_cons, Nat.add_mul, Nat.one_mul]
      omega
def sp_show_counts (K : PySem.W.Frag) : Sp := fun vs H Q _ => vs.length = 1 ∧ ∃ (v : V) (ns : List Int), vs = [v] ∧ Dt H v (.list (ns.map PyData.int)) ∧ (∀ i ∈ ns, 0 ≤ i ∧ i < 1000000000000000000000000000000) ∧ ns.length ≤ 1000 ∧ ∀ H', Same H H' → Q (.str (joinC ns)) H'
def t_show_counts (K : PySem.W.Frag) : TS := (tRet (tM1 (rJoin K) (tC (.str ",")) (tLc (iList K (tVar 0)) (gName 1) tYes (tCB rStrI (tCons (tVar 1) tNil)) [1])))

theorem pure_show_counts {K : PySem.W.Frag} {vs : List V} {H : Hp} {Q : VK} {E : XK} (h : sp_show_counts K vs H Q E) : t_show_counts K { nx := fun _ H' => Q .non H', rt := Q } (start ["counts", "number"] vs) H := by
  obtain ⟨_, v, ns, rfl, hv, hn, hl, q⟩ := h
  obtain ⟨a, rfl, ha⟩ := hv.ints
  unfold t_show_counts
  walk_at "w"
  refine ⟨⟨_, SqL.of ha⟩, fun Dl hDl => ?_⟩
  refine c_pureL (j := 1) ns V.int (fun i => .str (istr i)) (Nat.le_of_lt (small1000 hl)) hDl (SqL.of ha) (fun x => rfl) (fun i H' Q' m e q' => ?_) (fun H' e hD => ?_)
  · walk_at "w"
    refine o_strI (istr_log (hn i m).1 (hn i m).2) ?_
    exact q' _ (Same.refl _)
  · refine o_join (ys := ns.map istr) (by rw [List.map_map]; exact hD) (joinC_size hn hl) ?_
    exact q _ e
theorem spl_le {S : List Nat} : ∀ {l : List Nat} {k : Nat} {acc p : List Nat}, p ∈ TL.spl S k acc l → p.length ≤ acc.length + l.length
  | [], k, acc, p, h => by
    rw [TL.spl_nil] at h
    rw [List.mem_singleton.mp h]
    omega
  | c :: r, 0, acc, p, h => by
    rw [List.length_cons]
    cases hp : TL.pre S (c :: r) with
    | true =>
      rw [TL.spl_hit hp] at h
      rcases List.mem_cons.mp h with e | h
      · rw [e]
        omega
      · have := spl_le h
        rw [List.length_nil] at this
        omega
    | false =>
      rw [TL.spl_miss hp] at h
      have := spl_le h
      rw [List.length_append, List.length_singleton] at this
      omega
  | c :: r, k + 1, acc, p, h => by
    have := spl_le (l := r) (k := k) h
    rw [List.length_cons]
    omega
theorem part_le {a b p : Str} (hb : TL.tl b ≠ []) (hk : b.cps.all (· < 256) = true) (h : p ∈ Txt.split a b) : p.length ≤ a.length := by
  have e := TL.split_spl a b hb (TL.kind_ok hk)
  have h2 : TL.tl p ∈ (Txt.split a b).map TL.tl := List.mem_map.mpr ⟨p, h, rfl⟩
  rw [e] at h2
  have := spl_le h2
  rw [TL.len_tl, TL.len_tl]
  rw [List.length_nil] at this
  omega
end Q

set_option Elab.async false
set_option linter.all false
set_option maxRecDepth 100000
set_option maxHeartbeats 4000000
namespace Q
open PySem PySem.Spec PyProof.Rows L2
/-! the steps' tactic: runs a reading up to a choice, a call, a loop, a store -/
local macro_rules | `(tactic| walk_at "w1") => `(tactic| (with_reducible first
  | refine w_var (by with_unfolding_all exact rfl) ?_
  | refine w_c ?_
  | refine w_op ?_
  | refine w_test ?_
  | refine w_tb ?_
  | refine w_cons ?_
  | refine w_nil ?_
  | refine w_cb ?_
  | refine w_call ?_
  | refine w_kw ?_
  | refine z_asg ?_
  | refine z_ret ?_
  | refine z_if ?_
  | refine z_drop ?_
  | refine g_name ?_
  | refine g_sub ?_
  | refine w_bm ?_
  | refine w_bm0 ?_
  | refine w_m1 ?_
  | refine w_m0 ?_
  | refine w_and ?_
  | refine w_or ?_
  | refine w_not ?_
  | refine w_chain ?_
  | refine w_andV ?_
  | refine w_orV ?_
  | refine w_notV ?_
  | refine w_if ?_
  | refine w_un ?_
  | refine w_sl ?_
  | refine w_part ?_
  | refine w_nopart ?_
  | refine w_tup ?_
  | refine w_lst ?_
  | refine w_yes ?_
  | refine z_for ?_
  | refine z_for1 ?_
  | refine w_ilist ?_
  | refine w_irng1 ?_
  | refine w_irng2 ?_
  | refine w_istr ?_
  | refine w_itup ?_
  | refine w_lc ?_
  | refine z_asg1 ?_
  | refine z_if1 ?_
  | refine z_drop1 ?_
  | refine z_next ?_
  | refine o_add ?_
  | refine o_sub ?_
  | refine o_lt ?_
  | refine o_le ?_
  | refine o_gt ?_
  | refine o_ge ?_
  | refine o_neg ?_
  | refine o_max2 ?_
  | refine o_min2 ?_
  | refine o_intB ?_
  | refine o_isn ?_
  | refine o_notn ?_
  | refine o_inc ?_
  | refine o_notinc ?_
  | refine o_eq (by with_unfolding_all exact rfl) ?_
  | refine o_ne (by with_unfolding_all exact rfl) ?_
  | refine o_ixLn (by first | assumption | exact upd_same) (by decide) (by with_unfolding_all exact rfl) ?_
  | refine o_ixTn (by first | assumption | exact upd_same) (by decide) (by with_unfolding_all exact rfl) ?_
  | refine g_tup (by first | assumption | exact upd_same) (by with_unfolding_all exact rfl) ?_
  | refine g_cons ?_
  | refine g_nil ?_
  | refine g_setLn (by first | assumption | exact upd_same) (by decide) (by with_unfolding_all exact rfl) ?_
  | refine p_2_61 ?_
  | refine p_10_18 ?_
  | refine p_10_15 ?_
  | refine p_10_30 ?_
  | refine p_10_29 ?_
  | refine iteT ?_
  | refine iteF ?_
  | refine ite_nt ?_
  | refine ite_nf ?_
  | refine ⟨_, rfl, ?_⟩
  | refine ⟨⟨_, rfl⟩, ?_⟩))
local macro_rules | `(tactic| walk_at "w") => `(tactic| (repeat walk_at "w1"))

/-! ### drills as texts -/
def Kd.s : Kd → Str
  | .num i => istr i
  | .txt z => z
def callS (c : Cal) : Str := (c.1.s ++ c.2.1) ++ c.2.2
def drillS (cs : List Cal) : Str := if cs = [] then ("-" : Str) else Txt.join (" " : Str) (cs.map callS)
def lowK : Kd → Bool
  | .num i => decide (i < 1000000000000000000000000000000)
  | .txt _ => true
def goodC (c : Cal) : Bool := isCall c && lowK c.1
theorem goodC_iff {c : Cal} : goodC c = true ↔ isCall c = true ∧ lowK c.1 = true := by
  unfold goodC
  rw [Bool.and_eq_true]
theorem goodK_len {k : Kd} (h : kdOk k = true) (h2 : lowK k = true) : k.s.length ≤ 30 ∧ PyData.strOk k.s = true ∧ (32 : Nat) ∉ TL.tl k.s ∧ TL.tl k.s ≠ [] := by
  cases k with
  | num i =>
    have h : 1 ≤ i := of_decide_eq_true h
    have h2 : i < 1000000000000000000000000000000 := of_decide_eq_true h2
    refine ⟨istr_len (by omega) h2, ?_, istr_nospace (by omega), ?_⟩
    · show PyData.strOk (istr i) = true
      rw [strOk_iff, istr_tl (by omega)]
      intro c m
      have := TL.numL_digits _ c m
      omega
    · show TL.tl (istr i) ≠ []
      rw [istr_tl (by omega)]
      exact TL.numL_ne _
  | txt z =>
    rcases kdOk_txt h with rfl | rfl
    · exact ⟨by decide +kernel, by decide +kernel, by decide +kernel, by decide +kernel⟩
    · exact ⟨by decide +kernel, by decide +kernel, by decide +kernel, by decide +kernel⟩
theorem callS_tl {k : Kd} {a b : Nat} : TL.tl (callS (k, S1 a, S1 b)) = TL.tl k.s ++ [a, b] := by
  unfold callS
  rw [TL.tl_append, TL.tl_append, List.append_assoc]
  rfl
theorem callS_len {c : Cal} (h : goodC c = true) : (callS c).length ≤ 32 := by
  obtain ⟨g1, g2⟩ := goodC_iff.mp h
  obtain ⟨h1, a, b, e1, e2, _⟩ := isCall_inv g1
  obtain ⟨k, s, t⟩ := c
  cases e1
  cases e2
  rw [TL.len_tl, callS_tl, List.length_append, ← TL.len_tl]
  have : k.s.length ≤ 30 := (goodK_len h1 g2).1
  simp only [List.length_cons, List.length_nil]
  omega
theorem isCol_bounds {a : Nat} (h : isColN a = true) : 97 ≤ a ∧ a ≤ 102 := isColN_iff.mp h
theorem callS_nospace {c : Cal} (h : goodC c = true) : (32 : Nat) ∉ TL.tl (callS c) := by
  obtain ⟨g1, g2⟩ := goodC_iff.mp h
  obtain ⟨h1, a, b, e1, e2, c1, c2, _⟩ := isCall_inv g1
  obtain ⟨k, s, t⟩ := c
  cases e1
  cases e2
  rw [callS_tl]
  have := (goodK_len h1 g2).2.2.1
  have := isCol_bounds c1
  have := isCol_bounds c2
  simp only [List.mem_append, List.mem_cons, List.not_mem_nil, or_false, not_or]
  refine ⟨(goodK_len h1 g2).2.2.1, by omega, by omega⟩
theorem callS_ok {c : Cal} (h : goodC c = true) : PyData.strOk (callS c) = true := by
  obtain ⟨g1, g2⟩ := goodC_iff.mp h
  obtain ⟨h1, a, b, e1, e2, c1, c2, _⟩ := isCall_inv g1
  obtain ⟨k, s, t⟩ := c
  cases e1
  cases e2
  rw [strOk_iff, callS_tl]
  intro d m
  have hk := strOk_iff.mp (goodK_len h1 g2).2.1 d
  have := isCol_bounds c1
  have := isCol_bounds c2
  simp only [List.mem_append, List.mem_cons, List.not_mem_nil, or_false] at m
  rcases m with m | rfl | rfl
  · exact hk m
  · omega
  · omega
/-! ### a word as a call -/
def head2 (z : Str) : Str := ⟨((TL.tl z).take (z.length - 2)).toArray⟩
theorem cut_head2 (z : Str) : cutS z none (some (-2)) = head2 z := by
  refine TL.ext_tl ?_
  show (((z.cps.toList.drop 0).take (HT.sIx z.length z.length (some (-2)) - 0))) = (TL.tl z).take (z.length - 2)
  rw [List.drop_zero, Nat.sub_zero]
  congr 1
  show ((-2 : Int) + (z.length : Int)).toNat = z.length - 2
  omega
theorem head2_le (z : Str) : (head2 z).length ≤ z.length := by
  rw [TL.len_tl, TL.len_tl]
  show ((TL.tl z).take _).length ≤ _
  rw [List.length_take]
  omega
theorem head2_app {z : Str} {l : List Nat} {a b : Nat} (h : TL.tl z = l ++ [a, b]) : TL.tl (head2 z) = l := by
  show (TL.tl z).take (z.length - 2) = l
  rw [TL.len_tl, h, List.length_append]
  simp
def readKd (z : Str) : Option Kd := if z = ("all" : Str) ∨ z = ("swap" : Str) then some (.txt z) else (readNumber z).map .num
def readCall (z : Str) : Option Cal := match readKd (head2 z) with
  | none => none
  | some k => match (TL.tl z).drop (z.length - 2) with
    | [a, b] => if isCall (k, S1 a, S1 b) then some (k, S1 a, S1 b) else none
    | _ => none
theorem readCall_none {z : Str} (h : readKd (head2 z) = none) : readCall z = none := by
  unfold readCall
  rw [h]
theorem readCall_some {z : Str} {k : Kd} {l : List Nat} {a b : Nat} (e : TL.tl z = l ++ [a, b]) (h : readKd (head2 z) = some k) : readCall z = if isCall (k, S1 a, S1 b) then some (k, S1 a, S1 b) else none := by
  unfold readCall
  rw [h]
  have e2 : (TL.tl z).drop (z.length - 2) = [a, b] := by
    rw [TL.len_tl, e, List.length_append]
    simp
  rw [e2]
theorem readKd_s {k : Kd} (h : kdOk k = true) (h2 : lowK k = true) : readKd k.s = some k := by
  cases k with
  | num i =>
    have h : 1 ≤ i := of_decide_eq_true h
    have h2 : i < 1000000000000000000000000000000 := of_decide_eq_true h2
    unfold readKd
    show (if istr i = ("all" : Str) ∨ istr i = ("swap" : Str) then some (Kd.txt (istr i)) else (readNumber (istr i)).map .num) = _
    rw [read_istr (by omega) h2, if_neg]
    · rfl
    · have hd : ∀ c ∈ TL.tl (istr i), c ≤ 57 := by
        rw [istr_tl (by omega)]
        exact fun c m => (TL.numL_digits _ c m).2
      rintro (e | e)
      · rw [e] at hd
        exact absurd (hd 97 (by decide +kernel)) (by decide)
      · rw [e] at hd
        exact absurd (hd 115 (by decide +kernel)) (by decide)
  | txt z =>
    unfold readKd
    exact if_pos (kdOk_txt h)
theorem read_callS {c : Cal} (h : goodC c = true) : readCall (callS c) = some c := by
  obtain ⟨g1, g2⟩ := goodC_iff.mp h
  obtain ⟨h1, a, b, e1, e2, c1, c2, _⟩ := isCall_inv g1
  obtain ⟨k, s, t⟩ := c
  cases e1
  cases e2
  have e := callS_tl (k := k) (a := a) (b := b)
  have eh : head2 (callS (k, S1 a, S1 b)) = k.s := TL.ext_tl (head2_app e)
  rw [readCall_some e (k := k) (by rw [eh]; exact readKd_s h1 g2), g1]
  rfl
theorem readCall_isCall {z : Str} {c : Cal} (h : readCall z = some c) : isCall c = true := by
  unfold readCall at h
  split at h
  · cases h
  · split at h
    · split at h
      · rename_i hc
        cases h
        exact hc
      · cases h
    · cases h
def readDrill (z : Str) : Option (List Cal) := if z = ("-" : Str) then some [] else if ((Txt.split z (" " : Str)).map readCall).all (·.isSome) then some (((Txt.split z (" " : Str)).map readCall).filterMap id) else none
theorem joinL_head (S a : List Nat) : ∀ r : List (List Nat), a.length ≤ (TL.joinL S (a :: r)).length
  | [] => Nat.le_refl _
  | b :: r => by
    show a.length ≤ (a ++ (S ++ TL.joinL S (b :: r))).length
    rw [List.length_append]
    omega
theorem callS_two {c : Cal} (h : goodC c = true) : 2 ≤ (TL.tl (callS c)).length := by
  obtain ⟨g1, g2⟩ := goodC_iff.mp h
  obtain ⟨h1, a, b, e3, e4, c1, c2, _⟩ := isCall_inv g1
  obtain ⟨k, s, t⟩ := c
  cases e3
  cases e4
  rw [callS_tl, List.length_append]
  simp
theorem drill_ne {cs : List Cal} (hne : cs ≠ []) (h : ∀ c ∈ cs, goodC c = true) : drillS cs ≠ ("-" : Str) := by
  cases cs with
  | nil => exact absurd rfl hne
  | cons c r =>
    unfold drillS
    rw [if_neg (List.cons_ne_nil c r)]
    intro e
    have e2 := congrArg TL.tl e
    rw [TL.join_eq, TL.tl_join, show TL.tl ("-" : Str) = [45] by decide +kernel] at e2
    have hl := congrArg List.length e2
    have h1 := joinL_head (TL.tl (" " : Str)) (TL.tl (callS c)) ((r.map callS).map TL.tl)
    have h2 := callS_two (h c List.mem_cons_self)
    have h3 : (TL.joinL (TL.tl (" " : Str)) (TL.tl (callS c) :: (r.map callS).map TL.tl)).length = 1 := hl
    omega
theorem sp_spc : (" " : Str).length = 1 := by decide +kernel
theorem split_drillS {cs : List Cal} (hne : cs ≠ []) (h : ∀ c ∈ cs, goodC c = true) : Txt.split (drillS cs) (" " : Str) = cs.map callS := by
  unfold drillS
  rw [if_neg hne]
  exact TL.split_join (s := 32) (S := []) (by decide +kernel) (by decide +kernel) (fun e => hne (List.map_eq_nil_iff.mp e)) fun p m => by
    obtain ⟨c, hc, rfl⟩ := List.mem_map.mp m
    exact callS_nospace (h c hc)
theorem read_drillS {cs : List Cal} (h : ∀ c ∈ cs, goodC c = true) : readDrill (drillS cs) = some cs := by
  unfold readDrill
  by_cases hne : cs = []
  · subst hne
    exact if_pos rfl
  · rw [if_neg (drill_ne hne h), split_drillS hne h, List.map_map]
    have e : cs.map (readCall ∘ callS) = cs.map some := List.map_congr_left fun c m => read_callS (h c m)
    rw [e, if_pos]
    · rw [List.filterMap_map]
      exact congrArg some List.filterMap_some
    · rw [List.all_map]
      exact List.all_eq_true.mpr fun _ _ => rfl
theorem drillS_size {cs : List Cal} (h : ∀ c ∈ cs, goodC c = true) (hl : cs.length ≤ 5000) : ((cs.map callS).map (·.length)).sum + (cs.map callS).length * (" " : Str).length ≤ 16777216 := by
  rw [List.map_map, List.length_map, sp_spc]
  have := sum_le (l := cs) (f := (fun x : Str => x.length) ∘ callS) (k := 32) fun i m => callS_len (h i m)
  omega
theorem drillS_len {cs : List Cal} (h : ∀ c ∈ cs, goodC c = true) : (drillS cs).length ≤ cs.length * 33 + 1 := by
  unfold drillS
  split
  · rename_i e
    rw [show ("-" : Str).length = 1 by decide +kernel]
    omega
  · have e := join_len (" " : Str) (cs.map callS)
    have e2 := sum_le (l := cs) (f := (fun x : Str => x.length) ∘ callS) (k := 32) fun i m => callS_len (h i m)
    rw [List.map_map, List.length_map, sp_spc] at e
    omega
theorem drillS_ok {cs : List Cal} (h : ∀ c ∈ cs, goodC c = true) : PyData.strOk (drillS cs) = true := by
  unfold drillS
  split
  · decide +kernel
  · exact strOk_join (by decide +kernel) fun y m => by
      obtain ⟨c, hc, rfl⟩ := List.mem_map.mp m
      exact callS_ok (h c hc)
end Q

set_option Elab.async false
set_option linter.all false
set_option maxRecDepth 100000
set_option maxHeartbeats 4000000
namespace Q
open PySem PySem.Spec PyProof.Rows L2
/-! the steps' tactic: runs a reading up to a choice, a call, a loop, a store -/
local macro_rules | `(tactic| walk_at "w1") => `(tactic| (with_reducible first
  | refine w_var (by with_unfolding_all exact rfl) ?_
  | refine w_c ?_
  | refine w_op ?_
  | refine w_test ?_
  | refine w_tb ?_
  | refine w_cons ?_
  | refine w_nil ?_
  | refine w_cb ?_
  | refine w_call ?_
  | refine w_kw ?_
  | refine z_asg ?_
  | refine z_ret ?_
  | refine z_if ?_
  | refine z_drop ?_
  | refine g_name ?_
  | refine g_sub ?_
  | refine w_bm ?_
  | refine w_bm0 ?_
  | refine w_m1 ?_
  | refine w_m0 ?_
  | refine w_and ?_
  | refine w_or ?_
  | refine w_not ?_
  | refine w_chain ?_
  | refine w_andV ?_
  | refine w_orV ?_
  | refine w_notV ?_
  | refine w_if ?_
  | refine w_un ?_
  | refine w_sl ?_
  | refine w_part ?_
  | refine w_nopart ?_
  | refine w_tup ?_
  | refine w_lst ?_
  | refine w_yes ?_
  | refine z_for ?_
  | refine z_for1 ?_
  | refine w_ilist ?_
  | refine w_irng1 ?_
  | refine w_irng2 ?_
  | refine w_istr ?_
  | refine w_itup ?_
  | refine w_lc ?_
  | refine z_asg1 ?_
  | refine z_if1 ?_
  | refine z_drop1 ?_
  | refine z_next ?_
  | refine o_add ?_
  | refine o_sub ?_
  | refine o_lt ?_
  | refine o_le ?_
  | refine o_gt ?_
  | refine o_ge ?_
  | refine o_neg ?_
  | refine o_max2 ?_
  | refine o_min2 ?_
  | refine o_intB ?_
  | refine o_isn ?_
  | refine o_notn ?_
  | refine o_inc ?_
  | refine o_notinc ?_
  | refine o_eq (by with_unfolding_all exact rfl) ?_
  | refine o_ne (by with_unfolding_all exact rfl) ?_
  | refine o_ixLn (by first | assumption | exact upd_same) (by decide) (by with_unfolding_all exact rfl) ?_
  | refine o_ixTn (by first | assumption | exact upd_same) (by decide) (by with_unfolding_all exact rfl) ?_
  | refine g_tup (by first | assumption | exact upd_same) (by with_unfolding_all exact rfl) ?_
  | refine g_cons ?_
  | refine g_nil ?_
  | refine g_setLn (by first | assumption | exact upd_same) (by decide) (by with_unfolding_all exact rfl) ?_
  | refine p_2_61 ?_
  | refine p_10_18 ?_
  | refine p_10_15 ?_
  | refine p_10_30 ?_
  | refine p_10_29 ?_
  | refine iteT ?_
  | refine iteF ?_
  | refine ite_nt ?_
  | refine ite_nf ?_
  | refine ⟨_, rfl, ?_⟩
  | refine ⟨⟨_, rfl⟩, ?_⟩))
local macro_rules | `(tactic| walk_at "w") => `(tactic| (repeat walk_at "w1"))

/-! ### drills written -/
theorem kd_fmt {te : TE} {k : Kd} {σ : L2.St} {H : Hp} {Q : VK} (hk : kdOk k = true) (h2 : lowK k = true) (q : te σ H fun x H1 => x = k.v ∧ Q (.str k.s) H1) (mono : ∀ Q1 Q2 : VK, (∀ x H, Q1 x H → Q2 x H) → te σ H Q1 → te σ H Q2) : tFmt te σ H Q := by
  refine w_fmt (mono _ _ (fun x H1 h => ?_) q)
  obtain ⟨rfl, q⟩ := h
  cases k with
  | num i =>
    have h : 1 ≤ i := of_decide_eq_true hk
    have h2 : i < 1000000000000000000000000000000 := of_decide_eq_true h2
    exact .inr ⟨i, rfl, istr_log (by omega) h2, q⟩
  | txt z => exact .inl ⟨z, rfl, Nat.le_trans (goodK_len hk h2).1 (by decide), q⟩
theorem empty_app (z : Str) : Str.empty ++ z = z := TL.ext_tl (by rw [TL.tl_append]; rfl)
def sp_show_drill (K : PySem.W.Frag) : Sp := fun vs H Q _ => vs.length = 1 ∧ ∃ (v : V) (cs : List Cal), vs = [v] ∧ Dt H v (drillD cs) ∧ (∀ c ∈ cs, goodC c = true) ∧ cs.length ≤ 5000 ∧ ∀ H', Same H H' → Q (.str (drillS cs)) H'
def t_show_drill (K : PySem.W.Frag) : TS := (tSeq (tAsg (tLc (iList K (tVar 0)) (gTup K 3 (gCons (gName 2) (gCons (gName 3) (gCons (gName 4) gNil)))) tYes (tJoin [(tFmt (tVar 2)), (tFmt (tVar 3)), (tFmt (tVar 4))]) [2, 3, 4]) (gName 1))
    (tRet (tIf (tTest (tOp (rNeD K) (tVar 1) (tLst tNil))) (tM1 (rJoin K) (tC (.str " ")) (tVar 1)) (tC (.str "-")))))

theorem str_len1 {c : Nat} : (S1 c).length = 1 := rfl
theorem one_le {c : Nat} : (S1 c).length ≤ sizeLine := Nat.le_trans (Nat.le_of_eq str_len1) (by decide)
theorem pure_show_drill {K : PySem.W.Frag} {vs : List V} {H : Hp} {Q : VK} {E : XK} (h : sp_show_drill K vs H Q E) : t_show_drill K { nx := fun _ H' => Q .non H', rt := Q } (start ["drill", "words", "kind", "source", "target"] vs) H := by
  obtain ⟨_, v, cs, rfl, hv, hg, hl, q⟩ := h
  obtain ⟨a, xs, rfl, ha, hD⟩ := hv.drill
  unfold t_show_drill
  walk_at "w"
  refine ⟨⟨_, SqL.of ha⟩, fun Dl hDl => ?_⟩
  refine c_dataL calD (fun c => V.str (callS c)) cs xs (Nat.le_trans hl (by decide)) hDl (SqL.of ha) hD (fun c x H' Q' m e dx q' => ?_) (fun H' e hD2 => ?_) mono_tup3
  · obtain ⟨b, rfl, hb⟩ := dx.cal
    have hc := hg c m
    obtain ⟨g1, g2⟩ := goodC_iff.mp hc
    obtain ⟨h1, s, t, e1, e2, c1, c2, _⟩ := isCall_inv g1
    obtain ⟨k, s', t'⟩ := c
    cases e1
    cases e2
    have hb : H' b = some (.tup [k.v, .str (S1 s), .str (S1 t)]) := hb
    have hkl : k.s.length ≤ 30 := (goodK_len h1 g2).1
    walk_at "w"
    refine ⟨rfl, ?_⟩
    refine w_join (w_js (kd_fmt h1 g2 ?_ (fun Q1 Q2 hq h => ?_)))
    · walk_at "w"
      refine ⟨rfl, k.s, rfl, ?_, ?_⟩
      · rw [empty_app]
        exact Nat.le_trans hkl (by decide)
      rw [empty_app]
      refine w_js (w_fmt ?_)
      walk_at "w"
      refine .inl ⟨S1 s, rfl, one_le, S1 s, rfl, ?_, ?_⟩
      · rw [Str.length_append, str_len1]
        exact Nat.le_trans (show k.s.length + 1 ≤ 31 by omega) (by decide)
      refine w_js (w_fmt ?_)
      walk_at "w"
      refine .inl ⟨S1 t, rfl, one_le, S1 t, rfl, ?_, ?_⟩
      · rw [Str.length_append, Str.length_append, str_len1, str_len1]
        exact Nat.le_trans (show k.s.length + 1 + 1 ≤ 32 by omega) (by decide)
      exact w_js0 (q' _ (Same.refl _))
    · obtain ⟨v, hv, h⟩ := h
      exact ⟨v, hv, hq _ _ h⟩
  · walk_at "w"
    refine ⟨len_ok rfl, fun p hp => ?_⟩
    have e3 := same_upd (o := .lst []) hp
    have hD3 := e3 _ _ hD2
    have hD4 : upd H' p (.lst []) Dl = some (.lst ((cs.map callS).map V.str)) := by
      rw [List.map_map]
      exact hD3
    refine o_neT (n := 1) (m := 1) (Dt.ofStrs hD4) (Dt.lst upd_same .nil) (Sh.strs (by rw [List.length_map]; omega) fun x m => ?_) Sh.nil (by decide) (by decide) ?_
    · obtain ⟨c, hc, rfl⟩ := List.mem_map.mp m
      exact callS_ok (hg c hc)
    rw [eqv_nil, List.isEmpty_map, List.isEmpty_map]
    have q := q _ (e.trans e3)
    cases cs with
    | nil =>
      walk_at "w"
      exact q
    | cons c r =>
      rw [show (!(c :: r).isEmpty) = true from rfl]
      walk_at "w"
      refine o_join hD4 (drillS_size hg hl) ?_
      exact q
def sp_law_written (K : PySem.W.Frag) : Sp := fun vs H Q _ => vs.length = 1 ∧ ∃ (v : V) (cs : List Cal), vs = [v] ∧ Dt H v (drillD cs) ∧ (∀ c ∈ cs, goodC c = true) ∧ cs.length ≤ 5000 ∧ ∀ H', Same H H' → Q (.str (drillS cs)) H'
def t_law_written (K : PySem.W.Frag) : TS := (tSeq (tAsg (tLc (iList K (tVar 0)) (gTup K 3 (gCons (gName 2) (gCons (gName 3) (gCons (gName 4) gNil)))) tYes (tOp rAddS (tOp rAddS (tCB rStrA (tCons (tVar 2) tNil)) (tVar 3)) (tVar 4)) [2, 3, 4]) (gName 1))
    (tRet (tIf (tTest (tOp (rNeD K) (tVar 1) (tLst tNil))) (tM1 (rJoin K) (tC (.str " ")) (tVar 1)) (tC (.str "-")))))

theorem o_strK {k : Kd} {H : Hp} {Q : VK} (hk : kdOk k = true) (h2 : lowK k = true) (q : Q (.str k.s) H) : rStrA [k.v] H Q := by
  cases k with
  | num i =>
    have h : 1 ≤ i := of_decide_eq_true hk
    have h2 : i < 1000000000000000000000000000000 := of_decide_eq_true h2
    exact .inl ⟨i, rfl, istr_log (by omega) h2, q⟩
  | txt z => exact .inr ⟨z, rfl, q⟩
theorem pure_law_written {K : PySem.W.Frag} {vs : List V} {H : Hp} {Q : VK} {E : XK} (h : sp_law_written K vs H Q E) : t_law_written K { nx := fun _ H' => Q .non H', rt := Q } (start ["drill", "words", "kind", "source", "target"] vs) H := by
  obtain ⟨_, v, cs, rfl, hv, hg, hl, q⟩ := h
  obtain ⟨a, xs, rfl, ha, hD⟩ := hv.drill
  unfold t_law_written
  walk_at "w"
  refine ⟨⟨_, SqL.of ha⟩, fun Dl hDl => ?_⟩
  refine c_dataL calD (fun c => V.str (callS c)) cs xs (Nat.le_trans hl (by decide)) hDl (SqL.of ha) hD (fun c x H' Q' m e dx q' => ?_) (fun H' e hD2 => ?_) mono_tup3
  · obtain ⟨b, rfl, hb⟩ := dx.cal
    have hc := hg c m
    obtain ⟨g1, g2⟩ := goodC_iff.mp hc
    obtain ⟨h1, s, t, e1, e2, c1, c2, _⟩ := isCall_inv g1
    obtain ⟨k, s', t'⟩ := c
    cases e1
    cases e2
    have hb : H' b = some (.tup [k.v, .str (S1 s), .str (S1 t)]) := hb
    have hkl : k.s.length ≤ 30 := (goodK_len h1 g2).1
    walk_at "w"
    refine ⟨rfl, ?_⟩
    walk_at "w"
    refine o_strK h1 g2 ?_
    walk_at "w"
    refine o_adds ?_ ?_
    · rw [str_len1]
      exact Nat.le_trans (show k.s.length + 1 ≤ 31 by omega) (by decide)
    walk_at "w"
    refine o_adds ?_ ?_
    · rw [Str.length_append, str_len1, str_len1]
      exact Nat.le_trans (show k.s.length + 1 + 1 ≤ 32 by omega) (by decide)
    exact q' _ (Same.refl _)
  · walk_at "w"
    refine ⟨len_ok rfl, fun p hp => ?_⟩
    have e3 := same_upd (o := .lst []) hp
    have hD3 := e3 _ _ hD2
    have hD4 : upd H' p (.lst []) Dl = some (.lst ((cs.map callS).map V.str)) := by
      rw [List.map_map]
      exact hD3
    refine o_neT (n := 1) (m := 1) (Dt.ofStrs hD4) (Dt.lst upd_same .nil) (Sh.strs (by rw [List.length_map]; omega) fun x m => ?_) Sh.nil (by decide) (by decide) ?_
    · obtain ⟨c, hc, rfl⟩ := List.mem_map.mp m
      exact callS_ok (hg c hc)
    rw [eqv_nil, List.isEmpty_map, List.isEmpty_map]
    have q := q _ (e.trans e3)
    cases cs with
    | nil =>
      walk_at "w"
      exact q
    | cons c r =>
      rw [show (!(c :: r).isEmpty) = true from rfl]
      walk_at "w"
      refine o_join hD4 (drillS_size hg hl) ?_
      exact q
end Q

set_option Elab.async false
set_option linter.all false
set_option maxRecDepth 100000
set_option maxHeartbeats 4000000
namespace Q
open PySem PySem.Spec PyProof.Rows L2
/-! the steps' tactic: runs a reading up to a choice, a call, a loop, a store -/
local macro_rules | `(tactic| walk_at "w1") => `(tactic| (with_reducible first
  | refine w_var (by with_unfolding_all exact rfl) ?_
  | refine w_c ?_
  | refine w_op ?_
  | refine w_test ?_
  | refine w_tb ?_
  | refine w_cons ?_
  | refine w_nil ?_
  | refine w_cb ?_
  | refine w_call ?_
  | refine w_kw ?_
  | refine z_asg ?_
  | refine z_ret ?_
  | refine z_if ?_
  | refine z_drop ?_
  | refine g_name ?_
  | refine g_sub ?_
  | refine w_bm ?_
  | refine w_bm0 ?_
  | refine w_m1 ?_
  | refine w_m0 ?_
  | refine w_and ?_
  | refine w_or ?_
  | refine w_not ?_
  | refine w_chain ?_
  | refine w_andV ?_
  | refine w_orV ?_
  | refine w_notV ?_
  | refine w_if ?_
  | refine w_un ?_
  | refine w_sl ?_
  | refine w_part ?_
  | refine w_nopart ?_
  | refine w_tup ?_
  | refine w_lst ?_
  | refine w_yes ?_
  | refine z_for ?_
  | refine z_for1 ?_
  | refine w_ilist ?_
  | refine w_irng1 ?_
  | refine w_irng2 ?_
  | refine w_istr ?_
  | refine w_itup ?_
  | refine w_lc ?_
  | refine z_asg1 ?_
  | refine z_if1 ?_
  | refine z_drop1 ?_
  | refine z_next ?_
  | refine o_add ?_
  | refine o_sub ?_
  | refine o_lt ?_
  | refine o_le ?_
  | refine o_gt ?_
  | refine o_ge ?_
  | refine o_neg ?_
  | refine o_max2 ?_
  | refine o_min2 ?_
  | refine o_intB ?_
  | refine o_isn ?_
  | refine o_notn ?_
  | refine o_inc ?_
  | refine o_notinc ?_
  | refine o_eq (by with_unfolding_all exact rfl) ?_
  | refine o_ne (by with_unfolding_all exact rfl) ?_
  | refine o_ixLn (by first | assumption | exact upd_same) (by decide) (by with_unfolding_all exact rfl) ?_
  | refine o_ixTn (by first | assumption | exact upd_same) (by decide) (by with_unfolding_all exact rfl) ?_
  | refine g_tup (by first | assumption | exact upd_same) (by with_unfolding_all exact rfl) ?_
  | refine g_cons ?_
  | refine g_nil ?_
  | refine g_setLn (by first | assumption | exact upd_same) (by decide) (by with_unfolding_all exact rfl) ?_
  | refine p_2_61 ?_
  | refine p_10_18 ?_
  | refine p_10_15 ?_
  | refine p_10_30 ?_
  | refine p_10_29 ?_
  | refine iteT ?_
  | refine iteF ?_
  | refine ite_nt ?_
  | refine ite_nf ?_
  | refine ⟨_, rfl, ?_⟩
  | refine ⟨⟨_, rfl⟩, ?_⟩))
local macro_rules | `(tactic| walk_at "w") => `(tactic| (repeat walk_at "w1"))

/-! ### drills read -/
def optD : Option Cal → PyData
  | some c => calD c
  | none => .none
theorem atI_two {l : List Nat} {a b : Nat} : atI (l ++ [a, b]) (-2) = some a := by
  unfold atI ixN
  rw [if_neg (by decide), if_pos (by rw [List.length_append]; simp; omega)]
  show (l ++ [a, b])[((-2 : Int) + ((l ++ [a, b]).length : Int)).toNat]? = some a
  rw [show ((-2 : Int) + ((l ++ [a, b]).length : Int)).toNat = l.length by rw [List.length_append]; simp; omega]
  rw [List.getElem?_append_right (Nat.le_refl _), Nat.sub_self]
  rfl
theorem atI_one {l : List Nat} {a b : Nat} : atI (l ++ [a, b]) (-1) = some b := by
  have e := atI_last (l ++ [a]) b
  rw [List.append_assoc] at e
  exact e
theorem readNumber_len {z : Str} {i : Int} (h : readNumber z = some i) : TL.tl z ≠ [] := by
  unfold readNumber at h
  split at h
  · rename_i hc
    intro e
    have h1 := hc.1
    rw [TL.len_tl, e] at h1
    exact absurd h1 (by decide)
  · cases h
theorem readKd_len {z : Str} {k : Kd} (h : readKd z = some k) : TL.tl z ≠ [] := by
  unfold readKd at h
  split at h
  · rename_i hc
    rcases hc with rfl | rfl <;> decide +kernel
  · cases hr : readNumber z with
    | none => rw [hr] at h; cases h
    | some i => exact readNumber_len hr
theorem two_last {z : Str} (h : TL.tl (head2 z) ≠ []) : ∃ l a b, TL.tl z = l ++ [a, b] := by
  have h1 : 2 ≤ (TL.tl z).length := by
    refine Nat.le_of_not_lt fun hlt => h ?_
    show (TL.tl z).take (z.length - 2) = []
    rw [TL.len_tl, show (TL.tl z).length - 2 = 0 by omega, List.take_zero]
  have h2 : ((TL.tl z).drop ((TL.tl z).length - 2)).length = 2 := by
    rw [List.length_drop]
    omega
  obtain ⟨a, b, e⟩ : ∃ a b, (TL.tl z).drop ((TL.tl z).length - 2) = [a, b] := by
    match hd : (TL.tl z).drop ((TL.tl z).length - 2), h2 with
    | [a, b], _ => exact ⟨a, b, rfl⟩
  exact ⟨_, a, b, by rw [← e, List.take_append_drop]⟩
theorem readNumber_log {z : Str} {i : Int} (h : readNumber z = some i) : 0 ≤ i := by
  unfold readNumber at h
  split at h
  · split at h
    · cases h
      omega
    · cases h
  · cases h
def sp_read_call (K : PySem.W.Frag) : Sp := fun vs H Q _ => vs.length = 1 ∧ ∃ z : Str, vs = [.str z] ∧ z.length ≤ 90000 ∧ ∀ v H', Same H H' → Dt (nw H H') v (optD (readCall z)) → Q v H'
def t_read_call (K : PySem.W.Frag) : TS := (tSeq (tAsg (tIf (tTest (tOp (rIn K false) (tSl rSlS (tVar 0) tNoPart (tPart (tUn (rU fun i => .int (-i)) (tC (.int 2))))) (tTup (tCons (tC (.str "all")) (tCons (tC (.str "swap")) tNil))))) (tSl rSlS (tVar 0) tNoPart (tPart (tUn (rU fun i => .int (-i)) (tC (.int 2))))) (tCall (sp_read_number K) [] E0 (tCons (tSl rSlS (tVar 0) tNoPart (tPart (tUn (rU fun i => .int (-i)) (tC (.int 2))))) tNil))) (gName 1))
    (tSeq (tIfS (tTest (tOp rIsN (tVar 1) (tC .non))) (tRet (tC .non)) tNext)
    (tSeq (tAsg (tTup (tCons (tVar 1) (tCons (tOp rIxS (tVar 0) (tUn (rU fun i => .int (-i)) (tC (.int 2)))) (tCons (tOp rIxS (tVar 0) (tUn (rU fun i => .int (-i)) (tC (.int 1)))) tNil)))) (gName 2))
    (tRet (tIf (tB (tCall (sp_is_call K) [] E0 (tCons (tVar 2) tNil))) (tVar 2) (tC .non))))))

section
variable {K : PySem.W.Frag}
/-- what follows the kind -/
theorem read_call_tail {z : Str} {H H0 : Hp} {Q : VK} {x : Option V} (hz : z.length ≤ 90000) (k : Kd) (hk : readKd (head2 z) = some k) (e : Same H0 H) (q : ∀ v H', Same H0 H' → Dt (nw H0 H') v (optD (readCall z)) → Q v H') :
    tSeq (tAsg (tTup (tCons (tVar 1) (tCons (tOp rIxS (tVar 0) (tUn (rU fun i => .int (-i)) (tC (.int 2)))) (tCons (tOp rIxS (tVar 0) (tUn (rU fun i => .int (-i)) (tC (.int 1)))) tNil)))) (gName 2))
      (tRet (tIf (tB (tCall (sp_is_call K) [] E0 (tCons (tVar 2) tNil))) (tVar 2) (tC .non))) { nx := fun _ H' => Q .non H', rt := Q } [some (.str z), some k.v, x] H := by
  obtain ⟨l, a, b, ez⟩ := two_last (readKd_len hk)
  have eh : TL.tl (head2 z) = l := head2_app ez
  have hz5 := small5 (Nat.le_trans hz (by decide))
  walk_at "w"
  refine ⟨z, _, a, rfl, rfl, hz5, ?_, ?_⟩
  · show atI (TL.tl z) (-2) = some a
    rw [ez]
    exact atI_two
  walk_at "w"
  refine ⟨z, _, b, rfl, rfl, hz5, ?_, ?_⟩
  · show atI (TL.tl z) (-1) = some b
    rw [ez]
    exact atI_one
  walk_at "w"
  refine ⟨len_ok rfl, fun p hp => ?_⟩
  walk_at "w"
  have hl : calLen (k, S1 a, S1 b) ≤ 100000 := by
    have h1 : kdLen k ≤ 90000 := by
      cases k with
      | num i => exact Nat.zero_le _
      | txt y =>
        have e : y = head2 z := by
          unfold readKd at hk
          split at hk
          · cases hk
            rfl
          · cases hr : readNumber (head2 z) with
            | none => rw [hr] at hk; cases hk
            | some i => rw [hr] at hk; cases hk
        rw [e]
        exact Nat.le_trans (head2_le z) hz
    show kdLen k + (1 + 1) ≤ 100000
    omega
  refine ⟨rfl, .ref p, (k, S1 a, S1 b), rfl, Dt.ofCal upd_same, hl, fun H2 e2 => ?_⟩
  walk_at "w"
  have er := readCall_some ez hk
  have hp2 := e2 _ _ (upd_same (H := H) (a := p) (o := .tup [k.v, .str (S1 a), .str (S1 b)]))
  have e02 := e.trans ((same_upd (o := .tup [k.v, .str (S1 a), .str (S1 b)]) hp).trans e2)
  cases hc : isCall (k, S1 a, S1 b) with
  | true =>
    rw [hc, if_pos rfl] at er
    rw [er] at q
    walk_at "w"
    refine q _ _ e02 ?_
    refine Dt.ofCal (c := (k, S1 a, S1 b)) ?_
    rw [nw_none (e.free hp)]
    exact hp2
  | false =>
    rw [hc, if_neg Bool.false_ne_true] at er
    rw [er] at q
    walk_at "w"
    exact q _ _ e02 .non
end
theorem pure_read_call {K : PySem.W.Frag} {vs : List V} {H : Hp} {Q : VK} {E : XK} (h : sp_read_call K vs H Q E) : t_read_call K { nx := fun _ H' => Q .non H', rt := Q } (start ["word", "kind", "call"] vs) H := by
  obtain ⟨_, z, rfl, hz, q⟩ := h
  have hz5 := small5 (Nat.le_trans hz (by decide))
  unfold t_read_call
  walk_at "w"
  refine o_slS hz5 ?_
  walk_at "w"
  refine ⟨len_ok rfl, fun p hp => ?_⟩
  refine ⟨p, _, rfl, .inr (SqT.of upd_same), rfl, rfl, ?_⟩
  walk_at "w"
  rw [if_neg Bool.false_ne_true, in_all_swap]
  have ec : cutS z none (some (-2)) = head2 z := cut_head2 z
  have e1 := same_upd (o := .tup [V.str "all", V.str "swap"]) hp
  rw [ec]
  by_cases hk : head2 z = ("all" : Str) ∨ head2 z = ("swap" : Str)
  · have hb : (decide (head2 z = ("all" : Str)) || decide (head2 z = ("swap" : Str))) = true := by simpa using hk
    rw [hb]
    walk_at "w"
    refine o_slS hz5 ?_
    rw [ec]
    walk_at "w"
    exact read_call_tail hz (.txt (head2 z)) (if_pos hk) e1 q
  · have hb : (decide (head2 z = ("all" : Str)) || decide (head2 z = ("swap" : Str))) = false := by
      rw [Bool.eq_false_iff]
      exact fun h => hk (by simpa using h)
    rw [hb]
    walk_at "w"
    refine o_slS hz5 ?_
    rw [ec]
    walk_at "w"
    refine ⟨rfl, head2 z, rfl, Nat.le_trans (head2_le z) (Nat.le_trans hz (by decide)), fun H2 e2 => ?_⟩
    walk_at "w"
    cases hr : readNumber (head2 z) with
    | none =>
      have hn : readCall z = none := readCall_none (by unfold readKd; rw [if_neg hk, hr]; rfl)
      rw [hn] at q
      unfold optI
      walk_at "w"
      exact q _ _ (e1.trans e2) .non
    | some i =>
      unfold optI
      walk_at "w"
      exact read_call_tail hz (.num i) (by unfold readKd; rw [if_neg hk, hr]; rfl) (e1.trans e2) q
/-- the words of a text as data -/
def wordsD (z : Str) : List PyData := (Txt.split z (" " : Str)).map (optD ∘ readCall)
theorem optD_sh {n : Nat} {o : Option Cal} (h : ∀ c, o = some c → isCall c = true) : Sh (n + 1) (optD o) := by
  cases o with
  | none => exact Sh.non
  | some c => exact Sh.cal (okCal_of (h c rfl))
theorem optD_non (o : Option Cal) : PyData.eqv (optD o) .none = !o.isSome := by cases o <;> rfl
theorem any_non (ws : List Str) : (ws.map (optD ∘ readCall)).any (fun z => PyData.eqv z .none) = !((ws.map readCall).all (·.isSome)) := by
  induction ws with
  | nil => rfl
  | cons w r ih =>
    rw [List.map_cons, List.map_cons, List.any_cons, List.all_cons, ih]
    show (PyData.eqv (optD (readCall w)) .none || _) = _
    rw [optD_non, Bool.not_and]
theorem all_some : ∀ {os : List (Option Cal)}, os.all (·.isSome) = true → os = (os.filterMap id).map some
  | [], _ => rfl
  | none :: r, h => by cases h
  | some c :: r, h => by
    rw [List.all_cons, Bool.and_eq_true] at h
    rw [show (some c :: r).filterMap id = c :: r.filterMap id from rfl, List.map_cons, ← all_some h.2]
end Q

set_option Elab.async false
set_option linter.all false
set_option maxRecDepth 100000
set_option maxHeartbeats 4000000
namespace Q
open PySem PySem.Spec PyProof.Rows L2
/-! the steps' tactic: runs a reading up to a choice, a call, a loop, a store -/
local macro_rules | `(tactic| walk_at "w1") => `(tactic| (with_reducible first
  | refine w_var (by with_unfolding_all exact rfl) ?_
  | refine w_c ?_
  | refine w_op ?_
  | refine w_test ?_
  | refine w_tb ?_
  | refine w_cons ?_
  | refine w_nil ?_
  | refine w_cb ?_
  | refine w_call ?_
  | refine w_kw ?_
  | refine z_asg ?_
  | refine z_ret ?_
  | refine z_if ?_
  | refine z_drop ?_
  | refine g_name ?_
  | refine g_sub ?_
  | refine w_bm ?_
  | refine w_bm0 ?_
  | refine w_m1 ?_
  | refine w_m0 ?_
  | refine w_and ?_
  | refine w_or ?_
  | refine w_not ?_
  | refine w_chain ?_
  | refine w_andV ?_
  | refine w_orV ?_
  | refine w_notV ?_
  | refine w_if ?_
  | refine w_un ?_
  | refine w_sl ?_
  | refine w_part ?_
  | refine w_nopart ?_
  | refine w_tup ?_
  | refine w_lst ?_
  | refine w_yes ?_
  | refine z_for ?_
  | refine z_for1 ?_
  | refine w_ilist ?_
  | refine w_irng1 ?_
  | refine w_irng2 ?_
  | refine w_istr ?_
  | refine w_itup ?_
  | refine w_lc ?_
  | refine z_asg1 ?_
  | refine z_if1 ?_
  | refine z_drop1 ?_
  | refine z_next ?_
  | refine o_add ?_
  | refine o_sub ?_
  | refine o_lt ?_
  | refine o_le ?_
  | refine o_gt ?_
  | refine o_ge ?_
  | refine o_neg ?_
  | refine o_max2 ?_
  | refine o_min2 ?_
  | refine o_intB ?_
  | refine o_isn ?_
  | refine o_notn ?_
  | refine o_inc ?_
  | refine o_notinc ?_
  | refine o_eq (by with_unfolding_all exact rfl) ?_
  | refine o_ne (by with_unfolding_all exact rfl) ?_
  | refine o_ixLn (by first | assumption | exact upd_same) (by decide) (by with_unfolding_all exact rfl) ?_
  | refine o_ixTn (by first | assumption | exact upd_same) (by decide) (by with_unfolding_all exact rfl) ?_
  | refine g_tup (by first | assumption | exact upd_same) (by with_unfolding_all exact rfl) ?_
  | refine g_cons ?_
  | refine g_nil ?_
  | refine g_setLn (by first | assumption | exact upd_same) (by decide) (by with_unfolding_all exact rfl) ?_
  | refine p_2_61 ?_
  | refine p_10_18 ?_
  | refine p_10_15 ?_
  | refine p_10_30 ?_
  | refine p_10_29 ?_
  | refine iteT ?_
  | refine iteF ?_
  | refine ite_nt ?_
  | refine ite_nf ?_
  | refine ⟨_, rfl, ?_⟩
  | refine ⟨⟨_, rfl⟩, ?_⟩))
local macro_rules | `(tactic| walk_at "w") => `(tactic| (repeat walk_at "w1"))

/-! ### draws of numbers -/
def sp_law_long (K : PySem.W.Frag) : Sp := fun vs H Q _ => vs.length = 1 ∧ ∃ (s d : Addr) (n : Int), vs = [.ref s] ∧ Src s d n H ∧ n ≤ 950000000 ∧
  ∀ r H', 0 ≤ r → r < 1000000000000000000000000000000 → Src s d (n + 2) H' → Fr [s, d] H H' → Q (.int r) H'
def t_law_long (K : PySem.W.Frag) : TS := (tRet (tOp rAddI (tOp rMulI (tCall (sp_law_draw K) [] E0 (tCons (tVar 0) (tCons (tOp rPowI (tC (.int 10)) (tC (.int 15))) tNil))) (tOp rPowI (tC (.int 10)) (tC (.int 15)))) (tCall (sp_law_draw K) [] E0 (tCons (tVar 0) (tCons (tOp rPowI (tC (.int 10)) (tC (.int 15))) tNil)))))

theorem pure_law_long {K : PySem.W.Frag} {vs : List V} {H : Hp} {Q : VK} {E : XK} (h : sp_law_long K vs H Q E) : t_law_long K { nx := fun _ H' => Q .non H', rt := Q } (start ["source"] vs) H := by
  obtain ⟨_, s, d, n, rfl, hS, hn, q⟩ := h
  unfold t_law_long
  walk_at "w"
  refine u_draw hS (by omega) (by decide) (by decide) fun r1 H1 a1 b1 S1 f1 => ?_
  walk_at "w"
  refine o_mul (.inl ⟨by omega, by omega⟩) ?_
  walk_at "w"
  refine u_draw S1 (by omega) (by decide) (by decide) fun r2 H2 a2 b2 S2 f2 => ?_
  walk_at "w"
  exact q _ _ (by omega) (by omega) (S2.more (by omega)) (f1.trans f2)
def sp_law_numbers (K : PySem.W.Frag) : Sp := fun vs H Q _ => vs.length = 1 ∧ ∃ (s d : Addr) (n : Int), vs = [.ref s] ∧ Src s d n H ∧ n ≤ 900000000 ∧
  ∀ p (ns : List Int) H', ns.length = 6 → (∀ i ∈ ns, 0 ≤ i ∧ i < 1000000000000000000000000000000) → Src s d (n + 30) H' → Fr [s, d] H H' → H p = none → H' p = some (.lst (ns.map V.int)) → Q (.ref p) H'
def t_law_numbers (K : PySem.W.Frag) : TS := (tSeq (tAsg (tLst tNil) (gName 1))
    (tSeq (tFor (iRng1 (tCons (tC (.int 6)) tNil)) (gName 2) (tSeq (tAsg (tLst (tCons (tC (.int 0)) (tCons (tCall (sp_law_draw K) [] E0 (tCons (tVar 0) (tCons (tC (.int 9)) tNil))) (tCons (tCall (sp_law_long K) [] E0 (tCons (tVar 0) tNil)) (tCons (tOp rSubI (tOp rSubI (tOp rPowI (tC (.int 10)) (tC (.int 30))) (tC (.int 1))) (tCall (sp_law_draw K) [] E0 (tCons (tVar 0) (tCons (tC (.int 9)) tNil)))) tNil))))) (gName 3))
    (tDrop (tBM K "list" rAppend (tVar 1) (tCons (tOp (rIxL K) (tVar 3) (tCall (sp_law_draw K) [] E0 (tCons (tVar 0) (tCons (tC (.int 4)) tNil)))) tNil)))))
    (tRet (tVar 1))))

theorem pure_law_numbers {K : PySem.W.Frag} {vs : List V} {H : Hp} {Q : VK} {E : XK} (h : sp_law_numbers K vs H Q E) : t_law_numbers K { nx := fun _ H' => Q .non H', rt := Q } (start ["source", "found", "k", "some"] vs) H := by
  obtain ⟨_, s, d, n, rfl, hS, hn, q⟩ := h
  unfold t_law_numbers
  walk_at "w"
  refine ⟨len_ok rfl, fun p hp => ?_⟩
  walk_at "w"
  have hps : p ∉ [s, d] := hS.trk.ne hp
  refine ⟨by decide, by decide, f_rng (fun i σ H1 => ∃ (ns : List Int) (x2 x3 : Option V), σ = [some (.ref s), some (.ref p), x2, x3] ∧ ns.length = i ∧ (∀ i ∈ ns, 0 ≤ i ∧ i < 1000000000000000000000000000000) ∧ Src s d (n + 5 * i) H1 ∧ Fr [p, s, d] H H1 ∧ H1 p = some (.lst (ns.map V.int))) ?_ ?_ ?_⟩
  · exact ⟨[], none, none, rfl, rfl, (fun i m => nomatch m), (hS.up (same_upd hp)).more (by omega), Fr.new hp, upd_same⟩
  · intro i σ H1 hi hP
    obtain ⟨ns, x2, x3, rfl, hl, hns, S1, f1, hD⟩ := hP
    have hi : i < 6 := hi
    walk_at "w"
    refine u_draw S1 (by omega) (by decide) (by decide) fun r2 H2 a2 b2 S2 f2 => ?_
    walk_at "w"
    refine ⟨rfl, s, d, _, rfl, S2, by omega, fun r3 H3 a3 b3 S3 f3 => ?_⟩
    walk_at "w"
    refine u_draw S3 (by omega) (by decide) (by decide) fun r4 H4 a4 b4 S4 f4 => ?_
    walk_at "w"
    refine ⟨len_ok rfl, fun o ho => ?_⟩
    have hD4 : H4 p = some (.lst (ns.map V.int)) := (f2.trans (f3.trans f4)) _ _ hps hD
    walk_at "w"
    refine ⟨ty_list (same_upd ho _ _ hD4), ?_⟩
    walk_at "w"
    have hso : o ∉ [s, d] := S4.trk.ne ho
    refine u_draw (S4.up (same_upd ho)) (by omega) (by decide) (by decide) fun r5 H5 a5 b5 S5 f5 => ?_
    have ho5 : H5 o = some (.lst [.int 0, .int r2, .int r3, .int (1000000000000000000000000000000 - 1 - r4)]) := f5 _ _ hso upd_same
    have hp5 : H5 p = some (.lst (ns.map V.int)) := f5 _ _ hps (same_upd ho _ _ hD4)
    have pick4 : ∃ z : Int, [V.int 0, .int r2, .int r3, .int (1000000000000000000000000000000 - 1 - r4)][r5.toNat]? = some (.int z) ∧ 0 ≤ z ∧ z < 1000000000000000000000000000000 := by
      have h4 : r5 = 0 ∨ r5 = 1 ∨ r5 = 2 ∨ r5 = 3 := by omega
      rcases h4 with rfl | rfl | rfl | rfl
      · exact ⟨0, rfl, by decide, by decide⟩
      · exact ⟨r2, rfl, by omega, by omega⟩
      · exact ⟨r3, rfl, by omega, by omega⟩
      · exact ⟨_, rfl, by omega, by omega⟩
    obtain ⟨z, hz, z0, z1⟩ := pick4
    refine o_ixLn ho5 a5 hz ?_
    walk_at "w"
    refine o_append hp5 (by rw [List.length_map]; exact small1000 (by omega)) ?_
    refine ⟨ns ++ [z], _, _, rfl, by rw [List.length_append, hl]; rfl, ?_, ?_, ?_, ?_⟩
    · intro j m
      rcases List.mem_append.mp m with m | m
      · exact hns j m
      · rw [List.mem_singleton.mp m]
        exact ⟨z0, z1⟩
    · obtain ⟨ds, a, m, k, h1, h2, h3⟩ := S5
      refine ⟨ds, a, m, k, ?_, ?_, h3.1, h3.2.1, h3.2.2.1, h3.2.2.2.1, h3.2.2.2.2.1, h3.2.2.2.2.2.1, by have := h3.2.2.2.2.2.2; omega⟩
      · rw [upd_ne (fun e => hps (by rw [← e]; simp))]
        exact h1
      · rw [upd_ne (fun e => hps (by rw [← e]; simp))]
        exact h2
    · exact (((f1.trans (Fr.more (f2.trans (f3.trans f4)) (by simp))).trans (Fr.new ho)).trans (Fr.more f5 (by simp))).trans (Fr.mut (by simp))
    · rw [upd_same, List.map_append]
      rfl
  · intro σ H1 hP
    obtain ⟨ns, x2, x3, rfl, hl, hns, S1, f1, hD⟩ := hP
    walk_at "w"
    exact q p ns H1 hl hns (S1.more (by rw [show ((6 : Int).toNat : Int) = 6 from rfl]; omega)) (f1.drop hp) hp hD
end Q

set_option Elab.async false
set_option linter.all false
set_option maxRecDepth 100000
set_option maxHeartbeats 4000000
namespace Q
open PySem PySem.Spec PyProof.Rows L2
/-! the steps' tactic: runs a reading up to a choice, a call, a loop, a store -/
local macro_rules | `(tactic| walk_at "w1") => `(tactic| (with_reducible first
  | refine w_var (by with_unfolding_all exact rfl) ?_
  | refine w_c ?_
  | refine w_op ?_
  | refine w_test ?_
  | refine w_tb ?_
  | refine w_cons ?_
  | refine w_nil ?_
  | refine w_cb ?_
  | refine w_call ?_
  | refine w_kw ?_
  | refine z_asg ?_
  | refine z_ret ?_
  | refine z_if ?_
  | refine z_drop ?_
  | refine g_name ?_
  | refine g_sub ?_
  | refine w_bm ?_
  | refine w_bm0 ?_
  | refine w_m1 ?_
  | refine w_m0 ?_
  | refine w_and ?_
  | refine w_or ?_
  | refine w_not ?_
  | refine w_chain ?_
  | refine w_andV ?_
  | refine w_orV ?_
  | refine w_notV ?_
  | refine w_if ?_
  | refine w_un ?_
  | refine w_sl ?_
  | refine w_part ?_
  | refine w_nopart ?_
  | refine w_tup ?_
  | refine w_lst ?_
  | refine w_yes ?_
  | refine z_for ?_
  | refine z_for1 ?_
  | refine w_ilist ?_
  | refine w_irng1 ?_
  | refine w_irng2 ?_
  | refine w_istr ?_
  | refine w_itup ?_
  | refine w_lc ?_
  | refine z_asg1 ?_
  | refine z_if1 ?_
  | refine z_drop1 ?_
  | refine z_next ?_
  | refine o_add ?_
  | refine o_sub ?_
  | refine o_lt ?_
  | refine o_le ?_
  | refine o_gt ?_
  | refine o_ge ?_
  | refine o_neg ?_
  | refine o_max2 ?_
  | refine o_min2 ?_
  | refine o_intB ?_
  | refine o_isn ?_
  | refine o_notn ?_
  | refine o_inc ?_
  | refine o_notinc ?_
  | refine o_eq (by with_unfolding_all exact rfl) ?_
  | refine o_ne (by with_unfolding_all exact rfl) ?_
  | refine o_ixLn (by first | assumption | exact upd_same) (by decide) (by with_unfolding_all exact rfl) ?_
  | refine o_ixTn (by first | assumption | exact upd_same) (by decide) (by with_unfolding_all exact rfl) ?_
  | refine g_tup (by first | assumption | exact upd_same) (by with_unfolding_all exact rfl) ?_
  | refine g_cons ?_
  | refine g_nil ?_
  | refine g_setLn (by first | assumption | exact upd_same) (by decide) (by with_unfolding_all exact rfl) ?_
  | refine p_2_61 ?_
  | refine p_10_18 ?_
  | refine p_10_15 ?_
  | refine p_10_30 ?_
  | refine p_10_29 ?_
  | refine iteT ?_
  | refine iteF ?_
  | refine ite_nt ?_
  | refine ite_nf ?_
  | refine ⟨_, rfl, ?_⟩
  | refine ⟨⟨_, rfl⟩, ?_⟩))
local macro_rules | `(tactic| walk_at "w") => `(tactic| (repeat walk_at "w1"))

/-! ### drills drawn -/
theorem seqIx {r : Int} {n : Nat} (h0 : 0 ≤ r) (h1 : r < n) : seqIndex? r n = some r.toNat := by
  have e : (if r < 0 then r + (n : Int) else r) = r := if_neg (by omega)
  unfold seqIndex?
  simp only [e]
  rw [if_pos (by simp; omega)]
theorem Src.keep {s d : Addr} {n : Int} {H H' : Hp} (h : Src s d n H) (e : ∀ b ∈ [s, d], H' b = H b) : Src s d n H' := by
  obtain ⟨ds, a, m, k, h1, h2, h3⟩ := h
  exact ⟨ds, a, m, k, by rw [e s (by simp)]; exact h1, by rw [e d (by simp)]; exact h2, h3⟩
theorem perm_erase {α : Type} : ∀ {l : List α} {i : Nat} (h : i < l.length), (l[i] :: l.eraseIdx i).Perm l
  | a :: l, 0, _ => List.Perm.refl _
  | a :: l, i + 1, h => by
    show (l[i]'(Nat.lt_of_succ_lt_succ h) :: a :: l.eraseIdx i).Perm (a :: l)
    exact (List.Perm.swap _ _ _).trans ((perm_erase _).cons a)
theorem o_popAt {p : Addr} {xs : List V} {r : Int} {y : V} {H : Hp} {Q : VK} (h : H p = some (.lst xs)) (h0 : 0 ≤ r) (h1 : r < xs.length) (hz : xs.length ≤ sizeLine) (hy : xs[r.toNat]? = some y) (q : Q y (upd H p (.lst (xs.eraseIdx r.toNat)))) : rPopAt (.ref p) [.int r] H Q :=
  ⟨p, xs, r, r.toNat, y, rfl, rfl, h, by omega, by
    have : (sizeLine : Int) < 2 ^ 63 := by decide
    omega, seqIx h0 h1, hy, q⟩
def sp_law_shuffled (K : PySem.W.Frag) : Sp := fun vs H Q _ => vs.length = 2 ∧ ∃ (s d : Addr) (n : Int) (x : V) (xs : List V), vs = [.ref s, x] ∧ Src s d n H ∧ ((∃ z, x = .str z ∧ xs = signs z) ∨ ∃ a, x = .ref a ∧ H a = some (.lst xs)) ∧ xs.length ≤ 1000 ∧ n ≤ 900000000 ∧
  ∀ p ys H', ys.Perm xs → Src s d (n + xs.length) H' → Fr [s, d] H H' → H p = none → H' p = some (.lst ys) → Q (.ref p) H'
def t_law_shuffled (K : PySem.W.Frag) : TS := (tSeq (tAsg (tCB (rListA K) (tCons (tVar 1) tNil)) (gName 2))
    (tRet (tLc (iRng1 (tCons (tCB (rLenL K) (tCons (tVar 2) tNil)) tNil)) (gName 3) tYes (tBM K "list" rPopAt (tVar 2) (tCons (tCall (sp_law_draw K) [] E0 (tCons (tVar 0) (tCons (tCB (rLenL K) (tCons (tVar 2) tNil)) tNil))) tNil)) [3])))

theorem pure_law_shuffled {K : PySem.W.Frag} {vs : List V} {H : Hp} {Q : VK} {E : XK} (h : sp_law_shuffled K vs H Q E) : t_law_shuffled K { nx := fun _ H' => Q .non H', rt := Q } (start ["source", "items", "left", "item"] vs) H := by
  obtain ⟨_, s, d, n, x, xs, rfl, hS, hx, hl, hn, q⟩ := h
  unfold t_law_shuffled
  walk_at "w"
  have step : ∀ l, H l = none → tRet (tLc (iRng1 (tCons (tCB (rLenL K) (tCons (tVar 2) tNil)) tNil)) (gName 3) tYes (tBM K "list" rPopAt (tVar 2) (tCons (tCall (sp_law_draw K) [] E0 (tCons (tVar 0) (tCons (tCB (rLenL K) (tCons (tVar 2) tNil)) tNil))) tNil)) [3])
      { nx := fun _ H' => Q .non H', rt := Q } [some (.ref s), some x, some (.ref l), none] (upd H l (.lst xs)) := fun l hl0 => by
    have hsz : xs.length ≤ sizeLine := Nat.le_of_lt (small1000 hl)
    have hls : l ∉ [s, d] := hS.trk.ne hl0
    have S1 := hS.up (same_upd (o := .lst xs) hl0)
    walk_at "w"
    refine o_lenL upd_same ?_
    walk_at "w"
    have hb : ((xs.length : Nat) : Int) ≤ 1000 := by omega
    refine ⟨by omega, by omega, fun Dl hDl => ?_⟩
    have hDs : Dl ∉ [s, d] := S1.trk.ne hDl
    have hlD : l ≠ Dl := fun e => by rw [← e, upd_same] at hDl; cases hDl
    have hD0 : H Dl = none := (same_upd (o := .lst xs) hl0).free hDl
    refine c_rng (fun i H1 => ∃ acc rem, H1 Dl = some (.lst acc) ∧ H1 l = some (.lst rem) ∧ acc.length = i ∧ (acc ++ rem).Perm xs ∧ Src s d (n + i) H1 ∧ Fr [Dl, l, s, d] H H1) ?_ ?_ ?_
    · refine ⟨[], xs, upd_same, ?_, rfl, List.Perm.refl _, (S1.up (same_upd hDl)).more (by omega), ?_⟩
      · rw [upd_ne hlD.symm.symm]
        exact upd_same
      · exact (Fr.new hl0).trans (Fr.new hDl)
    · rintro i H1 hi ⟨acc, rem, h1, h2, h3, h4, h5, h6⟩
      have hlen : acc.length + rem.length = xs.length := by rw [← List.length_append]; exact h4.length_eq
      have hi : i < xs.length := by omega
      walk_at "w"
      refine ⟨rfl, ?_⟩
      walk_at "w"
      refine ⟨ty_list h2, ?_⟩
      walk_at "w"
      refine o_lenL h2 ?_
      walk_at "w"
      refine u_draw h5 (by omega) (by omega) (by omega) fun r H2 a2 b2 S2 f2 => ?_
      have h22 := f2 _ _ hls h2
      have h12 := f2 _ _ hDs h1
      walk_at "w"
      have hr : r.toNat < rem.length := by omega
      refine o_popAt h22 a2 (by omega) (by omega) (List.getElem?_eq_getElem hr) ?_
      refine ⟨acc, ?_, by omega, acc ++ [rem[r.toNat]], rem.eraseIdx r.toNat, upd_same, ?_, ?_, ?_, ?_, ?_⟩
      · rw [upd_ne hlD.symm]
        exact h12
      · rw [upd_ne hlD]
        exact upd_same
      · rw [List.length_append, h3]
        rfl
      · refine List.Perm.trans ?_ h4
        rw [List.append_assoc]
        refine List.Perm.append_left acc ?_
        exact perm_erase hr
      · refine (S2.keep fun b m => ?_).more (by omega)
        have b1 : b ≠ l := fun e => hls (e ▸ m)
        have b2 : b ≠ Dl := fun e => hDs (e ▸ m)
        rw [upd_ne b2, upd_ne b1]
      · exact (h6.trans (f2.more (by simp))).trans ((Fr.mut (by simp)).trans (Fr.mut (by simp)))
    · rintro H1 ⟨acc, rem, h1, h2, h3, h4, h5, h6⟩
      have hlen : acc.length + rem.length = xs.length := by rw [← List.length_append]; exact h4.length_eq
      have h3 : acc.length = xs.length := by omega
      have hr : rem = [] := List.length_eq_zero_iff.mp (by omega)
      rw [hr, List.append_nil] at h4
      exact q Dl acc H1 h4 (h5.more (by omega)) ((h6.drop hD0).drop hl0) hD0 h1
  rcases hx with ⟨z, rfl, rfl⟩ | ⟨a, rfl, ha⟩
  · refine o_listS ?_ fun l hl0 => ?_
    · unfold signs at hl
      rw [List.length_map, ← TL.len_tl] at hl
      omega
    exact step l hl0
  · refine o_listA ha fun l hl0 => ?_
    exact step l hl0
end Q

set_option Elab.async false
set_option linter.all false
set_option maxRecDepth 100000
set_option maxHeartbeats 4000000
namespace Q
open PySem PySem.Spec PyProof.Rows L2
/-! the steps' tactic: runs a reading up to a choice, a call, a loop, a store -/
local macro_rules | `(tactic| walk_at "w1") => `(tactic| (with_reducible first
  | refine w_var (by with_unfolding_all exact rfl) ?_
  | refine w_c ?_
  | refine w_op ?_
  | refine w_test ?_
  | refine w_tb ?_
  | refine w_cons ?_
  | refine w_nil ?_
  | refine w_cb ?_
  | refine w_call ?_
  | refine w_kw ?_
  | refine z_asg ?_
  | refine z_ret ?_
  | refine z_if ?_
  | refine z_drop ?_
  | refine g_name ?_
  | refine g_sub ?_
  | refine w_bm ?_
  | refine w_bm0 ?_
  | refine w_m1 ?_
  | refine w_m0 ?_
  | refine w_and ?_
  | refine w_or ?_
  | refine w_not ?_
  | refine w_chain ?_
  | refine w_andV ?_
  | refine w_orV ?_
  | refine w_notV ?_
  | refine w_if ?_
  | refine w_un ?_
  | refine w_sl ?_
  | refine w_part ?_
  | refine w_nopart ?_
  | refine w_tup ?_
  | refine w_lst ?_
  | refine w_yes ?_
  | refine z_for ?_
  | refine z_for1 ?_
  | refine w_ilist ?_
  | refine w_irng1 ?_
  | refine w_irng2 ?_
  | refine w_istr ?_
  | refine w_itup ?_
  | refine w_lc ?_
  | refine z_asg1 ?_
  | refine z_if1 ?_
  | refine z_drop1 ?_
  | refine z_next ?_
  | refine o_add ?_
  | refine o_sub ?_
  | refine o_lt ?_
  | refine o_le ?_
  | refine o_gt ?_
  | refine o_ge ?_
  | refine o_neg ?_
  | refine o_max2 ?_
  | refine o_min2 ?_
  | refine o_intB ?_
  | refine o_isn ?_
  | refine o_notn ?_
  | refine o_inc ?_
  | refine o_notinc ?_
  | refine o_eq (by with_unfolding_all exact rfl) ?_
  | refine o_ne (by with_unfolding_all exact rfl) ?_
  | refine o_ixLn (by first | assumption | exact upd_same) (by decide) (by with_unfolding_all exact rfl) ?_
  | refine o_ixTn (by first | assumption | exact upd_same) (by decide) (by with_unfolding_all exact rfl) ?_
  | refine g_tup (by first | assumption | exact upd_same) (by with_unfolding_all exact rfl) ?_
  | refine g_cons ?_
  | refine g_nil ?_
  | refine g_setLn (by first | assumption | exact upd_same) (by decide) (by with_unfolding_all exact rfl) ?_
  | refine p_2_61 ?_
  | refine p_10_18 ?_
  | refine p_10_15 ?_
  | refine p_10_30 ?_
  | refine p_10_29 ?_
  | refine iteT ?_
  | refine iteF ?_
  | refine ite_nt ?_
  | refine ite_nf ?_
  | refine ⟨_, rfl, ?_⟩
  | refine ⟨⟨_, rfl⟩, ?_⟩))
local macro_rules | `(tactic| walk_at "w") => `(tactic| (repeat walk_at "w1"))

/-! ### long drills drawn -/
abbrev vS (c : Nat) : V := .str (S1 c)
def unS : V → Nat
  | .str z => (TL.tl z).headD 0
  | _ => 0
theorem unS_vS (c : Nat) : unS (vS c) = c := rfl
theorem perm_signs {ys : List V} {z : Str} (h : ys.Perm (signs z)) : ∃ cs : List Nat, ys = cs.map vS ∧ cs.Perm (TL.tl z) := by
  refine ⟨ys.map unS, ?_, ?_⟩
  · rw [List.map_map]
    have e : ys.map (vS ∘ unS) = ys.map id := List.map_congr_left fun y m => by
      obtain ⟨c, _, rfl⟩ := List.mem_map.mp (h.mem_iff.mp m)
      rfl
    rw [e, List.map_id]
  · have e := h.map unS
    unfold signs at e
    rw [List.map_map, show unS ∘ (fun c => V.str ⟨#[c]⟩) = id from rfl, List.map_id] at e
    exact e
/-- six colours in some order -/
theorem six_cols {cs : List Nat} (h : cs.Perm (TL.tl ("abcdef" : Str))) : cs.length = 6 ∧ cs.Nodup ∧ ∀ c ∈ cs, isColN c = true := by
  rw [abc_tl] at h
  refine ⟨h.length_eq, h.nodup_iff.mpr (by decide), fun c m => ?_⟩
  have := h.mem_iff.mp m
  rw [isColN_iff]
  simp only [List.mem_cons, List.not_mem_nil, or_false] at this
  omega
theorem two_cols {cs : List Nat} (h : cs.Perm (TL.tl ("abcdef" : Str))) {i j : Nat} (hi : i < 6) (hj : j < 6) (hij : i ≠ j) : ∃ a b, cs[i]? = some a ∧ cs[j]? = some b ∧ isColN a = true ∧ isColN b = true ∧ a ≠ b := by
  obtain ⟨h1, h2, h3⟩ := six_cols h
  have hi' : i < cs.length := by omega
  have hj' : j < cs.length := by omega
  refine ⟨cs[i], cs[j], List.getElem?_eq_getElem hi', List.getElem?_eq_getElem hj', h3 _ (List.getElem_mem hi'), h3 _ (List.getElem_mem hj'), fun e => hij ?_⟩
  have h4 := List.pairwise_iff_getElem.mp h2
  rcases Nat.lt_or_gt_of_ne hij with g | g
  · exact absurd e (h4 i j hi' hj' g)
  · exact absurd e.symm (h4 j i hj' hi' g)
def sp_law_long_orders (K : PySem.W.Frag) : Sp := fun vs H Q _ => vs.length = 2 ∧ ∃ (s d : Addr) (n m : Int), vs = [.ref s, .int m] ∧ Src s d n H ∧ n ≤ 800000000 ∧ 0 ≤ m ∧ m ≤ 1000 ∧
  ∀ p ys (cs : List Cal) H', cs.length ≤ m.toNat → (∀ c ∈ cs, goodC c = true) → Src s d (n + 20 + 10 * m) H' → Fr [s, d] H H' → H p = none → H' p = some (.lst ys) → DtAll (cut [p, s, d] H') ys (cs.map calD) → Q (.ref p) H'
def t_law_long_orders (K : PySem.W.Frag) : TS := (tSeq (tAsg (tCall (sp_law_shuffled K) [] E0 (tCons (tVar 0) (tCons (tC (.str "abcdef")) tNil))) (gName 2))
    (tSeq (tAsg (tLst tNil) (gName 3))
    (tSeq (tFor (iRng1 (tCons (tCall (sp_law_draw K) [] E0 (tCons (tVar 0) (tCons (tOp rAddI (tVar 1) (tC (.int 1))) tNil))) tNil)) (gName 4) (tSeq (tAsg (tCall (sp_law_draw K) [] E0 (tCons (tVar 0) (tCons (tC (.int 6)) tNil))) (gName 5))
    (tSeq (tAsg (tOp rAddI (tC (.int 1)) (tCall (sp_law_draw K) [] E0 (tCons (tVar 0) (tCons (tC (.int 5)) tNil)))) (gName 6))
    (tSeq (tAsg (tLst (tCons (tC (.str "all")) (tCons (tC (.str "swap")) (tCons (tC (.int 1)) (tCons (tOp rAddI (tC (.int 1)) (tCall (sp_law_draw K) [] E0 (tCons (tVar 0) (tCons (tC (.int 30)) tNil)))) (tCons (tCB rMax2 (tCons (tC (.int 1)) (tCons (tCall (sp_law_long K) [] E0 (tCons (tVar 0) tNil)) tNil))) (tCons (tOp rSubI (tOp rPowI (tC (.int 10)) (tC (.int 30))) (tC (.int 1))) tNil))))))) (gName 7))
    (tSeq (tAsg (tOp (rIxL K) (tVar 7) (tCall (sp_law_draw K) [] E0 (tCons (tVar 0) (tCons (tC (.int 6)) tNil)))) (gName 8))
    (tDrop (tBM K "list" rAppend (tVar 3) (tCons (tTup (tCons (tVar 8) (tCons (tOp (rIxL K) (tVar 2) (tVar 5)) (tCons (tOp (rIxL K) (tVar 2) (tOp rModI (tOp rAddI (tVar 5) (tVar 6)) (tC (.int 6)))) tNil)))) tNil))))))))
    (tRet (tVar 3)))))

theorem pure_law_long_orders {K : PySem.W.Frag} {vs : List V} {H : Hp} {Q : VK} {E : XK} (h : sp_law_long_orders K vs H Q E) : t_law_long_orders K { nx := fun _ H' => Q .non H', rt := Q } (start ["source", "most", "letters", "found", "item", "k", "d", "kinds", "kind"] vs) H := by
  obtain ⟨_, s, d, n, m, rfl, hS, hn, hm0, hm, q⟩ := h
  unfold t_law_long_orders
  walk_at "w"
  have hsl : (signs ("abcdef" : Str)).length = 6 := by
    unfold signs
    rw [List.length_map, abc_tl]
    rfl
  refine ⟨rfl, s, d, n, _, signs ("abcdef" : Str), rfl, hS, .inl ⟨_, rfl, rfl⟩, by rw [hsl]; decide, by omega, fun p lt H1 hperm T1 f1 hp0 hp => ?_⟩
  rw [hsl] at T1
  obtain ⟨ls, rfl, hls⟩ := perm_signs hperm
  walk_at "w"
  refine ⟨len_ok rfl, fun l hl => ?_⟩
  have hls2 : l ∉ [s, d] := T1.trk.ne hl
  have hlp : l ≠ p := (ne_of_none hp hl).symm
  have hpm : p ∉ [s, d] := hS.trk.ne hp0
  walk_at "w"
  refine u_draw (T1.up (same_upd hl)) (by omega) (by omega) (by omega) fun r H2 a2 b2 S2 f2 => ?_
  have hl2 := f2 _ _ hls2 (upd_same (H := H1) (a := l) (o := .lst []))
  have hp2 := f2 _ _ hpm (same_upd (o := .lst []) hl _ _ hp)
  have hl0 : H l = none := by
    cases e : H l with
    | none => rfl
    | some o =>
      rw [f1 _ _ hls2 e] at hl
      cases hl
  have fr2 : Fr [l, s, d] H H2 := ((f1.trans (Fr.new hl)).trans f2).more (by simp)
  walk_at "w"
  refine ⟨by omega, by omega, f_rng (fun i σ H' => ∃ (cs : List Cal) (ys : List V) (x4 x5 x6 x7 x8 : Option V), σ = [some (.ref s), some (.int m), some (.ref p), some (.ref l), x4, x5, x6, x7, x8] ∧ cs.length = i ∧ (∀ c ∈ cs, goodC c = true) ∧ H' l = some (.lst ys) ∧ H' p = some (.lst (ls.map vS)) ∧ DtAll (cut [l, s, d] H') ys (cs.map calD) ∧ Src s d (n + 6 + 1 + 10 * i) H' ∧ Fr [l, s, d] H H') ?_ ?_ ?_⟩
  · exact ⟨[], [], none, none, none, none, none, rfl, rfl, (fun c m => nomatch m), hl2, hp2, .nil, S2.more (by omega), fr2⟩
  · rintro i σ H3 hi ⟨cs, ys, x4, x5, x6, x7, x8, rfl, h1, h2, h3, h4, h5, h6, h7⟩
    have hi : i < 1000 := by omega
    have hyl : ys.length = cs.length := by rw [h5.length, List.length_map]
    walk_at "w"
    refine u_draw h6 (by omega) (by omega) (by omega) fun k H4 a4 b4 S4 f4 => ?_
    walk_at "w"
    refine u_draw S4 (by omega) (by omega) (by omega) fun dd H5 a5 b5 S5 f5 => ?_
    walk_at "w"
    refine u_draw S5 (by omega) (by omega) (by omega) fun r6 H6 a6 b6 S6 f6 => ?_
    walk_at "w"
    refine ⟨rfl, s, d, _, rfl, S6, by omega, fun r7 H7 a7 b7 S7 f7 => ?_⟩
    walk_at "w"
    refine ⟨len_ok rfl, fun o ho => ?_⟩
    have ho7 : o ∉ [s, d] := S7.trk.ne ho
    walk_at "w"
    refine u_draw (S7.up (same_upd ho)) (by omega) (by omega) (by omega) fun r8 H8 a8 b8 S8 f8 => ?_
    have ho8 := f8 _ _ ho7 (upd_same (H := H7) (a := o) (o := .lst [.str "all", .str "swap", .int 1, .int (1 + r6), .int (if r7 > 1 then r7 else 1), .int (1000000000000000000000000000000 - 1)]))
    have f37 : Fr [s, d] H3 H7 := f4.trans (f5.trans (f6.trans f7))
    have f38 : Fr [s, d] H3 H8 := f37.trans ((Fr.new (o := .lst [.str "all", .str "swap", .int 1, .int (1 + r6), .int (if r7 > 1 then r7 else 1), .int (1000000000000000000000000000000 - 1)]) ho).trans f8)
    have hl8 := f38 _ _ hls2 h3
    have hp8 := f38 _ _ hpm h4
    obtain ⟨kd, hk1, hk2, hk3⟩ : ∃ kd : Kd, [V.str "all", .str "swap", .int 1, .int (1 + r6), .int (if r7 > 1 then r7 else 1), .int (1000000000000000000000000000000 - 1)][r8.toNat]? = some kd.v ∧ kdOk kd = true ∧ lowK kd = true := by
      have h4 : r8 = 0 ∨ r8 = 1 ∨ r8 = 2 ∨ r8 = 3 ∨ r8 = 4 ∨ r8 = 5 := by omega
      rcases h4 with rfl | rfl | rfl | rfl | rfl | rfl
      · exact ⟨.txt "all", rfl, by decide +kernel, rfl⟩
      · exact ⟨.txt "swap", rfl, by decide +kernel, rfl⟩
      · exact ⟨.num 1, rfl, rfl, rfl⟩
      · exact ⟨.num (1 + r6), rfl, decide_eq_true (by omega), decide_eq_true (by omega)⟩
      · refine ⟨.num (if r7 > 1 then r7 else 1), rfl, decide_eq_true ?_, decide_eq_true ?_⟩ <;> split <;> omega
      · exact ⟨.num (1000000000000000000000000000000 - 1), rfl, by decide, by decide⟩
    refine o_ixLn ho8 a8 hk1 ?_
    walk_at "w"
    refine ⟨ty_list hl8, ?_⟩
    obtain ⟨a, b, ha, hb, ca, cb, hab⟩ := two_cols hls (i := k.toNat) (j := ((k + (1 + dd)) % 6).toNat) (by omega) (by omega) (by omega)
    walk_at "w"
    refine o_ixLn hp8 a4 (by rw [List.getElem?_map, ha]; rfl) ?_
    walk_at "w"
    refine o_mod (by decide) ?_
    refine o_ixLn hp8 (by omega) (by rw [List.getElem?_map, hb]; rfl) ?_
    walk_at "w"
    refine ⟨len_ok rfl, fun t ht => ?_⟩
    have htm : t ∉ [l, s, d] := fun m => by
      rcases List.mem_cons.mp m with e | m
      · rw [e, hl8] at ht
        cases ht
      · exact S8.trk.ne ht m
    have hlt : t ≠ l := fun e => htm (by simp [e])
    have hl9 := same_upd (o := .tup [kd.v, vS a, vS b]) ht _ _ hl8
    walk_at "w"
    refine o_append hl9 (by rw [hyl, h1]; exact small1000 (by omega)) ?_
    refine ⟨cs ++ [(kd, S1 a, S1 b)], ys ++ [.ref t], _, _, _, _, _, rfl, by rw [List.length_append, h1]; rfl, fun c m => ?_, upd_same, ?_, ?_, ?_, ?_⟩
    · rcases List.mem_append.mp m with m | m
      · exact h2 c m
      · rw [List.mem_singleton.mp m]
        exact goodC_iff.mpr ⟨isCall_mk hk2 ca cb hab, hk3⟩
    · rw [upd_ne hlp.symm]
      exact same_upd (o := .tup [kd.v, vS a, vS b]) ht _ _ hp8
    · rw [List.map_append]
      refine (h5.mono ?_).append (.cons ?_ .nil)
      · exact Fr.cut ((f38.more (by simp)).trans ((Fr.new ht).trans (Fr.mut (by simp))))
      · refine Dt.ofCal (c := (kd, S1 a, S1 b)) ?_
        rw [cut_out htm, upd_ne hlt]
        exact upd_same
    · refine (S8.keep fun b m => ?_).more (by omega)
      have b1 : b ≠ t := fun e => S8.trk.ne ht (e ▸ m)
      have b2 : b ≠ l := fun e => hls2 (e ▸ m)
      rw [upd_ne b2, upd_ne b1]
    · exact h7.trans ((f38.more (by simp)).trans ((Fr.new ht).trans (Fr.mut (by simp))))
  · rintro σ H3 ⟨cs, ys, x4, x5, x6, x7, x8, rfl, h1, h2, h3, h4, h5, h6, h7⟩
    walk_at "w"
    exact q l ys cs H3 (by omega) h2 (h6.more (by omega)) (h7.drop hl0) hl0 h3 h5
end Q

set_option Elab.async false
set_option linter.all false
set_option maxRecDepth 100000
set_option maxHeartbeats 4000000
namespace Q
open PySem PySem.Spec PyProof.Rows L2
/-! the steps' tactic: runs a reading up to a choice, a call, a loop, a store -/
local macro_rules | `(tactic| walk_at "w1") => `(tactic| (with_reducible first
  | refine w_var (by with_unfolding_all exact rfl) ?_
  | refine w_c ?_
  | refine w_op ?_
  | refine w_test ?_
  | refine w_tb ?_
  | refine w_cons ?_
  | refine w_nil ?_
  | refine w_cb ?_
  | refine w_call ?_
  | refine w_kw ?_
  | refine z_asg ?_
  | refine z_ret ?_
  | refine z_if ?_
  | refine z_drop ?_
  | refine g_name ?_
  | refine g_sub ?_
  | refine w_bm ?_
  | refine w_bm0 ?_
  | refine w_m1 ?_
  | refine w_m0 ?_
  | refine w_and ?_
  | refine w_or ?_
  | refine w_not ?_
  | refine w_chain ?_
  | refine w_andV ?_
  | refine w_orV ?_
  | refine w_notV ?_
  | refine w_if ?_
  | refine w_un ?_
  | refine w_sl ?_
  | refine w_part ?_
  | refine w_nopart ?_
  | refine w_tup ?_
  | refine w_lst ?_
  | refine w_yes ?_
  | refine z_for ?_
  | refine z_for1 ?_
  | refine w_ilist ?_
  | refine w_irng1 ?_
  | refine w_irng2 ?_
  | refine w_istr ?_
  | refine w_itup ?_
  | refine w_lc ?_
  | refine z_asg1 ?_
  | refine z_if1 ?_
  | refine z_drop1 ?_
  | refine z_next ?_
  | refine o_add ?_
  | refine o_sub ?_
  | refine o_lt ?_
  | refine o_le ?_
  | refine o_gt ?_
  | refine o_ge ?_
  | refine o_neg ?_
  | refine o_max2 ?_
  | refine o_min2 ?_
  | refine o_intB ?_
  | refine o_isn ?_
  | refine o_notn ?_
  | refine o_inc ?_
  | refine o_notinc ?_
  | refine o_eq (by with_unfolding_all exact rfl) ?_
  | refine o_ne (by with_unfolding_all exact rfl) ?_
  | refine o_ixLn (by first | assumption | exact upd_same) (by decide) (by with_unfolding_all exact rfl) ?_
  | refine o_ixTn (by first | assumption | exact upd_same) (by decide) (by with_unfolding_all exact rfl) ?_
  | refine g_tup (by first | assumption | exact upd_same) (by with_unfolding_all exact rfl) ?_
  | refine g_cons ?_
  | refine g_nil ?_
  | refine g_setLn (by first | assumption | exact upd_same) (by decide) (by with_unfolding_all exact rfl) ?_
  | refine p_2_61 ?_
  | refine p_10_18 ?_
  | refine p_10_15 ?_
  | refine p_10_30 ?_
  | refine p_10_29 ?_
  | refine iteT ?_
  | refine iteF ?_
  | refine ite_nt ?_
  | refine ite_nf ?_
  | refine ⟨_, rfl, ?_⟩
  | refine ⟨⟨_, rfl⟩, ?_⟩))
local macro_rules | `(tactic| walk_at "w") => `(tactic| (repeat walk_at "w1"))

/-! ### texts changed: sizes, signs -/
abbrev okS (z : Str) : Prop := PyData.strOk z = true
theorem okS_app {x y : Str} (hx : okS x) (hy : okS y) : okS (x ++ y) := by
  refine strOk_iff.mpr fun c m => ?_
  rw [TL.tl_append] at m
  rcases List.mem_append.mp m with m | m
  · exact strOk_iff.mp hx c m
  · exact strOk_iff.mp hy c m
theorem okS_cut {x : Str} (lo hi : Option Int) (hx : okS x) : okS (cutS x lo hi) := by
  refine strOk_iff.mpr fun c m => ?_
  exact strOk_iff.mp hx c (List.drop_subset _ _ (List.take_subset _ _ m))
theorem okS_one {c : Nat} (h : c < 1114112) : okS (S1 c) := by
  refine strOk_iff.mpr fun d m => ?_
  rw [List.mem_singleton.mp m]
  exact h
theorem okS_get {z : Str} {c i : Nat} (hz : okS z) (e : (TL.tl z)[i]? = some c) : okS (S1 c) := okS_one (strOk_iff.mp hz c (List.mem_of_getElem? e))
theorem spl_mem {S : List Nat} : ∀ {l : List Nat} {k : Nat} {acc p : List Nat}, p ∈ TL.spl S k acc l → ∀ c ∈ p, c ∈ acc ∨ c ∈ l
  | [], k, acc, p, h, c, m => by
    rw [TL.spl_nil] at h
    rw [List.mem_singleton.mp h] at m
    exact .inl m
  | d :: r, 0, acc, p, h, c, m => by
    cases hp : TL.pre S (d :: r) with
    | true =>
      rw [TL.spl_hit hp] at h
      rcases List.mem_cons.mp h with e | h
      · exact .inl (e ▸ m)
      · rcases spl_mem h c m with m | m
        · cases m
        · exact .inr (List.mem_cons_of_mem _ m)
    | false =>
      rw [TL.spl_miss hp] at h
      rcases spl_mem h c m with m | m
      · rcases List.mem_append.mp m with m | m
        · exact .inl m
        · exact .inr (List.mem_singleton.mp m ▸ List.mem_cons_self)
      · exact .inr (List.mem_cons_of_mem _ m)
  | d :: r, k + 1, acc, p, h, c, m => by
    rcases spl_mem (l := r) (k := k) h c m with m | m
    · exact .inl m
    · exact .inr (List.mem_cons_of_mem _ m)
theorem spl_sum {S : List Nat} : ∀ {l : List Nat} {k : Nat} {acc : List Nat}, ((TL.spl S k acc l).map List.length).sum ≤ acc.length + l.length
  | [], k, acc => by
    rw [TL.spl_nil]
    simp
  | d :: r, 0, acc => by
    rw [List.length_cons]
    cases hp : TL.pre S (d :: r) with
    | true =>
      rw [TL.spl_hit hp, List.map_cons, List.sum_cons]
      have := spl_sum (S := S) (l := r) (k := S.length - 1) (acc := [])
      rw [List.length_nil] at this
      omega
    | false =>
      rw [TL.spl_miss hp]
      have := spl_sum (S := S) (l := r) (k := 0) (acc := acc ++ [d])
      rw [List.length_append, List.length_singleton] at this
      omega
  | d :: r, k + 1, acc => by
    have := spl_sum (S := S) (l := r) (k := k) (acc := acc)
    rw [List.length_cons]
    show ((TL.spl S k acc r).map List.length).sum ≤ _
    omega
/-- texts: their sizes' sum, their signs -/
def sumL (ys : List Str) : Nat := (ys.map (·.length)).sum
def okL (ys : List Str) : Prop := ∀ y ∈ ys, okS y
theorem split_sum {a b : Str} (hb : TL.tl b ≠ []) (hk : b.cps.all (· < 256) = true) : sumL (Txt.split a b) ≤ a.length := by
  have e := TL.split_spl a b hb (TL.kind_ok hk)
  unfold sumL
  have e2 : (Txt.split a b).map (·.length) = ((Txt.split a b).map TL.tl).map List.length := by
    rw [List.map_map]
    exact List.map_congr_left fun x _ => TL.len_tl x
  rw [e2, e]
  have := spl_sum (S := TL.tl b) (l := TL.tl a) (k := 0) (acc := [])
  rw [List.length_nil, Nat.zero_add, ← TL.len_tl] at this
  exact this
theorem split_ok {a b : Str} (hb : TL.tl b ≠ []) (hk : b.cps.all (· < 256) = true) (ha : okS a) : okL (Txt.split a b) := fun y m => by
  have e := TL.split_spl a b hb (TL.kind_ok hk)
  have h2 : TL.tl y ∈ (Txt.split a b).map TL.tl := List.mem_map.mpr ⟨y, m, rfl⟩
  rw [e] at h2
  refine strOk_iff.mpr fun c hc => ?_
  rcases spl_mem h2 c hc with h | h
  · cases h
  · exact strOk_iff.mp ha c h
theorem sumL_app (xs ys : List Str) : sumL (xs ++ ys) = sumL xs + sumL ys := by
  unfold sumL
  rw [List.map_append, List.sum_append]
theorem sumL_drop (a : Nat) (xs : List Str) : sumL (xs.drop a) ≤ sumL xs := by
  have := sumL_app (xs.take a) (xs.drop a)
  rw [List.take_append_drop] at this
  omega
theorem sumL_take (a : Nat) (xs : List Str) : sumL (xs.take a) ≤ sumL xs := by
  have := sumL_app (xs.take a) (xs.drop a)
  rw [List.take_append_drop] at this
  omega
theorem sumL_mem {x : Str} : ∀ {xs : List Str}, x ∈ xs → x.length ≤ sumL xs
  | y :: r, h => by
    have e : sumL (y :: r) = y.length + sumL r := rfl
    rcases List.mem_cons.mp h with rfl | h
    · omega
    · have := sumL_mem h
      omega
theorem sumL_set {x : Str} : ∀ (xs : List Str) (i : Nat), sumL (xs.set i x) ≤ sumL xs + x.length
  | [], _ => Nat.zero_le _
  | y :: r, 0 => by
    show x.length + sumL r ≤ y.length + sumL r + x.length
    omega
  | y :: r, i + 1 => by
    have := sumL_set (x := x) r i
    show y.length + sumL (r.set i x) ≤ y.length + sumL r + x.length
    omega
theorem cutV_map (ys : List Str) (lo hi : Option Int) : ∃ zs : List Str, cutV (ys.map V.str) lo hi = zs.map V.str ∧ sumL zs ≤ sumL ys ∧ zs.length ≤ ys.length ∧ ∀ z ∈ zs, z ∈ ys := by
  unfold cutV
  rw [← List.map_drop, ← List.map_take]
  refine ⟨_, rfl, Nat.le_trans (sumL_take _ _) (sumL_drop _ _), ?_, fun z m => List.drop_subset _ _ (List.take_subset _ _ m)⟩
  rw [List.length_take, List.length_drop]
  omega
theorem join_le (a : Str) (ys : List Str) (h : a.length = 1) : (Txt.join a ys).length ≤ sumL ys + ys.length := by
  have := join_len a ys
  rw [h, Nat.mul_one] at this
  exact this
/-- the odd texts -/
def OddOk (os : List Str) : Prop := 0 < os.length ∧ os.length ≤ 100 ∧ ∀ z ∈ os, z.length ≤ 60 ∧ okS z
def sp_law_sign (K : PySem.W.Frag) : Sp := fun vs H Q _ => vs.length = 1 ∧ ∃ (s d : Addr) (n : Int), vs = [.ref s] ∧ Src s d n H ∧ n ≤ 900000000 ∧
  ∀ c H', okS (S1 c) → Src s d (n + 2) H' → Fr [s, d] H H' → Q (.str (S1 c)) H'
def t_law_sign (K : PySem.W.Frag) : TS := (tSeq (tAsg (tC (.str "0123456789 -abcdefalswp,")) (gName 1))
    (tSeq (tIfS (tTest (tOp rEq (tCall (sp_law_draw K) [] E0 (tCons (tVar 0) (tCons (tC (.int 2)) tNil))) (tC (.int 0)))) (tRet (tOp rIxS (tVar 1) (tCall (sp_law_draw K) [] E0 (tCons (tVar 0) (tCons (tCB rLenS (tCons (tVar 1) tNil)) tNil))))) tNext)
    (tSeq (tAsg (tC (.str " !\"#$&'()*+,-./0123456789:;<=>?@ABCDEFGHIJKLMNOPQRSTUVWXYZ[\\]^_`")) (gName 1))
    (tSeq (tAsg (tOp rAddS (tVar 1) (tC (.str "abcdefghijklmnopqrstuvwxyz{|}~"))) (gName 1))
    (tRet (tOp rIxS (tVar 1) (tCall (sp_law_draw K) [] E0 (tCons (tVar 0) (tCons (tCB rLenS (tCons (tVar 1) tNil)) tNil)))))))))

theorem pure_law_sign {K : PySem.W.Frag} {vs : List V} {H : Hp} {Q : VK} {E : XK} (h : sp_law_sign K vs H Q E) : t_law_sign K { nx := fun _ H' => Q .non H', rt := Q } (start ["source", "some"] vs) H := by
  obtain ⟨_, s, d, n, rfl, hS, hn, q⟩ := h
  unfold t_law_sign
  have pick : ∀ (z : Str) (r : Int) (H1 : Hp) (Q1 : VK), okS z → z.length ≤ 1000 → 0 ≤ r → r < z.length → (∀ c, okS (S1 c) → Q1 (.str (S1 c)) H1) → rIxS (.str z) (.int r) H1 Q1 := fun z r H1 Q1 hz hl h0 h1 q1 => by
    have hi : r.toNat < (TL.tl z).length := by
      rw [← TL.len_tl]
      omega
    exact o_ixS' r.toNat (Int.toNat_of_nonneg h0).symm (Nat.le_of_lt (small1000 hl)) (List.getElem?_eq_getElem hi) (q1 _ (okS_get hz (List.getElem?_eq_getElem hi)))
  have l1 : ("0123456789 -abcdefalswp," : Str).length = 24 := by decide +kernel
  have l2 : ((" !\"#$&'()*+,-./0123456789:;<=>?@ABCDEFGHIJKLMNOPQRSTUVWXYZ[\\]^_`" : Str) ++ ("abcdefghijklmnopqrstuvwxyz{|}~" : Str)).length = 94 := by decide +kernel
  refine z_asg (w_c (g_name ?_))
  refine z_if ?_
  walk_at "w"
  refine u_draw hS (by omega) (by decide) (by decide) fun r1 H1 a1 b1 T1 f1 => ?_
  walk_at "w"
  by_cases h0 : r1 = 0
  · rw [decide_eq_true (show V.int r1 = V.int 0 by rw [h0])]
    walk_at "w"
    refine o_lenS (by rw [l1]; decide) ?_
    rw [l1]
    walk_at "w"
    refine u_draw T1 (by omega) (by decide) (by decide) fun r2 H2 a2 b2 T2 f2 => ?_
    exact pick _ _ _ _ (by decide +kernel) (by rw [l1]; decide) a2 (by rw [l1]; exact b2) fun c hc => q c _ hc (T2.more (by omega)) (f1.trans f2)
  · rw [decide_eq_false (fun e => h0 (V.int.inj e))]
    refine iteF (z_next (z_asg (w_c (g_name (z_asg ?_)))))
    walk_at "w"
    refine o_adds (by decide +kernel) ?_
    walk_at "w"
    refine o_lenS (by rw [l2]; decide) ?_
    rw [l2]
    walk_at "w"
    refine u_draw T1 (by omega) (by decide) (by decide) fun r2 H2 a2 b2 T2 f2 => ?_
    exact pick _ _ _ _ (by decide +kernel) (by rw [l2]; decide) a2 (by rw [l2]; exact b2) fun c hc => q c _ hc (T2.more (by omega)) (f1.trans f2)
end Q

set_option Elab.async false
set_option linter.all false
set_option maxRecDepth 100000
set_option maxHeartbeats 4000000
namespace Q
open PySem PySem.Spec PyProof.Rows L2
/-! ### own exception classes over a base class over ValueError, with an own __init__ -/
def oexB (K : PySem.W.Frag) (C : Addr) : Bool := (match K.lookup C with
  | some ⟨.type "type", _, .cls cd, sl⟩ => (match cd.mro, sl.toList with
    | .ref C' :: bm, [_, _, _, _, some (.builtin n), _] => C' == C && (n == "ValueError.__new__" && (!cd.hasDel && (cd.hasDict && PySem.HandSPX.refsVE bm)))
    | _, _ => false)
  | _ => false) && (decide (PySem.W.findIn K (.ref C) "__setattr__" = some (some (.builtin "object.__setattr__"))) && (decide (PySem.W.subIn K (.ref C) (.type "BaseException") = some true) && (decide (PySem.W.typeIn K (.ref C) = some (.type "type")) && PySem.W.keepIn K (.ref C))))
theorem oexB_ok {K : PySem.W.Frag} {C : Addr} (h : oexB K C = true) : OexC K C := by
  obtain ⟨h1, h⟩ := He.ba h
  obtain ⟨h2, h⟩ := He.ba h
  obtain ⟨h3, h⟩ := He.ba h
  obtain ⟨h4, h5⟩ := He.ba h
  refine ⟨?_, of_decide_eq_true h2, of_decide_eq_true h3, of_decide_eq_true h4, h5⟩
  split at h1
  · rename_i dd cd sl ho
    split at h1
    · rename_i C' bm k0 k1 k2 k3 n k5 hm hs
      simp only [Bool.and_eq_true, beq_iff_eq, Bool.not_eq_true'] at h1
      obtain ⟨rfl, rfl, hdel, hdi, hr⟩ := h1
      obtain ⟨nm, bs, mro, ns, qn, hd, sn, sub, ab, col, del⟩ := cd
      dsimp only at hm hdel hdi
      subst hm hdel hdi
      have hsl : sl = #[k0, k1, k2, k3, some (.builtin "ValueError.__new__"), k5] := by
        obtain ⟨l⟩ := sl
        simp only at hs
        rw [hs]
      subst hsl
      exact ⟨nm, qn, ns, bs, bm, sn, sub, ab, col, dd, k0, k1, k2, k3, k5, ho, hr⟩
    · cases h1
  · cases h1
/-- what is looked at of such a class: x its name -/
def excB (K : PySem.W.Frag) (x : Str) : Bool := oexB K (He.ga K x) && (xfB K (He.ga K x) && decide (PySem.W.findIn K (.ref (He.ga K x)) "value" = some none))
/-- of the base class -/
def basB (K : PySem.W.Frag) (x : Str) : Bool := PySem.W.readsIn K (He.ga K x) (.type "type") && (decide (PySem.W.specialIn K (.ref (He.ga K x)) "__getattribute__" = some (some (.builtin "type.__getattribute__"))) && (match PySem.W.findCls K (.ref (He.ga K x)) (.type "type") "__init__" with
  | some (.val (.builtin n)) => n == "ValueError.__init__"
  | _ => false))
structure HasBase (K : PySem.W.Frag) (mg : Str → Option Value) (x : Str) : Prop where
  hm : mg x = some (.ref (He.ga K x))
  rd : PySem.W.readsIn K (He.ga K x) (.type "type") = true
  ga : PySem.W.specialIn K (.ref (He.ga K x)) "__getattribute__" = some (some (.builtin "type.__getattribute__"))
  ini : PySem.W.findCls K (.ref (He.ga K x)) (.type "type") "__init__" = some (.val (.builtin "ValueError.__init__"))
theorem basB_ok {K : PySem.W.Frag} {mg : Str → Option Value} {x : Str} (hm : mg x = some (.ref (He.ga K x))) (h : basB K x = true) : HasBase K mg x := by
  obtain ⟨h1, h⟩ := He.ba h
  obtain ⟨h2, h3⟩ := He.ba h
  refine ⟨hm, h1, of_decide_eq_true h2, ?_⟩
  split at h3
  · rename_i n e
    rw [e, beq_iff_eq.mp h3]
  · cases h3
/-- the suite of a class's text -/
def clsBody : Stmt → List Stmt
  | .ClassDef _ _ _ b _ _ _ _ _ _ _ => b
  | _ => []
structure HasExc (K : PySem.W.Frag) (mg : Str → Option Value) (x qual : Str) (st : Stmt) : Prop where
  hm : mg x = some (.ref (He.ga K x))
  oex : OexC K (He.ga K x)
  xf : XfC K (He.ga K x)
  nov : PySem.W.findIn K (.ref (He.ga K x)) "value" = some none
  iC : PySem.W.findIn K (.ref (He.ga K x)) "__init__" = some (some (.ref (He.ma K (He.ga K x) "__init__")))
  tI : PySem.W.typeIn K (.ref (He.ma K (He.ga K x) "__init__")) = some (.type "function")
  fn : ∃ fd, FunD K "__init__" qual (defArgs st) (defBody st) (defScope st) [] [] (He.ma K (He.ga K x) "__init__") fd
theorem hasExc {K : PySem.W.Frag} {mg : Str → Option Value} {x qual : Str} {st : Stmt} (hm : mg x = some (.ref (He.ga K x))) (h : excB K x = true) (M : Meth K (He.ga K x) "__init__" (He.ma K (He.ga K x) "__init__"))
    (fn : ∃ fd, FunD K "__init__" qual (defArgs st) (defBody st) (defScope st) [] [] (He.ma K (He.ga K x) "__init__") fd) : HasExc K mg x qual st := by
  obtain ⟨h1, h⟩ := He.ba h
  obtain ⟨h2, h3⟩ := He.ba h
  exact ⟨hm, oexB_ok h1, xfB_ok h2, of_decide_eq_true h3, M.1, beq_iff_eq.mp M.fn, fn⟩
/-! ### D.__init__(self, ..), D the base class -/
theorem pe_dinit {X : Cx} {x : Str} {e : Expr} {es : List Expr} {ta : TA} {p1 p2 pos : Pos} {pl : Sem Bool} (hg : Gl X x) (T : HasBase X.K X.mg x) (ha : PA X (e :: es) ta) (hdb : (x == ("__debug__" : Str)) = false := by decide)
    (hc : eval (.Call (.Attribute (.Name x p1) "__init__" p2) (e :: es) [] pos) X.env = (do
      let ov ← eval (.Name x p1) X.env
      standAt p2.atName
      let (f, first) ← holding [ov] (getMethod ov "__init__" pl)
      callWith pos f first (backTo pos (starEach (e :: es) X.env)) (backToKw pos (keywordEach [] X.env))) := by rfl)
    (he : starEach (e :: es) X.env = (false, eval e X.env) :: starEach es X.env := by rfl) (hpl : (backTo pos (starEach es X.env)).any (·.1) = false := by rfl) :
    PE X (.Call (.Attribute (.Name x p1) "__init__" p2) (e :: es) [] pos) (tVeI X.K ta) := by
  refine ⟨fun pins s σ H Q I h => ?_⟩
  refine PySem.W.methodCall_KW (ld_glob I hg T.hm ?_ hdb) hc
  obtain ⟨m, fr⟩ := I.fr
  refine PySem.W.method_of_cls fr I.ok.mod.kin T.ga (PySem.W.cls_value (I.ok.mod.kin.keeps fr.keep) T.rd T.ini (by decide +kernel) ?_)
  show wpAny _ _ (callWith pos (Value.builtin "ValueError.__init__") [] (backTo pos (starEach (e :: es) X.env)) []) _ _ _
  refine PyProof.Rows.callWith_method1 (thn (ha.run pos pins _ σ H _ (I.tok _) h) fun us s1 ⟨vs, H1, I1, r1, a, C, ws, ev, hl, T, ea, q⟩ => ?_) he hpl
  subst ev
  cases r1 with
  | @cons _ u0 _ ur ra rw' =>
    obtain rfl : u0 = Value.ref a := ra
    have hlen : ur.length ≤ sizeLine := by
      rw [← Paired.length rw', sizeLine_eq]
      omega
    exact oinit_ok T I1 ea hlen fun s' J => ⟨.non, H1, J, rfl, q⟩
/-! ### the __init__ of such a class -/
def spI (C : Addr) : Sp := fun vs H Q _ => vs.length = 2 ∧ ∃ (a : Addr) (v : V), vs = [.ref a, v] ∧ H a = some (exo a C none) ∧ ∀ dx, H dx = none → dx ≠ a → Q .non (upd (upd H dx (exd dx [("value", v)])) a (exo a C (some dx)))
def tI (K : PySem.W.Frag) (m : Str) : TS := tSeq (tDrop (tVeI K (tCons (tVar 0) (tCons (tC (.str m)) tNil)))) (tOst K "value" (tVar 0) (tVar 1))
theorem pure_I {K : PySem.W.Frag} {m : Str} {C : Addr} {vs : List V} {H : Hp} {Q : VK} {E : XK} (T : OexC K C) (hn : PySem.W.findIn K (.ref C) "value" = some none) (h : spI C vs H Q E) : tI K m { nx := fun _ H' => Q .non H', rt := Q } (start ["self", "value"] vs) H := by
  obtain ⟨_, a, v, rfl, ha, q⟩ := h
  refine ⟨.ref a, rfl, a, C, [.str m], rfl, show 1 ≤ 1000 by decide, T, ha, ?_⟩
  exact ⟨v, rfl, .ref a, rfl, a, C, rfl, T, hn, .inl ⟨ha, fun dx n ne => q dx n ne⟩⟩
/-- such a class's __init__ keeps that -/
def ExcOk (P : Program) (w : World) (K : PySem.W.Frag) (mg : Str → Option Value) (base : Heap) (C fI : Addr) : Prop := ∃ fd, FnOk P w K mg base CX0 1 fI fd ["self", "value"] (spI C) ∧ Binds K fd ["self", "value"] []
/-- BadX(v) -/
theorem pmk_bad {X : Cx} {x qual : Str} {st : Stmt} {e : Expr} {te : TE} {p pos : Pos} (T : HasExc X.K X.mg x qual st) (F : ExcOk X.prog X.w X.K X.mg X.base (He.ga X.K x) (He.ma X.K (He.ga X.K x) "__init__")) (hr : Room 2 X.A) (hg : Gl X x) (he' : PE X e te)
    (hdb : (x == ("__debug__" : Str)) = false := by decide) (he : starEach [e] X.env = (false, eval e X.env) :: starEach [] X.env := by rfl) (hpl : (backTo pos (starEach [] X.env)).any (·.1) = false := by rfl) :
    PMk X (.Call (.Name x p) [e] [] pos) (tMkO (He.ga X.K x) (spI (He.ga X.K x)) [] (tCons te tNil)) := by
  obtain ⟨fd, F, B⟩ := F
  exact pmk_oex T.oex T.iC T.tI F hr B .nil pass0 hg T.hm (pa_cons he' pa_nil (by rw [he])) hdb he hpl
/-- what such a call leaves -/
theorem w_bad {C : Addr} {te : TE} {v : V} {σ : L2.St} {H : Hp} {Q : XK} (h : ∀ Q : VK, Q v H → te σ H Q) (q : ∀ d, H d = none → Q (.ref C) (some d) (upd H d (.xd [("value", v)]))) : tMkO C (spI C) [] (tCons te tNil) σ H Q := by
  refine h _ ⟨show 1 ≤ 1000 by decide, fun a ha => ⟨rfl, a, v, rfl, upd_same, fun dx n ne => ?_⟩⟩
  have hd : H dx = none := by
    rw [upd_ne ne] at n
    exact n
  refine ⟨rfl, dx, [("value", v)], upd_same, ?_, hd, ?_⟩
  · rw [upd_ne ne]
    exact upd_same
  · have e : upd (del (upd (upd (upd H a (exo a C none)) dx (exd dx [("value", v)])) a (exo a C (some dx))) a) dx (.xd [("value", v)]) = upd H dx (.xd [("value", v)]) := by
      funext b
      by_cases hb : b = dx
      · rw [hb, upd_same, upd_same]
      · rw [upd_ne hb, upd_ne hb]
        by_cases hba : b = a
        · rw [hba, del_same, ha]
        · rw [del_ne hba, upd_ne hba, upd_ne hb, upd_ne hba]
    rw [e]
    exact q dx hd
/-- raise BadX(v) -/
def tRaise (C : Addr) (te : TE) (W : WX) : TS := fun _ σ H => tMkO C (spI C) [] (tCons te tNil) σ H fun cls d H' => W cls d σ H'
theorem z_raise {C : Addr} {te : TE} {v : V} {W : WX} {D : Ends} {σ : L2.St} {H : Hp} (h : ∀ Q : VK, Q v H → te σ H Q) (q : ∀ d, H d = none → W (.ref C) (some d) σ (upd H d (.xd [("value", v)]))) : tRaise C te W D σ H := w_bad h q
/-- E as a wish -/
abbrev XW (E : XK) : WX := fun cls d _ H => E cls d H
/-! ### try -/
def tTry (K : PySem.W.Frag) (x : Str) (i : Nat) (Wout : WX) (tb : WX → TS) (ts : Addr → Value → Option Addr → TS) : TS := fun D σ H => tb (wAs K (.ref (He.ga K x)) i ts Wout D) D σ H
theorem ps_tryT {X : Cx} {x n : Str} {i : Nat} {body suite : List Stmt} {b₀ : Stmt} {np pos pos' : Pos} {tb : WX → TS} {ts : Addr → Value → Option Addr → TS} {Wout : WX}
    (hm : X.mg x = some (.ref (He.ga X.K x))) (hs : X.stack = X.env :: X.outer) (hf : X.env.frame = some X.env.locals) (hN : X.N.Nodup) (hi : X.N[i]? = some n) (hln : X.env.kindOf n = some .local) (hg : Gl X x) (tk : Takes X Wout)
    (hb : ∀ (W : WX) (pn : List (Addr × Obj)) (xe : Value → Shared → Prop), Takes (X.tr pn xe) W → PassesOwn (model X.prog X.w) X.A X.env xe → PSs (X.tr pn xe) body (tb W))
    (hsu : ∀ (a : Addr) (oe : Obj) (cls : Value) (d : Option Addr) (pn : List (Addr × Obj)), Zc cls d oe → (∃ vs, oe.data = .fields vs) → PSs (X.suite a ((a, oe) :: pn)) (b₀ :: suite) (ts a cls d)) (hdb : (x == ("__debug__" : Str)) = false := by decide) :
    PS X (.Try body [.ExceptHandler (some (.Name x np)) (some n) (b₀ :: suite) pos'] [] [] pos) (tTry X.K x i Wout tb ts) := ps_try_as hs hf hN hi hln ⟨hg, hdb, .inl hm⟩ tk hb hsu
/-- e.f in the suite, e of any class -/
def tXfA (K : PySem.W.Frag) (a : Addr) (cls : Value) (d : Option Addr) (f : Str) (te : TE) : TE := fun σ H Q => te σ H fun x H1 => x = .ref a ∧ ∃ (C dd : Addr) (fs : List (Str × V)) (v : V), cls = .ref C ∧ XfC K C ∧ PySem.W.findIn K (.ref C) f = some none ∧ d = some dd ∧ H1 dd = some (.xd fs) ∧ fs.lookup f = some v ∧ Q v H1
theorem pe_xfA {X : Cx} {a : Addr} {oe : Obj} {cls : Value} {d : Option Addr} {pn : List (Addr × Obj)} {e : Expr} {te : TE} {pos : Pos} {n : Str}
    (hz : Zc cls d oe) (hf : ∃ vs, oe.data = .fields vs) (he : PE (X.suite a ((a, oe) :: pn)) e te) (hb : attributeBase e n X.env (eval e X.env) = eval e X.env := by rfl) :
    PE (X.suite a ((a, oe) :: pn)) (.Attribute e n pos) (tXfA X.K a cls d n te) := by
  refine ⟨fun pins s σ H Q I h => ?_⟩
  refine attr_of hb (thn (he.run pins s σ H _ I h) fun u s1 hh => ?_)
  obtain ⟨x, H1, I1, rx, ex, C, dd, fs, v, ec, T, hno, ed, ea, l, q⟩ := hh
  subst ex
  obtain rfl : u = Value.ref a := rx
  subst ec
  subst ed
  obtain ⟨ha, _⟩ := I1.pin (a, oe) (List.mem_append_left _ List.mem_cons_self)
  obtain ⟨vs, hd⟩ := hf
  have hx : ObjOk X.prog X.w H1 s1.heap dd (.xd fs) := I1.hok dd _ ea
  obtain ⟨mA, hns, hr⟩ := hx
  obtain ⟨od, ho, hl⟩ := lookIn_ns hns
  obtain ⟨u, hu, ru⟩ := RelO.some_of (v := v) (o := mA n) (by rw [← l]; exact hr n)
  have J : PySem.W.InstAt s1.heap a oe C (some od) := ⟨ha, hz.1, by unfold PySem.W.notCls; rw [hd] <;> rfl, by rw [hz.2]; exact ho⟩
  exact HandSPX.exc_get I1.kIn J T.ga T.gg T.exC (PySem.W.findObj_own T.hdC hno rfl (by rw [hl, hu])) (handed_of ru) ⟨v, H1, I1.tok _, ru, q⟩
section
variable {K : PySem.W.Frag}
theorem w_xf {a C dd : Addr} {f : Str} {te : TE} {fs : List (Str × V)} {v : V} {σ : L2.St} {H : Hp} {Q : VK} (h : ∀ Q : VK, Q (.ref a) H → te σ H Q) (T : XfC K C) (hn : PySem.W.findIn K (.ref C) f = some none) (e : H dd = some (.xd fs)) (l : fs.lookup f = some v) (q : Q v H) : tXfA K a (.ref C) (some dd) f te σ H Q := h _ ⟨rfl, C, dd, fs, v, rfl, T, hn, rfl, e, l, q⟩
end
/-- what a handler's reading leans on: x's exceptions, the clause's class m -/
structure ExF (K : PySem.W.Frag) (x m : Str) (b : Bool) : Prop where
  exm : PySem.W.exmOne K (.ref (He.ga K x)) (.ref (He.ga K m)) = some b
  xf : XfC K (He.ga K x)
  nov : PySem.W.findIn K (.ref (He.ga K x)) "value" = some none
/-- a call whose exceptions are taken -/
theorem pe_callDX {X : Cx} {CX : CXT} {k : Nat} {ps : List Str} {sp : Sp} {st : Stmt} {E : L2.St → XK} {x : Str} {p pos : Pos} {e : Expr} {es : List Expr} {t : TA} (F : Def X.prog X.w X.K X.mg X.base CX k x ps st sp) (hr : Room k X.A) (hg : Gl X x) (hx : ∀ σ, PassesAt CX X σ (E σ))
    (ha : PA X (e :: es) t) (hdb : (x == ("__debug__" : Str)) = false := by decide) (he : starEach (e :: es) X.env = (false, eval e X.env) :: starEach es X.env := by rfl) (hpl : (backTo pos (starEach es X.env)).any (·.1) = false := by rfl) :
    PE X (.Call (.Name x p) (e :: es) [] pos) (tCallS sp E t) := by
  obtain ⟨f, fd, hm, kp, _, hb, G⟩ := F
  exact pe_callS G hr hg hm kp hb hx ha hdb he hpl
section
variable {K : PySem.W.Frag} {D : Ends} {σ : L2.St} {H : Hp} {rest : TS}
/-- an if, behind it P -/
theorem z_ifM {c : TT} {t u : TS} (P : L2.St → Hp → Prop) (hP : ∀ σ H, P σ H → rest D σ H) (q : ∀ R : L2.St → Hp → Prop, (∀ σ H, P σ H → R σ H) → c σ H fun b H1 => if b = true then t { D with nx := R } σ H1 else u { D with nx := R } σ H1) : tSeq (tIfS c t u) rest D σ H := q (rest D) hP
theorem z_tryM {x : Str} {i : Nat} {Wout : WX} {tb : WX → TS} {ts : Addr → Value → Option Addr → TS} (P : L2.St → Hp → Prop) (hP : ∀ σ H, P σ H → rest D σ H)
    (q : ∀ R : L2.St → Hp → Prop, (∀ σ H, P σ H → R σ H) → tb (wAs K (.ref (He.ga K x)) i ts Wout { D with nx := R }) { D with nx := R } σ H) : tSeq (tTry K x i Wout tb ts) rest D σ H := q (rest D) hP
theorem w_callS {sp : Sp} {E : L2.St → XK} {A : TA} {Q : VK} (q : A σ H fun vs H1 => sp vs H1 Q (E σ)) : tCallS sp E A σ H Q := q
/-- an expression, behind it P -/
theorem w_mid {te : TE} {Q : VK} (P : V → Hp → Prop) (hP : ∀ v H, P v H → Q v H) (q : ∀ Q : VK, (∀ v H, P v H → Q v H) → te σ H Q) : te σ H Q := q Q hP
/-- the clause is the right one -/
theorem w_caught {c : Value} {i : Nat} {ts : Addr → Value → Option Addr → TS} {Wout : WX} {cls : Value} {d : Option Addr} (h : PySem.W.exmOne K cls c = some true)
    (q : ∀ a, H a = none → ts a cls d { nx := fun σ' H' => D.nx (σ'.set i none) H', rt := D.rt, bk := fun σ' H' => D.bk (σ'.set i none) H', ct := fun σ' H' => D.ct (σ'.set i none) H' } (σ.set i (some (.ref a))) H) : wAs K c i ts Wout D cls d σ H :=
  ⟨true, h, fun _ => q, fun z => nomatch z⟩
end
/-! ### the head's hook, with more looks -/
abbrev AlX : Type := He.AlD × Bool
def frX (g : Addr → Option Obj) (n : Nat) : PySem.W.Frag := He.frG g (PySem.cStatics :: He.asD g n)
def obsXG (n : Nat) (fa : List He.Fa) (fn : List He.DefD) (ex : PySem.W.Frag → Bool) (g : Addr → Option Obj) : AlX := (He.obsD fa fn (frX g n), ex (frX g n))
def hookX (n : Nat) (fa : List He.Fa) (fn : List He.DefD) (ex : PySem.W.Frag → Bool) : PySem.W.Hook where
  α := AlX
  obs := fun s => obsXG n fa fn ex s.heap.get?
  val := fun _ => (He.valD fn, true)
  says := fun _ h => ∃ K : PySem.W.Frag, K.In h ∧ He.SaysD fa fn K ∧ ex K = true
  of := fun _ _ e => ⟨_, He.frG_in, congrArg (fun z : AlX => z.1) e, congrArg (fun z : AlX => z.2) e⟩
  keeps := fun _ _ _ ⟨K, hK, c⟩ k => ⟨K, PySem.W.Frag.In.keeps hK k, c⟩
theorem obsXG_eq {n : Nat} {fa : List He.Fa} {fn : List He.DefD} {ex : PySem.W.Frag → Bool} {g : Addr → Option Obj} {s : Shared} (h : ∀ a, g a = s.heap.get? a) : obsXG n fa fn ex g = (hookX n fa fn ex).obs s := by
  have e : g = s.heap.get? := funext h
  rw [e] <;> rfl
end Q

set_option Elab.async false
set_option linter.all false
set_option maxRecDepth 100000
set_option maxHeartbeats 4000000
namespace Q
open PySem PySem.Spec PyProof.Rows L2
/-! the steps' tactic: runs a reading up to a choice, a call, a loop, a store -/
local macro_rules | `(tactic| walk_at "w1") => `(tactic| (with_reducible first
  | refine w_var (by with_unfolding_all exact rfl) ?_
  | refine w_c ?_
  | refine w_op ?_
  | refine w_test ?_
  | refine w_tb ?_
  | refine w_cons ?_
  | refine w_nil ?_
  | refine w_cb ?_
  | refine w_call ?_
  | refine w_kw ?_
  | refine z_asg ?_
  | refine z_ret ?_
  | refine z_if ?_
  | refine z_drop ?_
  | refine g_name ?_
  | refine g_sub ?_
  | refine w_bm ?_
  | refine w_bm0 ?_
  | refine w_m1 ?_
  | refine w_m0 ?_
  | refine w_and ?_
  | refine w_or ?_
  | refine w_not ?_
  | refine w_chain ?_
  | refine w_andV ?_
  | refine w_orV ?_
  | refine w_notV ?_
  | refine w_if ?_
  | refine w_un ?_
  | refine w_sl ?_
  | refine w_part ?_
  | refine w_nopart ?_
  | refine w_tup ?_
  | refine w_lst ?_
  | refine w_yes ?_
  | refine z_for ?_
  | refine z_for1 ?_
  | refine w_ilist ?_
  | refine w_irng1 ?_
  | refine w_irng2 ?_
  | refine w_istr ?_
  | refine w_itup ?_
  | refine w_lc ?_
  | refine z_asg1 ?_
  | refine z_if1 ?_
  | refine z_drop1 ?_
  | refine z_next ?_
  | refine o_add ?_
  | refine o_sub ?_
  | refine o_lt ?_
  | refine o_le ?_
  | refine o_gt ?_
  | refine o_ge ?_
  | refine o_neg ?_
  | refine o_max2 ?_
  | refine o_min2 ?_
  | refine o_intB ?_
  | refine o_isn ?_
  | refine o_notn ?_
  | refine o_inc ?_
  | refine o_notinc ?_
  | refine o_eq (by with_unfolding_all exact rfl) ?_
  | refine o_ne (by with_unfolding_all exact rfl) ?_
  | refine o_ixLn (by first | assumption | exact upd_same) (by decide) (by with_unfolding_all exact rfl) ?_
  | refine o_ixTn (by first | assumption | exact upd_same) (by decide) (by with_unfolding_all exact rfl) ?_
  | refine g_tup (by first | assumption | exact upd_same) (by with_unfolding_all exact rfl) ?_
  | refine g_cons ?_
  | refine g_nil ?_
  | refine g_setLn (by first | assumption | exact upd_same) (by decide) (by with_unfolding_all exact rfl) ?_
  | refine p_2_61 ?_
  | refine p_10_18 ?_
  | refine p_10_15 ?_
  | refine p_10_30 ?_
  | refine p_10_29 ?_
  | refine iteT ?_
  | refine iteF ?_
  | refine ite_nt ?_
  | refine ite_nf ?_
  | refine ⟨_, rfl, ?_⟩
  | refine ⟨⟨_, rfl⟩, ?_⟩))
local macro_rules | `(tactic| walk_at "w") => `(tactic| (repeat walk_at "w1"))

/-! ### a text changed -/
def Chg (z z' : Str) : Prop := z'.length ≤ 6 * z.length + 200 ∧ okS z'
def sp_law_parts_changed (K : PySem.W.Frag) : Sp := fun vs H Q _ => vs.length = 3 ∧ ∃ (s d : Addr) (n : Int) (z : Str) (o : Addr) (os : List Str), vs = [.ref s, .str z, .ref o] ∧ Src s d n H ∧ n ≤ 900000000 ∧ o ∉ [s, d] ∧ H o = some (.lst (os.map V.str)) ∧ OddOk os ∧ z.length ≤ 20000 ∧ okS z ∧
  ∀ z' H', Chg z z' → Src s d (n + 10) H' → Fr [s, d] H H' → Q (.str z') H'
def t_law_parts_changed (K : PySem.W.Frag) : TS := (tSeq (tAsg (tOp (rIxL K) (tLst (tCons (tC (.str " ")) (tCons (tC (.str ",")) tNil))) (tCall (sp_law_draw K) [] E0 (tCons (tVar 0) (tCons (tC (.int 2)) tNil)))) (gName 3))
    (tSeq (tAsg (tM1 rSplit (tVar 1) (tVar 3)) (gName 4))
    (tSeq (tAsg (tCall (sp_law_draw K) [] E0 (tCons (tVar 0) (tCons (tCB (rLenL K) (tCons (tVar 4) tNil)) tNil))) (gName 5))
    (tSeq (tAsg (tCall (sp_law_draw K) [] E0 (tCons (tVar 0) (tCons (tCB (rLenL K) (tCons (tVar 4) tNil)) tNil))) (gName 6))
    (tSeq (tAsg (tCall (sp_law_draw K) [] E0 (tCons (tVar 0) (tCons (tC (.int 5)) tNil))) (gName 7))
    (tSeq (tIfS (tTest (tOp rEq (tVar 7) (tC (.int 0)))) (tAsg (tOp rCat (tSl (rSlL K) (tVar 4) tNoPart (tPart (tVar 5))) (tSl (rSlL K) (tVar 4) (tPart (tOp rAddI (tVar 5) (tC (.int 1)))) tNoPart)) (gName 4)) (tIfS (tTest (tOp rEq (tVar 7) (tC (.int 1)))) (tAsg (tOp rCat (tOp rCat (tSl (rSlL K) (tVar 4) tNoPart (tPart (tVar 5))) (tSl (rSlL K) (tVar 4) (tPart (tVar 5)) (tPart (tOp rAddI (tVar 5) (tC (.int 1)))))) (tSl (rSlL K) (tVar 4) (tPart (tVar 5)) tNoPart)) (gName 4)) (tIfS (tTest (tOp rEq (tVar 7) (tC (.int 2)))) (tAsg (tTup (tCons (tOp (rIxL K) (tVar 4) (tVar 6)) (tCons (tOp (rIxL K) (tVar 4) (tVar 5)) tNil))) (gTup K 2 (gCons (gSub (tVar 4) (tVar 5) rSetL) (gCons (gSub (tVar 4) (tVar 6) rSetL) gNil)))) (tAsg (tOp (rIxL K) (tVar 2) (tCall (sp_law_draw K) [] E0 (tCons (tVar 0) (tCons (tCB (rLenL K) (tCons (tVar 2) tNil)) tNil)))) (gSub (tVar 4) (tVar 5) rSetL)))))
    (tRet (tM1 (rJoin K) (tVar 3) (tVar 4)))))))))

theorem mk_len {z : Str} {ys : List Str} {mark : Str} (hm : mark = (" " : Str) ∨ mark = ("," : Str)) (h1 : sumL ys ≤ 3 * z.length + 60) (h2 : ys.length ≤ 3 * (z.length + 2)) (h3 : okL ys) : Chg z (Txt.join mark ys) := by
  have hl : mark.length = 1 := by rcases hm with rfl | rfl <;> decide +kernel
  refine ⟨?_, strOk_join (by rcases hm with rfl | rfl <;> decide +kernel) h3⟩
  have := join_le mark ys hl
  omega
theorem pure_law_parts_changed {K : PySem.W.Frag} {vs : List V} {H : Hp} {Q : VK} {E : XK} (h : sp_law_parts_changed K vs H Q E) : t_law_parts_changed K { nx := fun _ H' => Q .non H', rt := Q } (start ["source", "text", "odd", "mark", "parts", "one", "other", "way"] vs) H := by
  obtain ⟨_, s, d, n, z, o, os, rfl, hS, hn, ho, hO, hos, hz, hzk, q⟩ := h
  unfold t_law_parts_changed
  walk_at "w"
  refine ⟨len_ok rfl, fun p1 hp1 => ?_⟩
  walk_at "w"
  have hp1m : p1 ∉ [s, d] := hS.trk.ne hp1
  have hop : o ≠ p1 := ne_of_none hO hp1
  refine u_draw (hS.up (same_upd hp1)) (by omega) (by decide) (by decide) fun r1 H1 a1 b1 T1 f1 => ?_
  have hm1 := f1 _ _ hp1m (upd_same (H := H) (a := p1) (o := .lst [.str " ", .str ","]))
  have hO1 := f1 _ _ ho (same_upd (o := .lst [.str " ", .str ","]) hp1 _ _ hO)
  have fr1 : Fr [s, d] H H1 := (Fr.new hp1).trans f1
  obtain ⟨mark, hk, hmark⟩ : ∃ mark : Str, [V.str " ", .str ","][r1.toNat]? = some (.str mark) ∧ (mark = (" " : Str) ∨ mark = ("," : Str)) := by
    have h4 : r1 = 0 ∨ r1 = 1 := by omega
    rcases h4 with rfl | rfl
    · exact ⟨_, rfl, .inl rfl⟩
    · exact ⟨_, rfl, .inr rfl⟩
  refine o_ixLn hm1 a1 hk ?_
  have hmne : TL.tl mark ≠ [] := by rcases hmark with rfl | rfl <;> decide +kernel
  have hmk : mark.cps.all (· < 256) = true := by rcases hmark with rfl | rfl <;> decide +kernel
  walk_at "w"
  refine ⟨_, _, rfl, rfl, by rcases hmark with rfl | rfl <;> decide +kernel, Nat.le_trans (show z.length + 2 ≤ 100000 by omega) (by decide), fun w hw => ?_⟩
  have hys : sumL (Txt.split z mark) ≤ z.length := split_sum hmne hmk
  have hyl : (Txt.split z mark).length ≤ z.length + 2 := PyProof.Rows.split_le _ _
  have hyk : okL (Txt.split z mark) := split_ok hmne hmk hzk
  have hy0 : 0 < (Txt.split z mark).length := by
    have e := TL.split_spl z mark hmne (TL.kind_ok hmk)
    refine List.length_pos_iff.mpr fun e2 => ?_
    rw [e2, List.map_nil] at e
    cases hh : TL.tl z with
    | nil => rw [hh, TL.spl_nil] at e; cases e
    | cons c r =>
      rw [hh] at e
      have : ∀ (l : List Nat) (k : Nat) (acc : List Nat), TL.spl (TL.tl mark) k acc l ≠ [] := by
        intro l
        induction l with
        | nil => intro k acc; rw [TL.spl_nil]; exact List.cons_ne_nil _ _
        | cons c r ih =>
          intro k acc
          cases k with
          | zero =>
            cases hp : TL.pre (TL.tl mark) (c :: r) with
            | true => rw [TL.spl_hit hp]; exact List.cons_ne_nil _ _
            | false => rw [TL.spl_miss hp]; exact ih _ _
          | succ k => exact ih _ _
      exact this _ _ _ e.symm
  revert hys hyl hyk hy0
  generalize Txt.split z mark = ys
  intro hys hyl hyk hy0
  have hw1 : upd H1 w (.lst (ys.map V.str)) w = some (.lst (ys.map V.str)) := upd_same
  have T1' := T1.up (same_upd (o := .lst (ys.map V.str)) hw)
  have hO1' := same_upd (o := .lst (ys.map V.str)) hw _ _ hO1
  have fr1' : Fr [s, d] H (upd H1 w (.lst (ys.map V.str))) := fr1.trans (Fr.new hw)
  have hwm : w ∉ [s, d] := T1.trk.ne hw
  have how : o ≠ w := ne_of_none hO1 hw
  have hw0 : H w = none := by
    cases e : H w with
    | none => rfl
    | some u => rw [fr1 _ _ hwm e] at hw; cases hw
  revert hw1 T1' hO1' fr1'
  generalize upd H1 w (.lst (ys.map V.str)) = H2
  intro hw2 T2 hO2 fr2
  have hysl : (ys.map V.str).length = ys.length := List.length_map ..
  walk_at "w"
  refine o_lenL hw2 ?_
  rw [hysl]
  walk_at "w"
  refine u_draw T2 (by omega) (by omega) (by omega) fun r3 H3 a3 b3 T3 f3 => ?_
  walk_at "w"
  refine o_lenL (f3 _ _ hwm hw2) ?_
  rw [hysl]
  walk_at "w"
  refine u_draw T3 (by omega) (by omega) (by omega) fun r4 H4 a4 b4 T4 f4 => ?_
  walk_at "w"
  refine u_draw T4 (by omega) (by omega) (by omega) fun r5 H5 a5 b5 T5 f5 => ?_
  have f25 : Fr [s, d] H2 H5 := f3.trans (f4.trans f5)
  have hw5 := f25 _ _ hwm hw2
  have hO5 := f25 _ _ ho hO2
  have fr5 := fr2.trans f25
  refine g_name ?_
  refine z_ifM (fun σ H6 => ∃ (u : Addr) (zs : List Str) (x5 x6 x7 : Option V), σ = [some (.ref s), some (.str z), some (.ref o), some (.str mark), some (.ref u), x5, x6, x7] ∧ H6 u = some (.lst (zs.map V.str)) ∧ sumL zs ≤ 3 * z.length + 60 ∧ zs.length ≤ 3 * (z.length + 2) ∧ okL zs ∧ Src s d (n + 10) H6 ∧ Fr [s, d] H H6) ?_ fun R hR => ?_
  · rintro σ H6 ⟨u, zs, x5, x6, x7, rfl, hu, g1, g2, g3, T6, fr6⟩
    walk_at "w"
    refine o_join hu ?_ ?_
    · have hl : mark.length = 1 := by rcases hmark with rfl | rfl <;> decide +kernel
      rw [hl]
      have g1' : (zs.map (·.length)).sum ≤ 3 * z.length + 60 := g1
      omega
    · exact q _ _ (mk_len hmark g1 g2 g3) T6 fr6
  · walk_at "w"
    by_cases h0 : r5 = 0
    · rw [decide_eq_true (show V.int r5 = V.int 0 by rw [h0])]
      walk_at "w"
      obtain ⟨zs1, e1, s1, l1, m1⟩ := cutV_map ys none (some r3)
      refine ⟨w, _, rfl, SqL.of hw5, fun u1 hu1 => ?_⟩
      rw [e1]
      walk_at "w"
      obtain ⟨zs2, e2, s2, l2, m2⟩ := cutV_map ys (some (r3 + 1)) none
      refine ⟨w, _, rfl, SqL.of (same_upd hu1 _ _ hw5), fun u2 hu2 => ?_⟩
      rw [e2]
      have hu12 : upd (upd H5 u1 (.lst (zs1.map V.str))) u2 (.lst (zs2.map V.str)) u1 = some (.lst (zs1.map V.str)) := same_upd hu2 _ _ upd_same
      refine ⟨u1, u2, _, _, rfl, rfl, hu12, upd_same, ?_, fun u3 hu3 => ?_⟩
      · rw [List.length_map, List.length_map]
        exact Nat.le_trans (show _ ≤ 100000 by omega) (by decide)
      rw [← List.map_append]
      walk_at "w"
      refine hR _ _ ⟨u3, zs1 ++ zs2, _, _, _, rfl, upd_same, ?_, ?_, fun y m => ?_, ((((T5.up (same_upd hu1)).up (same_upd hu2)).up (same_upd hu3)).more (by omega)), ((fr5.trans (Fr.new hu1)).trans (Fr.new hu2)).trans (Fr.new hu3)⟩
      · rw [sumL_app]
        omega
      · rw [List.length_append]
        omega
      · rcases List.mem_append.mp m with m | m
        · exact hyk _ (m1 _ m)
        · exact hyk _ (m2 _ m)
    rw [decide_eq_false (fun e => h0 (V.int.inj e))]
    walk_at "w"
    by_cases h1 : r5 = 1
    · rw [decide_eq_true (show V.int r5 = V.int 1 by rw [h1])]
      walk_at "w"
      obtain ⟨zs1, e1, s1, l1, m1⟩ := cutV_map ys none (some r3)
      refine ⟨w, _, rfl, SqL.of hw5, fun u1 hu1 => ?_⟩
      rw [e1]
      walk_at "w"
      obtain ⟨zs2, e2, s2, l2, m2⟩ := cutV_map ys (some r3) (some (r3 + 1))
      refine ⟨w, _, rfl, SqL.of (same_upd hu1 _ _ hw5), fun u2 hu2 => ?_⟩
      rw [e2]
      have hu12 : upd (upd H5 u1 (.lst (zs1.map V.str))) u2 (.lst (zs2.map V.str)) u1 = some (.lst (zs1.map V.str)) := same_upd hu2 _ _ upd_same
      refine ⟨u1, u2, _, _, rfl, rfl, hu12, upd_same, ?_, fun u3 hu3 => ?_⟩
      · rw [List.length_map, List.length_map]
        exact Nat.le_trans (show _ ≤ 100000 by omega) (by decide)
      rw [← List.map_append]
      walk_at "w"
      obtain ⟨zs3, e3, s3, l3, m3⟩ := cutV_map ys (some r3) none
      refine ⟨w, _, rfl, SqL.of (same_upd hu3 _ _ (same_upd hu2 _ _ (same_upd hu1 _ _ hw5))), fun u4 hu4 => ?_⟩
      rw [e3]
      refine ⟨u3, u4, _, _, rfl, rfl, same_upd hu4 _ _ upd_same, upd_same, ?_, fun u5 hu5 => ?_⟩
      · rw [List.length_map, List.length_map, List.length_append]
        exact Nat.le_trans (show _ ≤ 100000 by omega) (by decide)
      rw [← List.map_append]
      walk_at "w"
      refine hR _ _ ⟨u5, (zs1 ++ zs2) ++ zs3, _, _, _, rfl, upd_same, ?_, ?_, fun y m => ?_, (((((T5.up (same_upd hu1)).up (same_upd hu2)).up (same_upd hu3)).up (same_upd hu4)).up (same_upd hu5)).more (by omega), ((((fr5.trans (Fr.new hu1)).trans (Fr.new hu2)).trans (Fr.new hu3)).trans (Fr.new hu4)).trans (Fr.new hu5)⟩
      · rw [sumL_app, sumL_app]
        omega
      · rw [List.length_append, List.length_append]
        omega
      · rcases List.mem_append.mp m with m | m
        · rcases List.mem_append.mp m with m | m
          · exact hyk _ (m1 _ m)
          · exact hyk _ (m2 _ m)
        · exact hyk _ (m3 _ m)
    rw [decide_eq_false (fun e => h1 (V.int.inj e))]
    walk_at "w"
    have i3 : r3.toNat < ys.length := by omega
    have i4 : r4.toNat < ys.length := by omega
    have g3 : (ys.map V.str)[r3.toNat]? = some (.str ys[r3.toNat]) := by rw [List.getElem?_map, List.getElem?_eq_getElem i3]; rfl
    have g4 : (ys.map V.str)[r4.toNat]? = some (.str ys[r4.toNat]) := by rw [List.getElem?_map, List.getElem?_eq_getElem i4]; rfl
    by_cases h2 : r5 = 2
    · rw [decide_eq_true (show V.int r5 = V.int 2 by rw [h2])]
      walk_at "w"
      refine o_ixLn hw5 a4 g4 ?_
      walk_at "w"
      refine o_ixLn hw5 a3 g3 ?_
      walk_at "w"
      refine ⟨len_ok rfl, fun t ht => ?_⟩
      have hw6 := same_upd (o := .tup [.str ys[r4.toNat], .str ys[r3.toNat]]) ht _ _ hw5
      walk_at "w"
      refine g_setLn hw6 a3 (by rw [hysl]; exact Nat.blt_eq.mpr i3) ?_
      walk_at "w"
      refine g_setLn upd_same a4 (by rw [List.length_set, hysl]; exact Nat.blt_eq.mpr i4) ?_
      have e : ((ys.map V.str).set r3.toNat (.str ys[r4.toNat])).set r4.toNat (.str ys[r3.toNat]) = ((ys.set r3.toNat ys[r4.toNat]).set r4.toNat ys[r3.toNat]).map V.str := by
        rw [List.map_set, List.map_set]
      rw [e]
      walk_at "w"
      have m3 : ys[r3.toNat] ∈ ys := List.getElem_mem i3
      have m4 : ys[r4.toNat] ∈ ys := List.getElem_mem i4
      refine hR _ _ ⟨w, _, _, _, _, rfl, upd_same, ?_, ?_, fun y m => ?_, ((T5.up (same_upd (o := .tup [.str ys[r4.toNat], .str ys[r3.toNat]]) ht)).keep fun b m => ?_).more (by omega), ?_⟩
      · have k1 := sumL_set (x := ys[r3.toNat]) (ys.set r3.toNat ys[r4.toNat]) r4.toNat
        have k2 := sumL_set (x := ys[r4.toNat]) ys r3.toNat
        have k3 := sumL_mem m3
        have k4 := sumL_mem m4
        omega
      · rw [List.length_set, List.length_set]
        omega
      · rcases List.mem_or_eq_of_mem_set m with m | rfl
        · rcases List.mem_or_eq_of_mem_set m with m | rfl
          · exact hyk _ m
          · exact hyk _ m4
        · exact hyk _ m3
      · rw [upd_ne (show b ≠ w from fun e => hwm (e ▸ m)), upd_ne (show b ≠ w from fun e => hwm (e ▸ m))]
      · exact Fr.drop (((fr5.more (fun b m => List.mem_cons_of_mem w m)).trans (Fr.new ht)).trans ((Fr.mut (by simp)).trans (Fr.mut (by simp)))) hw0
    rw [decide_eq_false (fun e => h2 (V.int.inj e))]
    walk_at "w"
    refine o_lenL hO5 ?_
    obtain ⟨o1, o2, o3⟩ := hos
    have hol : (os.map V.str).length = os.length := List.length_map ..
    rw [hol]
    walk_at "w"
    refine u_draw T5 (by omega) (by omega) (by omega) fun r6 H6 a6 b6 T6 f6 => ?_
    have i6 : r6.toNat < os.length := by omega
    refine o_ixLn (f6 _ _ ho hO5) a6 (by rw [List.getElem?_map, List.getElem?_eq_getElem i6]; rfl) ?_
    walk_at "w"
    refine g_setLn (f6 _ _ hwm hw5) a3 (by rw [hysl]; exact Nat.blt_eq.mpr i3) ?_
    rw [show (ys.map V.str).set r3.toNat (.str os[r6.toNat]) = (ys.set r3.toNat os[r6.toNat]).map V.str by rw [List.map_set]]
    obtain ⟨k5, k6⟩ := o3 _ (List.getElem_mem i6)
    refine hR _ _ ⟨w, _, _, _, _, rfl, upd_same, ?_, ?_, fun y m => ?_, (T6.keep fun b m => ?_).more (by omega), ?_⟩
    · have k2 := sumL_set (x := os[r6.toNat]) ys r3.toNat
      omega
    · rw [List.length_set]
      omega
    · rcases List.mem_or_eq_of_mem_set m with m | rfl
      · exact hyk _ m
      · exact k6
    · rw [upd_ne (show b ≠ w from fun e => hwm (e ▸ m))]
    · exact Fr.drop (((fr5.trans f6).more (fun b m => List.mem_cons_of_mem w m)).trans (Fr.mut (by simp))) hw0
end Q

set_option Elab.async false
set_option linter.all false
set_option maxRecDepth 100000
set_option maxHeartbeats 4000000
namespace Q
open PySem PySem.Spec PyProof.Rows L2
/-! the steps' tactic: runs a reading up to a choice, a call, a loop, a store -/
local macro_rules | `(tactic| walk_at "w1") => `(tactic| (with_reducible first
  | refine w_var (by with_unfolding_all exact rfl) ?_
  | refine w_c ?_
  | refine w_op ?_
  | refine w_test ?_
  | refine w_tb ?_
  | refine w_cons ?_
  | refine w_nil ?_
  | refine w_cb ?_
  | refine w_call ?_
  | refine w_kw ?_
  | refine z_asg ?_
  | refine z_ret ?_
  | refine z_if ?_
  | refine z_drop ?_
  | refine g_name ?_
  | refine g_sub ?_
  | refine w_bm ?_
  | refine w_bm0 ?_
  | refine w_m1 ?_
  | refine w_m0 ?_
  | refine w_and ?_
  | refine w_or ?_
  | refine w_not ?_
  | refine w_chain ?_
  | refine w_andV ?_
  | refine w_orV ?_
  | refine w_notV ?_
  | refine w_if ?_
  | refine w_un ?_
  | refine w_sl ?_
  | refine w_part ?_
  | refine w_nopart ?_
  | refine w_tup ?_
  | refine w_lst ?_
  | refine w_yes ?_
  | refine z_for ?_
  | refine z_for1 ?_
  | refine w_ilist ?_
  | refine w_irng1 ?_
  | refine w_irng2 ?_
  | refine w_istr ?_
  | refine w_itup ?_
  | refine w_lc ?_
  | refine z_asg1 ?_
  | refine z_if1 ?_
  | refine z_drop1 ?_
  | refine z_next ?_
  | refine o_add ?_
  | refine o_sub ?_
  | refine o_lt ?_
  | refine o_le ?_
  | refine o_gt ?_
  | refine o_ge ?_
  | refine o_neg ?_
  | refine o_max2 ?_
  | refine o_min2 ?_
  | refine o_intB ?_
  | refine o_isn ?_
  | refine o_notn ?_
  | refine o_inc ?_
  | refine o_notinc ?_
  | refine o_eq (by with_unfolding_all exact rfl) ?_
  | refine o_ne (by with_unfolding_all exact rfl) ?_
  | refine o_ixLn (by first | assumption | exact upd_same) (by decide) (by with_unfolding_all exact rfl) ?_
  | refine o_ixTn (by first | assumption | exact upd_same) (by decide) (by with_unfolding_all exact rfl) ?_
  | refine g_tup (by first | assumption | exact upd_same) (by with_unfolding_all exact rfl) ?_
  | refine g_cons ?_
  | refine g_nil ?_
  | refine g_setLn (by first | assumption | exact upd_same) (by decide) (by with_unfolding_all exact rfl) ?_
  | refine p_2_61 ?_
  | refine p_10_18 ?_
  | refine p_10_15 ?_
  | refine p_10_30 ?_
  | refine p_10_29 ?_
  | refine iteT ?_
  | refine iteF ?_
  | refine ite_nt ?_
  | refine ite_nf ?_
  | refine ⟨_, rfl, ?_⟩
  | refine ⟨⟨_, rfl⟩, ?_⟩))
local macro_rules | `(tactic| walk_at "w") => `(tactic| (repeat walk_at "w1"))

def sp_law_changed (K : PySem.W.Frag) : Sp := fun vs H Q _ => vs.length = 3 ∧ ∃ (s d : Addr) (n : Int) (z : Str) (o : Addr) (os : List Str), vs = [.ref s, .str z, .ref o] ∧ Src s d n H ∧ n ≤ 800000000 ∧ o ∉ [s, d] ∧ H o = some (.lst (os.map V.str)) ∧ OddOk os ∧ z.length ≤ 20000 ∧ okS z ∧
  ∀ z' H', Chg z z' → Src s d (n + 12) H' → Fr [s, d] H H' → Q (.str z') H'
def t_law_changed (K : PySem.W.Frag) : TS := (tSeq (tAsg (tCall (sp_law_draw K) [] E0 (tCons (tVar 0) (tCons (tC (.int 6)) tNil))) (gName 3))
    (tSeq (tAsg (tCall (sp_law_draw K) [] E0 (tCons (tVar 0) (tCons (tOp rAddI (tCB rLenS (tCons (tVar 1) tNil)) (tC (.int 1))) tNil))) (gName 4))
    (tSeq (tIfS (tTest (tOp rEq (tVar 3) (tC (.int 0)))) (tRet (tOp rAddS (tOp rAddS (tSl rSlS (tVar 1) tNoPart (tPart (tVar 4))) (tCall (sp_law_sign K) [] E0 (tCons (tVar 0) tNil))) (tSl rSlS (tVar 1) (tPart (tVar 4)) tNoPart))) tNext)
    (tSeq (tIfS (tTest (tOp rEq (tVar 3) (tC (.int 1)))) (tRet (tOp rAddS (tSl rSlS (tVar 1) tNoPart (tPart (tVar 4))) (tSl rSlS (tVar 1) (tPart (tOp rAddI (tVar 4) (tC (.int 1)))) tNoPart))) tNext)
    (tSeq (tIfS (tTest (tOp rEq (tVar 3) (tC (.int 2)))) (tRet (tOp rAddS (tOp rAddS (tSl rSlS (tVar 1) tNoPart (tPart (tVar 4))) (tCall (sp_law_sign K) [] E0 (tCons (tVar 0) tNil))) (tSl rSlS (tVar 1) (tPart (tOp rAddI (tVar 4) (tC (.int 1)))) tNoPart))) tNext)
    (tRet (tCall (sp_law_parts_changed K) [] E0 (tCons (tVar 0) (tCons (tVar 1) (tCons (tVar 2) tNil))))))))))

theorem cutS_le (z : Str) (lo hi : Option Int) : (cutS z lo hi).length ≤ z.length := cutS_length z lo hi
theorem pure_law_changed {K : PySem.W.Frag} {vs : List V} {H : Hp} {Q : VK} {E : XK} (h : sp_law_changed K vs H Q E) : t_law_changed K { nx := fun _ H' => Q .non H', rt := Q } (start ["source", "text", "odd", "way", "spot"] vs) H := by
  obtain ⟨_, s, d, n, z, o, os, rfl, hS, hn, ho, hO, hos, hz, hzk, q⟩ := h
  have hz5 : z.length ≤ sizeLine := Nat.le_trans hz (by decide)
  have hzl : 20010 + 20010 ≤ sizeLine := by decide
  unfold t_law_changed
  walk_at "w"
  refine u_draw hS (by omega) (by decide) (by decide) fun r1 H1 a1 b1 T1 f1 => ?_
  walk_at "w"
  refine o_lenS hz5 ?_
  walk_at "w"
  refine u_draw T1 (by omega) (by omega) (by omega) fun r2 H2 a2 b2 T2 f2 => ?_
  have fr2 := f1.trans f2
  walk_at "w"
  by_cases h0 : r1 = 0
  · rw [decide_eq_true (show V.int r1 = V.int 0 by rw [h0])]
    walk_at "w"
    refine o_slS hz5 ?_
    have c1 := cutS_le z none (some r2)
    have k1 := okS_cut none (some r2) hzk
    walk_at "w"
    refine ⟨rfl, s, d, _, rfl, T2, by omega, fun c H3 hc T3 f3 => ?_⟩
    refine o_adds (by rw [str_len1]; omega) ?_
    walk_at "w"
    refine o_slS hz5 ?_
    have c2 := cutS_le z (some r2) none
    have k2 := okS_cut (some r2) none hzk
    refine o_adds (by rw [Str.length_append, str_len1]; omega) ?_
    refine q _ _ ⟨?_, okS_app (okS_app k1 hc) k2⟩ (T3.more (by omega)) (fr2.trans f3)
    rw [Str.length_append, Str.length_append, str_len1]
    omega
  rw [decide_eq_false (fun e => h0 (V.int.inj e))]
  walk_at "w"
  by_cases h1 : r1 = 1
  · rw [decide_eq_true (show V.int r1 = V.int 1 by rw [h1])]
    walk_at "w"
    refine o_slS hz5 ?_
    have c1 := cutS_le z none (some r2)
    have k1 := okS_cut none (some r2) hzk
    walk_at "w"
    refine o_slS hz5 ?_
    have c2 := cutS_le z (some (r2 + 1)) none
    have k2 := okS_cut (some (r2 + 1)) none hzk
    refine o_adds (by omega) ?_
    refine q _ _ ⟨?_, okS_app k1 k2⟩ (T2.more (by omega)) fr2
    rw [Str.length_append]
    omega
  rw [decide_eq_false (fun e => h1 (V.int.inj e))]
  walk_at "w"
  by_cases h2 : r1 = 2
  · rw [decide_eq_true (show V.int r1 = V.int 2 by rw [h2])]
    walk_at "w"
    refine o_slS hz5 ?_
    have c1 := cutS_le z none (some r2)
    have k1 := okS_cut none (some r2) hzk
    walk_at "w"
    refine ⟨rfl, s, d, _, rfl, T2, by omega, fun c H3 hc T3 f3 => ?_⟩
    refine o_adds (by rw [str_len1]; omega) ?_
    walk_at "w"
    refine o_slS hz5 ?_
    have c2 := cutS_le z (some (r2 + 1)) none
    have k2 := okS_cut (some (r2 + 1)) none hzk
    refine o_adds (by rw [Str.length_append, str_len1]; omega) ?_
    refine q _ _ ⟨?_, okS_app (okS_app k1 hc) k2⟩ (T3.more (by omega)) (fr2.trans f3)
    rw [Str.length_append, Str.length_append, str_len1]
    omega
  rw [decide_eq_false (fun e => h2 (V.int.inj e))]
  walk_at "w"
  refine ⟨rfl, s, d, _, z, o, os, rfl, T2, by omega, ho, fr2 _ _ ho hO, hos, hz, hzk, fun z' H' hc T' f' => ?_⟩
  exact q _ _ hc (T'.more (by omega)) (fr2.trans f')
def sp_law_odd_texts (K : PySem.W.Frag) : Sp := fun vs H Q _ => vs.length = 0 ∧ ∀ p os H', Same H H' → H p = none → OddOk os → H' p = some (.lst (os.map V.str)) → Q (.ref p) H'
def t_law_odd_texts (K : PySem.W.Frag) : TS := (tSeq (tAsg (tLst (tCons (tC (.str "")) (tCons (tC (.str "-")) (tCons (tC (.str "--")) (tCons (tC (.str "- -")) (tCons (tC (.str " ")) (tCons (tC (.str "ab")) (tCons (tC (.str "1ab")) (tCons (tC (.str "0ab")) (tCons (tC (.str "01ab")) (tCons (tC (.str "-1ab")) (tCons (tC (.str "+1ab")) (tCons (tC (.str "1aa")) (tCons (tC (.str "1ag")) (tCons (tC (.str "1gb")) (tCons (tC (.str "1a")) (tCons (tC (.str "allab")) tNil))))))))))))))))) (gName 0))
    (tSeq (tAsg (tOp rCat (tVar 0) (tLst (tCons (tC (.str "allaa")) (tCons (tC (.str "all")) (tCons (tC (.str "swapab")) (tCons (tC (.str "swapba")) (tCons (tC (.str "swap")) (tCons (tC (.str "Allab")) (tCons (tC (.str "1 ab")) (tCons (tC (.str "1ab 2bc")) (tCons (tC (.str "1ab  2bc")) (tCons (tC (.str "1ab -")) (tCons (tC (.str "0")) tNil))))))))))))) (gName 0))
    (tSeq (tAsg (tOp rCat (tVar 0) (tLst (tCons (tC (.str "00")) (tCons (tC (.str "0,0,0,0,0,0")) (tCons (tC (.str "0,0,0,0,0")) (tCons (tC (.str "0,0,0,0,0,0,0")) (tCons (tC (.str "0,0,0,0,0,-1")) (tCons (tC (.str "0,0,0,0,0,")) (tCons (tC (.str "1,2,3,4,5,06")) tNil))))))))) (gName 0))
    (tSeq (tDrop (tBM K "list" rAppend (tVar 0) (tCons (tC (.str "1.0")) tNil)))
    (tSeq (tAsg (tOp rCat (tVar 0) (tLst (tCons (tOp rAddS (tOp rMulS (tC (.str "9")) (tC (.int 30))) (tC (.str "ab"))) (tCons (tOp rAddS (tOp rMulS (tC (.str "9")) (tC (.int 31))) (tC (.str "ab"))) (tCons (tOp rAddS (tC (.str "0,0,0,0,0,")) (tOp rMulS (tC (.str "9")) (tC (.int 30)))) (tCons (tOp rAddS (tC (.str "0,0,0,0,0,")) (tOp rMulS (tC (.str "9")) (tC (.int 31)))) (tCons (tOp rMulS (tC (.str "9")) (tC (.int 31))) tNil))))))) (gName 0))
    (tRet (tOp rCat (tVar 0) (tLst (tCons (tOp rAddS (tC (.str "1")) (tOp rMulS (tC (.str "0")) (tC (.int 29)))) (tCons (tC (.str "1abc")) (tCons (tC (.str "11ab")) (tCons (tC (.str "1_0ab")) (tCons (tC (.str "10ab")) (tCons (tC (.str "1, 2,3,4,5,6")) (tCons (tC (.str "allba swapfe 7cd")) tNil)))))))))))))))

def odd1 : List Str := ["", "-", "--", "- -", " ", "ab", "1ab", "0ab", "01ab", "-1ab", "+1ab", "1aa", "1ag", "1gb", "1a", "allab"]
def odd2 : List Str := ["allaa", "all", "swapab", "swapba", "swap", "Allab", "1 ab", "1ab 2bc", "1ab  2bc", "1ab -", "0"]
def odd3 : List Str := ["00", "0,0,0,0,0,0", "0,0,0,0,0", "0,0,0,0,0,0,0", "0,0,0,0,0,-1", "0,0,0,0,0,", "1,2,3,4,5,06"]
def odd4 : List Str := [repS ("9" : Str) 30 ++ ("ab" : Str), repS ("9" : Str) 31 ++ ("ab" : Str), ("0,0,0,0,0," : Str) ++ repS ("9" : Str) 30, ("0,0,0,0,0," : Str) ++ repS ("9" : Str) 31, repS ("9" : Str) 31]
def odd5 : List Str := [("1" : Str) ++ repS ("0" : Str) 29, "1abc", "11ab", "1_0ab", "10ab", "1, 2,3,4,5,6", "allba swapfe 7cd"]
def oddL : List Str := (((((odd1 ++ odd2) ++ odd3) ++ [("1.0" : Str)]) ++ odd4) ++ odd5)
theorem odd_ok : OddOk oddL := ⟨by decide +kernel, by decide +kernel, by decide +kernel⟩
theorem cat_step {K : PySem.W.Frag} {H : Hp} {Q : VK} {a b : Addr} {xs ys : List Str} (ha : H a = some (.lst (xs.map V.str))) (hb : H b = some (.lst (ys.map V.str))) (hl : xs.length + ys.length ≤ 1000) (q : ∀ p, H p = none → Q (.ref p) (upd H p (.lst ((xs ++ ys).map V.str)))) : rCat (.ref a) (.ref b) H Q := by
  refine ⟨a, b, _, _, rfl, rfl, ha, hb, ?_, fun p hp => ?_⟩
  · rw [List.length_map, List.length_map]
    exact Nat.le_trans hl (by decide)
  · rw [← List.map_append]
    exact q p hp
theorem pure_law_odd_texts {K : PySem.W.Frag} {vs : List V} {H : Hp} {Q : VK} {E : XK} (h : sp_law_odd_texts K vs H Q E) : t_law_odd_texts K { nx := fun _ H' => Q .non H', rt := Q } (start ["some"] vs) H := by
  obtain ⟨hv, q⟩ := h
  obtain rfl : vs = [] := List.length_eq_zero_iff.mp hv
  unfold t_law_odd_texts
  walk_at "w"
  refine ⟨len_ok rfl, fun p1 h1 => ?_⟩
  have e1 : upd H p1 (.lst (odd1.map V.str)) p1 = some (.lst (odd1.map V.str)) := upd_same
  have s1 : Same H (upd H p1 (.lst (odd1.map V.str))) := same_upd h1
  show gName 0 (.ref p1) _ (upd H p1 (.lst (odd1.map V.str))) _
  revert e1 s1
  generalize upd H p1 (.lst (odd1.map V.str)) = H1
  intro e1 s1
  walk_at "w"
  refine ⟨len_ok rfl, fun p2 h2 => ?_⟩
  show rCat (.ref p1) (.ref p2) (upd H1 p2 (.lst (odd2.map V.str))) _
  refine cat_step (K := K) (same_upd h2 _ _ e1) upd_same (by decide) fun p3 h3 => ?_
  have e3 : upd (upd H1 p2 (.lst (odd2.map V.str))) p3 (.lst ((odd1 ++ odd2).map V.str)) p3 = some (.lst ((odd1 ++ odd2).map V.str)) := upd_same
  have s3 := (s1.trans (same_upd (o := .lst (odd2.map V.str)) h2)).trans (same_upd (o := .lst ((odd1 ++ odd2).map V.str)) h3)
  have n3 := (s1.trans (same_upd (o := .lst (odd2.map V.str)) h2)).free h3
  revert e3 s3
  generalize upd (upd H1 p2 (.lst (odd2.map V.str))) p3 (.lst ((odd1 ++ odd2).map V.str)) = H3
  intro e3 s3
  walk_at "w"
  refine ⟨len_ok rfl, fun p4 h4 => ?_⟩
  show rCat (.ref p3) (.ref p4) (upd H3 p4 (.lst (odd3.map V.str))) _
  refine cat_step (K := K) (same_upd h4 _ _ e3) upd_same (by decide) fun p5 h5 => ?_
  have e5 : upd (upd H3 p4 (.lst (odd3.map V.str))) p5 (.lst (((odd1 ++ odd2) ++ odd3).map V.str)) p5 = some (.lst (((odd1 ++ odd2) ++ odd3).map V.str)) := upd_same
  have s5 := (s3.trans (same_upd (o := .lst (odd3.map V.str)) h4)).trans (same_upd (o := .lst (((odd1 ++ odd2) ++ odd3).map V.str)) h5)
  have n5 : H p5 = none := (s3.trans (same_upd (o := .lst (odd3.map V.str)) h4)).free h5
  revert e5 s5
  generalize upd (upd H3 p4 (.lst (odd3.map V.str))) p5 (.lst (((odd1 ++ odd2) ++ odd3).map V.str)) = H5
  intro e5 s5
  walk_at "w"
  refine ⟨ty_list e5, ?_⟩
  walk_at "w"
  refine o_append e5 (by rw [List.length_map]; exact Nat.lt_of_lt_of_le (show _ < 1000 by decide) (by decide)) ?_
  have e6 : upd H5 p5 (.lst (((odd1 ++ odd2) ++ odd3).map V.str ++ [.str "1.0"])) p5 = some (.lst ((((odd1 ++ odd2) ++ odd3) ++ [("1.0" : Str)]).map V.str)) := by
    rw [upd_same, List.map_append (l₂ := [("1.0" : Str)])]
    rfl
  have s6 : Same H (upd H5 p5 (.lst (((odd1 ++ odd2) ++ odd3).map V.str ++ [.str "1.0"]))) := s5.mut n5
  revert e6 s6
  generalize upd H5 p5 (.lst (((odd1 ++ odd2) ++ odd3).map V.str ++ [.str "1.0"])) = H6
  intro e6 s6
  walk_at "w"
  refine o_mulS (by decide) (by decide) (by decide +kernel) ?_
  walk_at "w"
  refine o_adds (by decide +kernel) ?_
  walk_at "w"
  refine o_mulS (by decide) (by decide) (by decide +kernel) ?_
  walk_at "w"
  refine o_adds (by decide +kernel) ?_
  walk_at "w"
  refine o_mulS (by decide) (by decide) (by decide +kernel) ?_
  walk_at "w"
  refine o_adds (by decide +kernel) ?_
  walk_at "w"
  refine o_mulS (by decide) (by decide) (by decide +kernel) ?_
  walk_at "w"
  refine o_adds (by decide +kernel) ?_
  walk_at "w"
  refine o_mulS (by decide) (by decide) (by decide +kernel) ?_
  walk_at "w"
  refine ⟨len_ok rfl, fun p7 h7 => ?_⟩
  show rCat (.ref p5) (.ref p7) (upd H6 p7 (.lst (odd4.map V.str))) _
  refine cat_step (K := K) (same_upd h7 _ _ e6) upd_same (by decide) fun p8 h8 => ?_
  have e8 : upd (upd H6 p7 (.lst (odd4.map V.str))) p8 (.lst (((((odd1 ++ odd2) ++ odd3) ++ [("1.0" : Str)]) ++ odd4).map V.str)) p8 = some (.lst (((((odd1 ++ odd2) ++ odd3) ++ [("1.0" : Str)]) ++ odd4).map V.str)) := upd_same
  have s8 := (s6.trans (same_upd (o := .lst (odd4.map V.str)) h7)).trans (same_upd (o := .lst (((((odd1 ++ odd2) ++ odd3) ++ [("1.0" : Str)]) ++ odd4).map V.str)) h8)
  revert e8 s8
  generalize upd (upd H6 p7 (.lst (odd4.map V.str))) p8 (.lst (((((odd1 ++ odd2) ++ odd3) ++ [("1.0" : Str)]) ++ odd4).map V.str)) = H8
  intro e8 s8
  walk_at "w"
  refine o_mulS (by decide) (by decide) (by decide +kernel) ?_
  walk_at "w"
  refine o_adds (by decide +kernel) ?_
  walk_at "w"
  refine ⟨len_ok rfl, fun p9 h9 => ?_⟩
  show rCat (.ref p8) (.ref p9) (upd H8 p9 (.lst (odd5.map V.str))) _
  refine cat_step (K := K) (same_upd h9 _ _ e8) upd_same (by decide) fun p10 h10 => ?_
  exact q p10 oddL _ ((s8.trans (same_upd h9)).trans (same_upd h10)) ((s8.trans (same_upd (o := .lst (odd5.map V.str)) h9)).free h10) odd_ok upd_same
end Q

set_option Elab.async false
set_option linter.all false
set_option maxRecDepth 100000
set_option maxHeartbeats 4000000
namespace Q
open PySem PySem.Spec PyProof.Rows L2
/-! the steps' tactic: runs a reading up to a choice, a call, a loop, a store -/
local macro_rules | `(tactic| walk_at "w1") => `(tactic| (with_reducible first
  | refine w_var (by with_unfolding_all exact rfl) ?_
  | refine w_c ?_
  | refine w_op ?_
  | refine w_test ?_
  | refine w_tb ?_
  | refine w_cons ?_
  | refine w_nil ?_
  | refine w_cb ?_
  | refine w_call ?_
  | refine w_kw ?_
  | refine z_asg ?_
  | refine z_ret ?_
  | refine z_if ?_
  | refine z_drop ?_
  | refine g_name ?_
  | refine g_sub ?_
  | refine w_bm ?_
  | refine w_bm0 ?_
  | refine w_m1 ?_
  | refine w_m0 ?_
  | refine w_and ?_
  | refine w_or ?_
  | refine w_not ?_
  | refine w_chain ?_
  | refine w_andV ?_
  | refine w_orV ?_
  | refine w_notV ?_
  | refine w_if ?_
  | refine w_un ?_
  | refine w_sl ?_
  | refine w_part ?_
  | refine w_nopart ?_
  | refine w_tup ?_
  | refine w_lst ?_
  | refine w_yes ?_
  | refine z_for ?_
  | refine z_for1 ?_
  | refine w_ilist ?_
  | refine w_irng1 ?_
  | refine w_irng2 ?_
  | refine w_istr ?_
  | refine w_itup ?_
  | refine w_lc ?_
  | refine z_asg1 ?_
  | refine z_if1 ?_
  | refine z_drop1 ?_
  | refine z_next ?_
  | refine o_add ?_
  | refine o_sub ?_
  | refine o_lt ?_
  | refine o_le ?_
  | refine o_gt ?_
  | refine o_ge ?_
  | refine o_neg ?_
  | refine o_max2 ?_
  | refine o_min2 ?_
  | refine o_intB ?_
  | refine o_isn ?_
  | refine o_notn ?_
  | refine o_inc ?_
  | refine o_notinc ?_
  | refine o_eq (by with_unfolding_all exact rfl) ?_
  | refine o_ne (by with_unfolding_all exact rfl) ?_
  | refine o_ixLn (by first | assumption | exact upd_same) (by decide) (by with_unfolding_all exact rfl) ?_
  | refine o_ixTn (by first | assumption | exact upd_same) (by decide) (by with_unfolding_all exact rfl) ?_
  | refine g_tup (by first | assumption | exact upd_same) (by with_unfolding_all exact rfl) ?_
  | refine g_cons ?_
  | refine g_nil ?_
  | refine g_setLn (by first | assumption | exact upd_same) (by decide) (by with_unfolding_all exact rfl) ?_
  | refine p_2_61 ?_
  | refine p_10_18 ?_
  | refine p_10_15 ?_
  | refine p_10_30 ?_
  | refine p_10_29 ?_
  | refine iteT ?_
  | refine iteF ?_
  | refine ite_nt ?_
  | refine ite_nf ?_
  | refine ⟨_, rfl, ?_⟩
  | refine ⟨⟨_, rfl⟩, ?_⟩))
local macro_rules | `(tactic| walk_at "w") => `(tactic| (repeat walk_at "w1"))

/-! ### drills read, BadText raised -/
def sp_read_drill (K : PySem.W.Frag) : Sp := fun vs H Q E => vs.length = 1 ∧ ∃ z : Str, vs = [.str z] ∧ z.length ≤ 90000 ∧
  (∀ cs, readDrill z = some cs → ∀ p ys H', Same H H' → H p = none → H' p = some (.lst ys) → DtAll (cut [p] (nw H H')) ys (cs.map calD) → Q (.ref p) H') ∧
  (readDrill z = none → ∀ d H', Same H H' → H d = none → H' d = some (.xd [("value", .str z)]) → E (.ref (He.ga K "BadText")) (some d) H')
def t_read_drill (E : XK) (K : PySem.W.Frag) : TS := (tSeq (tAsg (tIf (tTest (tOp rNe (tVar 0) (tC (.str "-")))) (tLc (iList K (tM1 rSplit (tVar 0) (tC (.str " ")))) (gName 2) tYes (tCall (sp_read_call K) [] E0 (tCons (tVar 2) tNil)) [2]) (tLst tNil)) (gName 1))
    (tSeq (tIfS (tTest (tOp (rInD K) (tC .non) (tVar 1))) (tRaise (He.ga K "BadText") (tVar 0) (XW E)) tNext)
    (tRet (tVar 1))))

theorem pure_read_drill {K : PySem.W.Frag} {vs : List V} {H : Hp} {Q : VK} {E : XK} (h : sp_read_drill K vs H Q E) : t_read_drill E K { nx := fun _ H' => Q .non H', rt := Q } (start ["text", "calls", "word"] vs) H := by
  obtain ⟨_, z, rfl, hz, q, qe⟩ := h
  unfold t_read_drill
  walk_at "w"
  by_cases h0 : z = ("-" : Str)
  · subst h0
    rw [dec_self]
    walk_at "w"
    refine ⟨len_ok rfl, fun p hp => ?_⟩
    walk_at "w"
    refine o_inD (n := 1) (m := 1) .non (Dt.lst upd_same .nil) .non Sh.nil (by decide) (by decide) ?_
    rw [List.any_nil]
    walk_at "w"
    exact q [] (if_pos rfl) p [] _ (same_upd hp) hp upd_same .nil
  · rw [decide_eq_false (fun e => h0 (V.str.inj e))]
    walk_at "w"
    refine ⟨_, _, rfl, rfl, by decide +kernel, Nat.le_trans (show z.length + 2 ≤ 100000 by omega) (by decide), fun p hp => ?_⟩
    walk_at "w"
    refine ⟨⟨_, SqL.of upd_same⟩, fun Dl hDl => ?_⟩
    have hw : ∀ y ∈ Txt.split z (" " : Str), y.length ≤ 90000 := fun y m => Nat.le_trans (part_le (by decide +kernel) (by decide +kernel) m) hz
    refine c_newL (j := 2) V.str (fun y => optD (readCall y)) (Txt.split z (" " : Str)) ?_ hDl (SqL.of upd_same) (fun x => rfl) (fun y H' Q' m e q' => ?_) (fun ys H' e hD hY => ?_)
    · exact Nat.le_trans (PyProof.Rows.split_le _ _) (small5 (by omega))
    · walk_at "w"
      exact ⟨rfl, y, rfl, hw y m, fun v H2 e2 d2 => q' v H2 e2 d2⟩
    · have e0 : Same H H' := (same_upd hp).trans e
      have hY2 : DtAll H' ys ((Txt.split z (" " : Str)).map (optD ∘ readCall)) := hY.mono (cut_same.trans nw_same)
      walk_at "w"
      refine o_inD (n := 1) (m := 2) .non (Dt.lst hD hY2) .non (Sh.list ?_ fun d m => ?_) (by decide) (by decide) ?_
      · rw [List.length_map]
        exact Nat.le_trans (PyProof.Rows.split_le _ _) (by omega)
      · obtain ⟨w, _, rfl⟩ := List.mem_map.mp m
        exact optD_sh fun c hc => readCall_isCall hc
      rw [any_non]
      cases hall : ((Txt.split z (" " : Str)).map readCall).all (·.isSome) with
      | true =>
        walk_at "w"
        have hr : readDrill z = some (((Txt.split z (" " : Str)).map readCall).filterMap id) := by
          unfold readDrill
          rw [if_neg h0, hall]
          rfl
        refine q _ hr Dl ys H' e0 ((same_upd hp).free hDl) hD ?_
        have e3 : (Txt.split z (" " : Str)).map (fun y => optD (readCall y)) = (((Txt.split z (" " : Str)).map readCall).filterMap id).map calD := by
          rw [show (fun y => optD (readCall y)) = optD ∘ readCall from rfl, ← List.map_map]
          exact (congrArg (List.map optD) (all_some hall)).trans (by rw [List.map_map]; rfl)
        rw [e3] at hY
        refine hY.mono fun b o hb => ?_
        obtain ⟨b1, b2⟩ := cut_some hb
        rw [cut_out b1]
        exact nw_from (same_upd hp) _ _ b2
      | false =>
        walk_at "w"
        have hr : readDrill z = none := by
          unfold readDrill
          rw [if_neg h0, hall]
          rfl
        refine z_raise (fun Q q => w_var (by with_unfolding_all exact rfl) q) fun d hd => ?_
        exact qe hr d _ (e0.trans (same_upd hd)) (e0.free hd) upd_same
end Q

set_option Elab.async false
set_option linter.all false
set_option maxRecDepth 100000
set_option maxHeartbeats 4000000
namespace Q
open PySem PySem.Spec PyProof.Rows L2
/-! the steps' tactic: runs a reading up to a choice, a call, a loop, a store -/
local macro_rules | `(tactic| walk_at "w1") => `(tactic| (with_reducible first
  | refine w_var (by with_unfolding_all exact rfl) ?_
  | refine w_c ?_
  | refine w_op ?_
  | refine w_test ?_
  | refine w_tb ?_
  | refine w_cons ?_
  | refine w_nil ?_
  | refine w_cb ?_
  | refine w_call ?_
  | refine w_kw ?_
  | refine z_asg ?_
  | refine z_ret ?_
  | refine z_if ?_
  | refine z_drop ?_
  | refine g_name ?_
  | refine g_sub ?_
  | refine w_bm ?_
  | refine w_bm0 ?_
  | refine w_m1 ?_
  | refine w_m0 ?_
  | refine w_and ?_
  | refine w_or ?_
  | refine w_not ?_
  | refine w_chain ?_
  | refine w_andV ?_
  | refine w_orV ?_
  | refine w_notV ?_
  | refine w_if ?_
  | refine w_un ?_
  | refine w_sl ?_
  | refine w_part ?_
  | refine w_nopart ?_
  | refine w_tup ?_
  | refine w_lst ?_
  | refine w_yes ?_
  | refine z_for ?_
  | refine z_for1 ?_
  | refine w_ilist ?_
  | refine w_irng1 ?_
  | refine w_irng2 ?_
  | refine w_istr ?_
  | refine w_itup ?_
  | refine w_lc ?_
  | refine z_asg1 ?_
  | refine z_if1 ?_
  | refine z_drop1 ?_
  | refine z_next ?_
  | refine o_add ?_
  | refine o_sub ?_
  | refine o_lt ?_
  | refine o_le ?_
  | refine o_gt ?_
  | refine o_ge ?_
  | refine o_neg ?_
  | refine o_max2 ?_
  | refine o_min2 ?_
  | refine o_intB ?_
  | refine o_isn ?_
  | refine o_notn ?_
  | refine o_inc ?_
  | refine o_notinc ?_
  | refine o_eq (by with_unfolding_all exact rfl) ?_
  | refine o_ne (by with_unfolding_all exact rfl) ?_
  | refine o_ixLn (by first | assumption | exact upd_same) (by decide) (by with_unfolding_all exact rfl) ?_
  | refine o_ixTn (by first | assumption | exact upd_same) (by decide) (by with_unfolding_all exact rfl) ?_
  | refine g_tup (by first | assumption | exact upd_same) (by with_unfolding_all exact rfl) ?_
  | refine g_cons ?_
  | refine g_nil ?_
  | refine g_setLn (by first | assumption | exact upd_same) (by decide) (by with_unfolding_all exact rfl) ?_
  | refine p_2_61 ?_
  | refine p_10_18 ?_
  | refine p_10_15 ?_
  | refine p_10_30 ?_
  | refine p_10_29 ?_
  | refine iteT ?_
  | refine iteF ?_
  | refine ite_nt ?_
  | refine ite_nf ?_
  | refine ⟨_, rfl, ?_⟩
  | refine ⟨⟨_, rfl⟩, ?_⟩))
local macro_rules | `(tactic| walk_at "w") => `(tactic| (repeat walk_at "w1"))

/-! ### what is read is written so -/
theorem snoc_ind {α : Type} {P : List α → Prop} (h0 : P []) (h1 : ∀ l a, P l → P (l ++ [a])) (l : List α) : P l := by
  have go : ∀ l : List α, P l.reverse := by
    intro l
    induction l with
    | nil => exact h0
    | cons a r ih =>
      rw [List.reverse_cons]
      exact h1 _ _ ih
  have e := go l.reverse
  rwa [List.reverse_reverse] at e
theorem digitsVal_lt (l : List Nat) (h : ∀ c ∈ l, 48 ≤ c ∧ c ≤ 57) : NumText.digitsVal l < 10 ^ l.length := by
  revert h
  refine snoc_ind (P := fun l => (∀ c ∈ l, 48 ≤ c ∧ c ≤ 57) → NumText.digitsVal l < 10 ^ l.length) (fun _ => by decide) (fun l a ih h => ?_) l
  have h1 := ih fun c m => h c (List.mem_append_left _ m)
  have h2 := h a (List.mem_append_right _ (List.mem_singleton.mpr rfl))
  rw [NumText.digitsVal_snoc, List.length_append, List.length_singleton, Nat.pow_succ]
  omega
theorem numL_back (l : List Nat) (h : ∀ c ∈ l, 48 ≤ c ∧ c ≤ 57) (hne : l ≠ []) (hh : l.head? ≠ some 48) : TL.numL (NumText.digitsVal l) = l := by
  revert h hne hh
  refine snoc_ind (P := fun l => (∀ c ∈ l, 48 ≤ c ∧ c ≤ 57) → l ≠ [] → l.head? ≠ some 48 → TL.numL (NumText.digitsVal l) = l) (fun _ z _ => absurd rfl z) (fun l a ih h _ hh => ?_) l
  have h2 := h a (List.mem_append_right _ (List.mem_singleton.mpr rfl))
  rw [NumText.digitsVal_snoc]
  cases l with
  | nil =>
    rw [show NumText.digitsVal [] = 0 from rfl, TL.numL_lt (by omega)]
    show [48 + (0 * 10 + (a - 48))] = [a]
    congr 1
    omega
  | cons c r =>
    have hc := h c (by simp)
    have hc0 : c ≠ 48 := fun e => hh (by rw [e]; rfl)
    have h3 := ih (fun d m => h d (List.mem_append_left _ m)) (List.cons_ne_nil _ _) (by rw [List.head?_cons]; simpa using hc0)
    have hp : 0 < NumText.digitsVal (c :: r) := NumText.digitsVal_pos (by omega)
    rw [TL.numL_step (by omega), show (NumText.digitsVal (c :: r) * 10 + (a - 48)) / 10 = NumText.digitsVal (c :: r) by omega, show 48 + (NumText.digitsVal (c :: r) * 10 + (a - 48)) % 10 = a by omega, h3]
theorem isDig_all {z : Str} (h : (TL.tl z).all isDig = true) : ∀ c ∈ TL.tl z, 48 ≤ c ∧ c ≤ 57 := fun c m => isDig_iff.mp (List.all_eq_true.mp h c m)
theorem readNumber_inv {z : Str} {i : Int} (h : readNumber z = some i) : 0 ≤ i ∧ i < 1000000000000000000000000000000 ∧ istr i = z ∧ ∀ c ∈ TL.tl z, 48 ≤ c ∧ c ≤ 57 := by
  have h0 := readNumber_log h
  unfold readNumber at h
  split at h
  · rename_i hc
    obtain ⟨k1, k2, k3⟩ := hc
    have hd := isDig_all k3
    split at h
    · rename_i hz
      cases h
      have hlt := digitsVal_lt _ hd
      have h30 : NumText.digitsVal (TL.tl z) < 10 ^ 30 := Nat.lt_of_lt_of_le hlt (Nat.pow_le_pow_right (by decide) (by rw [← TL.len_tl]; exact k2))
      have e30 : (10 : Nat) ^ 30 = 1000000000000000000000000000000 := by decide
      rw [e30] at h30
      refine ⟨h0, by omega, ?_, hd⟩
      refine TL.ext_tl ?_
      rw [istr_tl h0, Int.toNat_natCast]
      rcases hz with rfl | hz
      · decide +kernel
      · refine numL_back _ hd (fun e => ?_) hz
        rw [TL.len_tl, e] at k1
        exact absurd k1 (by decide)
    · cases h
  · cases h
theorem readKd_inv {z : Str} {k : Kd} (h : readKd z = some k) : k.s = z ∧ lowK k = true := by
  unfold readKd at h
  split at h
  · cases h
    exact ⟨rfl, rfl⟩
  · cases hr : readNumber z with
    | none => rw [hr] at h; cases h
    | some i =>
      rw [hr] at h
      cases h
      obtain ⟨h1, h2, h3, _⟩ := readNumber_inv hr
      exact ⟨h3, decide_eq_true h2⟩
theorem readCall_inv {z : Str} {c : Cal} (h : readCall z = some c) : goodC c = true ∧ callS c = z := by
  have hi := readCall_isCall h
  cases hk : readKd (head2 z) with
  | none => rw [readCall_none hk] at h; cases h
  | some k =>
    obtain ⟨l, a, b, ez⟩ := two_last (readKd_len hk)
    rw [readCall_some ez hk] at h
    split at h
    · cases h
      obtain ⟨e1, e2⟩ := readKd_inv hk
      refine ⟨goodC_iff.mpr ⟨hi, e2⟩, TL.ext_tl ?_⟩
      rw [callS_tl, e1, head2_app ez, ez]
    · cases h
/-- cutting and joining again -/
theorem join_back (c : Nat) : ∀ (l acc : List Nat), TL.joinL [c] (TL.spl [c] 0 acc l) = acc ++ l
  | [], acc => by
    rw [TL.spl_nil, List.append_nil]
    rfl
  | d :: r, acc => by
    cases hp : TL.pre [c] (d :: r) with
    | true =>
      have hd : d = c := by
        unfold TL.pre at hp
        simpa using hp
      rw [TL.spl_hit hp]
      have ih := join_back c r []
      show TL.joinL [c] (acc :: TL.spl [c] 0 [] r) = _
      cases hs : TL.spl [c] 0 [] r with
      | nil =>
        rw [hs] at ih
        exfalso
        cases r with
        | nil => rw [TL.spl_nil] at hs; cases hs
        | cons e r => cases ih
      | cons q rest =>
        rw [hs] at ih
        show acc ++ ([c] ++ TL.joinL [c] (q :: rest)) = acc ++ d :: r
        rw [ih, hd]
        rfl
    | false =>
      rw [TL.spl_miss hp, join_back c r (acc ++ [d]), List.append_assoc]
      rfl
theorem join_split {z s : Str} {c : Nat} (hs : TL.tl s = [c]) (hk : s.cps.all (· < 256) = true) : Txt.join s (Txt.split z s) = z := by
  refine TL.ext_tl ?_
  rw [TL.join_eq, TL.tl_join, TL.split_spl z s (by rw [hs]; exact List.cons_ne_nil _ _) (TL.kind_ok hk), hs]
  exact join_back c _ []
theorem split_ne {z s : Str} {c : Nat} (hs : TL.tl s = [c]) (hk : s.cps.all (· < 256) = true) : Txt.split z s ≠ [] := fun e => by
  have h := TL.split_spl z s (by rw [hs]; exact List.cons_ne_nil _ _) (TL.kind_ok hk)
  rw [e, List.map_nil, hs] at h
  have : ∀ (l acc : List Nat), TL.spl [c] 0 acc l ≠ [] := by
    intro l
    induction l with
    | nil => intro acc; rw [TL.spl_nil]; exact List.cons_ne_nil _ _
    | cons d r ih =>
      intro acc
      cases hp : TL.pre [c] (d :: r) with
      | true => rw [TL.spl_hit hp]; exact List.cons_ne_nil _ _
      | false => rw [TL.spl_miss hp]; exact ih _
  exact this _ _ h.symm
theorem spc_tl : TL.tl (" " : Str) = [32] := by decide +kernel
theorem com_tl : TL.tl ("," : Str) = [44] := by decide +kernel
theorem all_good : ∀ {ws : List Str}, (ws.map readCall).all (·.isSome) = true → (∀ c ∈ (ws.map readCall).filterMap id, goodC c = true) ∧ ((ws.map readCall).filterMap id).map callS = ws
  | [], _ => ⟨(fun c m => nomatch m), rfl⟩
  | w :: r, h => by
    rw [List.map_cons, List.all_cons, Bool.and_eq_true] at h
    obtain ⟨i1, i2⟩ := all_good h.2
    cases hw : readCall w with
    | none => rw [hw] at h; cases h.1
    | some c =>
      obtain ⟨g1, g2⟩ := readCall_inv hw
      rw [List.map_cons, hw, show (some c :: r.map readCall).filterMap id = c :: (r.map readCall).filterMap id from rfl]
      refine ⟨fun d m => ?_, by rw [List.map_cons, g2, i2]⟩
      rcases List.mem_cons.mp m with rfl | m
      · exact g1
      · exact i1 d m
theorem readDrill_inv {z : Str} {cs : List Cal} (h : readDrill z = some cs) : (∀ c ∈ cs, goodC c = true) ∧ drillS cs = z ∧ cs.length ≤ z.length + 2 := by
  unfold readDrill at h
  split at h
  · rename_i hz
    cases h
    exact ⟨(fun c m => nomatch m), hz.symm, Nat.zero_le _⟩
  · split at h
    · rename_i ha
      have hcs := Option.some.inj h
      obtain ⟨g1, g2⟩ := all_good ha
      rw [hcs] at g1 g2
      refine ⟨g1, ?_, ?_⟩
      · have hne : cs ≠ [] := fun e => split_ne (z := z) spc_tl (by decide +kernel) (by rw [← g2, e]; rfl)
        unfold drillS
        rw [if_neg hne, g2]
        exact join_split spc_tl (by decide +kernel)
      · have e := congrArg List.length g2
        rw [List.length_map] at e
        rw [e]
        exact PyProof.Rows.split_le _ _
    · cases h
def readCounts (z : Str) : Option (List Int) := if ((Txt.split z ("," : Str)).map readNumber).length = 6 ∧ ((Txt.split z ("," : Str)).map readNumber).all (·.isSome) = true then some (((Txt.split z ("," : Str)).map readNumber).filterMap id) else none
theorem all_num : ∀ {ws : List Str}, (ws.map readNumber).all (·.isSome) = true → (∀ i ∈ (ws.map readNumber).filterMap id, 0 ≤ i ∧ i < 1000000000000000000000000000000) ∧ ((ws.map readNumber).filterMap id).map istr = ws ∧ ws.map readNumber = ((ws.map readNumber).filterMap id).map some ∧ ∀ w ∈ ws, ∀ c ∈ TL.tl w, 48 ≤ c ∧ c ≤ 57
  | [], _ => ⟨(fun c m => nomatch m), rfl, rfl, (fun c m => nomatch m)⟩
  | w :: r, h => by
    rw [List.map_cons, List.all_cons, Bool.and_eq_true] at h
    obtain ⟨i1, i2, i3, i4⟩ := all_num h.2
    cases hw : readNumber w with
    | none => rw [hw] at h; cases h.1
    | some i =>
      obtain ⟨g1, g2, g3, g4⟩ := readNumber_inv hw
      rw [List.map_cons, hw, show (some i :: r.map readNumber).filterMap id = i :: (r.map readNumber).filterMap id from rfl]
      refine ⟨fun d m => ?_, by rw [List.map_cons, g3, i2], by rw [List.map_cons, ← i3], fun d m => ?_⟩
      · rcases List.mem_cons.mp m with rfl | m
        · exact ⟨g1, g2⟩
        · exact i1 d m
      · rcases List.mem_cons.mp m with rfl | m
        · exact g4
        · exact i4 d m
theorem readCounts_inv {z : Str} {ns : List Int} (h : readCounts z = some ns) : ns.length = 6 ∧ (∀ i ∈ ns, 0 ≤ i ∧ i < 1000000000000000000000000000000) ∧ joinC ns = z ∧ ∀ c ∈ TL.tl z, (48 ≤ c ∧ c ≤ 57) ∨ c = 44 := by
  unfold readCounts at h
  split at h
  · rename_i hc
    obtain ⟨h6, ha⟩ := hc
    have hcs := Option.some.inj h
    obtain ⟨g1, g2, g3, g4⟩ := all_num ha
    rw [hcs] at g1 g2 g3
    have hz : Txt.join ("," : Str) (Txt.split z ("," : Str)) = z := join_split com_tl (by decide +kernel)
    refine ⟨?_, g1, ?_, ?_⟩
    · rw [g3, List.length_map] at h6
      exact h6
    · unfold joinC
      rw [g2, hz]
    · intro c m
      rw [← hz, TL.join_eq, TL.tl_join, com_tl] at m
      have go : ∀ (ps : List (List Nat)), (∀ p ∈ ps, ∀ c ∈ p, 48 ≤ c ∧ c ≤ 57) → ∀ c ∈ TL.joinL [44] ps, (48 ≤ c ∧ c ≤ 57) ∨ c = 44 := by
        intro ps
        induction ps with
        | nil => intro _ c m; cases m
        | cons p r ih =>
          intro hp c m
          cases r with
          | nil => exact .inl (hp p List.mem_cons_self c m)
          | cons q r =>
            have m2 : c ∈ p ++ ([44] ++ TL.joinL [44] (q :: r)) := m
            rcases List.mem_append.mp m2 with m | m
            · exact .inl (hp p List.mem_cons_self c m)
            · rcases List.mem_append.mp m with m | m
              · exact .inr (List.mem_singleton.mp m)
              · exact ih (fun x hx => hp x (List.mem_cons_of_mem _ hx)) c m
      refine go _ (fun p hp c hc => ?_) c m
      obtain ⟨w, hw, rfl⟩ := List.mem_map.mp hp
      exact g4 w hw c hc
  · cases h
/-- no text is read by both -/
theorem read_one {z : Str} {cs : List Cal} {ns : List Int} (h1 : readDrill z = some cs) (h2 : readCounts z = some ns) : False := by
  obtain ⟨g1, g2, _⟩ := readDrill_inv h1
  obtain ⟨_, _, _, g4⟩ := readCounts_inv h2
  cases cs with
  | nil =>
    have := g4 45 (by rw [← g2]; decide +kernel)
    omega
  | cons c r =>
    have hc := g1 c List.mem_cons_self
    obtain ⟨k1, k2⟩ := goodC_iff.mp hc
    obtain ⟨_, a, b, e1, e2, c1, c2, _⟩ := isCall_inv k1
    obtain ⟨k, s', t'⟩ := c
    cases e1
    cases e2
    have hm : a ∈ TL.tl z := by
      rw [← g2]
      unfold drillS
      rw [if_neg (List.cons_ne_nil _ _), TL.join_eq, TL.tl_join, List.map_cons, List.map_cons]
      have hm0 : a ∈ TL.tl (callS (k, S1 a, S1 b)) := by
        rw [callS_tl]
        simp
      cases r with
      | nil => exact hm0
      | cons d r =>
        show a ∈ TL.tl (callS (k, S1 a, S1 b)) ++ (TL.tl (" " : Str) ++ TL.joinL (TL.tl (" " : Str)) ((List.map callS (d :: r)).map TL.tl))
        exact List.mem_append_left _ hm0
    have := g4 a hm
    have := isCol_bounds c1
    omega
end Q

set_option Elab.async false
set_option linter.all false
set_option maxRecDepth 100000
set_option maxHeartbeats 4000000
namespace Q
open PySem PySem.Spec PyProof.Rows L2
/-! ### x in (..), compared as data -/
def rInDT (K : PySem.W.Frag) : R2 := fun x y H Q => ∃ d ds, Dp K H x d ∧ Dp K H y (.tuple ds) ∧ SeqAt.shaped d = true ∧ SeqAt.shaped (.tuple ds) = true ∧ Q (.bl (ds.any fun z => PyData.eqv z d)) H
theorem op_inDT {X : Cx} (hu : X.A.units + 65 < cLine) : OpR X (compareOp .In) (rInDT X.K) := by
  intro pins s σ H x y v u Q I rx ry h
  obtain ⟨d, ds, hd, he, sd, se, q⟩ := h
  obtain ⟨as, r1⟩ := Dp.reads I d x v hd rx
  obtain ⟨bs, r2⟩ := Dp.reads I (.tuple ds) y u he ry
  exact SeqAt.in_tuple_reads r2 r1 (SeqAt.canLay_of_shaped se) (SeqAt.canLay_of_shaped sd) (room_in_shaped sd hu) ⟨.bl _, H, I, rfl, q⟩
theorem o_inDT {n m : Nat} {K : PySem.W.Frag} {H : Hp} {Q : VK} {x y : V} {d : PyData} {ds : List PyData} (hx : Dt H x d) (hy : Dt H y (.tuple ds)) (sd : Sh n d) (se : Sh m (.tuple ds)) (hn : n ≤ 64) (hm : m ≤ 64) (q : Q (.bl (ds.any fun z => PyData.eqv z d)) H) : rInDT K x y H Q := ⟨d, ds, hx.dp, hy.dp, sd.shaped hn, se.shaped hm, q⟩
/-! ### defs as values -/
theorem HasDef.mg {K : PySem.W.Frag} {mg : Str → Option Value} {x : Str} {st : Stmt} (T : HasDef K mg x st) : mg x = some (.ref (He.ga K x)) := by
  obtain ⟨fd, _, h⟩ := T
  exact h
structure HeldX (P : Program) (w : World) (K : PySem.W.Frag) (mg : Str → Option Value) (base : Heap) (CX : CXT) (k : Nat) (f : Addr) (sp : Sp) : Prop where
  ex : ∃ (fd : FuncData) (ps : List Str), FnOk P w K mg base CX k f fd ps sp ∧ PySem.W.keepIn K (.ref f) = true ∧ Binds K fd ps []
theorem heldX {P : Program} {w : World} {K : PySem.W.Frag} {mg : Str → Option Value} {base : Heap} {CX : CXT} {j k : Nat} {x : Str} {ps : List Str} {st : Stmt} {sp : Sp} (T : HasDef K mg x st) (F : Def P w K mg base CX j x ps st sp) (h : j ≤ k) : HeldX P w K mg base CX k (He.ga K x) sp := by
  obtain ⟨f, fd, hm, kp, _, hb, G⟩ := F
  have e := hm.symm.trans T.mg
  cases e
  exact ⟨fd, ps, G.mono h, kp, hb⟩
/-- one of some defs, called: the promise goes with the address -/
def tCallF (S : Addr → Sp → Prop) (E : L2.St → XK) (tf : TE) (t : TA) : TE := fun σ H Q => tf σ H fun v H1 => ∃ (f : Addr) (sp : Sp), v = .ref f ∧ S f sp ∧ t σ H1 fun vs H2 => sp vs H2 Q (E σ)
theorem pe_callF {X : Cx} {CX : CXT} {k : Nat} {S : Addr → Sp → Prop} {E : L2.St → XK} {a b e : Expr} {es : List Expr} {tf : TE} {t : TA} {p pos : Pos} (A : ∀ f sp, S f sp → HeldX X.prog X.w X.K X.mg X.base CX k f sp) (hr : Room k X.A) (hx : ∀ σ, PassesAt CX X σ (E σ))
    (hf : PE X (.Subscript a b p) tf) (ha : PA X (e :: es) t) (he : starEach (e :: es) X.env = (false, eval e X.env) :: starEach es X.env := by rfl) (hpl : (backTo pos (starEach es X.env)).any (·.1) = false := by rfl) :
    PE X (.Call (.Subscript a b p) (e :: es) [] pos) (tCallF S E tf t) := by
  refine ⟨fun pins s σ H Q I h => ?_⟩
  have arm : eval (.Call (.Subscript a b p) (e :: es) [] pos) X.env = (do callWith pos (← eval (.Subscript a b p) X.env) [] (backTo pos (starEach (e :: es) X.env)) (backToKw pos (keywordEach [] X.env))) := rfl
  rw [arm]
  refine wpAny_bind (thn (hf.run pins s σ H _ I h) fun u s1 ⟨v, H1, I1, r1, f, sp, ev, hS, q⟩ => ?_)
  subst ev
  obtain rfl : u = Value.ref f := r1
  obtain ⟨fd, ps, F, hk, hb⟩ := (A f sp hS).ex
  refine PySem.W.callWith_K (h₀ := X.base) I1.ok.mod.kin hk (thn (ha.run pos pins s1 σ _ _ I1 q) fun us s2 ⟨vs, H2, I2, r, q2⟩ => ⟨I2.kIn, ?_⟩) he hpl
  exact run_fnS F hr hb (hx σ) I2 r q2
section
variable {K : PySem.W.Frag} {D : Ends} {σ : L2.St} {H : Hp}
theorem w_callF {S : Addr → Sp → Prop} {E : L2.St → XK} {tf : TE} {t : TA} {Q : VK} (q : tf σ H fun v H1 => ∃ (f : Addr) (sp : Sp), v = .ref f ∧ S f sp ∧ t σ H1 fun vs H2 => sp vs H2 Q (E σ)) : tCallF S E tf t σ H Q := q
theorem z_try1 {x : Str} {i : Nat} {Wout : WX} {tb : WX → TS} {ts : Addr → Value → Option Addr → TS} (q : tb (wAs K (.ref (He.ga K x)) i ts Wout D) D σ H) : tTry K x i Wout tb ts D σ H := q
theorem ite_nn {A B : Prop} (q : B) : if (!decide (V.non = V.non)) = true then A else B := q
theorem ite_nr {A B : Prop} {a : Addr} (q : A) : if (!decide (V.ref a = V.non)) = true then A else B := q
theorem ite_dn {A B : Prop} (q : A) : if decide (V.non = V.non) = true then A else B := q
theorem ite_dr {A B : Prop} {a : Addr} (q : B) : if decide (V.ref a = V.non) = true then A else B := q
end
end Q

set_option Elab.async false
set_option linter.all false
set_option maxRecDepth 100000
set_option maxHeartbeats 4000000
namespace Q
open PySem PySem.Spec PyProof.Rows L2
/-! the steps' tactic: runs a reading up to a choice, a call, a loop, a store -/
local macro_rules | `(tactic| walk_at "w1") => `(tactic| (with_reducible first
  | refine w_var (by with_unfolding_all exact rfl) ?_
  | refine w_c ?_
  | refine w_op ?_
  | refine w_test ?_
  | refine w_tb ?_
  | refine w_cons ?_
  | refine w_nil ?_
  | refine w_cb ?_
  | refine w_call ?_
  | refine w_kw ?_
  | refine z_asg ?_
  | refine z_ret ?_
  | refine z_if ?_
  | refine z_drop ?_
  | refine g_name ?_
  | refine g_sub ?_
  | refine w_bm ?_
  | refine w_bm0 ?_
  | refine w_m1 ?_
  | refine w_m0 ?_
  | refine w_and ?_
  | refine w_or ?_
  | refine w_not ?_
  | refine w_chain ?_
  | refine w_andV ?_
  | refine w_orV ?_
  | refine w_notV ?_
  | refine w_if ?_
  | refine w_un ?_
  | refine w_sl ?_
  | refine w_part ?_
  | refine w_nopart ?_
  | refine w_tup ?_
  | refine w_lst ?_
  | refine w_yes ?_
  | refine z_for ?_
  | refine z_for1 ?_
  | refine w_ilist ?_
  | refine w_irng1 ?_
  | refine w_irng2 ?_
  | refine w_istr ?_
  | refine w_itup ?_
  | refine w_lc ?_
  | refine z_asg1 ?_
  | refine z_if1 ?_
  | refine z_drop1 ?_
  | refine z_next ?_
  | refine o_add ?_
  | refine o_sub ?_
  | refine o_lt ?_
  | refine o_le ?_
  | refine o_gt ?_
  | refine o_ge ?_
  | refine o_neg ?_
  | refine o_max2 ?_
  | refine o_min2 ?_
  | refine o_intB ?_
  | refine o_isn ?_
  | refine o_notn ?_
  | refine o_inc ?_
  | refine o_notinc ?_
  | refine o_eq (by with_unfolding_all exact rfl) ?_
  | refine o_ne (by with_unfolding_all exact rfl) ?_
  | refine o_ixLn (by first | assumption | exact upd_same) (by decide) (by with_unfolding_all exact rfl) ?_
  | refine o_ixTn (by first | assumption | exact upd_same) (by decide) (by with_unfolding_all exact rfl) ?_
  | refine g_tup (by first | assumption | exact upd_same) (by with_unfolding_all exact rfl) ?_
  | refine g_cons ?_
  | refine g_nil ?_
  | refine g_setLn (by first | assumption | exact upd_same) (by decide) (by with_unfolding_all exact rfl) ?_
  | refine p_2_61 ?_
  | refine p_10_18 ?_
  | refine p_10_15 ?_
  | refine p_10_30 ?_
  | refine p_10_29 ?_
  | refine iteT ?_
  | refine iteF ?_
  | refine ite_nt ?_
  | refine ite_nf ?_
  | refine ⟨_, rfl, ?_⟩
  | refine ⟨⟨_, rfl⟩, ?_⟩))
local macro_rules | `(tactic| walk_at "w") => `(tactic| (repeat walk_at "w1"))

/-! ### counts read, BadText raised -/
def sp_read_counts (K : PySem.W.Frag) : Sp := fun vs H Q E => vs.length = 1 ∧ ∃ z : Str, vs = [.str z] ∧ z.length ≤ 90000 ∧
  (∀ ns, readCounts z = some ns → ∀ p H', Same H H' → H p = none → H' p = some (.lst (ns.map V.int)) → Q (.ref p) H') ∧
  (readCounts z = none → ∀ d H', Same H H' → H d = none → H' d = some (.xd [("value", .str z)]) → E (.ref (He.ga K "BadText")) (some d) H')
def t_read_counts (E : XK) (K : PySem.W.Frag) : TS := (tSeq (tAsg (tLc (iList K (tM1 rSplit (tVar 0) (tC (.str ",")))) (gName 2) tYes (tCall (sp_read_number K) [] E0 (tCons (tVar 2) tNil)) [2]) (gName 1))
    (tSeq (tIfS (tOr (tTest (tOp rNe (tCB (rLenL K) (tCons (tVar 1) tNil)) (tCB rLenS (tCons (tC (.str "abcdef")) tNil)))) (tTest (tOp (rInD K) (tC .non) (tVar 1)))) (tRaise (He.ga K "BadText") (tVar 0) (XW E)) tNext)
    (tRet (tVar 1))))

def optN : Option Int → PyData
  | some i => .int i
  | none => .none
theorem optN_sh {n : Nat} (o : Option Int) : Sh n (optN o) := by
  cases o with
  | none => exact Sh.non
  | some i => exact Sh.int i
theorem dt_optI {H : Hp} (o : Option Int) : Dt H (optI o) (optN o) := by
  cases o with
  | none => exact .non
  | some i => exact .int i
theorem dt_optL {H : Hp} : ∀ (os : List (Option Int)), DtAll H (os.map optI) (os.map optN)
  | [] => .nil
  | o :: r => .cons (dt_optI o) (dt_optL r)
theorem any_nonN : ∀ (os : List (Option Int)), (os.map optN).any (fun z => PyData.eqv z .none) = !(os.all (·.isSome))
  | [] => rfl
  | o :: r => by
    rw [List.map_cons, List.any_cons, List.all_cons, any_nonN r, Bool.not_and]
    cases o <;> rfl
theorem all_someN : ∀ {os : List (Option Int)}, os.all (·.isSome) = true → os = (os.filterMap id).map some
  | [], _ => rfl
  | none :: r, h => by cases h
  | some c :: r, h => by
    rw [List.all_cons, Bool.and_eq_true] at h
    rw [show (some c :: r).filterMap id = c :: r.filterMap id from rfl, List.map_cons, ← all_someN h.2]
theorem pure_read_counts {K : PySem.W.Frag} {vs : List V} {H : Hp} {Q : VK} {E : XK} (h : sp_read_counts K vs H Q E) : t_read_counts E K { nx := fun _ H' => Q .non H', rt := Q } (start ["text", "numbers", "word"] vs) H := by
  obtain ⟨_, z, rfl, hz, q, qe⟩ := h
  unfold t_read_counts
  walk_at "w"
  refine ⟨_, _, rfl, rfl, by decide +kernel, Nat.le_trans (show z.length + 2 ≤ 100000 by omega) (by decide), fun p hp => ?_⟩
  walk_at "w"
  refine ⟨⟨_, SqL.of upd_same⟩, fun Dl hDl => ?_⟩
  have hw : ∀ y ∈ Txt.split z ("," : Str), y.length ≤ 90000 := fun y m => Nat.le_trans (part_le (by decide +kernel) (by decide +kernel) m) hz
  refine c_pureL (j := 2) (Txt.split z ("," : Str)) V.str (fun y => optI (readNumber y)) ?_ hDl (SqL.of upd_same) (fun x => rfl) (fun y H' Q' m e q' => ?_) (fun H' e hD => ?_)
  · exact Nat.le_trans (PyProof.Rows.split_le _ _) (small5 (by omega))
  · walk_at "w"
    refine ⟨rfl, y, rfl, Nat.le_trans (hw y m) (by omega), q'⟩
  · have e0 : Same H H' := (same_upd hp).trans e
    have hD : H' Dl = some (.lst (((Txt.split z ("," : Str)).map readNumber).map optI)) := by
      rw [hD, List.map_map]
      rfl
    have hl := PyProof.Rows.split_le z ("," : Str)
    have hread : ∀ os : List (Option Int), os = (Txt.split z ("," : Str)).map readNumber → readCounts z = if os.length = 6 ∧ os.all (·.isSome) = true then some (os.filterMap id) else none := fun os e => by
      rw [e]
      rfl
    have hr := hread _ rfl
    have hlen : ((Txt.split z ("," : Str)).map readNumber).length ≤ 100000 := by
      rw [List.length_map]
      omega
    revert hr hD hlen
    generalize (Txt.split z ("," : Str)).map readNumber = os
    intro hD hr hlen
    have raise : ¬ (os.length = 6 ∧ os.all (·.isSome) = true) → tRaise (He.ga K "BadText") (tVar 0) (XW E) { nx := tRet (tVar 1) { nx := fun _ H' => Q .non H', rt := Q }, rt := Q } [some (.str z), some (.ref Dl), none] H' := fun hn => by
      rw [if_neg hn] at hr
      refine z_raise (fun Q q => w_var (by with_unfolding_all exact rfl) q) fun d hd => ?_
      exact qe hr d _ (e0.trans (same_upd hd)) (e0.free hd) upd_same
    walk_at "w"
    refine o_lenL hD ?_
    walk_at "w"
    refine o_lenS (by rw [abc_len]; decide) ?_
    walk_at "w"
    rw [List.length_map, abc_len]
    by_cases h6 : os.length = 6
    · rw [decide_eq_true (show V.int (os.length : Int) = V.int ((6 : Nat) : Int) by rw [h6])]
      walk_at "w"
      refine o_inD (n := 1) (m := 2) .non (Dt.lst hD (dt_optL os)) .non (Sh.list (by rw [List.length_map]; exact hlen) fun d m => ?_) (by decide) (by decide) ?_
      · obtain ⟨o, _, rfl⟩ := List.mem_map.mp m
        exact optN_sh o
      rw [any_nonN]
      cases ha : os.all (·.isSome) with
      | true =>
        rw [if_pos ⟨h6, ha⟩] at hr
        walk_at "w"
        refine q _ hr Dl H' e0 ((same_upd hp).free hDl) ?_
        rw [hD]
        congr 2
        exact (congrArg (List.map optI) (all_someN ha)).trans (by rw [List.map_map]; rfl)
      | false =>
        walk_at "w"
        exact raise fun z => by rw [ha] at z; cases z.2
    · rw [decide_eq_false (fun e => h6 (by have := V.int.inj e; omega))]
      walk_at "w"
      exact raise fun z => h6 z.1
end Q

set_option Elab.async false
set_option linter.all false
set_option maxRecDepth 100000
set_option maxHeartbeats 4000000
namespace Q
open PySem PySem.Spec PyProof.Rows L2
/-! the steps' tactic: runs a reading up to a choice, a call, a loop, a store -/
local macro_rules | `(tactic| walk_at "w1") => `(tactic| (with_reducible first
  | refine w_var (by with_unfolding_all exact rfl) ?_
  | refine w_c ?_
  | refine w_op ?_
  | refine w_test ?_
  | refine w_tb ?_
  | refine w_cons ?_
  | refine w_nil ?_
  | refine w_cb ?_
  | refine w_call ?_
  | refine w_kw ?_
  | refine z_asg ?_
  | refine z_ret ?_
  | refine z_if ?_
  | refine z_drop ?_
  | refine g_name ?_
  | refine g_sub ?_
  | refine w_bm ?_
  | refine w_bm0 ?_
  | refine w_m1 ?_
  | refine w_m0 ?_
  | refine w_and ?_
  | refine w_or ?_
  | refine w_not ?_
  | refine w_chain ?_
  | refine w_andV ?_
  | refine w_orV ?_
  | refine w_notV ?_
  | refine w_if ?_
  | refine w_un ?_
  | refine w_sl ?_
  | refine w_part ?_
  | refine w_nopart ?_
  | refine w_tup ?_
  | refine w_lst ?_
  | refine w_yes ?_
  | refine z_for ?_
  | refine z_for1 ?_
  | refine w_ilist ?_
  | refine w_irng1 ?_
  | refine w_irng2 ?_
  | refine w_istr ?_
  | refine w_itup ?_
  | refine w_lc ?_
  | refine z_asg1 ?_
  | refine z_if1 ?_
  | refine z_drop1 ?_
  | refine z_next ?_
  | refine o_add ?_
  | refine o_sub ?_
  | refine o_lt ?_
  | refine o_le ?_
  | refine o_gt ?_
  | refine o_ge ?_
  | refine o_neg ?_
  | refine o_max2 ?_
  | refine o_min2 ?_
  | refine o_intB ?_
  | refine o_isn ?_
  | refine o_notn ?_
  | refine o_inc ?_
  | refine o_notinc ?_
  | refine o_eq (by with_unfolding_all exact rfl) ?_
  | refine o_ne (by with_unfolding_all exact rfl) ?_
  | refine o_ixLn (by first | assumption | exact upd_same) (by decide) (by with_unfolding_all exact rfl) ?_
  | refine o_ixTn (by first | assumption | exact upd_same) (by decide) (by with_unfolding_all exact rfl) ?_
  | refine g_tup (by first | assumption | exact upd_same) (by with_unfolding_all exact rfl) ?_
  | refine g_cons ?_
  | refine g_nil ?_
  | refine g_setLn (by first | assumption | exact upd_same) (by decide) (by with_unfolding_all exact rfl) ?_
  | refine p_2_61 ?_
  | refine p_10_18 ?_
  | refine p_10_15 ?_
  | refine p_10_30 ?_
  | refine p_10_29 ?_
  | refine iteT ?_
  | refine iteF ?_
  | refine ite_nt ?_
  | refine ite_nf ?_
  | refine ⟨_, rfl, ?_⟩
  | refine ⟨⟨_, rfl⟩, ?_⟩))
local macro_rules | `(tactic| walk_at "w") => `(tactic| (repeat walk_at "w1"))

/-- sizes of a text after j changes -/
def bnd : Nat → Nat
  | 0 => 400
  | 1 => 2600
  | 2 => 15800
  | _ => 95000
theorem bnd_step {j : Nat} {z z' : Str} (hj : j < 3) (h : z.length ≤ bnd j) (c : Chg z z') : z.length ≤ 20000 ∧ z'.length ≤ bnd (j + 1) := by
  obtain ⟨c1, _⟩ := c
  have h3 : j = 0 ∨ j = 1 ∨ j = 2 := by omega
  rcases h3 with rfl | rfl | rfl
  · have h : z.length ≤ 400 := h
    exact ⟨by omega, show z'.length ≤ 2600 by omega⟩
  · have h : z.length ≤ 2600 := h
    exact ⟨by omega, show z'.length ≤ 15800 by omega⟩
  · have h : z.length ≤ 15800 := h
    exact ⟨by omega, show z'.length ≤ 95000 by omega⟩
theorem bnd_le (j : Nat) : bnd j ≤ 95000 := by
  match j with
  | 0 => decide
  | 1 => decide
  | 2 => decide
  | n + 3 => exact Nat.le_refl _
theorem cut4 (z : Str) : (cutS z none (some 4000)).length ≤ 4000 := by
  rw [TL.len_tl]
  show ((z.cps.toList.drop 0).take (HT.sIx z.length z.length (some 4000) - 0)).length ≤ 4000
  rw [List.length_take]
  have e : HT.sIx z.length z.length (some 4000) ≤ 4000 := by
    show (if (4000 : Int) < 0 then ((4000 : Int) + (z.length : Int)).toNat else min (4000 : Int).toNat z.length) ≤ 4000
    rw [if_neg (by decide)]
    exact Nat.min_le_left _ _
  omega
theorem okS_joinC {ns : List Int} (h : ∀ i ∈ ns, 0 ≤ i ∧ i < 1000000000000000000000000000000) : okS (joinC ns) := strOk_join (by decide +kernel) fun y m => by
  obtain ⟨i, hi, rfl⟩ := List.mem_map.mp m
  refine strOk_iff.mpr fun c hc => ?_
  rw [istr_tl (h i hi).1] at hc
  have := TL.numL_digits _ c hc
  omega
theorem joinC_len {ns : List Int} (h : ∀ i ∈ ns, 0 ≤ i ∧ i < 1000000000000000000000000000000) (hl : ns.length = 6) : (joinC ns).length ≤ 400 := by
  have e := join_len ("," : Str) (ns.map istr)
  have e2 := sum_le (l := ns) (f := (fun x : Str => x.length) ∘ istr) (k := 30) fun i m => istr_len (h i m).1 (h i m).2
  rw [List.map_map, List.length_map, sp_len] at e
  unfold joinC
  omega
end Q

set_option Elab.async false
set_option linter.all false
set_option maxRecDepth 100000
set_option maxHeartbeats 4000000
namespace Q
open PySem PySem.Spec PySem.Calls PySem.W PyProof.Rows L2
/-! ### isinstance(e, c) in the suite, e with a dict -/
section
variable {prog : Program} {w : World} {A : Around} {E : Value → Shared → Prop} {s : Shared} {K : Frag} {x D : Addr} {ox : Obj} {od : Option Obj}
theorem findObj_dataD {C : Addr} {name : Str} {a g : Value} (hc : (clsIn K C).isSome = true) (ha : findIn K (.ref C) name = some (some a)) (hg : specialIn K a "__get__" = some (some g)) (ht : takesIn K a = some true) : findObj K C od name = some (.bind g a) := by
  obtain ⟨cd, hc⟩ := Option.isSome_iff_exists.mp hc
  unfold findObj
  rw [hc, Option.bind_some, ha, Option.bind_some]
  simp [hg, ht]
theorem kin_classD {Q : Option Value → Shared → Prop} (C : ExcC K D) (X : K.In s.heap) (I : InstAt s.heap x ox D od) (h : Q (some (.ref D)) { s with toks := s.toks + 1 }) : wpAny (model prog w) A (getAttr? (.ref x) "__class__") Q E s := by
  obtain ⟨hga, hgt, hsub, hdct, ha, hn, htk, hm⟩ := C
  have hf : findObj K D od "__class__" = some (.bind (.builtin "getset_descriptor.__get__") (.builtin "object.__class__")) := findObj_dataD (by obtain ⟨cd, hc, _⟩ := any_some hdct; rw [hc]; rfl) ha hn htk
  obtain ⟨hp, g, d, t, os⟩ := s
  have L0 := I.type (M := model prog w)
  have L1 := looks_findIn (M := model prog w) X hga
  have L2 := looks_findIn (M := model prog w) X hgt
  have L3 := looks_find (M := model prog w) X I hf
  have sub : Looks (model prog w) hp (isInstance (.ref x) (.type "BaseException")) true := L0.andThen (looks_subIn X hsub)
  have hx0 : (false && onTheHeap (Value.builtin "BaseException.__getattribute__")) = false := rfl
  have hx2 : (Value.builtin "BaseException.__getattribute__" == Value.builtin "object.__getattribute__") = false := by decide +kernel
  have hx1 : (onTheHeap (Value.ref D) && Value.builtin "BaseException.__getattribute__" == Value.builtin "object.__getattribute__") = false := by rw [hx2]; rfl
  unfold getAttr? getAttrBy? getAttrBy
  refine wpAny_bind (wpAny_mkText (wpAny_bind (wpAny_attempt (wpAny_holding (wpAny_bind (L0.at (wpAny_bind (L1.at ?_))))))))
  show wpAny _ _ (if (onTheHeap (Value.ref D) && Value.builtin "BaseException.__getattribute__" == Value.builtin "object.__getattribute__") = true then _ else _) _ _ _
  rw [hx1, if_neg Bool.false_ne_true]
  unfold getAttrByItsOwn hookBefore
  refine wpAny_bind ?_
  rw [if_pos (show onTheHeap (Value.ref D) = true from rfl)]
  refine L2.at ?_
  refine wpAny_bind (wpAny_attempt (wpAny_holding ?_))
  unfold callGetattribute
  rw [hx0, if_neg Bool.false_ne_true]
  unfold boundAndCalled
  rw [PySem.F.excAttr_ValueError.ga.bind (.ref x)]
  refine wpAny_bind (wpAny_pure ?_)
  show wpAny _ _ (call (.builtin "BaseException.__getattribute__") [.ref x, .str "__class__" t]) _ _ _
  refine wpAny_call (codeAny_call_builtin PySem.F.excAttr_ValueError.ga.plain PySem.F.entry_bexc_ga ?_)
  refine @check_slot (model prog w) _ _ ⟨hp, g, d, t + 1, os⟩ "BaseException.__getattribute__" "BaseException" "__getattribute__" (.ref x) [.str "__class__" t] [] _ (by decide +kernel) (by decide +kernel) sub (PySem.F.args_bexc_ga (.ref x) (.str "__class__" t)) ?_
  unfold Builtin.«object.__getattribute__»
  refine wpAny_bind (wpAny_of_eq (a := ((Value.ref x : Value), [Value.str "__class__" t])) (by first | rfl | (simp only [slotArgs]; rfl)) ?_)
  refine wpAny_bind (wpAny_pure (wpAny_bind (L0.at (wpAny_bind (L3.at ?_)))))
  show wpAny _ _ (holding [Value.builtin "object.__class__"] (call (.builtin "getset_descriptor.__get__") [.builtin "object.__class__", .ref x, .ref D]) >>= ret) _ _ _
  refine wpAny_bind (wpAny_holding (wpAny_call (class_get (s := ⟨hp, g, d, t + 1, os⟩) (ox := ox) (od := od) X I hm ?_)))
  refine wpAny_pure ?_
  show wpAny _ _ (handedOut (.ref D)) _ _ _
  rw [handedOut_of (v := .ref D) rfl]
  first
    | exact wpAny_pure (wpAny_pure h)
    | exact wpAny_pure h
    | exact wpAny_pure (wpAny_bind (wpAny_pure (wpAny_pure h)))
theorem kitx_excD (C : ExcC K D) : KitX K (.ref x) (.ref D) (fun h => InstAt h x ox D od) where
  ty := fun _ _ _ I => I.type
  it := fun _ _ X _ => by
    obtain ⟨cdD, hcD, _⟩ := any_some C.hd
    unfold clsIn at hcD
    split at hcD
    · rename_i c' d' cd' sl' ho
      intro A' Q' E' s' k q
      unfold isType loadHead
      exact wpAny_bind (wpAny_loadPart (k _ _ (X _ _ ho)) (wpAny_pure q))
    · cases hcD
  ne := fun h tp dd its n sl X htp => by
    obtain ⟨cdD, hcD, _⟩ := any_some C.hd
    refine Bool.eq_false_iff.mpr fun q => ?_
    have e : D = tp := Value.ref.inj (beq_iff_eq.mp q)
    subst e
    unfold clsIn at hcD
    split at hcD
    · rename_i c' d' cd' sl' ho
      have z := (X _ _ ho).symm.trans htp
      cases z
    · cases hcD
  ca := fun X I k => kin_classD C X I k
end
/-- isinstance(e, c), isinstance(e, (c, ..)), e the exception that the suite holds, its dict at dd -/
def rIsD (K : PySem.W.Frag) (D a dd : Addr) : List V → Hp → VK → Prop := fun xs H Q => ∃ (c : V) (b : Bool) (fs : List (Str × V)), xs = [.ref a, c] ∧ H dd = some (.xd fs) ∧
  ((∃ cv : Value, (∀ u, RelV c u → u = cv) ∧ PySem.W.kitOne K (.ref D) cv = some b) ∨ ∃ (p : Addr) (vs : List V) (cs : List Value), c = .ref p ∧ SqT K H p vs ∧ (∀ us, Vals vs us → us = cs) ∧ PySem.W.kitAny K (.ref D) cs = some b) ∧ Q (.bl b) H
theorem call_isD {X : Cx} {a D dd : Addr} {oe : Obj} {pn : List (Addr × Obj)} (C : ExcC X.K D) (hz : Zc (.ref D) (some dd) oe) (hf : ∃ vs, oe.data = .fields vs) : CallR (X.suite a ((a, oe) :: pn)) (.builtin "isinstance") (rIsD X.K D a dd) := by
  intro pins s σ H xs us Q I r h
  obtain ⟨c, b, fs, rfl, hdd, hc, q⟩ := h
  cases r with
  | cons rx rr =>
    cases rr with
    | cons rt rr =>
      cases rr
      cases rx
      obtain ⟨hget, _⟩ := I.pin (a, oe) (List.mem_append.mpr (.inl List.mem_cons_self))
      have hx : ObjOk X.prog X.w H s.heap dd (.xd fs) := I.hok dd _ hdd
      obtain ⟨mA, hns, hr⟩ := hx
      obtain ⟨od, ho, hl⟩ := lookIn_ns hns
      obtain ⟨vs, hv⟩ := hf
      have J : PySem.W.InstAt s.heap a oe D (some od) := ⟨hget, hz.1, by unfold PySem.W.notCls; rw [hv] <;> rfl, by rw [hz.2]; exact ho⟩
      rcases hc with ⟨cv, hcv, e⟩ | ⟨p, ws, cs, rfl, hT, hcs, e⟩
      · have ec := hcv _ rt
        subst ec
        exact PySem.W.kia_one (kitx_excD C) I.kIn J e (fun z => nomatch z) fun tk => ⟨.bl b, H, I.kept (t' := tk) fun _ _ z => z, rfl, q⟩
      · cases rt
        obtain ⟨its, rv, pl, hz2⟩ := I.tuple hT
        have := hcs _ rv
        subst this
        obtain ⟨⟨ocls, odict, odata, osl⟩, hto, hcl, n, hda⟩ := pl
        dsimp only at hcl hda
        subst hcl hda
        exact PySem.W.kia_tup (kitx_excD C) I.kIn J hto e (fun z => nomatch z) fun tk => ⟨.bl b, H, I.kept (t' := tk) fun _ _ z => z, rfl, q⟩
/-- .. of any class -/
def rIsA (K : PySem.W.Frag) (a : Addr) (cls : Value) (d : Option Addr) : List V → Hp → VK → Prop := fun xs H Q => ∃ D dd, cls = .ref D ∧ d = some dd ∧ ExcC K D ∧ rIsD K D a dd xs H Q
theorem call_isA {X : Cx} {a : Addr} {cls : Value} {d : Option Addr} {oe : Obj} {pn : List (Addr × Obj)} (hz : Zc cls d oe) (hf : ∃ vs, oe.data = .fields vs) : CallR (X.suite a ((a, oe) :: pn)) (.builtin "isinstance") (rIsA X.K a cls d) := by
  intro pins s σ H xs us Q I r h
  obtain ⟨D, dd, rfl, rfl, C, q⟩ := h
  exact call_isD C hz hf pins s σ H xs us Q I r q
/-! what the head's hook looks at -/
def excCB (K : PySem.W.Frag) (x : Str) : Bool :=
  decide (PySem.W.findIn K (.ref (He.ga K x)) "__getattribute__" = some (some (.builtin "BaseException.__getattribute__"))) && (decide (PySem.W.findIn K (.ref (He.ga K x)) "__getattr__" = some none) && (decide (PySem.W.subIn K (.ref (He.ga K x)) (.type "BaseException") = some true) && (PySem.W.hasDictIn K (He.ga K x) &&
  (decide (PySem.W.findIn K (.ref (He.ga K x)) "__class__" = some (some (.builtin "object.__class__"))) && (decide (PySem.W.specialIn K (.builtin "object.__class__") "__get__" = some (some (.builtin "getset_descriptor.__get__"))) && (decide (PySem.W.takesIn K (.builtin "object.__class__") = some true) && decide (PySem.W.mroIn K (He.ga K x) (.type "object") = some true)))))))
theorem excCB_ok {K : PySem.W.Frag} {x : Str} (h : excCB K x = true) : ExcC K (He.ga K x) := by
  obtain ⟨h1, h⟩ := He.ba h
  obtain ⟨h2, h⟩ := He.ba h
  obtain ⟨h3, h⟩ := He.ba h
  obtain ⟨h4, h⟩ := He.ba h
  obtain ⟨h5, h⟩ := He.ba h
  obtain ⟨h6, h⟩ := He.ba h
  obtain ⟨h7, h8⟩ := He.ba h
  exact ⟨of_decide_eq_true h1, of_decide_eq_true h2, of_decide_eq_true h3, h4, of_decide_eq_true h5, of_decide_eq_true h6, of_decide_eq_true h7, of_decide_eq_true h8⟩
/-- what the class x answers: of own classes, of builtin ones, of some together -/
structure IsF (K : PySem.W.Frag) (x : Str) (ones : List (Str × Bool)) (tys : List (String × Bool)) (anys : List (List Str × Bool)) : Prop where
  ec : ExcC K (He.ga K x)
  one : ∀ p ∈ ones, PySem.W.kitOne K (.ref (He.ga K x)) (.ref (He.ga K p.1)) = some p.2
  ty : ∀ p ∈ tys, PySem.W.kitOne K (.ref (He.ga K x)) (.type p.1) = some p.2
  any : ∀ p ∈ anys, PySem.W.kitAny K (.ref (He.ga K x)) (p.1.map fun m => .ref (He.ga K m)) = some p.2
def isFB (K : PySem.W.Frag) (x : Str) (ones : List (Str × Bool)) (tys : List (String × Bool)) (anys : List (List Str × Bool)) : Bool :=
  excCB K x && (ones.all (fun p => decide (PySem.W.kitOne K (.ref (He.ga K x)) (.ref (He.ga K p.1)) = some p.2)) && (tys.all (fun p => decide (PySem.W.kitOne K (.ref (He.ga K x)) (.type p.1) = some p.2)) && anys.all (fun p => decide (PySem.W.kitAny K (.ref (He.ga K x)) (p.1.map fun m => .ref (He.ga K m)) = some p.2))))
theorem isFB_ok {K : PySem.W.Frag} {x : Str} {ones : List (Str × Bool)} {tys : List (String × Bool)} {anys : List (List Str × Bool)} (h : isFB K x ones tys anys = true) : IsF K x ones tys anys := by
  obtain ⟨h1, h⟩ := He.ba h
  obtain ⟨h2, h⟩ := He.ba h
  obtain ⟨h3, h4⟩ := He.ba h
  exact ⟨excCB_ok h1, fun p m => of_decide_eq_true (List.all_eq_true.mp h2 p m), fun p m => of_decide_eq_true (List.all_eq_true.mp h3 p m), fun p m => of_decide_eq_true (List.all_eq_true.mp h4 p m)⟩
theorem boot_ValueError : bootBuiltins "ValueError" = some (.type "ValueError") := by decide +kernel
end Q

set_option Elab.async false
set_option linter.all false
set_option maxRecDepth 100000
set_option maxHeartbeats 4000000
set_option pp.maxSteps 2500
namespace Q
open PySem PySem.Spec PyProof.Rows L2 HotX
open L2H (Hot1 HotC PinOk RoomH cxH inv_startH)
/-! ### a list's iterator ends while an exception is handled -/
section
variable {prog : Program} {w : World} {A : Around} {E : Value → Shared → Prop} {s : Shared}
theorem next_list_hot {it l x1 : Addr} {i : Nat} {items : Array Value} {Q : Option Value → Shared → Prop} (hot : HotAt A x1 s.heap) (hne : x1 ≠ it)
    (hit : s.heap.IsListIter it l i) (hl : s.heap.IsList l items) (hx : items[i]? = none)
    (hQ : ∀ h', Heap.ExtBut it s.heap h' → Q none { s with heap := h' }) : wpAny (model prog w) A (pyNext (.ref it)) Q E s := by
  obtain ⟨hh, o1, vs1, h1, d1, c1⟩ := hot
  obtain ⟨o, ho, hc, hd⟩ := id hit
  obtain ⟨ol, hol, _, nl, hdl⟩ := hl
  unfold pyNext
  refine wpAny_bind (wpAny_attempt (wpAny_callSpecial?_slot (name := Str.ofString "__next__") hit.typeIs slot_listiter_next
    (wpAny_call_entry slot_listiter_next hit.typeIs entry_listiter_next ?_ (args_listiter_next _))))
  show wpAny _ _ (field (.ref it) 0 >>= _) _ _ s
  refine wpAny_bind (wpAny_field ho hd (x := .ref l) rfl ?_)
  show wpAny _ _ (if (Value.ref l == Value.none) = true then _ else _) _ _ s
  rw [if_neg (show ¬ ((Value.ref l == Value.none) = true) from Bool.false_ne_true)]
  show wpAny _ _ (field (.ref it) 1 >>= _) _ _ s
  refine wpAny_bind (wpAny_field ho hd (x := .int i 0) rfl ?_)
  show wpAny _ _ (seqItems? (.ref l) >>= _) _ _ s
  refine wpAny_bind (wpAny_seqItems hol hdl ?_)
  simp only [Int.toNat_natCast, hx]
  refine wpAny_bind (wpAny_rule (wpAny_bind (wpAny_setField ho hd (by simp) ?_)))
  show wpAny _ _ (newExc (.type "StopIteration") [] >>= _) _ _ _
  refine wpAny_bind ?_
  simp only [newExc, newTuple]
  refine wpAny_bind (wpAny_newObj_type ?_ (by size_fits))
  refine wpAny_bind (m := firstArgMember _ _) (wpAny_of_eq (a := Value.none) (by first | rfl | (simp only [firstArgMember]; rfl)) ?_)
  refine wpAny_newObj_type ?_ (by size_fits)
  have hu : (s.heap.update it (Obj.mapFields (·.setIfInBounds 0 .none))).get? x1 = some o1 := (Heap.get?_update_other _ _ (Ne.symm hne)).trans h1
  refine raiseNew_hot (x1 := x1) ⟨hh, o1, vs1, Heap.get?_push_of_some _ (Heap.get?_push_of_some _ hu), d1, c1⟩ (Nat.ne_of_lt (Heap.lt_size (Heap.get?_push_of_some _ hu))) (Heap.get?_push_size _ rfl) rfl (by first | (simp; done) | (simp; omega) | (simp only [Array.size_append]; simp; omega)) ?_
  refine wpAny_bind (wpAny_isInstance (T := "StopIteration") (b := true) ⟨_, Heap.get?_update_self _ (Heap.get?_push_size _ rfl) rfl, rfl⟩ isSubtype_stop ?_)
  refine wpAny_pure (hQ _ ?_)
  intro b ob hb e
  have e1 : (s.heap.update it (Obj.mapFields (·.setIfInBounds 0 .none))).get? b = some ob := (Heap.get?_update_other _ _ (Ne.symm hb)).trans e
  have e2 := Heap.get?_push_of_some { cls := .type "tuple", data := .seq (#[] : Array Value) } e1
  exact (Heap.get?_update_other _ _ (Nat.ne_of_gt (Heap.lt_size e2))).trans (Heap.get?_push_of_some _ e2)
end
section
variable {prog : Program} {w : World} {A : Around} {E : Value → Shared → Prop} {s : Shared}
theorem next_tup_hot {it t x1 : Addr} {i : Nat} {items : Array Value} {Q : Option Value → Shared → Prop} (hot : HotAt A x1 s.heap) (hne : x1 ≠ it)
    (hit : IsTupIter s.heap it t i) (ht : IsTup s.heap t items) (hx : items[i]? = none)
    (hQ : ∀ h', Heap.ExtBut it s.heap h' → Q none { s with heap := h' }) : wpAny (model prog w) A (pyNext (.ref it)) Q E s := by
  obtain ⟨hh, o1, vs1, h1, d1, c1⟩ := hot
  obtain ⟨o, ho, hc, hd⟩ := id hit
  obtain ⟨ol, hol, _, nl, hdl⟩ := ht
  unfold pyNext
  refine wpAny_bind (wpAny_attempt (wpAny_callSpecial?_slot (name := Str.ofString "__next__") hit.typeIs slot_tupleiter_next
    (wpAny_call_entry slot_tupleiter_next hit.typeIs entry_tupleiter_next ?_ (args_tupleiter_next _))))
  show wpAny _ _ (field (.ref it) 0 >>= _) _ _ s
  refine wpAny_bind (wpAny_field ho hd (x := .ref t) rfl ?_)
  show wpAny _ _ (if (Value.ref t == Value.none) = true then _ else _) _ _ s
  rw [if_neg (show ¬ ((Value.ref t == Value.none) = true) from Bool.false_ne_true)]
  show wpAny _ _ (field (.ref it) 1 >>= _) _ _ s
  refine wpAny_bind (wpAny_field ho hd (x := .int i 0) rfl ?_)
  show wpAny _ _ (seqItems? (.ref t) >>= _) _ _ s
  refine wpAny_bind (wpAny_seqItems hol hdl ?_)
  simp only [Int.toNat_natCast, hx]
  refine wpAny_bind (wpAny_rule (wpAny_bind (wpAny_setField ho hd (by simp) ?_)))
  show wpAny _ _ (newExc (.type "StopIteration") [] >>= _) _ _ _
  refine wpAny_bind ?_
  simp only [newExc, newTuple]
  refine wpAny_bind (wpAny_newObj_type ?_ (by size_fits))
  refine wpAny_bind (m := firstArgMember _ _) (wpAny_of_eq (a := Value.none) (by first | rfl | (simp only [firstArgMember]; rfl)) ?_)
  refine wpAny_newObj_type ?_ (by size_fits)
  have hu : (s.heap.update it (Obj.mapFields (·.setIfInBounds 0 .none))).get? x1 = some o1 := (Heap.get?_update_other _ _ (Ne.symm hne)).trans h1
  refine raiseNew_hot (x1 := x1) ⟨hh, o1, vs1, Heap.get?_push_of_some _ (Heap.get?_push_of_some _ hu), d1, c1⟩ (Nat.ne_of_lt (Heap.lt_size (Heap.get?_push_of_some _ hu))) (Heap.get?_push_size _ rfl) rfl (by first | (simp; done) | (simp; omega) | (simp only [Array.size_append]; simp; omega)) ?_
  refine wpAny_bind (wpAny_isInstance (T := "StopIteration") (b := true) ⟨_, Heap.get?_update_self _ (Heap.get?_push_size _ rfl) rfl, rfl⟩ isSubtype_stop ?_)
  refine wpAny_pure (hQ _ ?_)
  intro b ob hb e
  have e1 : (s.heap.update it (Obj.mapFields (·.setIfInBounds 0 .none))).get? b = some ob := (Heap.get?_update_other _ _ (Ne.symm hb)).trans e
  have e2 := Heap.get?_push_of_some { cls := .type "tuple", data := .seq (#[] : Array Value) } e1
  exact (Heap.get?_update_other _ _ (Nat.ne_of_gt (Heap.lt_size e2))).trans (Heap.get?_push_of_some _ e2)
theorem unpackItems_hot {t x1 : Addr} {items : Array Value} {Q : List Value → Shared → Prop} (hot : HotAt A x1 s.heap) (ht : IsTup s.heap t items)
    (hQ : ∀ h', Heap.ExtBut s.heap.objs.size s.heap h' → Q items.toList { s with heap := h' }) : wpAny (model prog w) A (unpackItems (.ref t) items.size none) Q E s := by
  have hlt : t ≠ s.heap.objs.size := by obtain ⟨o, ho, _⟩ := ht; exact Nat.ne_of_lt (Heap.lt_size ho)
  obtain ⟨hh, o1, vs1, h1, d1, c1⟩ := hot
  have hx1 : x1 ≠ s.heap.objs.size := Nat.ne_of_lt (Heap.lt_size h1)
  unfold unpackItems
  refine wpAny_bind ?_
  · unfold notIterableAtAll
    refine wpAny_bind (wpAny_specialOf ht.typeIs slot_tuple_iter.lookup ?_)
    refine wpAny_pure ?_
    simp only [Bool.false_eq_true, if_false]
    refine wpAny_bind (wpAny_holding (iter_tuple ht ?_))
    refine wpAny_bind (wpAny_holding (draw_tuple hlt items.size 0 _ _ ⟨_, Heap.get?_push_size _ rfl, rfl, rfl⟩ (ht.push _) (by omega) fun h₁ hit₁ hs₁ => ?_))
    have hall : List.take items.size (List.drop 0 items.toList) = items.toList := by
      rw [List.drop_zero]; exact List.take_of_length_le (by simp)
    rw [hall]
    rw [if_neg (by simp)]
    have ht₁ : IsTup h₁ t items := (ht.push _).extBut hs₁.extBut hlt
    have h1' : h₁.get? x1 = some o1 := hs₁.extBut x1 o1 hx1 (Heap.get?_push_of_some _ h1)
    refine wpAny_bind (wpAny_holding (next_tup_hot (x1 := x1) ⟨hh, o1, vs1, h1', d1, c1⟩ hx1 hit₁ ht₁ (by simp) fun h₂ he₂ => ?_))
    simp only [Option.isSome_none, Bool.false_eq_true, if_false]
    refine wpAny_pure (hQ h₂ fun b o hb e => he₂ b o hb (hs₁.extBut b o hb (Heap.get?_push_of_some _ e)))
theorem assign_Tuple_hot {env : Env} {elts : List Expr} {k} {pos : Pos} {t x1 : Addr} {items : Array Value} {Q : Unit → Shared → Prop} (hot : HotAt A x1 s.heap) (ht : IsTup s.heap t items)
    (hn : (assignEach elts env).length = items.size) (hstar : (assignEach elts env).findIdx? (·.1) = none)
    (h : ∀ h', Heap.ExtBut s.heap.objs.size s.heap h' → wpAny (model prog w) A (assignInOrder ((assignEach elts env).map (·.2)) items.toList) Q E { s with heap := h' }) :
    wpAny (model prog w) A (assign (.Tuple elts k pos) env (.ref t)) Q E s := by
  rw [assign_Tuple]
  refine wpAny_bind (wpAny_standAt ?_)
  unfold unpack
  rw [hn, hstar]
  exact wpAny_bind (wpAny_holding (unpackItems_hot hot ht h))
end
/-- the exception handled stands where the block begins, out of its reach -/
structure BlkHot (X : Cx) (p : Addr × Obj) (s : Shared) (H : Hp) (fp : List Addr) : Prop where
  get : s.heap.get? p.1 = some p.2
  free : H p.1 = none
  nofs : p.1 ∉ frs X.stack
  nofp : p.1 ∉ fp
theorem BlkHot.at {X : Cx} {p : Addr × Obj} {s s' : Shared} {H H' : Hp} {fp : List Addr} {scope : Scope} {ce : Env} {pins : List (Addr × Obj)} {σ : L2.St} (hot : Hot1 X.A p) (B : BlkHot X p s H fp) (I : Inv (X.blk s H scope ce fp) pins σ H' s') : HotAt X.A p.1 s'.heap := by
  obtain ⟨hh, vq, hq1, hq2⟩ := hot
  exact ⟨hh, p.2, vq, I.base.keep p.1 p.2 B.get B.free B.nofs B.nofp, hq1, hq2⟩
theorem pg_tupQ {X : Cx} {p : Addr × Obj} {s : Shared} {H : Hp} {fp : List Addr} {scope : Scope} {ce : Env} {es : List Expr} {k : Nat} {t : TGs} {n : Nat} {pos : Pos} (hot : Hot1 X.A p) (B : BlkHot X p s H fp) (h : PGs (X.blk s H scope ce fp) es t)
    (hn : (assignEach es (X.blk s H scope ce fp).env).length = n := by rfl) (hst : (assignEach es (X.blk s H scope ce fp).env).findIdx? (·.1) = none := by rfl) : PG (X.blk s H scope ce fp) (.Tuple es k pos) (gTup X.K n t) := by
  refine ⟨fun pins s σ H v u Q I r hw => ?_⟩
  have ha := B.at hot I
  obtain ⟨a, xs, e1, hq, hl, hw⟩ := hw
  subst e1
  cases r
  obtain ⟨its, rv, ht, hz⟩ := I.tuple hq
  refine assign_Tuple_hot ha ht (by simp [hn, ← hl, rv.length]) hst fun h' hx => ?_
  have I1 : Inv (X.blk _ _ scope ce fp) pins σ H { s with heap := h' } := I.kept (t' := s.toks) fun b o e => hx b o (Nat.ne_of_lt (Heap.lt_size e)) e
  exact h.run pins _ σ H xs _ Q I1 (by simpa using rv) hw
/-! ### lists and their turns, whatever is handled -/
/-- at the end of the turns: nothing is handled, or what is handled stands -/
def CalmAt (A : Around) (fp : List Addr) (h : Heap) : Prop := ∃ x1, HotAt A x1 h ∧ x1 ∉ fp
structure TurnQ (P : Program) (w : World) (K : PySem.W.Frag) (tg : Expr) (J : It) (fp : List Addr) (it : Addr) (tn : Nat → Heap → Prop) : Prop where
  mem : it ∈ fp
  obj : ∀ i h, tn i h → ∀ b ∈ fp, ∃ o, h.get? b = some o ∧ ∀ v, o.data ≠ .cell v
  keep : ∀ i h h', tn i h → (∀ b ∈ fp, ∀ o, h.get? b = some o → h'.get? b = some o) → tn i h'
  item : ∀ (X : Cx), X.prog = P → X.w = w → X.K = K → ∀ (i : Nat) (pins : List (Addr × Obj)) (s : Shared) (σ : L2.St) (H : Hp) (E : Value → Shared → Prop), Inv X pins σ H s → (∀ b ∈ fp, FpOk X pins H b) → tn i s.heap → J.go i H →
    wpAny (model P w) X.A (pyNext (.ref it)) (fun r s1 => ∃ u, r = some u ∧
      wpAny (model P w) X.A (letOwnedTupleGo tg (.ref it) u) (fun _ s2 => ∃ x H', Inv X pins σ H' s2 ∧ RelV x u ∧ J.yld i H x H' ∧ tn (i + 1) s2.heap ∧ ∀ b ∈ fp, H' b = none) E s1) E s
  done : ∀ (X : Cx), X.prog = P → X.w = w → X.K = K → ∀ (i : Nat) (pins : List (Addr × Obj)) (s : Shared) (σ : L2.St) (H : Hp) (E : Value → Shared → Prop), CalmAt X.A fp s.heap → Inv X pins σ H s → (∀ b ∈ fp, FpOk X pins H b) → tn i s.heap → J.stop i H →
    wpAny (model P w) X.A (pyNext (.ref it)) (fun r s1 => r = none ∧ Inv X pins σ H s1) E s
  self : ∀ (A : Around) (i : Nat) (s : Shared) (Q : Value → Shared → Prop) (E : Value → Shared → Prop), tn i s.heap → Q (.ref it) s → wpAny (model P w) A (pyIter (.ref it)) Q E s
theorem turn_listQ {P : Program} {w : World} {K : PySem.W.Frag} {tg : Expr} (a it : Addr) : TurnQ P w K tg (Itl K a) [it] it (fun i h => h.IsListIter it a i) where
  mem := by simp
  obj := fun i h st b hb => by
    have e : b = it := by simpa using hb
    subst e
    obtain ⟨o, e, c, d⟩ := st
    exact ⟨o, e, fun v z => by rw [d] at z; cases z⟩
  keep := fun i h h' st k => st.at fun o e => k it (by simp) o e
  item := by
    intro X hP hw hK i pins s σ H E I hf st hg
    subst hP hw hK
    obtain ⟨xs, x, hq, hx⟩ := hg
    obtain ⟨its, rv, p, hz⟩ := I.list hq
    obtain ⟨u, hu, ru⟩ := rv.get hx
    obtain ⟨f0, f1, f2, f3, f4, f5⟩ := hf it (by simp)
    refine wpAny_pyNext_list_item st p.isList (x := u) (by simpa using hu) fun h' st' sb => ?_
    have I1 : Inv X pins σ H { s with heap := h' } := I.turned (t' := s.toks) (fun b o hb e => (sb.2 b hb).trans e) f0 f1 f3 f4 f5
    obtain ⟨o, e, c, d⟩ := id st'
    exact ⟨u, rfl, go_of (s := { s with heap := h' }) e c d (by decide) ⟨x, H, I1, ru, ⟨rfl, fun ys hy => by rw [I.list_inj hy hq]; exact hx⟩, st', fun b hb => (hf b hb).1⟩⟩
  done := by
    intro X hP hw hK i pins s σ H E hot I hf st hg
    subst hP hw hK
    obtain ⟨xs, hq, hx⟩ := hg
    obtain ⟨its, rv, p, hz⟩ := I.list hq
    obtain ⟨f0, f1, f2, f3, f4, f5⟩ := hf it (by simp)
    have hl := rv.length
    obtain ⟨x1, h1, h2⟩ := hot
    exact next_list_hot h1 (fun e => h2 (by rw [e]; simp)) st p.isList (by simp; omega) fun h' eb => ⟨rfl, I.turned (t' := s.toks) (fun b o hb e => eb b o hb e) f0 f1 f3 f4 f5⟩
  self := fun _ _ _ _ _ st h => wpAny_pyIter_listiter st h
def PIEQ (X : Cx) (pins : List (Addr × Obj)) (σ : L2.St) (tg : Expr) (R : It → Hp → Prop) (itv : Value) (s2 : Shared) : Prop :=
  ∃ (it : Addr) (fp : List Addr) (tn : Nat → Heap → Prop) (J : It) (H' : Hp), itv = .ref it ∧ Inv X pins σ H' s2 ∧ TurnQ X.prog X.w X.K tg J fp it tn ∧ tn 0 s2.heap ∧ (∀ b ∈ fp, FpOk X pins H' b) ∧ R J H'
structure PIQ (X : Cx) (tg iter : Expr) (wi : TI) : Prop where
  run : ∀ (pins : List (Addr × Obj)) (s : Shared) (σ : L2.St) (H : Hp) (R : It → Hp → Prop), Inv X pins σ H s → wi σ H R →
    wpAny (model X.prog X.w) X.A (eval iter X.env) (fun v s1 => wpAny (model X.prog X.w) X.A (pyIter v) (PIEQ X pins σ tg R) X.xe s1) X.xe s
section
variable {X : Cx} {tg : Expr}
theorem pi_listQ {l : Expr} {tl : TE} (hl : PE X l tl) : PIQ X tg l (iList X.K tl) := by
  refine ⟨fun pins s σ H R I h => ?_⟩
  refine thn (hl.run pins s σ H _ I h) fun v s1 ⟨x, H1, I1, r1, q1⟩ => ?_
  obtain ⟨a, e, ⟨xs, hq⟩, q⟩ := q1
  subst e
  cases r1
  obtain ⟨its, rv, p, hz⟩ := I1.list hq
  refine wpAny_pyIter_list p.isList ?_
  refine ⟨s1.heap.objs.size, [s1.heap.objs.size], _, _, H1, rfl, I1.kept (t' := s1.toks) fun b o e => Heap.get?_push_of_some _ e, turn_listQ a _, ⟨_, Heap.get?_push_size _ rfl, rfl, rfl⟩, fun b hb => ?_, q⟩
  have e : b = s1.heap.objs.size := by simpa using hb
  subst e
  exact I1.fpOk (Nat.le_refl _) (I1.hok.fresh (Nat.le_refl _))
end
section
variable {X : Cx} {pq : Addr × Obj}
theorem lc_coreQ {pins : List (Addr × Obj)} {s : Shared} {σ : L2.St} {H : Hp} {Q : VK} {elt tg iter : Expr} {ifs : List Expr} {scope : Scope} {own : List (Str × Nat)} {pos pos' : Pos} {wi : TI} {g : TG} {tt : TT} {te : TE} {use : Option (Value → Sem Unit)} {Qf : Value → Shared → Prop}
    (hot : Hot1 X.A pq) (hpq : pq ∈ X.pn) (hN : X.N.Nodup) (I : Inv X pins σ H s) (hi : PIQ X tg iter wi) (ok : BlkOk X.N X.env.scope scope own)
    (hg : ∀ (s : Shared) (H : Hp) (C : Addr) (cl : List (Str × Addr)) (fp : List Addr), BlkHot X pq s H fp → PG (X.blk s H scope (compEnvC scope cl C X.env) fp) tg g) (ht : ∀ (s : Shared) (H : Hp) (C : Addr) (cl : List (Str × Addr)) (fp : List Addr), PTs (X.blk s H scope (compEnvC scope cl C X.env) fp) ifs tt)
    (he : ∀ (s : Shared) (H : Hp) (C : Addr) (cl : List (Str × Addr)) (fp : List Addr), PE (X.blk s H scope (compEnvC scope cl C X.env) fp) elt te) (hs : ∀ x, foldedSetIterable iter X.env x = pure x)
    (h : tLc wi g tt te (own.map (·.2)) σ H Q)
    (hRR : ∀ D C s' m H', Inv X pins σ H' s' → Q (.ref D) H' → s'.heap.Ns C m → FpOk X pins H' C → compPost (model X.prog X.w) X.A X.xe use Qf (.ref D) C (.ok .next) s') :
    wpAny (model X.prog X.w) X.A (comprehension (.ListComp elt [⟨tg, iter, ifs, 0⟩] scope pos) scope X.env pos' (newList []) false (eval iter X.env) use) Qf X.xe s := by
  have hfree : ∀ y ∈ scope.names, y.2 = .free → ∃ c, X.env.cells.lookup y.1 = some c := fun y hy e => by
    rcases ok.free y hy e with k | k
    · exact I.ok.has _ (.inl k)
    · exact I.ok.has _ (.inr k)
  refine wpAny_comprehension_free (use := use) rfl hs (closure_ok hfree) ok.kind (fun y hy e => by rw [ok.uniq y hy, e])
    (thn (hi.run pins s σ H _ I h) fun xv s1 hx => thn hx fun itv s2 h2 => ?_)
  obtain ⟨it, fp, tn, J, H2, e, I2, T, st2, f2, q⟩ := h2
  subst e
  refine wpAny_newObj_type (newEnv_comp ?_) (by show 0 ≤ sizeLine; decide)
  generalize hD : s2.heap.objs.size = D
  have hDn : H2 D = none := I2.hok.fresh (Nat.le_of_eq hD)
  obtain ⟨W, ⟨m0, w0⟩, turn⟩ := q D hDn
  generalize hs3 : ({ s2 with heap := s2.heap.push { cls := .type "list", data := .seq ([] : List Value).toArray } } : Shared) = s3
  have I3 : Inv X pins σ (upd H2 D (.lst [])) s3 := by
    rw [← hs3]
    refine I2.laid (t' := s2.toks) (fun b o e => Heap.get?_push_of_some _ e) (Nat.le_of_eq hD) ⟨Nat.zero_le _, [], 0, .nil, ?_⟩
    rw [← hD]
    exact Heap.get?_push_size _ rfl
  have h3 : s3.heap = s2.heap.push { cls := .type "list", data := .seq ([] : List Value).toArray } := by rw [← hs3]
  have sz : ∀ b ∈ fp, b < s2.heap.objs.size := fun b hb => by
    obtain ⟨o, e, _⟩ := T.obj _ _ st2 b hb
    exact Heap.lt_size e
  have f3 : ∀ b ∈ fp, FpOk X pins (upd H2 D (.lst [])) b ∧ b < s3.heap.objs.size := fun b hb => by
    have hlt := sz b hb
    refine ⟨⟨?_, (f2 b hb).2⟩, by rw [h3, Heap.size_push]; exact Nat.lt_succ_of_lt hlt⟩
    rw [upd_ne (by rw [← hD]; exact Nat.ne_of_lt hlt)]
    exact (f2 b hb).1
  have st3 : tn 0 s3.heap := T.keep _ _ _ st2 fun b _ o e => by rw [h3]; exact Heap.get?_push_of_some _ e
  have I4 := block_start I3 ok hN f3
  have P3 := I3.pin pq (List.mem_append_left _ hpq)
  have pfp : pq.1 ∉ fp := fun hm => (f3 pq.1 hm).1.2.2.2.2.2 pq (List.mem_append_left _ hpq) rfl
  have BH : BlkHot X pq s3 (upd H2 D (.lst [])) fp := ⟨P3.1, P3.2.1, fun hm => (List.mem_cons.mp (I3.stkSub pq.1 hm)).elim P3.2.2.1 P3.2.2.2.1, pfp⟩
  have pg := hg s3 (upd H2 D (.lst [])) s3.heap.objs.size (cellsFrom (s3.heap.objs.size + 1) scope.names (cloFrom X.env.cells scope.names [])) fp BH
  have pt := ht s3 (upd H2 D (.lst [])) s3.heap.objs.size (cellsFrom (s3.heap.objs.size + 1) scope.names (cloFrom X.env.cells scope.names [])) fp
  have pe := he s3 (upd H2 D (.lst [])) s3.heap.objs.size (cellsFrom (s3.heap.objs.size + 1) scope.names (cloFrom X.env.cells scope.names [])) fp
  show codeAny _ _ (.compStart (.ListComp elt [⟨tg, iter, ifs, 0⟩] scope pos) 0 (.ref it) (.ref D) (compEnvC scope (cellsFrom (s3.heap.objs.size + 1) scope.names (cloFrom X.env.cells scope.names [])) s3.heap.objs.size X.env)) (compPost (model X.prog X.w) X.A X.xe use Qf (.ref D) s3.heap.objs.size) { s3 with heap := pushCells (s3.heap.push { cls := .type "dict", data := .dict #[] }) scope.names }
  have nfp : ∀ b ∈ fp, (upd H2 D (.lst [])) b = none := fun b hb => (f3 b hb).1.1
  generalize hce : compEnvC scope (cellsFrom (s3.heap.objs.size + 1) scope.names (cloFrom X.env.cells scope.names [])) s3.heap.objs.size X.env = ce at I4 pg pt pe ⊢
  have cL : ce.locals = s3.heap.objs.size := by subst hce; rfl
  generalize hH3 : upd H2 D (.lst []) = H3 at I3 I4 pg pt pe w0 nfp f3 BH P3
  generalize hs4 : ({ s3 with heap := pushCells (s3.heap.push { cls := .type "dict", data := .dict #[] }) scope.names } : Shared) = s4 at I4 ⊢
  have st4 : tn 0 s4.heap := T.keep _ _ _ st3 fun b _ o e => by rw [← hs4]; exact pushCells_keeps _ _ _ _ (Heap.get?_push_of_some _ e)
  have stat : ∀ {σ' : L2.St} {H' : Hp} {s' : Shared}, Inv (X.blk s3 H3 scope ce fp) [] σ' H' s' → (∀ b ∈ fp, H' b = none) → ∀ b ∈ fp, FpOk (X.blk s3 H3 scope ce fp) [] H' b := fun {σ' H' s'} I' hn b hb =>
    ⟨hn b hb, (I'.ok.exf b hb).1, I'.ok.exfs b hb, .inl hb, fun x c e => (I'.ok.exf b hb).2 x c e, fun p hp => absurd (show p ∈ ([] : List (Addr × Obj)) ++ [] from hp) (by simp)⟩
  have hotAt : ∀ {σ' : L2.St} {H' : Hp} {s' : Shared}, Inv (X.blk s3 H3 scope ce fp) [] σ' H' s' → CalmAt X.A fp s'.heap := fun {σ' H' s'} I' => ⟨pq.1, BH.at hot I', pfp⟩
  have loop : codeAny (model X.prog X.w) X.A (.compLoop (.ListComp elt [⟨tg, iter, ifs, 0⟩] scope pos) 0 (.ref it) (.ref D) ce) (compPost (model X.prog X.w) X.A X.xe use Qf (.ref D) s3.heap.objs.size) s4 := by
    refine compLoop_any (fun n s' => ∃ i H', Inv (X.blk s3 H3 scope ce fp) [] (wipe σ (own.map (·.2))) H' s' ∧ tn i s'.heap ∧ (∀ b ∈ fp, H' b = none) ∧ W i n H') ?_ m0 ⟨0, H3, I4, st4, nfp, w0⟩
    rintro n s5 ⟨i, H5, I5, st5, n5, w5⟩
    rcases turn i n H5 w5 with ⟨stop, qq⟩ | ⟨go, Nx, hNx, step⟩
    · have td := T.done (X.blk s3 H3 scope ce fp) rfl rfl rfl i [] s5 _ H5 (fun _ _ => False) (hotAt I5) I5 (stat I5 n5) st5 stop
      refine thnF td fun r s6 ⟨hr, I6⟩ => ?_
      subst hr
      have I7 : Inv X pins σ H5 s6 := I3.call' (ch := fp) I6.os I6.base I6.hok I6.bare fun b hb => ⟨(f3 b hb).1.2.2.2.1, (f3 b hb).1.2.1, (f3 b hb).1.2.2.2.2.1, (f3 b hb).1.2.2.2.2.2⟩
      have nC : H5 s3.heap.objs.size = none := by
        have z : H5 ce.locals = none := I6.free
        rw [cL] at z
        exact z
      obtain ⟨m, hn, _⟩ := I6.loc
      have hn : s6.heap.Ns ce.locals m := hn
      rw [cL] at hn
      exact hRR D s3.heap.objs.size s6 m H5 I7 qq hn (I3.fpOk (Nat.le_refl _) nC)
    · have ti := T.item (X.blk s3 H3 scope ce fp) rfl rfl rfl i [] s5 _ H5 (fun _ _ => False) I5 (stat I5 n5) st5 go
      refine thnF ti fun r s6 ⟨u, hr, h6⟩ => ?_
      subst hr
      refine thnF h6 fun _ s7 ⟨x, H7, I7, r7, y7, st7, n7⟩ => ?_
      have I7' := I7.pinned (stat I7 n7) (T.obj _ _ st7)
      refine thnF (pg.run _ s7 _ H7 x u _ I7' r7 (step x H7 y7)) fun _ s8 ⟨σ8, H8, I8, hw8, q8⟩ => ?_
      refine thnF (pt.run _ s8 σ8 H8 _ I8 q8) fun b s9 ⟨H9, I9, q9⟩ => ?_
      have fin : ∀ {s' : Shared} {H' : Hp}, Inv (X.blk s3 H3 scope ce fp) ([] ++ pinsAt fp s7.heap) σ8 H' s' → Nx H' → ∃ m, m < n ∧ ∃ i H', Inv (X.blk s3 H3 scope ce fp) [] (wipe σ (own.map (·.2))) H' s' ∧ tn i s'.heap ∧ (∀ b ∈ fp, H' b = none) ∧ W i m H' := fun {s' H'} I' nx => by
        obtain ⟨m', hm, w'⟩ := hNx H' nx
        have pin' : ∀ b ∈ fp, ∀ o, s7.heap.get? b = some o → s'.heap.get? b = some o ∧ H' b = none := fun b hb o e =>
          let z := I'.pin (b, o) (List.mem_append_right _ (List.mem_append_right _ (mem_pinsAt hb e)))
          ⟨z.1, z.2.1⟩
        have hl : (wipe σ (own.map (·.2))).length = σ8.length := by rw [← hw8, wipe_length]
        refine ⟨m', hm, i + 1, H', (I'.unpinned (pins := [])).weak hl (fun j v e => ?_), T.keep _ _ _ st7 fun b hb o e => (pin' b hb o e).1, fun b hb => ?_, w'⟩
        · rw [← hw8] at e
          exact (wipe_some e).1
        · obtain ⟨o, e, _⟩ := T.obj _ _ st7 b hb
          exact (pin' b hb o e).2
      cases b with
      | false =>
        simp only [Bool.false_eq_true, if_false] at q9 ⊢
        exact fin I9 q9
      | true =>
        simp only [if_true] at q9 ⊢
        refine thnF (pe.run _ s9 σ8 H9 _ I9 q9) fun z s10 ⟨yv, H10, I10, r10, acc, hD10, hz10, nx⟩ => ?_
        exact app_ok (X := X.blk s3 H3 scope ce fp) I10 hD10 hz10 r10 fun s11 I11 => fin I11 nx
  exact codeAny_compStart_list loop (T.self X.A 0 _ _ _ st4 loop)
/-- [elt for target in a list if ..], an exception handled -/
theorem pe_lcQ {elt tg iter : Expr} {ifs : List Expr} {scope : Scope} {own : List (Str × Nat)} {pos : Pos} {wi : TI} {g : TG} {tt : TT} {te : TE} (hot : Hot1 X.A pq) (hpq : pq ∈ X.pn) (hN : X.N.Nodup) (hi : PIQ X tg iter wi) (ok : BlkOk X.N X.env.scope scope own)
    (hg : ∀ (s : Shared) (H : Hp) (C : Addr) (cl : List (Str × Addr)) (fp : List Addr), BlkHot X pq s H fp → PG (X.blk s H scope (compEnvC scope cl C X.env) fp) tg g) (ht : ∀ (s : Shared) (H : Hp) (C : Addr) (cl : List (Str × Addr)) (fp : List Addr), PTs (X.blk s H scope (compEnvC scope cl C X.env) fp) ifs tt)
    (he : ∀ (s : Shared) (H : Hp) (C : Addr) (cl : List (Str × Addr)) (fp : List Addr), PE (X.blk s H scope (compEnvC scope cl C X.env) fp) elt te) (hs : ∀ x, foldedSetIterable iter X.env x = pure x := by intro _; rfl) :
    PE X (.ListComp elt [⟨tg, iter, ifs, 0⟩] scope pos) (tLc wi g tt te (own.map (·.2))) := by
  refine ⟨fun pins s σ H Q I h => ?_⟩
  rw [eval_ListComp]
  refine lc_coreQ hot hpq hN I hi ok hg ht he hs h fun D C s' m H' I' q hn f => ⟨m, hn, fun h'' sb => ?_⟩
  obtain ⟨f0, f1, f2, f3, f4, f5⟩ := f
  exact ⟨.ref D, H', I'.turned (t' := s'.toks) (fun b o hb e => (sb.2 b hb).trans e) f0 f1 f3 f4 f5, rfl, q⟩
/-- name = [..] on one line, the name a local -/
theorem ps_setLcQ {i : Nat} {y : Str} {py : Pos} {elt tg iter : Expr} {ifs : List Expr} {scope : Scope} {own : List (Str × Nat)} {pos spos : Pos} {wi : TI} {g : TG} {tt : TT} {te : TE} (hot : Hot1 X.A pq) (hpq : pq ∈ X.pn) (hN : X.N.Nodup) (hy : X.N[i]? = some y) (hyl : X.env.scope.names.lookup y = some .local)
    (hsw : swapsWith (.ListComp elt [⟨tg, iter, ifs, 0⟩] scope pos) (some (.Name y py)) spos.line X.env = pure true) (hi : PIQ X tg iter wi) (ok : BlkOk X.N X.env.scope scope own)
    (hg : ∀ (s : Shared) (H : Hp) (C : Addr) (cl : List (Str × Addr)) (fp : List Addr), BlkHot X pq s H fp → PG (X.blk s H scope (compEnvC scope cl C X.env) fp) tg g) (ht : ∀ (s : Shared) (H : Hp) (C : Addr) (cl : List (Str × Addr)) (fp : List Addr), PTs (X.blk s H scope (compEnvC scope cl C X.env) fp) ifs tt)
    (he : ∀ (s : Shared) (H : Hp) (C : Addr) (cl : List (Str × Addr)) (fp : List Addr), PE (X.blk s H scope (compEnvC scope cl C X.env) fp) elt te) (hs : ∀ x, foldedSetIterable iter X.env x = pure x := by intro _; rfl) :
    PS X (.Assign [.Name y py] (.ListComp elt [⟨tg, iter, ifs, 0⟩] scope pos) spos) (tAsg (tLc wi g tt te (own.map (·.2))) (gName i)) := by
  refine ⟨fun pins s σ H D I h => ?_⟩
  rw [exec_Assign_Name_used _ _ _ _ hsw]
  refine wpAny_bind (wpAny_standAt (wpAny_bind ?_))
  show wpAny _ X.A (do let _ ← comprehension (.ListComp elt [⟨tg, iter, ifs, 0⟩] scope pos) scope X.env (firstIterPos [⟨tg, iter, ifs, 0⟩] pos) (newList []) false (eval iter X.env) (some (assign (.Name y py) X.env))) _ _ s
  have h : tLc wi g tt te (own.map (·.2)) σ H (fun x H1 => gName i x σ H1 D.nx) := h
  refine wpAny_bind (thn (lc_coreQ (Qf := fun _ s' => SP X pins D .next s') hot hpq hN I hi ok hg ht he hs h fun L C s' m H' I' q hn f => ?_) fun _ s' hq => wpAny_pure (wpAny_pure hq))
  show wpAny _ _ (assign (.Name y py) X.env (.ref L)) _ _ _
  refine wpAny_assign_Name (store_ok2 (v := V.ref L) I' hN hy (.inl hyl) rfl (fun s2 I2 ⟨a, sb, ha⟩ => ?_) (.inr hyl))
  obtain ⟨f0, f1, f2, f3, f4, f5⟩ := f
  have haC : C ≠ a := by
    rcases ha with z | z
    · rw [z]; exact f1
    · exact fun e => f4 y a z e.symm
  refine ⟨m, hn.sameBut sb haC, fun h3 sb3 => ?_⟩
  exact ⟨_, H', I2.turned (t' := s2.toks) (fun b o hb e => (sb3.2 b hb).trans e) f0 f1 f3 f4 f5, q⟩
end
end Q

set_option Elab.async false
set_option linter.all false
set_option maxRecDepth 100000
set_option maxHeartbeats 4000000
set_option pp.maxSteps 2500
namespace Q
open PySem PySem.Spec PyProof.Rows L2 HotX
open L2H (Hot1 HotC PinOk RoomH cxH inv_startH)
/-! ### exceptions whose context is None -/
theorem takes0N {X : Cx} : L2N.Takes X (fun _ _ _ _ => False) := fun _ _ x => by
  obtain ⟨_, _, _, _, _, _, _, _, _, _, _, _, _, _, _, _, w⟩ := x
  exact w.elim
theorem passLN {X : Cx} : Passes (L2N.CX X.prog X.w) X E0 := fun _ _ _ _ _ _ _ h => by
  obtain ⟨_, _, _, _, _, _, _, _, _, _, _, _, e⟩ := h
  exact e.elim
/-- BadX(v) -/
theorem pmk_badN {X : Cx} {x qual : Str} {st : Stmt} {e : Expr} {te : TE} {p pos : Pos} (T : HasExc X.K X.mg x qual st) (F : ExcOk X.prog X.w X.K X.mg X.base (He.ga X.K x) (He.ma X.K (He.ga X.K x) "__init__")) (hr : Room 2 X.A) (hg : Gl X x) (he' : PE X e te)
    (hdb : (x == ("__debug__" : Str)) = false := by decide) (he : starEach [e] X.env = (false, eval e X.env) :: starEach [] X.env := by rfl) (hpl : (backTo pos (starEach [] X.env)).any (·.1) = false := by rfl) :
    L2N.PMk X (.Call (.Name x p) [e] [] pos) (tMkO (He.ga X.K x) (spI (He.ga X.K x)) [] (tCons te tNil)) := by
  obtain ⟨fd, F1, hb⟩ := F
  intro pins s σ H Q I h
  obtain ⟨nm, q, N, bs, bm, sn, sub, ab, col, dd, k0, k1, k2, k3, k5, hC, hbm⟩ := T.oex.cls
  refine wpAny_Call_Name_kw (ld_glob I hg T.hm ?_ hdb)
  refine PySem.W.callWith_K (h₀ := X.base) I.ok.mod.kin T.oex.kC (thn ((pa_cons he' pa_nil (by rw [he])).run pos pins s σ H _ I h) fun us s1 ⟨vs, H1, I1, r1, hz, q1⟩ => ⟨I1.kIn, ?_⟩) he hpl
  show wpAny _ _ (call (.ref _) us) _ _ _
  obtain ⟨hp, g, dr, tk, os⟩ := s1
  have hsz : hp.objs.size ≤ hp.objs.size + 1 := Nat.le_succ _
  have hn : H1 (hp.objs.size + 1) = none := I1.hok.fresh hsz
  have hq := q1 (hp.objs.size + 1) hn
  rw [List.append_nil] at hq
  have kk : ∀ b o, hp.get? b = some o → ((hp.push (PySem.W.kdv_tup us)).push (PySem.HandSPX.excO (He.ga X.K x) hp.objs.size)).get? b = some o := fun b o e => Heap.get?_push_of_some _ (Heap.get?_push_of_some _ e)
  have hget : ((hp.push (PySem.W.kdv_tup us)).push (PySem.HandSPX.excO (He.ga X.K x) hp.objs.size)).get? (hp.objs.size + 1) = some (PySem.HandSPX.excO (He.ga X.K x) hp.objs.size) := by heap_get
  have I2 : Inv X pins σ (upd H1 (hp.objs.size + 1) (exo (hp.objs.size + 1) (He.ga X.K x) none)) ⟨(hp.push (PySem.W.kdv_tup us)).push (PySem.HandSPX.excO (He.ga X.K x) hp.objs.size), g, dr, tk, os⟩ :=
    I1.laid (t' := tk) (a := hp.objs.size + 1) (o := exo (hp.objs.size + 1) (He.ga X.K x) none) (h' := (hp.push (PySem.W.kdv_tup us)).push (PySem.HandSPX.excO (He.ga X.K x) hp.objs.size)) kk hsz (exo_ok hget)
  have r2 : Vals (V.ref (hp.objs.size + 1) :: vs) (Value.ref (hp.objs.size + 1) :: us) := .cons rfl r1
  have hl : (Value.ref (hp.objs.size + 1) :: us ++ []).length = ["self", "value"].length := by
    have e := r2.length
    have e3 := F1.len _ _ _ _ hq
    rw [List.append_nil]
    rw [e3] at e
    exact e.symm
  have hus : us.length ≤ sizeLine := by
    rw [← Paired.length r1, sizeLine_eq]
    omega
  have b2 := hb ⟨(hp.push (PySem.W.kdv_tup us)).push (PySem.HandSPX.excO (He.ga X.K x) hp.objs.size), g, dr, tk, os⟩ (Value.ref (hp.objs.size + 1) :: us) I2.kIn hl
  rw [List.append_nil] at b2
  refine wpAny_call (PySem.HandSPX.call_own F.excBase_ValueError (fun Y => PySem.HandSPX.refsVE_contains Y bm hbm) (I1.kIn _ _ hC) (PySem.W.looks_findIn I1.kIn T.iC) (fun self => PySem.W.bind_fn I1.kIn self T.tI) hus
    (codeAny_mono (F1.run _ X.stack _ _ ⟨Value.ref (hp.objs.size + 1) :: us, []⟩ (Value.ref (hp.objs.size + 1) :: us) _ _ (fun _ _ _ => False) (hr.make _ us []) (I2.env0.make _ us []) b2 r2 hq) fun r s' hq' => ?_))
  cases r with
  | error er => exact pass0 pins σ _ _ er s' I2 hq'
  | ok fl =>
    cases fl with
    | ret u =>
      obtain ⟨v, H2, os2, bare2, un2, hok2, rv, ev, d, fs, ea, ed, hd1, q2⟩ := hq'
      subst ev
      obtain ⟨h2, g2, d2, t2, os'⟩ := s'
      obtain ⟨t0, G, J, kG, ge, hoe, na⟩ := mk_end0 (d2 := d2) (t2 := t2) I1 hsz kk un2 hok2 os2 bare2 ea ed hd1
      refine ⟨rv, ⟨hp.objs.size + 1, _, _, ⟨G, g2, d2, t2, os'⟩, _, .ref _, some d, rfl, J, kG, ge, hoe, ⟨rfl, rfl, fun vs hv => ?_⟩, rfl, rfl, na, rfl, bare2, raises_own T.oex.exC T.oex.tyC, q2⟩⟩
      cases hv
      rfl
    | next => exact False.elim hq'
    | brk => exact False.elim hq'
    | cont => exact False.elim hq'
theorem ps_tryTN {X : Cx} {x n : Str} {i : Nat} {body suite : List Stmt} {b₀ : Stmt} {np pos pos' : Pos} {tb : WX → TS} {ts : Addr → Value → Option Addr → TS} {Wout : WX}
    (hm : X.mg x = some (.ref (He.ga X.K x))) (hs : X.stack = X.env :: X.outer) (hf : X.env.frame = some X.env.locals) (hN : X.N.Nodup) (hi : X.N[i]? = some n) (hln : X.env.kindOf n = some .local) (hg : Gl X x) (tk : L2N.Takes X Wout)
    (hb : ∀ (W : WX) (pn : List (Addr × Obj)) (xe : Value → Shared → Prop), L2N.Takes (X.tr pn xe) W → PassesOwn (model X.prog X.w) X.A X.env xe → PSs (X.tr pn xe) body (tb W))
    (hsu : ∀ (a : Addr) (oe : Obj) (cls : Value) (d : Option Addr) (pn : List (Addr × Obj)), L2N.Zn cls d oe → (∃ vs, oe.data = .fields vs) → PSs (X.suite a ((a, oe) :: pn)) (b₀ :: suite) (ts a cls d)) (hdb : (x == ("__debug__" : Str)) = false := by decide) :
    PS X (.Try body [.ExceptHandler (some (.Name x np)) (some n) (b₀ :: suite) pos'] [] [] pos) (tTry X.K x i Wout tb ts) := L2N.ps_try_as hs hf hN hi hln ⟨hg, hdb, .inl hm⟩ tk hb hsu
/-! ### a def called in an except suite, the exception handed on -/
structure FnP (P : Program) (w : World) (K : PySem.W.Frag) (mg : Str → Option Value) (base : Heap) (CX : CXT) (k : Nat) (f : Addr) (fd : FuncData) (ps : List Str) (sp : Addr × Obj → Sp) : Prop where
  len : ∀ p vs H Q E, sp p vs H Q E → vs.length = ps.length
  run : ∀ (A : Around) (outer : List Env) (s : Shared) (H : Hp) (args : Args) (us : List Value) (vs : List V) (Q : VK) (E : XK) (p : Addr × Obj), RoomH k A → Hot1 A p → PinOk outer H s p → Env0 P w K mg base A outer s H → BindsTo s fd args (ps.zip us) → Vals vs us → sp p vs H Q E →
    codeAny (model P w) A (.call (.ref f) args) (CR CX outer P w H s Q E) s
theorem fn_ofP {CX : CXT} {P : Program} {w : World} {K : PySem.W.Frag} {mg : Str → Option Value} {base : Heap} {k : Nat} {f : Addr} {name qual : Str} {params : Arguments} {body : List Stmt} {scope : Scope} {dV kV doc pm cdv ct oc : Value} {an od : Option Addr}
    {osl : Array (Option Value)} {N ps : List Str} {sp : Addr × Obj → Sp} (lk : K.lookup f = some ⟨oc, od, .func (PySem.W.fnOf name qual params body scope dV kV doc pm an cdv ct), osl⟩) (hcd : PySem.W.codeIn K cdv qual = true) (S : FnScope N ps scope)
    (len : ∀ p vs H Q E, sp p vs H Q E → vs.length = ps.length)
    (hbody : ∀ (A : Around) (outer : List Env) (s : Shared) (H : Hp) (vs : List V) (Q : VK) (E : XK) (p : Addr × Obj), Hot1 A p → RoomH k (A.deeper (envOfC qual scope s.heap.objs.size f cdv)) → sp p vs H Q E →
      ∃ t, PSs (cxH CX P w K mg base N qual scope f cdv A outer s H E p) body t ∧ t { nx := fun _ H' => Q .non H', rt := Q } (L2.start N vs) H) :
    FnP P w K mg base CX (k + 1) f (PySem.W.fnOf name qual params body scope dV kV doc pm an cdv ct) ps sp := by
  refine ⟨len, fun A outer s H args us vs Q E p hr hot hpin e0 hb r hsp => ?_⟩
  have hl := len _ _ _ _ _ hsp
  have KX : K.In s.heap := e0.mod.kin.keeps fun b o e => (e0.bs b o e).1
  have lim : s.heap.NoLimit := e0.mod.nolimit.keeps fun b o e => (e0.bs b o e).1
  have hkind : ∀ y ∈ ps.zip us, scope.names.lookup y.1 = some .local ∨ (scope.names.lookup y.1 = some .cell ∧ ((cellsFrom (s.heap.objs.size + 1) scope.names []).lookup y.1).isSome = true) := fun ⟨n, v⟩ hy => by
    rcases S.par n (List.of_mem_zip hy).1 with q | q
    · exact .inl q
    · exact .inr ⟨q, PySem.W.cellsFrom_some _ _ _ (.inl q)⟩
  refine codeAny_call_function hr.depth (KX _ _ lk) rfl S.co S.gen rfl (PySem.W.codeRec_of KX hcd) (hb _ _ _ _ ?_)
  refine wpAny_newFunctionEnv_cells S.kind hkind fun env he s1 x => ?_
  subst he
  refine ⟨lim.keeps x.toInCall.keep, codeAny_func ?_⟩
  obtain ⟨t, ht, hq⟩ := hbody A outer s H vs Q E p hot (hr.deeper _) hsp
  have I : Inv (cxH CX P w K mg base N qual scope f cdv A outer s H E p) [] (L2.start N vs) H s1 := inv_startH S hpin e0 hl r x
  refine wpAny_mono (ht.run [] s1 (L2.start N vs) H _ I hq) (fun fl s' hs => ?_) fun e s' hs => hs
  have fin : ∀ {σ' : L2.St} {H' : Hp} {v : V} {u : Value}, Inv (cxH CX P w K mg base N qual scope f cdv A outer s H E p) [] σ' H' s' → RelV v u → Q v H' → CE outer P w H s Q u s' :=
    fun {σ' H' v u} J rv q => ⟨v, H', J.os, J.bare, J.base, J.hok, rv, q⟩
  cases fl with
  | ret u =>
    obtain ⟨v, σ', H', J, rv, q⟩ := hs
    exact fin J rv q
  | next =>
    obtain ⟨σ', H', J, q⟩ := hs
    exact fin (v := V.non) (u := Value.none) J rfl q
  | brk =>
    obtain ⟨_, _, _, q⟩ := hs
    exact False.elim q
  | cont =>
    obtain ⟨_, _, _, q⟩ := hs
    exact False.elim q
def DefP (P : Program) (w : World) (K : PySem.W.Frag) (mg : Str → Option Value) (base : Heap) (CX : CXT) (k : Nat) (x : Str) (ps : List Str) (st : Stmt) (sp : Addr × Obj → Sp) : Prop :=
  ∃ f fd, mg x = some (.ref f) ∧ PySem.W.keepIn K (.ref f) = true ∧ FunD K x x (defArgs st) (defBody st) (defScope st) [] [] f fd ∧ Binds K fd ps [] ∧ FnP P w K mg base CX k f fd ps sp
theorem HasDef.okP {P : Program} {w : World} {K : PySem.W.Frag} {mg : Str → Option Value} {base : Heap} {CX : CXT} {k : Nat} {x : Str} {N ps : List Str} {st : Stmt} {sp : Addr × Obj → Sp} (T : HasDef K mg x st) (S : FnScope N ps (defScope st)) (len : ∀ p vs H Q E, sp p vs H Q E → vs.length = ps.length)
    (hb : ∀ (kV doc pm : Value) (an : Option Addr) (cdv ct : Value) (us : List Value), us.length = ps.length → bindArgs (PySem.W.fnOf x x (defArgs st) (defBody st) (defScope st) .none kV doc pm an cdv ct) ⟨us, []⟩ = pure (ps.zip us))
    (hbody : ∀ (f : Addr) (cdv : Value) (A : Around) (outer : List Env) (s : Shared) (H : Hp) (vs : List V) (Q : VK) (E : XK) (p : Addr × Obj), Hot1 A p → RoomH k (A.deeper (envOfC x (defScope st) s.heap.objs.size f cdv)) → sp p vs H Q E →
      ∃ t, PSs (cxH CX P w K mg base N x (defScope st) f cdv A outer s H E p) (defBody st) t ∧ t { nx := fun _ H' => Q .non H', rt := Q } (start N vs) H) : DefP P w K mg base CX (k + 1) x ps st sp := by
  obtain ⟨fd, F, hm⟩ := T
  refine ⟨_, fd, hm, F.kp, F, F.bindsN hb, ?_⟩
  obtain ⟨oc, od, dV, kV, doc, pm, an, cdv, ct, osl, rfl, lk, hcd, _, _⟩ := F.ex
  exact fn_ofP lk hcd S len fun A outer s H vs Q E p hot hr hsp => hbody _ cdv A outer s H vs Q E p hot hr hsp
section
variable {X : Cx} {CX : CXT} {k : Nat} {ps : List Str} {sp : Addr × Obj → Sp} {st : Stmt} {E : XK} {x : Str} {q pos : Pos} {e : Expr} {es : List Expr} {t : TA} {p : Addr × Obj}
theorem pe_callP (F : DefP X.prog X.w X.K X.mg X.base CX k x ps st sp) (hr : RoomH k X.A) (hot : Hot1 X.A p) (hp : p ∈ X.pn) (hg : Gl X x) (hx : Passes CX X E)
    (ha : PA X (e :: es) t) (hdb : (x == ("__debug__" : Str)) = false := by decide) (he : starEach (e :: es) X.env = (false, eval e X.env) :: starEach es X.env := by rfl) (hpl : (backTo pos (starEach es X.env)).any (·.1) = false := by rfl) :
    PE X (.Call (.Name x q) (e :: es) [] pos) (tCall (sp p) [] E t) := by
  obtain ⟨f, fd, hm, hk, _, hb, G⟩ := F
  refine ⟨fun pins s σ H Q I h => ?_⟩
  refine wpAny_Call_Name_kw (ld_glob I hg hm ?_ hdb)
  refine PySem.W.callWith_K (h₀ := X.base) I.ok.mod.kin hk (thn (ha.run pos pins s σ H _ I h) fun us s1 ⟨vs, H1, I1, r, q⟩ => ⟨I1.kIn, ?_⟩) he hpl
  dsimp only at q
  rw [List.append_nil] at q
  have hl : us.length = ps.length := by rw [← r.length]; exact G.len _ _ _ _ _ q
  have b := hb s1 us I1.kIn (by rw [List.append_nil]; exact hl)
  rw [List.append_nil] at b
  have P1 := I1.pin p (List.mem_append_left _ hp)
  have hpin : PinOk X.stack H1 s1 p := ⟨P1.1, P1.2.1, fun hm => (List.mem_cons.mp (I1.stkSub p.1 hm)).elim P1.2.2.1 P1.2.2.2.1, P1.2.2.2.2⟩
  refine wpAny_call (codeAny_mono (G.run X.A X.stack s1 H1 ⟨us, []⟩ us vs Q E p hr hot hpin I1.env0 b r q) fun r s' hq => ?_)
  cases r with
  | error e => exact hx pins σ H1 s1 e s' I1 hq
  | ok fl =>
    cases fl with
    | ret u => exact I1.after hq
    | next => exact False.elim hq
    | brk => exact False.elim hq
    | cont => exact False.elim hq
end
/-- what the caller's suite says of it: whatever the exception's object -/
def spAll (sp : Addr × Obj → Sp) (a : Addr) (cls : Value) (d : Option Addr) : Sp := fun vs H Q E => ∀ oe, Zc cls d oe → (∃ vs, oe.data = .fields vs) → sp (a, oe) vs H Q E
theorem hot1_suite {X : Cx} {a : Addr} {oe : Obj} {cls : Value} {d : Option Addr} {pn : List (Addr × Obj)} (hz : L2N.Zn cls d oe) (hf : ∃ vs, oe.data = .fields vs) : Hot1 (X.suite a ((a, oe) :: pn)).A (a, oe) := by
  obtain ⟨vs, hv⟩ := hf
  exact ⟨rfl, vs, hv, hz.2.2 vs hv⟩
theorem pe_callPS {X : Cx} {CX : CXT} {k : Nat} {ps : List Str} {sp : Addr × Obj → Sp} {st : Stmt} {E : XK} {x : Str} {q pos : Pos} {e : Expr} {i : Nat} {a : Addr} {oe : Obj} {cls : Value} {d : Option Addr} {pn : List (Addr × Obj)} (F : DefP X.prog X.w X.K X.mg X.base CX k x ps st sp) (hr : Room k X.A) (hz : L2N.Zn cls d oe) (hf : ∃ vs, oe.data = .fields vs) (hg : Gl (X.suite a ((a, oe) :: pn)) x) (hx : Passes CX (X.suite a ((a, oe) :: pn)) E)
    (ha : PE (X.suite a ((a, oe) :: pn)) e (tVar i)) (hdb : (x == ("__debug__" : Str)) = false := by decide) (he : starEach [e] X.env = (false, eval e X.env) :: starEach [] X.env := by rfl) (hpl : (backTo pos (starEach [] X.env)).any (·.1) = false := by rfl) :
    PE (X.suite a ((a, oe) :: pn)) (.Call (.Name x q) [e] [] pos) (tCall (spAll sp a cls d) [] E (tCons (tVar i) tNil)) := by
  have h := pe_callP (X := X.suite a ((a, oe) :: pn)) (p := (a, oe)) (q := q) (pos := pos) F (L2H.roomH_mark hr _) (hot1_suite hz hf) List.mem_cons_self hg hx (pa_cons ha pa_nil he) hdb he hpl
  refine ⟨fun pins s σ H Q I w => ?_⟩
  obtain ⟨v, hv, q⟩ := w
  exact h.run pins s σ H Q I ⟨v, hv, q oe hz.zc hf⟩
theorem hotC_cxH {CX : CXT} {P : Program} {w : World} {K : PySem.W.Frag} {mg : Str → Option Value} {base : Heap} {N : List Str} {qual : Str} {scope : Scope} {f : Addr} {cd : Value} {A : Around} {outer : List Env} {s : Shared} {H : Hp} {E : XK} {p : Addr × Obj} (hot : Hot1 A p) : HotC (cxH CX P w K mg base N qual scope f cd A outer s H E p) :=
  ⟨p, ⟨hot.1, hot.2⟩, List.mem_cons_self⟩
/-! isinstance(e, c), e.f there -/
def rIsP (K : PySem.W.Frag) (p : Addr × Obj) : List V → Hp → VK → Prop := fun xs H Q => ∃ (D dd : Addr), Zc (.ref D) (some dd) p.2 ∧ (∃ vs, p.2.data = .fields vs) ∧ ExcC K D ∧ rIsD K D p.1 dd xs H Q
theorem call_isP {X : Cx} {p : Addr × Obj} (hp : p ∈ X.pn) : CallR X (.builtin "isinstance") (rIsP X.K p) := by
  intro pins s σ H xs us Q I r h
  obtain ⟨D, dd, hz, hf, C, c, b, fs, rfl, hdd, hc, q⟩ := h
  obtain ⟨a, oe⟩ := p
  cases r with
  | cons rx rr =>
    cases rr with
    | cons rt rr =>
      cases rr
      cases rx
      obtain ⟨hget, _⟩ := I.pin (a, oe) (List.mem_append.mpr (.inl hp))
      have hx : ObjOk X.prog X.w H s.heap dd (.xd fs) := I.hok dd _ hdd
      obtain ⟨mA, hns, hr⟩ := hx
      obtain ⟨od, ho, hl⟩ := lookIn_ns hns
      obtain ⟨vs, hv⟩ := hf
      have J : PySem.W.InstAt s.heap a oe D (some od) := ⟨hget, hz.1, by unfold PySem.W.notCls; rw [show oe.data = _ from hv] <;> rfl, by rw [show oe.dict = _ from hz.2]; exact ho⟩
      rcases hc with ⟨cv, hcv, e⟩ | ⟨p, ws, cs, rfl, hT, hcs, e⟩
      · have ec := hcv _ rt
        subst ec
        exact PySem.W.kia_one (kitx_excD C) I.kIn J e (fun z => nomatch z) fun tk => ⟨.bl b, H, I.kept (t' := tk) fun _ _ z => z, rfl, q⟩
      · cases rt
        obtain ⟨its, rv, pl, hz2⟩ := I.tuple hT
        have := hcs _ rv
        subst this
        obtain ⟨⟨ocls, odict, odata, osl⟩, hto, hcl, n, hda⟩ := pl
        dsimp only at hcl hda
        subst hcl hda
        exact PySem.W.kia_tup (kitx_excD C) I.kIn J hto e (fun z => nomatch z) fun tk => ⟨.bl b, H, I.kept (t' := tk) fun _ _ z => z, rfl, q⟩
def tXfP (K : PySem.W.Frag) (p : Addr × Obj) (f : Str) (te : TE) : TE := fun σ H Q => te σ H fun x H1 => x = .ref p.1 ∧ ∃ (C dd : Addr) (fs : List (Str × V)) (v : V), Zc (.ref C) (some dd) p.2 ∧ (∃ vs, p.2.data = .fields vs) ∧ XfC K C ∧ PySem.W.findIn K (.ref C) f = some none ∧ H1 dd = some (.xd fs) ∧ fs.lookup f = some v ∧ Q v H1
theorem pe_xfP {X : Cx} {p : Addr × Obj} {e : Expr} {te : TE} {pos : Pos} {n : Str} (hp : p ∈ X.pn) (he : PE X e te) (hb : attributeBase e n X.env (eval e X.env) = eval e X.env := by rfl) : PE X (.Attribute e n pos) (tXfP X.K p n te) := by
  refine ⟨fun pins s σ H Q I h => ?_⟩
  refine attr_of hb (thn (he.run pins s σ H _ I h) fun u s1 hh => ?_)
  obtain ⟨x, H1, I1, rx, ex, C, dd, fs, v, hz, hf, T, hno, ea, l, q⟩ := hh
  obtain ⟨a, oe⟩ := p
  subst ex
  obtain rfl : u = Value.ref a := rx
  obtain ⟨ha, _⟩ := I1.pin (a, oe) (List.mem_append_left _ hp)
  obtain ⟨vs, hd⟩ := hf
  have hx : ObjOk X.prog X.w H1 s1.heap dd (.xd fs) := I1.hok dd _ ea
  obtain ⟨mA, hns, hr⟩ := hx
  obtain ⟨od, ho, hl⟩ := lookIn_ns hns
  obtain ⟨u, hu, ru⟩ := RelO.some_of (v := v) (o := mA n) (by rw [← l]; exact hr n)
  have J : PySem.W.InstAt s1.heap a oe C (some od) := ⟨ha, hz.1, by unfold PySem.W.notCls; rw [show oe.data = _ from hd] <;> rfl, by rw [show oe.dict = _ from hz.2]; exact ho⟩
  exact HandSPX.exc_get I1.kIn J T.ga T.gg T.exC (PySem.W.findObj_own T.hdC hno rfl (by rw [hl, hu])) (handed_of ru) ⟨v, H1, I1.tok _, ru, q⟩
end Q

set_option Elab.async false
set_option linter.all false
set_option maxRecDepth 100000
set_option maxHeartbeats 4000000
set_option pp.maxSteps 2500
namespace Q
open PySem PySem.Spec PyProof.Rows L2
/-! the steps' tactic: runs a reading up to a choice, a call, a loop, a store -/
local macro_rules | `(tactic| walk_at "w1") => `(tactic| (with_reducible first
  | refine w_var (by with_unfolding_all exact rfl) ?_
  | refine w_c ?_
  | refine w_op ?_
  | refine w_test ?_
  | refine w_tb ?_
  | refine w_cons ?_
  | refine w_nil ?_
  | refine w_cb ?_
  | refine w_call ?_
  | refine w_kw ?_
  | refine z_asg ?_
  | refine z_ret ?_
  | refine z_if ?_
  | refine z_drop ?_
  | refine g_name ?_
  | refine g_sub ?_
  | refine w_bm ?_
  | refine w_bm0 ?_
  | refine w_m1 ?_
  | refine w_m0 ?_
  | refine w_and ?_
  | refine w_or ?_
  | refine w_not ?_
  | refine w_chain ?_
  | refine w_andV ?_
  | refine w_orV ?_
  | refine w_notV ?_
  | refine w_if ?_
  | refine w_un ?_
  | refine w_sl ?_
  | refine w_part ?_
  | refine w_nopart ?_
  | refine w_tup ?_
  | refine w_lst ?_
  | refine w_yes ?_
  | refine z_for ?_
  | refine z_for1 ?_
  | refine w_ilist ?_
  | refine w_irng1 ?_
  | refine w_irng2 ?_
  | refine w_istr ?_
  | refine w_itup ?_
  | refine w_lc ?_
  | refine z_asg1 ?_
  | refine z_if1 ?_
  | refine z_drop1 ?_
  | refine z_next ?_
  | refine o_add ?_
  | refine o_sub ?_
  | refine o_lt ?_
  | refine o_le ?_
  | refine o_gt ?_
  | refine o_ge ?_
  | refine o_neg ?_
  | refine o_max2 ?_
  | refine o_min2 ?_
  | refine o_intB ?_
  | refine o_isn ?_
  | refine o_notn ?_
  | refine o_inc ?_
  | refine o_notinc ?_
  | refine o_eq (by with_unfolding_all exact rfl) ?_
  | refine o_ne (by with_unfolding_all exact rfl) ?_
  | refine o_ixLn (by first | assumption | exact upd_same) (by decide) (by with_unfolding_all exact rfl) ?_
  | refine o_ixTn (by first | assumption | exact upd_same) (by decide) (by with_unfolding_all exact rfl) ?_
  | refine g_tup (by first | assumption | exact upd_same) (by with_unfolding_all exact rfl) ?_
  | refine g_cons ?_
  | refine g_nil ?_
  | refine g_setLn (by first | assumption | exact upd_same) (by decide) (by with_unfolding_all exact rfl) ?_
  | refine p_2_61 ?_
  | refine p_10_18 ?_
  | refine p_10_15 ?_
  | refine p_10_30 ?_
  | refine p_10_29 ?_
  | refine iteT ?_
  | refine iteF ?_
  | refine ite_nt ?_
  | refine ite_nf ?_
  | refine ⟨_, rfl, ?_⟩
  | refine ⟨⟨_, rfl⟩, ?_⟩))
local macro_rules | `(tactic| walk_at "w") => `(tactic| (repeat walk_at "w1"))

/-! ### _law_error, called where the exception is handled -/
structure HF (K : PySem.W.Frag) (p : Addr × Obj) (nm : Str) (dd : Addr) (v : V) : Prop where
  hz : Zc (.ref (He.ga K nm)) (some dd) p.2
  hf : ∃ ws, p.2.data = .fields ws
  ec : ExcC K (He.ga K nm)
theorem w_isp {K : PySem.W.Frag} {p : Addr × Obj} {nm m : Str} {dd : Addr} {v : V} {b : Bool} {σ : L2.St} {H : Hp} {Q : VK} (F : HF K p nm dd v) (hdd : H dd = some (.xd [("value", v)])) (h0 : σ[0]? = some (some (.ref p.1))) (hk : PySem.W.kitOne K (.ref (He.ga K nm)) (.ref (He.ga K m)) = some b) (q : Q (.bl b) H) :
    tCB (rIsP K p) (tCons (tVar 0) (tCons (tC (.ref (He.ga K m))) tNil)) σ H Q :=
  w_cb (w_cons (w_var h0 (w_cons (w_c (w_nil ⟨_, dd, F.hz, F.hf, F.ec, _, b, _, rfl, hdd, .inl ⟨_, fun u r => r, hk⟩, q⟩)))))
theorem w_ispT {K : PySem.W.Frag} {p : Addr × Obj} {nm : Str} {m : String} {dd : Addr} {v : V} {b : Bool} {σ : L2.St} {H : Hp} {Q : VK} (F : HF K p nm dd v) (hdd : H dd = some (.xd [("value", v)])) (h0 : σ[0]? = some (some (.ref p.1))) (hk : PySem.W.kitOne K (.ref (He.ga K nm)) (.type m) = some b) (q : Q (.bl b) H) :
    tCB (rIsP K p) (tCons (tVar 0) (tCons (tC (.ty m)) tNil)) σ H Q :=
  w_cb (w_cons (w_var h0 (w_cons (w_c (w_nil ⟨_, dd, F.hz, F.hf, F.ec, _, b, _, rfl, hdd, .inl ⟨_, fun u r => r, hk⟩, q⟩)))))
theorem w_kind {K : PySem.W.Frag} {p : Addr × Obj} {nm m : Str} {dd : Addr} {v : V} {b : Bool} {σ : L2.St} {H : Hp} {Q : VK} (F : HF K p nm dd v) (hdd : H dd = some (.xd [("value", v)])) (h0 : σ[0]? = some (some (.ref p.1))) (hk : PySem.W.kitOne K (.ref (He.ga K nm)) (.ref (He.ga K m)) = some b)
    (q : ∀ t H2, Same H H2 → H2 t = some (.tup [.str m, .bl b]) → Q (.ref t) H2) : tTup (tCons (tC (.str m)) (tCons (tCB (rIsP K p) (tCons (tVar 0) (tCons (tC (.ref (He.ga K m))) tNil))) tNil)) σ H Q :=
  w_tup (w_cons (w_c (w_cons (w_isp F hdd h0 hk (w_nil ⟨by show 2 ≤ 16777216; decide, fun t ht => q t _ (same_upd ht) upd_same⟩)))))
/-- the eight classes, by the one that was raised -/
def errK (nm : Str) : List Str := ["BadRow", "BadCall", "BadCounts", "BadColour", "BadTimes", "BadGoal", "BadIndex", "BadText"]
/-- the tuples of the kinds -/
def KindL (H : Hp) : List V → List (Str × Bool) → Prop
  | [], [] => True
  | x :: xs, e :: es => (∃ t, x = .ref t ∧ H t = some (.tup [.str e.1, .bl e.2])) ∧ KindL H xs es
  | _, _ => False
theorem KindL.mono {H H' : Hp} (g : Same H H') : ∀ {xs : List V} {es : List (Str × Bool)}, KindL H xs es → KindL H' xs es
  | [], [], _ => True.intro
  | x :: xs, e :: es, h => by
    obtain ⟨⟨t, h1, h2⟩, h3⟩ := h
    exact ⟨⟨t, h1, g _ _ h2⟩, KindL.mono g h3⟩
  | [], _ :: _, h => h.elim
  | _ :: _, [], h => h.elim
theorem KindL.app {H : Hp} {ys : List V} {fs : List (Str × Bool)} (k : KindL H ys fs) : ∀ {xs : List V} {es : List (Str × Bool)}, KindL H xs es → KindL H (xs ++ ys) (es ++ fs)
  | [], [], _ => k
  | x :: xs, e :: es, h => ⟨h.1, KindL.app k h.2⟩
  | [], _ :: _, h => h.elim
  | _ :: _, [], h => h.elim
theorem KindL.len {H : Hp} : ∀ {xs : List V} {es : List (Str × Bool)}, KindL H xs es → xs.length = es.length
  | [], [], _ => rfl
  | x :: xs, e :: es, h => by rw [List.length_cons, List.length_cons, KindL.len h.2]
  | [], _ :: _, h => h.elim
  | _ :: _, [], h => h.elim
theorem KindL.at {H : Hp} : ∀ {xs : List V} {es : List (Str × Bool)} {i : Nat} {x : V}, KindL H xs es → xs[i]? = some x → ∃ e t, es[i]? = some e ∧ x = .ref t ∧ H t = some (.tup [.str e.1, .bl e.2])
  | x :: xs, e :: es, 0, y, h, hx => by
    obtain ⟨⟨t, h1, h2⟩, _⟩ := h
    cases hx
    exact ⟨e, t, rfl, h1, h2⟩
  | x :: xs, e :: es, i + 1, y, h, hx => KindL.at (i := i) h.2 hx
  | [], [], _, _, _, hx => by cases hx
  | [], _ :: _, _, _, h, _ => h.elim
  | _ :: _, [], _, _, h, _ => h.elim
/-- one display of two such tuples -/
theorem w_two {K : PySem.W.Frag} {p : Addr × Obj} {nm m1 m2 : Str} {dd : Addr} {v : V} {b1 b2 : Bool} {σ : L2.St} {H : Hp} {Q : VK} (F : HF K p nm dd v) (hdd : H dd = some (.xd [("value", v)])) (h0 : σ[0]? = some (some (.ref p.1))) (hk1 : PySem.W.kitOne K (.ref (He.ga K nm)) (.ref (He.ga K m1)) = some b1) (hk2 : PySem.W.kitOne K (.ref (He.ga K nm)) (.ref (He.ga K m2)) = some b2)
    (q : ∀ l xs H2, Same H H2 → H2 l = some (.lst xs) → KindL H2 xs [(m1, b1), (m2, b2)] → Q (.ref l) H2) :
    tLst (tCons (tTup (tCons (tC (.str m1)) (tCons (tCB (rIsP K p) (tCons (tVar 0) (tCons (tC (.ref (He.ga K m1))) tNil))) tNil))) (tCons (tTup (tCons (tC (.str m2)) (tCons (tCB (rIsP K p) (tCons (tVar 0) (tCons (tC (.ref (He.ga K m2))) tNil))) tNil))) tNil)) σ H Q := by
  refine w_lst (w_cons (w_kind F hdd h0 hk1 fun t1 H1 s1 h1 => w_cons (w_kind F (s1 _ _ hdd) h0 hk2 fun t2 H2 s2 h2 => w_nil ⟨by show 2 ≤ 16777216; decide, fun l hl => ?_⟩)))
  have s3 := same_upd (o := .lst [.ref t1, .ref t2]) hl
  exact q l _ _ ((s1.trans s2).trans s3) upd_same ⟨⟨t1, rfl, s3 _ _ (s2 _ _ h1)⟩, ⟨t2, rfl, s3 _ _ h2⟩, True.intro⟩
def sp_law_error (K : PySem.W.Frag) (p : Addr × Obj) : Sp := fun vs H Q _ => vs.length = 1 ∧ ∃ (dd : Addr) (v : V), vs = [.ref p.1] ∧ Zc (.ref (He.ga K "BadText")) (some dd) p.2 ∧ (∃ ws, p.2.data = .fields ws) ∧ H dd = some (.xd [("value", v)]) ∧
  ∀ r H', Same H H' → H' r = some (.lst [.str "BadText", v, .bl true]) → Q (.ref r) H'
def t_law_error (p : Addr × Obj) (K : PySem.W.Frag) : TS := (tSeq (tAsg (tLst (tCons (tTup (tCons (tC (.str "BadRow")) (tCons (tCB (rIsP K p) (tCons (tVar 0) (tCons (tC (.ref (He.ga K "BadRow"))) tNil))) tNil))) (tCons (tTup (tCons (tC (.str "BadCall")) (tCons (tCB (rIsP K p) (tCons (tVar 0) (tCons (tC (.ref (He.ga K "BadCall"))) tNil))) tNil))) tNil))) (gName 1))
    (tSeq (tAsg (tOp rCat (tVar 1) (tLst (tCons (tTup (tCons (tC (.str "BadCounts")) (tCons (tCB (rIsP K p) (tCons (tVar 0) (tCons (tC (.ref (He.ga K "BadCounts"))) tNil))) tNil))) (tCons (tTup (tCons (tC (.str "BadColour")) (tCons (tCB (rIsP K p) (tCons (tVar 0) (tCons (tC (.ref (He.ga K "BadColour"))) tNil))) tNil))) tNil)))) (gName 1))
    (tSeq (tAsg (tOp rCat (tVar 1) (tLst (tCons (tTup (tCons (tC (.str "BadTimes")) (tCons (tCB (rIsP K p) (tCons (tVar 0) (tCons (tC (.ref (He.ga K "BadTimes"))) tNil))) tNil))) (tCons (tTup (tCons (tC (.str "BadGoal")) (tCons (tCB (rIsP K p) (tCons (tVar 0) (tCons (tC (.ref (He.ga K "BadGoal"))) tNil))) tNil))) tNil)))) (gName 1))
    (tSeq (tAsg (tOp rCat (tVar 1) (tLst (tCons (tTup (tCons (tC (.str "BadIndex")) (tCons (tCB (rIsP K p) (tCons (tVar 0) (tCons (tC (.ref (He.ga K "BadIndex"))) tNil))) tNil))) (tCons (tTup (tCons (tC (.str "BadText")) (tCons (tCB (rIsP K p) (tCons (tVar 0) (tCons (tC (.ref (He.ga K "BadText"))) tNil))) tNil))) tNil)))) (gName 1))
    (tSeq (tAsg (tLc (iList K (tVar 1)) (gTup K 2 (gCons (gName 3) (gCons (gName 4) gNil))) (tB (tVar 4)) (tVar 3) [3, 4]) (gName 2))
    (tRet (tOp rCat (tVar 2) (tLst (tCons (tXfP K p "value" (tVar 0)) (tCons (tAndV (tCB (rIsP K p) (tCons (tVar 0) (tCons (tC (.ref (He.ga K "DrillError"))) tNil))) (tCB (rIsP K p) (tCons (tVar 0) (tCons (tC (.ty "ValueError")) tNil)))) tNil))))))))))

theorem pure_law_error {K : PySem.W.Frag} {p : Addr × Obj} {vs : List V} {H : Hp} {Q : VK} {E : XK} (X : ExF K "BadText" "DrillError" true)
    (Y : IsF K "BadText" [("BadRow", false), ("BadCall", false), ("BadCounts", false), ("BadColour", false), ("BadTimes", false), ("BadGoal", false), ("BadIndex", false), ("BadText", true), ("DrillError", true)] [("ValueError", true)] [])
    (h : sp_law_error K p vs H Q E) : t_law_error p K { nx := fun _ H' => Q .non H', rt := Q } (L2.start ["e", "kinds", "names", "name", "holds"] vs) H := by
  obtain ⟨_, dd, v, rfl, hz, hf, hdd, q⟩ := h
  have F : HF K p "BadText" dd v := ⟨hz, hf, Y.ec⟩
  have o := fun (m : Str) (b : Bool) (hm : (m, b) ∈ [(("BadRow" : Str), false), ("BadCall", false), ("BadCounts", false), ("BadColour", false), ("BadTimes", false), ("BadGoal", false), ("BadIndex", false), ("BadText", true), ("DrillError", true)]) => Y.one (m, b) hm
  dsimp only at o
  unfold t_law_error
  refine z_asg (w_two F hdd rfl (o "BadRow" false (by simp)) (o "BadCall" false (by simp)) fun l1 xs1 H1 s1 hl1 k1 => g_name ?_)
  refine z_asg (w_op (w_var rfl (w_two F (s1 _ _ hdd) rfl (o "BadCounts" false (by simp)) (o "BadColour" false (by simp)) fun l2 xs2 H2 s2 hl2 k2 => ?_)))
  refine ⟨l1, l2, xs1, xs2, rfl, rfl, s2 _ _ hl1, hl2, by rw [k1.len, k2.len]; show 2 + 2 ≤ 16777216; decide, fun l3 hl3 => g_name ?_⟩
  have s3 := s2.trans (same_upd (o := .lst (xs1 ++ xs2)) hl3)
  have k3 := KindL.app (k2.mono (same_upd (o := .lst (xs1 ++ xs2)) hl3)) (k1.mono s3)
  have hl3 : upd H2 l3 (.lst (xs1 ++ xs2)) l3 = some (.lst (xs1 ++ xs2)) := upd_same
  have s3 := s1.trans s3
  generalize upd H2 l3 (.lst (xs1 ++ xs2)) = H3 at *
  generalize xs1 ++ xs2 = xs3 at *
  refine z_asg (w_op (w_var rfl (w_two F (s3 _ _ hdd) rfl (o "BadTimes" false (by simp)) (o "BadGoal" false (by simp)) fun l4 xs4 H4 s4 hl4 k4 => ?_)))
  refine ⟨l3, l4, xs3, xs4, rfl, rfl, s4 _ _ hl3, hl4, by rw [k3.len, k4.len]; show 4 + 2 ≤ 16777216; decide, fun l5 hl5 => g_name ?_⟩
  have s5 := s4.trans (same_upd (o := .lst (xs3 ++ xs4)) hl5)
  have k5 := KindL.app (k4.mono (same_upd (o := .lst (xs3 ++ xs4)) hl5)) (k3.mono s5)
  have hl5 : upd H4 l5 (.lst (xs3 ++ xs4)) l5 = some (.lst (xs3 ++ xs4)) := upd_same
  have s5 := s3.trans s5
  generalize upd H4 l5 (.lst (xs3 ++ xs4)) = H5 at *
  generalize xs3 ++ xs4 = xs5 at *
  refine z_asg (w_op (w_var rfl (w_two F (s5 _ _ hdd) rfl (o "BadIndex" false (by simp)) (o "BadText" true (by simp)) fun l6 xs6 H6 s6 hl6 k6 => ?_)))
  refine ⟨l5, l6, xs5, xs6, rfl, rfl, s6 _ _ hl5, hl6, by rw [k5.len, k6.len]; show 6 + 2 ≤ 16777216; decide, fun l7 hl7 => g_name ?_⟩
  have s7 := s6.trans (same_upd (o := .lst (xs5 ++ xs6)) hl7)
  have k7 := KindL.app (k6.mono (same_upd (o := .lst (xs5 ++ xs6)) hl7)) (k5.mono s7)
  have hl7 : upd H6 l7 (.lst (xs5 ++ xs6)) l7 = some (.lst (xs5 ++ xs6)) := upd_same
  have s7 := s5.trans s7
  generalize upd H6 l7 (.lst (xs5 ++ xs6)) = H7 at *
  generalize xs5 ++ xs6 = xs7 at *
  have hes : (([("BadRow", false), ("BadCall", false)] : List (Str × Bool)) ++ ([("BadCounts", false), ("BadColour", false)] : List (Str × Bool)) ++ ([("BadTimes", false), ("BadGoal", false)] : List (Str × Bool)) ++ ([("BadIndex", false), ("BadText", true)] : List (Str × Bool))).filter (fun e => e.2) = ([("BadText", true)] : List (Str × Bool)) := rfl
  have hesl : (([("BadRow", false), ("BadCall", false)] : List (Str × Bool)) ++ ([("BadCounts", false), ("BadColour", false)] : List (Str × Bool)) ++ ([("BadTimes", false), ("BadGoal", false)] : List (Str × Bool)) ++ ([("BadIndex", false), ("BadText", true)] : List (Str × Bool))).length ≤ 16 := by decide
  generalize (([("BadRow", false), ("BadCall", false)] : List (Str × Bool)) ++ ([("BadCounts", false), ("BadColour", false)] : List (Str × Bool)) ++ ([("BadTimes", false), ("BadGoal", false)] : List (Str × Bool)) ++ ([("BadIndex", false), ("BadText", true)] : List (Str × Bool))) = es at *
  refine z_asg ?_
  walk_at "w"
  refine ⟨⟨_, SqL.of hl7⟩, fun Dl hDl => ?_⟩
  refine c_list xs7 (fun i H => Same H7 H ∧ H Dl = some (.lst (((es.take i).filter (fun e => e.2)).map fun e => V.str e.1))) ⟨same_upd hDl, upd_same⟩ (fun i H _ hi => SqL.of (hi.1 _ _ hl7)) (fun i x H' hx hi => ?_) (fun H8 h8 => ?_)
  · obtain ⟨e, t, he, rfl, ht⟩ := k7.at hx
    obtain ⟨i1, i2⟩ := hi
    have ht' := i1 _ _ ht
    have etk : es.take (i + 1) = es.take i ++ [e] := by rw [List.take_succ, he]; rfl
    walk_at "w"
    refine ⟨by with_unfolding_all rfl, ?_⟩
    walk_at "w"
    obtain ⟨m, b⟩ := e
    cases b with
    | false =>
      walk_at "w"
      refine ⟨i1, ?_⟩
      rw [etk, List.filter_append, show List.filter (fun e : Str × Bool => e.2) [(m, false)] = [] from rfl, List.append_nil]
      exact i2
    | true =>
      walk_at "w"
      refine ⟨_, i2, ?_, ?_⟩
      · rw [List.length_map]
        have h1 := List.length_filter_le (fun e : Str × Bool => e.2) (es.take i)
        have h2 := k7.len
        have h3 : (es.take i).length ≤ es.length := by rw [List.length_take]; exact Nat.min_le_right _ _
        have h4 : es.length ≤ 16 := hesl
        show _ < 16777216
        omega
      · have hne : ∀ b o, H7 b = some o → b ≠ Dl := fun b o e z => by rw [z, hDl] at e; cases e
        refine ⟨fun b o e => ?_, ?_⟩
        · rw [upd_ne (hne b o e)]
          exact i1 _ _ e
        · rw [upd_same, etk, List.filter_append, show List.filter (fun e : Str × Bool => e.2) [(m, true)] = [(m, true)] from rfl, List.map_append]
          rfl
  · obtain ⟨i1, i2⟩ := h8
    rw [k7.len, List.take_length, hes] at i2
    have s8 := s7.trans i1
    walk_at "w"
    show tVar 0 _ _ _
    refine w_var (by with_unfolding_all exact rfl) ⟨rfl, _, dd, _, v, hz, hf, X.xf, X.nov, s8 _ _ hdd, rfl, ?_⟩
    refine w_cons (w_andV (w_isp F (s8 _ _ hdd) (by with_unfolding_all exact rfl) (o "DrillError" true (by simp)) ⟨true, rfl, ?_⟩))
    rw [if_pos rfl]
    refine w_ispT F (s8 _ _ hdd) (by with_unfolding_all exact rfl) (Y.ty ("ValueError", true) List.mem_cons_self) ?_
    refine w_nil ?_
    refine ⟨by show 2 ≤ 16777216; decide, fun p9 hp9 => ?_⟩
    refine ⟨Dl, p9, _, _, rfl, rfl, same_upd hp9 _ _ i2, upd_same, by show 1 + 2 ≤ 16777216; decide, fun r hr => ?_⟩
    exact q r _ ((s8.trans (same_upd hp9)).trans (same_upd hr)) upd_same
end Q

set_option Elab.async false
set_option linter.all false
set_option maxRecDepth 100000
set_option maxHeartbeats 4000000
set_option pp.maxSteps 2500
namespace Q
open PySem PySem.Spec PyProof.Rows L2
/-! the steps' tactic: runs a reading up to a choice, a call, a loop, a store -/
local macro_rules | `(tactic| walk_at "w1") => `(tactic| (with_reducible first
  | refine w_var (by with_unfolding_all exact rfl) ?_
  | refine w_c ?_
  | refine w_op ?_
  | refine w_test ?_
  | refine w_tb ?_
  | refine w_cons ?_
  | refine w_nil ?_
  | refine w_cb ?_
  | refine w_call ?_
  | refine w_kw ?_
  | refine z_asg ?_
  | refine z_ret ?_
  | refine z_if ?_
  | refine z_drop ?_
  | refine g_name ?_
  | refine g_sub ?_
  | refine w_bm ?_
  | refine w_bm0 ?_
  | refine w_m1 ?_
  | refine w_m0 ?_
  | refine w_and ?_
  | refine w_or ?_
  | refine w_not ?_
  | refine w_chain ?_
  | refine w_andV ?_
  | refine w_orV ?_
  | refine w_notV ?_
  | refine w_if ?_
  | refine w_un ?_
  | refine w_sl ?_
  | refine w_part ?_
  | refine w_nopart ?_
  | refine w_tup ?_
  | refine w_lst ?_
  | refine w_yes ?_
  | refine z_for ?_
  | refine z_for1 ?_
  | refine w_ilist ?_
  | refine w_irng1 ?_
  | refine w_irng2 ?_
  | refine w_istr ?_
  | refine w_itup ?_
  | refine w_lc ?_
  | refine z_asg1 ?_
  | refine z_if1 ?_
  | refine z_drop1 ?_
  | refine z_next ?_
  | refine o_add ?_
  | refine o_sub ?_
  | refine o_lt ?_
  | refine o_le ?_
  | refine o_gt ?_
  | refine o_ge ?_
  | refine o_neg ?_
  | refine o_max2 ?_
  | refine o_min2 ?_
  | refine o_intB ?_
  | refine o_isn ?_
  | refine o_notn ?_
  | refine o_inc ?_
  | refine o_notinc ?_
  | refine o_eq (by with_unfolding_all exact rfl) ?_
  | refine o_ne (by with_unfolding_all exact rfl) ?_
  | refine o_ixLn (by first | assumption | exact upd_same) (by decide) (by with_unfolding_all exact rfl) ?_
  | refine o_ixTn (by first | assumption | exact upd_same) (by decide) (by with_unfolding_all exact rfl) ?_
  | refine g_tup (by first | assumption | exact upd_same) (by with_unfolding_all exact rfl) ?_
  | refine g_cons ?_
  | refine g_nil ?_
  | refine g_setLn (by first | assumption | exact upd_same) (by decide) (by with_unfolding_all exact rfl) ?_
  | refine p_2_61 ?_
  | refine p_10_18 ?_
  | refine p_10_15 ?_
  | refine p_10_30 ?_
  | refine p_10_29 ?_
  | refine iteT ?_
  | refine iteF ?_
  | refine ite_nt ?_
  | refine ite_nf ?_
  | refine ⟨_, rfl, ?_⟩
  | refine ⟨⟨_, rfl⟩, ?_⟩))
local macro_rules | `(tactic| walk_at "w") => `(tactic| (repeat walk_at "w1"))

/-! ### the law's own readers -/
def sp_law_number_of (K : PySem.W.Frag) : Sp := fun vs H Q _ => vs.length = 1 ∧ ∃ z : Str, vs = [.str z] ∧ z.length ≤ 100000 ∧ okS z ∧ ∀ H', Same H H' → Q (optI (readNumber z)) H'
def t_law_number_of (K : PySem.W.Frag) : TS := (tSeq (tIfS (tOr (tTest (tOp rEq (tVar 0) (tC (.str "")))) (tOr (tTest (tOp rGtI (tCB rLenS (tCons (tVar 0) tNil)) (tC (.int 30)))) (tTest (tOp (rNeD K) (tLc (iStr (tVar 0)) (gName 1) (tTest (tOp rNotInC (tVar 1) (tC (.str "0123456789")))) (tVar 1) [1]) (tLst tNil))))) (tRet (tC .non)) tNext)
    (tRet (tIf (tOr (tTest (tOp rNe (tOp rIxS (tVar 0) (tC (.int 0))) (tC (.str "0")))) (tTest (tOp rEq (tVar 0) (tC (.str "0"))))) (tCB rIntS (tCons (tVar 0) tNil)) (tC .non))))

theorem pure_law_number_of {K : PySem.W.Frag} {vs : List V} {H : Hp} {Q : VK} {E : XK} (h : sp_law_number_of K vs H Q E) : t_law_number_of K { nx := fun _ H' => Q .non H', rt := Q } (start ["word", "sign"] vs) H := by
  obtain ⟨_, z, rfl, hz, hok, q⟩ := h
  unfold t_law_number_of
  walk_at "w"
  by_cases hze : z = ("" : Str)
  · rw [decide_eq_true (show V.str z = V.str ("" : Str) by rw [hze])]
    walk_at "w"
    have e : readNumber z = none := by rw [hze]; decide +kernel
    rw [e] at q
    exact q _ (Same.refl _)
  rw [decide_eq_false (show ¬ V.str z = V.str ("" : Str) from fun e => hze (V.str.inj e))]
  walk_at "w"
  have h0 : 0 < z.length := by
    rcases Nat.eq_zero_or_pos z.length with e | e
    · exfalso
      refine hze (TL.ext_tl ?_)
      rw [TL.len_tl] at e
      rw [List.length_eq_zero_iff.mp e]
      decide +kernel
    · exact e
  refine o_lenS (small5 hz) ?_
  walk_at "w"
  by_cases h30 : z.length ≤ 30
  · rw [decide_eq_false (show ¬ (30 : Int) < (z.length : Int) by omega)]
    walk_at "w"
    intro Dl hDl
    refine c_str (fun i H' => Same H H' ∧ H' Dl = some (.lst ((((TL.tl z).take i).filter fun c => !isDig c).map fun c => V.str ⟨#[c]⟩))) ⟨same_upd hDl, upd_same⟩ (fun i c H' hc hi => ?_) (fun H' hi => ?_)
    · obtain ⟨i1, i2⟩ := hi
      have hc : (TL.tl z)[i]? = some c := hc
      have etk : (TL.tl z).take (i + 1) = (TL.tl z).take i ++ [c] := by rw [List.take_succ, hc]; rfl
      walk_at "w"
      refine ⟨by with_unfolding_all rfl, ?_⟩
      walk_at "w"
      have ed : (!decide (c ∈ TL.tl ("0123456789" : Str))) = !isDig c := rfl
      rw [ed]
      cases hd : (!isDig c) with
      | false =>
        walk_at "w"
        refine ⟨i1, ?_⟩
        rw [etk, List.filter_append, show List.filter (fun c => !isDig c) [c] = [] by rw [List.filter_cons, hd]; rfl, List.append_nil]
        exact i2
      | true =>
        walk_at "w"
        refine ⟨_, i2, ?_, ?_⟩
        · rw [List.length_map]
          have h1 := List.length_filter_le (fun c => !isDig c) ((TL.tl z).take i)
          have h2 : ((TL.tl z).take i).length ≤ z.length := by rw [List.length_take, ← TL.len_tl]; exact Nat.min_le_right _ _
          show _ < 16777216
          omega
        · refine ⟨fun b o e => ?_, ?_⟩
          · rw [upd_ne (fun e2 => by rw [e2, hDl] at e; cases e)]
            exact i1 _ _ e
          · rw [upd_same, etk, List.filter_append, show List.filter (fun c => !isDig c) [c] = [c] by rw [List.filter_cons, hd]; rfl, List.map_append]
            rfl
    · obtain ⟨e, hD⟩ := hi
      rw [show z.cps.toList = TL.tl z from rfl, List.take_length] at hD
      walk_at "w"
      refine ⟨Nat.zero_le _, fun p hp => ?_⟩
      have hD2 := same_upd (o := .lst []) hp _ _ hD
      have e2 := e.trans (same_upd (o := .lst []) hp)
      have hp2 : upd H' p (.lst []) p = some (.lst []) := upd_same
      generalize upd H' p (.lst []) = H2 at *
      have dta : ∀ l : List Nat, DtAll H2 (l.map fun c => V.str ⟨#[c]⟩) (l.map fun c => PyData.str ⟨#[c]⟩) := by
        intro l
        induction l with
        | nil => exact .nil
        | cons c r ih => exact .cons (.str _) ih
      refine o_neT (n := 2) (m := 2) (Dt.lst hD2 (dta _)) (Dt.lst hp2 .nil) (Sh.list ?_ fun d m => ?_) (Sh.nil (n := 1)) (by decide) (by decide) ?_
      · rw [List.length_map]
        have h1 := List.length_filter_le (fun c => !isDig c) (TL.tl z)
        rw [← TL.len_tl] at h1
        omega
      · obtain ⟨c, hc, rfl⟩ := List.mem_map.mp m
        exact Sh.str (strOk_iff.mpr fun x hx => by
          have : x = c := by simpa using (show x ∈ [c] from hx)
          rw [this]
          exact strOk_iff.mp hok c (List.mem_filter.mp hc).1)
      cases hf : (TL.tl z).filter fun c => !isDig c with
      | cons c r =>
        walk_at "w"
        have er : readNumber z = none := if_neg (fun h => by
          have h3 : isDig c = true := List.all_eq_true.mp h.2.2 c (List.mem_filter.mp (by rw [hf]; exact List.mem_cons_self)).1
          have h4 := (List.mem_filter.mp (show c ∈ (TL.tl z).filter fun c => !isDig c by rw [hf]; exact List.mem_cons_self)).2
          rw [h3] at h4
          cases h4)
        rw [er] at q
        exact q _ e2
      | nil =>
        have ha : (TL.tl z).all isDig = true := List.all_eq_true.mpr fun c m => by
          have := List.filter_eq_nil_iff.mp hf c m
          cases hd : isDig c with
          | true => rfl
          | false => rw [hd] at this; exact absurd rfl this
        rw [show (!PyData.eqv (PyData.list (List.map (fun c => PyData.str { cps := #[c] }) [])) (PyData.list [])) = false from rfl]
        walk_at "w"
        cases hl : TL.tl z with
        | nil =>
          rw [TL.len_tl, hl] at h0
          exact absurd h0 (by decide)
        | cons c r =>
          refine o_ixS' 0 rfl (small5 hz) (show (TL.tl z)[0]? = some c by rw [hl]; rfl) ?_
          walk_at "w"
          by_cases hc : c = 48
          · subst hc
            rw [show decide (V.str ⟨#[48]⟩ = V.str ("0" : Str)) = true by decide +kernel]
            walk_at "w"
            by_cases hz0 : z = ("0" : Str)
            · subst hz0
              rw [dec_self]
              walk_at "w"
              have er : readNumber ("0" : Str) = some 0 := by decide +kernel
              rw [er] at q
              exact ⟨_, 0, rfl, by decide +kernel, by decide, q _ e2⟩
            · rw [decide_eq_false (fun h => hz0 (V.str.inj h))]
              walk_at "w"
              have er : readNumber z = none := by
                unfold readNumber
                rw [if_pos ⟨h0, h30, ha⟩, if_neg]
                rw [hl]
                simp [hz0]
              rw [er] at q
              exact q _ e2
          · rw [show decide (V.str ⟨#[c]⟩ = V.str ("0" : Str)) = false from decide_eq_false (fun h => hc (by
              have h2 := congrArg TL.tl (V.str.inj h)
              rw [show TL.tl (⟨#[c]⟩ : Str) = [c] from rfl, show TL.tl ("0" : Str) = [48] by decide +kernel] at h2
              injection h2))]
            walk_at "w"
            have er : readNumber z = some ((NumText.digitsVal (TL.tl z) : Nat) : Int) := by
              unfold readNumber
              rw [if_pos ⟨h0, h30, ha⟩, if_pos (Or.inr (by rw [hl]; simp [hc]))]
            rw [er] at q
            refine ⟨z, _, rfl, intText_digits (x := z) (fun c hc => isDig_iff.mp (List.all_eq_true.mp ha c hc)) ?_ (by omega), by omega, q _ e2⟩
            rw [show z.cps.toList = c :: r from hl]
            simp
  · rw [decide_eq_true (show (30 : Int) < (z.length : Int) by omega)]
    walk_at "w"
    have e : readNumber z = none := if_neg (fun h => h30 h.2.1)
    rw [e] at q
    exact q _ (Same.refl _)
def sp_law_counts_of (K : PySem.W.Frag) : Sp := fun vs H Q _ => vs.length = 1 ∧ ∃ z : Str, vs = [.str z] ∧ z.length ≤ 90000 ∧ okS z ∧
  (∀ ns, readCounts z = some ns → ∀ p H', Same H H' → H' p = some (.lst (ns.map V.int)) → Q (.ref p) H') ∧ (readCounts z = none → ∀ H', Same H H' → Q .non H')
def t_law_counts_of (K : PySem.W.Frag) : TS := (tSeq (tAsg (tLc (iList K (tM1 rSplit (tVar 0) (tC (.str ",")))) (gName 2) tYes (tCall (sp_law_number_of K) [] E0 (tCons (tVar 2) tNil)) [2]) (gName 1))
    (tRet (tIf (tOr (tTest (tOp (rInD K) (tC .non) (tVar 1))) (tTest (tOp rNe (tCB (rLenL K) (tCons (tVar 1) tNil)) (tC (.int 6))))) (tC .non) (tVar 1))))

theorem pure_law_counts_of {K : PySem.W.Frag} {vs : List V} {H : Hp} {Q : VK} {E : XK} (h : sp_law_counts_of K vs H Q E) : t_law_counts_of K { nx := fun _ H' => Q .non H', rt := Q } (start ["text", "found", "word"] vs) H := by
  obtain ⟨_, z, rfl, hz, hok, q, qn⟩ := h
  unfold t_law_counts_of
  walk_at "w"
  refine ⟨_, _, rfl, rfl, by decide +kernel, Nat.le_trans (show z.length + 2 ≤ 100000 by omega) (by decide), fun p hp => ?_⟩
  walk_at "w"
  refine ⟨⟨_, SqL.of upd_same⟩, fun Dl hDl => ?_⟩
  have hw : ∀ y ∈ Txt.split z ("," : Str), y.length ≤ 90000 := fun y m => Nat.le_trans (part_le (by decide +kernel) (by decide +kernel) m) hz
  have hwo : okL (Txt.split z ("," : Str)) := split_ok (by decide +kernel) (by decide +kernel) hok
  refine c_pureL (j := 2) (Txt.split z ("," : Str)) V.str (fun y => optI (readNumber y)) ?_ hDl (SqL.of upd_same) (fun x => rfl) (fun y H' Q' m e q' => ?_) (fun H' e hD => ?_)
  · exact Nat.le_trans (PyProof.Rows.split_le _ _) (small5 (by omega))
  · walk_at "w"
    exact ⟨rfl, y, rfl, Nat.le_trans (hw y m) (by omega), hwo y m, q'⟩
  · have e0 : Same H H' := (same_upd hp).trans e
    have hD : H' Dl = some (.lst (((Txt.split z ("," : Str)).map readNumber).map optI)) := by
      rw [hD, List.map_map]
      rfl
    have hl := PyProof.Rows.split_le z ("," : Str)
    have hread : ∀ os : List (Option Int), os = (Txt.split z ("," : Str)).map readNumber → readCounts z = if os.length = 6 ∧ os.all (·.isSome) = true then some (os.filterMap id) else none := fun os e => by
      rw [e]
      rfl
    have hr := hread _ rfl
    have hlen : ((Txt.split z ("," : Str)).map readNumber).length ≤ 100000 := by
      rw [List.length_map]
      omega
    revert hr hD hlen
    generalize (Txt.split z ("," : Str)).map readNumber = os
    intro hD hr hlen
    walk_at "w"
    refine o_inD (n := 1) (m := 2) .non (Dt.lst hD (dt_optL os)) .non (Sh.list (by rw [List.length_map]; exact hlen) fun d m => ?_) (by decide) (by decide) ?_
    · obtain ⟨o, _, rfl⟩ := List.mem_map.mp m
      exact optN_sh o
    rw [any_nonN]
    cases ha : os.all (·.isSome) with
    | false =>
      rw [if_neg (fun z => by rw [ha] at z; cases z.2)] at hr
      walk_at "w"
      exact qn hr _ e0
    | true =>
      walk_at "w"
      refine o_lenL hD ?_
      walk_at "w"
      rw [List.length_map]
      by_cases h6 : os.length = 6
      · rw [if_pos ⟨h6, ha⟩] at hr
        rw [decide_eq_true (show V.int (os.length : Int) = V.int 6 by rw [h6]; rfl)]
        walk_at "w"
        refine q _ hr Dl H' e0 ?_
        rw [hD]
        congr 2
        exact (congrArg (List.map optI) (all_someN ha)).trans (by rw [List.map_map]; rfl)
      · rw [if_neg (fun z => h6 z.1)] at hr
        rw [decide_eq_false (fun e => h6 (by have := V.int.inj e; omega))]
        walk_at "w"
        exact qn hr _ e0
end Q

set_option Elab.async false
set_option linter.all false
set_option maxRecDepth 100000
set_option maxHeartbeats 4000000
set_option pp.maxSteps 2500
namespace Q
open PySem PySem.Spec PyProof.Rows L2
/-! the steps' tactic: runs a reading up to a choice, a call, a loop, a store -/
local macro_rules | `(tactic| walk_at "w1") => `(tactic| (with_reducible first
  | refine w_var (by with_unfolding_all exact rfl) ?_
  | refine w_c ?_
  | refine w_op ?_
  | refine w_test ?_
  | refine w_tb ?_
  | refine w_cons ?_
  | refine w_nil ?_
  | refine w_cb ?_
  | refine w_call ?_
  | refine w_kw ?_
  | refine z_asg ?_
  | refine z_ret ?_
  | refine z_if ?_
  | refine z_drop ?_
  | refine g_name ?_
  | refine g_sub ?_
  | refine w_bm ?_
  | refine w_bm0 ?_
  | refine w_m1 ?_
  | refine w_m0 ?_
  | refine w_and ?_
  | refine w_or ?_
  | refine w_not ?_
  | refine w_chain ?_
  | refine w_andV ?_
  | refine w_orV ?_
  | refine w_notV ?_
  | refine w_if ?_
  | refine w_un ?_
  | refine w_sl ?_
  | refine w_part ?_
  | refine w_nopart ?_
  | refine w_tup ?_
  | refine w_lst ?_
  | refine w_yes ?_
  | refine z_for ?_
  | refine z_for1 ?_
  | refine w_ilist ?_
  | refine w_irng1 ?_
  | refine w_irng2 ?_
  | refine w_istr ?_
  | refine w_itup ?_
  | refine w_lc ?_
  | refine z_asg1 ?_
  | refine z_if1 ?_
  | refine z_drop1 ?_
  | refine z_next ?_
  | refine o_add ?_
  | refine o_sub ?_
  | refine o_lt ?_
  | refine o_le ?_
  | refine o_gt ?_
  | refine o_ge ?_
  | refine o_neg ?_
  | refine o_max2 ?_
  | refine o_min2 ?_
  | refine o_intB ?_
  | refine o_isn ?_
  | refine o_notn ?_
  | refine o_inc ?_
  | refine o_notinc ?_
  | refine o_eq (by with_unfolding_all exact rfl) ?_
  | refine o_ne (by with_unfolding_all exact rfl) ?_
  | refine o_ixLn (by first | assumption | exact upd_same) (by decide) (by with_unfolding_all exact rfl) ?_
  | refine o_ixTn (by first | assumption | exact upd_same) (by decide) (by with_unfolding_all exact rfl) ?_
  | refine g_tup (by first | assumption | exact upd_same) (by with_unfolding_all exact rfl) ?_
  | refine g_cons ?_
  | refine g_nil ?_
  | refine g_setLn (by first | assumption | exact upd_same) (by decide) (by with_unfolding_all exact rfl) ?_
  | refine p_2_61 ?_
  | refine p_10_18 ?_
  | refine p_10_15 ?_
  | refine p_10_30 ?_
  | refine p_10_29 ?_
  | refine iteT ?_
  | refine iteF ?_
  | refine ite_nt ?_
  | refine ite_nf ?_
  | refine ⟨_, rfl, ?_⟩
  | refine ⟨⟨_, rfl⟩, ?_⟩))
local macro_rules | `(tactic| walk_at "w") => `(tactic| (repeat walk_at "w1"))

/-! ### the law's own reader of drills -/
theorem len_tl2 {w : Str} {l : List Nat} {a b : Nat} (e : TL.tl w = l ++ [a, b]) : w.length = l.length + 2 := by
  rw [TL.len_tl, e, List.length_append]
  rfl
theorem readCall_short {w : Str} (h : w.length < 3) : readCall w = none := by
  cases hk : readKd (head2 w) with
  | none => exact readCall_none hk
  | some k =>
    exfalso
    have hne := readKd_len hk
    obtain ⟨l, a, b, e⟩ := two_last hne
    have h1 := len_tl2 e
    rw [head2_app e] at hne
    have h2 : 0 < l.length := List.length_pos_iff.mpr hne
    omega
theorem three_last {w : Str} (h : ¬ w.length < 3) : ∃ l a b, TL.tl w = l ++ [a, b] := two_last fun e => by
  have h1 : (TL.tl (head2 w)).length = w.length - 2 := by
    show ((TL.tl w).take (w.length - 2)).length = _
    rw [List.length_take, ← TL.len_tl]
    omega
  rw [e] at h1
  have : ([] : List Nat).length = 0 := rfl
  omega
theorem isCall_one (k : Kd) (a b : Nat) : isCall (k, S1 a, S1 b) = (kdOk k && (isColN a && (isColN b && !decide (S1 a = S1 b)))) := rfl
theorem readCall_bad {w : Str} {l : List Nat} {a b : Nat} (e : TL.tl w = l ++ [a, b]) (h : ∀ k, readKd (head2 w) = some k → isCall (k, S1 a, S1 b) = false) : readCall w = none := by
  cases hk : readKd (head2 w) with
  | none => exact readCall_none hk
  | some k => rw [readCall_some e hk, h k hk, if_neg Bool.false_ne_true]
def sp_law_drill_of (K : PySem.W.Frag) : Sp := fun vs H Q _ => vs.length = 1 ∧ ∃ z : Str, vs = [.str z] ∧ z.length ≤ 90000 ∧ okS z ∧
  (∀ cs, readDrill z = some cs → ∀ p ys H', Same H H' → H' p = some (.lst ys) → DtAll H' ys (cs.map calD) → Q (.ref p) H') ∧ (readDrill z = none → ∀ H', Same H H' → Q .non H')
def t_law_drill_of (K : PySem.W.Frag) : TS := (tSeq (tIfS (tTest (tOp rEq (tVar 0) (tC (.str "-")))) (tRet (tLst tNil)) tNext)
    (tSeq (tAsg (tLst tNil) (gName 1))
    (tSeq (tFor (iList K (tM1 rSplit (tVar 0) (tC (.str " ")))) (gName 2) (tSeq (tIfS (tOr (tTest (tOp rLtI (tCB rLenS (tCons (tVar 2) tNil)) (tC (.int 3)))) (tOr (tTest (tOp rNotInC (tOp rIxS (tVar 2) (tUn (rU fun i => .int (-i)) (tC (.int 2)))) (tC (.str "abcdef")))) (tOr (tTest (tOp rNotInC (tOp rIxS (tVar 2) (tUn (rU fun i => .int (-i)) (tC (.int 1)))) (tC (.str "abcdef")))) (tTest (tOp rEq (tOp rIxS (tVar 2) (tUn (rU fun i => .int (-i)) (tC (.int 2)))) (tOp rIxS (tVar 2) (tUn (rU fun i => .int (-i)) (tC (.int 1))))))))) (tRet (tC .non)) tNext)
    (tSeq (tAsg (tSl rSlS (tVar 2) tNoPart (tPart (tUn (rU fun i => .int (-i)) (tC (.int 2))))) (gName 3))
    (tSeq (tIfS (tTest (tOp (rIn K true) (tVar 3) (tTup (tCons (tC (.str "all")) (tCons (tC (.str "swap")) tNil))))) (tSeq (tAsg (tCall (sp_law_number_of K) [] E0 (tCons (tVar 3) tNil)) (gName 3))
    (tIfS (tOr (tTest (tOp rIsN (tVar 3) (tC .non))) (tTest (tOp rEq (tVar 3) (tC (.int 0))))) (tRet (tC .non)) tNext)) tNext)
    (tDrop (tBM K "list" rAppend (tVar 1) (tCons (tTup (tCons (tVar 3) (tCons (tOp rIxS (tVar 2) (tUn (rU fun i => .int (-i)) (tC (.int 2)))) (tCons (tOp rIxS (tVar 2) (tUn (rU fun i => .int (-i)) (tC (.int 1)))) tNil)))) tNil)))))))
    (tRet (tVar 1)))))

local macro_rules | `(tactic| walk_at "ww") => `(tactic| repeat (first | walk_at "w1" | refine ite_nn ?_ | refine ite_nr ?_ | refine ite_dn ?_ | refine ite_dr ?_))
theorem drill_none {z : Str} {w : Str} (h0 : z ≠ ("-" : Str)) (m : w ∈ Txt.split z (" " : Str)) (h : readCall w = none) : readDrill z = none := by
  unfold readDrill
  rw [if_neg h0, if_neg fun ha => ?_]
  have := List.all_eq_true.mp ha (readCall w) (List.mem_map.mpr ⟨w, m, rfl⟩)
  rw [h] at this
  cases this
theorem drill_some {z : Str} {cs : List Cal} (h0 : z ≠ ("-" : Str)) (h : (Txt.split z (" " : Str)).map readCall = cs.map some) : readDrill z = some cs := by
  unfold readDrill
  rw [if_neg h0, h, if_pos]
  · congr 1
    rw [List.filterMap_map]
    show cs.filterMap (fun c => some c) = cs
    rw [List.filterMap_some]
  · rw [List.all_map]
    exact List.all_eq_true.mpr fun _ _ => rfl
theorem pure_law_drill_of {K : PySem.W.Frag} {vs : List V} {H : Hp} {Q : VK} {E : XK} (h : sp_law_drill_of K vs H Q E) : t_law_drill_of K { nx := fun _ H' => Q .non H', rt := Q } (start ["text", "found", "word", "kind"] vs) H := by
  obtain ⟨_, z, rfl, hz, hok, q, qn⟩ := h
  unfold t_law_drill_of
  walk_at "w"
  by_cases h0 : z = ("-" : Str)
  · rw [decide_eq_true (show V.str z = V.str ("-" : Str) by rw [h0])]
    walk_at "w"
    refine ⟨len_ok rfl, fun p hp => ?_⟩
    exact q [] (by rw [h0]; exact if_pos rfl) p [] _ (same_upd hp) upd_same .nil
  rw [decide_eq_false (fun e => h0 (V.str.inj e))]
  walk_at "w"
  refine ⟨len_ok rfl, fun f hf => ?_⟩
  walk_at "w"
  refine ⟨_, _, rfl, rfl, by decide +kernel, Nat.le_trans (show z.length + 2 ≤ 100000 by omega) (by decide), fun p hp => ?_⟩
  walk_at "w"
  have hpf : f ≠ p := fun e => by rw [e, upd_same] at hp; cases hp
  have hwl : ∀ y ∈ Txt.split z (" " : Str), y.length ≤ 90000 := fun y m => Nat.le_trans (part_le (by decide +kernel) (by decide +kernel) m) hz
  have hwo : okL (Txt.split z (" " : Str)) := split_ok (by decide +kernel) (by decide +kernel) hok
  have hn : ∀ w : Str, w ∈ Txt.split z (" " : Str) → readCall w = none → readDrill z = none := fun w => drill_none h0
  have hsm : ∀ cs : List Cal, (Txt.split z (" " : Str)).map readCall = cs.map some → readDrill z = some cs := fun cs => drill_some h0
  have hlen := PyProof.Rows.split_le z (" " : Str)
  generalize Txt.split z (" " : Str) = ws at *
  have hp1 : upd (upd H f (.lst [])) p (.lst (ws.map V.str)) p = some (.lst (ws.map V.str)) := upd_same
  have hf1 : upd (upd H f (.lst [])) p (.lst (ws.map V.str)) f = some (.lst []) := by rw [upd_ne hpf, upd_same]
  have s1 : Same H (upd (upd H f (.lst [])) p (.lst (ws.map V.str))) := (same_upd hf).trans (same_upd hp)
  generalize upd (upd H f (.lst [])) p (.lst (ws.map V.str)) = H1 at *
  have back : ∀ {H' : Hp}, Fr [f] H1 H' → Same H H' := fun {H'} fr b o e => fr b o (fun m => by
    rw [List.mem_singleton.mp m, hf] at e
    cases e) (s1 _ _ e)
  refine ⟨⟨_, SqL.of hp1⟩, f_list (ws.map V.str) (fun i σ H' => ∃ (cs : List Cal) (ys : List V) (x2 x3 : Option V), σ = [some (.str z), some (.ref f), x2, x3] ∧ (ws.take i).map readCall = cs.map some ∧ H' f = some (.lst ys) ∧ DtAll (cut [f] H') ys (cs.map calD) ∧ Fr [f] H1 H') ?_ ?_ ?_ ?_⟩
  · exact ⟨[], [], _, _, rfl, rfl, hf1, .nil, fun b o _ e => e⟩
  · rintro i σ H' _ ⟨cs, ys, x2, x3, rfl, h1, h2, h3, h4⟩
    exact SqL.of (h4 p _ (fun m => hpf (List.mem_singleton.mp m).symm) hp1)
  · rintro i x σ H2 hx ⟨cs, ys, x2, x3, rfl, h1, h2, h3, h4⟩
    rw [List.getElem?_map] at hx
    cases hw : ws[i]? with
    | none => rw [hw] at hx; cases hx
    | some w =>
    rw [hw] at hx
    cases hx
    have hwm := List.mem_of_getElem? hw
    have hw5 := small5 (Nat.le_trans (hwl w hwm) (by decide))
    walk_at "w"
    refine o_lenS hw5 ?_
    walk_at "w"
    by_cases hl3 : w.length < 3
    · rw [decide_eq_true (show (w.length : Int) < 3 by omega)]
      walk_at "w"
      exact qn (hn _ hwm (readCall_short hl3)) _ (back h4)
    rw [decide_eq_false (show ¬ (w.length : Int) < 3 by omega)]
    walk_at "w"
    obtain ⟨l, a, b, ez⟩ := three_last hl3
    have ha : atI (TL.tl w) (-2) = some a := by rw [ez]; exact atI_two
    have hb : atI (TL.tl w) (-1) = some b := by rw [ez]; exact atI_one
    refine ⟨w, _, a, rfl, rfl, hw5, ha, ?_⟩
    walk_at "w"
    rw [show (!decide (a ∈ ("abcdef" : Str).cps.toList)) = !isColN a from rfl]
    cases hca : isColN a with
    | false =>
      walk_at "w"
      exact qn (hn _ hwm (readCall_bad ez fun k _ => by rw [isCall_one, hca]; simp)) _ (back h4)
    | true =>
    walk_at "w"
    refine ⟨w, _, b, rfl, rfl, hw5, hb, ?_⟩
    walk_at "w"
    rw [show (!decide (b ∈ ("abcdef" : Str).cps.toList)) = !isColN b from rfl]
    cases hcb : isColN b with
    | false =>
      walk_at "w"
      exact qn (hn _ hwm (readCall_bad ez fun k _ => by rw [isCall_one, hcb]; simp)) _ (back h4)
    | true =>
    walk_at "w"
    refine ⟨w, _, a, rfl, rfl, hw5, ha, ?_⟩
    walk_at "w"
    refine ⟨w, _, b, rfl, rfl, hw5, hb, ?_⟩
    walk_at "w"
    by_cases hab : S1 a = S1 b
    · rw [decide_eq_true (show V.str ⟨#[a]⟩ = V.str ⟨#[b]⟩ from congrArg V.str hab)]
      walk_at "w"
      exact qn (hn _ hwm (readCall_bad ez fun k _ => by rw [isCall_one, decide_eq_true hab]; simp)) _ (back h4)
    rw [decide_eq_false (show ¬ V.str ⟨#[a]⟩ = V.str ⟨#[b]⟩ from fun e => hab (V.str.inj e))]
    walk_at "w"
    refine o_slS hw5 ?_
    rw [cut_head2]
    refine g_name ?_
    refine z_ifM (fun σ H3 => ∃ k : Kd, σ = [some (.str z), some (.ref f), some (.str w), some k.v] ∧ readKd (head2 w) = some k ∧ kdOk k = true ∧ Same H2 H3) ?_ fun R hR => ?_
    · rintro σ H3 ⟨k, rfl, hk, hko, e3⟩
      have h23 := e3 _ _ h2
      walk_at "w"
      refine ⟨ty_list h23, ?_⟩
      walk_at "w"
      refine ⟨w, _, a, rfl, rfl, hw5, ha, ?_⟩
      walk_at "w"
      refine ⟨w, _, b, rfl, rfl, hw5, hb, ?_⟩
      walk_at "w"
      refine ⟨len_ok rfl, fun t ht => ?_⟩
      refine w_nil ?_
      have htf : t ≠ f := fun e => by rw [e, h23] at ht; cases ht
      have hyl : ys.length ≤ 90002 := by
        have e1 := h3.length
        have e2 := congrArg List.length h1
        rw [List.length_map, List.length_map] at e2
        rw [List.length_map] at e1
        have e3 : (ws.take i).length ≤ ws.length := by rw [List.length_take]; exact Nat.min_le_right _ _
        omega
      refine o_append (same_upd ht _ _ h23) (by show _ < 16777216; omega) ?_
      have f2 : Fr [f] H2 (upd (upd H3 t (.tup [k.v, .str ⟨#[a]⟩, .str ⟨#[b]⟩])) f (.lst (ys ++ [.ref t]))) := fun b2 o2 m2 e2 => by
        rw [upd_ne (fun e => m2 (by rw [e]; exact List.mem_singleton.mpr rfl))]
        exact same_upd ht _ _ (e3 _ _ e2)
      have hcal : isCall (k, S1 a, S1 b) = true := by rw [isCall_one, hko, hca, hcb, decide_eq_false hab]; rfl
      refine ⟨cs ++ [(k, S1 a, S1 b)], ys ++ [.ref t], _, _, rfl, ?_, upd_same, ?_, fun b2 o2 m2 e2 => f2 b2 o2 m2 (h4 b2 o2 m2 e2)⟩
      · rw [List.take_succ, hw, List.map_append, List.map_append, h1]
        show _ ++ [readCall w] = _
        rw [readCall_some ez hk, hcal]
        rfl
      · rw [List.map_append]
        refine (h3.mono (Fr.cut f2)).append (.cons (Dt.ofCal (c := (k, S1 a, S1 b)) ?_) .nil)
        rw [cut_out (fun m => htf (List.mem_singleton.mp m)), upd_ne htf]
        exact upd_same
    · walk_at "w"
      refine ⟨len_ok rfl, fun p2 hp2 => ⟨p2, _, rfl, .inr (SqT.of upd_same), rfl, rfl, ?_⟩⟩
      walk_at "w"
      rw [if_pos rfl, in_all_swap]
      have s2 := same_upd (o := .tup [V.str "all", V.str "swap"]) hp2
      by_cases hk : head2 w = ("all" : Str) ∨ head2 w = ("swap" : Str)
      · have hb2 : (decide (head2 w = ("all" : Str)) || decide (head2 w = ("swap" : Str))) = true := by simpa using hk
        rw [hb2]
        walk_at "w"
        exact hR _ _ ⟨.txt (head2 w), rfl, (by unfold readKd; exact if_pos hk), hb2, s2⟩
      · have hb2 : (decide (head2 w = ("all" : Str)) || decide (head2 w = ("swap" : Str))) = false := by simpa using hk
        rw [hb2]
        walk_at "w"
        refine ⟨rfl, _, rfl, Nat.le_trans (head2_le w) (Nat.le_trans (hwl w hwm) (by decide)), (by rw [← cut_head2]; exact okS_cut none (some (-2)) (hwo w hwm)), fun H3 e3 => ?_⟩
        have f3 : Fr [f] H1 H3 := fun b2 o2 m2 e2 => e3 _ _ (s2 _ _ (h4 b2 o2 m2 e2))
        have hkd : readKd (head2 w) = (readNumber (head2 w)).map .num := by unfold readKd; exact if_neg hk
        cases hr : readNumber (head2 w) with
        | none =>
          walk_at "ww"
          exact qn (hn _ hwm (readCall_none (by rw [hkd, hr]; rfl))) _ (back f3)
        | some n =>
          have hn0 := readNumber_log hr
          rw [hr] at hkd
          have hkd : readKd (head2 w) = some (.num n) := hkd
          show gName 3 (.int n) _ _ _
          walk_at "ww"
          by_cases hz0 : n = 0
          · rw [decide_eq_true (show V.int n = V.int 0 by rw [hz0])]
            walk_at "ww"
            refine qn (hn _ hwm (readCall_bad ez fun k hk2 => ?_)) _ (back f3)
            rw [hkd] at hk2
            cases hk2
            rw [isCall_one, hz0]
            rfl
          · rw [decide_eq_false (show ¬ V.int n = V.int 0 from fun e => hz0 (V.int.inj e))]
            walk_at "ww"
            exact hR _ _ ⟨.num n, rfl, hkd, decide_eq_true (by omega), s2.trans e3⟩
  · rintro σ H2 ⟨cs, ys, x2, x3, rfl, h1, h2, h3, h4⟩
    walk_at "w"
    rw [List.length_map, List.take_length] at h1
    exact q cs (hsm cs h1) f ys _ (back h4) h2 (h3.mono cut_same)
end Q

set_option Elab.async false
set_option linter.all false
set_option maxRecDepth 100000
set_option maxHeartbeats 4000000
set_option pp.maxSteps 2500
namespace Q
open PySem PySem.Spec PyProof.Rows L2
/-! the steps' tactic: runs a reading up to a choice, a call, a loop, a store -/
local macro_rules | `(tactic| walk_at "w1") => `(tactic| (with_reducible first
  | refine w_var (by with_unfolding_all exact rfl) ?_
  | refine w_c ?_
  | refine w_op ?_
  | refine w_test ?_
  | refine w_tb ?_
  | refine w_cons ?_
  | refine w_nil ?_
  | refine w_cb ?_
  | refine w_call ?_
  | refine w_kw ?_
  | refine z_asg ?_
  | refine z_ret ?_
  | refine z_if ?_
  | refine z_drop ?_
  | refine g_name ?_
  | refine g_sub ?_
  | refine w_bm ?_
  | refine w_bm0 ?_
  | refine w_m1 ?_
  | refine w_m0 ?_
  | refine w_and ?_
  | refine w_or ?_
  | refine w_not ?_
  | refine w_chain ?_
  | refine w_andV ?_
  | refine w_orV ?_
  | refine w_notV ?_
  | refine w_if ?_
  | refine w_un ?_
  | refine w_sl ?_
  | refine w_part ?_
  | refine w_nopart ?_
  | refine w_tup ?_
  | refine w_lst ?_
  | refine w_yes ?_
  | refine z_for ?_
  | refine z_for1 ?_
  | refine w_ilist ?_
  | refine w_irng1 ?_
  | refine w_irng2 ?_
  | refine w_istr ?_
  | refine w_itup ?_
  | refine w_lc ?_
  | refine z_asg1 ?_
  | refine z_if1 ?_
  | refine z_drop1 ?_
  | refine z_next ?_
  | refine o_add ?_
  | refine o_sub ?_
  | refine o_lt ?_
  | refine o_le ?_
  | refine o_gt ?_
  | refine o_ge ?_
  | refine o_neg ?_
  | refine o_max2 ?_
  | refine o_min2 ?_
  | refine o_intB ?_
  | refine o_isn ?_
  | refine o_notn ?_
  | refine o_inc ?_
  | refine o_notinc ?_
  | refine o_eq (by with_unfolding_all exact rfl) ?_
  | refine o_ne (by with_unfolding_all exact rfl) ?_
  | refine o_ixLn (by first | assumption | exact upd_same) (by decide) (by with_unfolding_all exact rfl) ?_
  | refine o_ixTn (by first | assumption | exact upd_same) (by decide) (by with_unfolding_all exact rfl) ?_
  | refine g_tup (by first | assumption | exact upd_same) (by with_unfolding_all exact rfl) ?_
  | refine g_cons ?_
  | refine g_nil ?_
  | refine g_setLn (by first | assumption | exact upd_same) (by decide) (by with_unfolding_all exact rfl) ?_
  | refine p_2_61 ?_
  | refine p_10_18 ?_
  | refine p_10_15 ?_
  | refine p_10_30 ?_
  | refine p_10_29 ?_
  | refine iteT ?_
  | refine iteF ?_
  | refine ite_nt ?_
  | refine ite_nf ?_
  | refine ⟨_, rfl, ?_⟩
  | refine ⟨⟨_, rfl⟩, ?_⟩))
local macro_rules | `(tactic| walk_at "w") => `(tactic| (repeat walk_at "w1"))

def sp_law (K : PySem.W.Frag) : Sp := fun vs H Q _ => vs.length = 1 ∧ ∃ (a : Addr) (ns : List Int), vs = [.ref a] ∧ SqL K H a (ns.map V.int) ∧ ns.length ≤ 63 ∧ ∀ H', Q (.bl true) H'
def t_law (K : PySem.W.Frag) : TS := (tSeq (tAsg (tCall (sp_law_source K) [] E0 (tCons (tVar 0) tNil)) (gName 1))
    (tSeq (tAsg (tCall (sp_law_odd_texts K) [] E0 tNil) (gName 2))
    (tSeq (tFor (iRng1 (tCons (tOp rAddI (tC (.int 8)) (tOp rMulI (tC (.int 3)) (tCB (rLenL K) (tCons (tSl (rSlL K) (tVar 0) tNoPart (tPart (tC (.int 12)))) tNil)))) tNil)) (gName 3) (tSeq (tAsg (tCall (sp_law_written K) [] E0 (tCons (tCall (sp_law_long_orders K) [] E0 (tCons (tVar 1) (tCons (tC (.int 8)) tNil))) tNil)) (gName 4))
    (tSeq (tIfS (tTest (tOp rEq (tCall (sp_law_draw K) [] E0 (tCons (tVar 1) (tCons (tC (.int 10)) tNil))) (tC (.int 0)))) (tAsg (tOp (rIxL K) (tVar 2) (tCall (sp_law_draw K) [] E0 (tCons (tVar 1) (tCons (tCB (rLenL K) (tCons (tVar 2) tNil)) tNil)))) (gName 4)) tNext)
    (tSeq (tFor (iRng1 (tCons (tOp (rIxL K) (tLst (tCons (tC (.int 0)) (tCons (tC (.int 1)) (tCons (tC (.int 1)) (tCons (tC (.int 2)) (tCons (tC (.int 3)) tNil)))))) (tCall (sp_law_draw K) [] E0 (tCons (tVar 1) (tCons (tC (.int 5)) tNil)))) tNil)) (gName 5) (tAsg (tCall (sp_law_changed K) [] E0 (tCons (tVar 1) (tCons (tVar 4) (tCons (tVar 2) tNil)))) (gName 4)))
    (tSeq (tAsg (tSl rSlS (tVar 4) tNoPart (tPart (tC (.int 4000)))) (gName 4))
    (tSeq (tAsg (tC .non) (gName 6))
    (tSeq (tAsg (tC .non) (gName 7))
    (tSeq (tTry K "DrillError" 8 (fun _ _ _ _ => False) (fun W => (tAsg (tCallS (sp_read_drill K) (WE W) (tCons (tVar 4) tNil)) (gName 7))) (fun a cls d => (tAsg (tCall (spAll (sp_law_error K) a cls d) [] E0 (tCons (tVar 8) tNil)) (gName 6))))
    (tSeq (tAsg (tCall (sp_law_drill_of K) [] E0 (tCons (tVar 4) tNil)) (gName 9))
    (tSeq (tIfS (tAnd (tTest (tOp rIsN (tVar 9) (tC .non))) (tNot (tB (tCall (sp_law_same 3 K) [] E0 (tCons (tVar 6) (tCons (tLst (tCons (tC (.str "BadText")) (tCons (tVar 4) (tCons (tC (.bl true)) tNil)))) tNil)))))) (tRet (tC (.bl false))) tNext)
    (tIfS (tAnd (tTest (tOp rNotN (tVar 9) (tC .non))) (tOr (tTest (tOp rNotN (tVar 6) (tC .non))) (tNot (tB (tCall (sp_law_same 3 K) [] E0 (tCons (tVar 7) (tCons (tVar 9) tNil))))))) (tRet (tC (.bl false))) tNext)))))))))))
    (tRet (tC (.bl true))))))

local macro_rules | `(tactic| walk_at "ww") => `(tactic| repeat (first | walk_at "w1" | refine ite_nn ?_ | refine ite_nr ?_ | refine ite_dn ?_ | refine ite_dr ?_))
theorem drill_sh {cs : List Cal} {n : Nat} (hl : cs.length ≤ 100000) (h : ∀ c ∈ cs, goodC c = true) : Sh (n + 2) (drillD cs) := Sh.drill hl fun c m => okCal_of (goodC_iff.mp (h c m)).1
theorem pure_law {K : PySem.W.Frag} {vs : List V} {H : Hp} {Q : VK} {E : XK} (X : ExF K "BadText" "DrillError" true)
    (Y : IsF K "BadText" [("BadRow", false), ("BadCall", false), ("BadCounts", false), ("BadColour", false), ("BadTimes", false), ("BadGoal", false), ("BadIndex", false), ("BadText", true), ("DrillError", true)] [("ValueError", true)] [])
    (h : sp_law K vs H Q E) : t_law K { nx := fun _ H' => Q .non H', rt := Q } (start ["script", "source", "odd", "k", "text", "turn", "caught", "found", "e", "wanted"] vs) H := by
  obtain ⟨_, a, ns0, rfl, hS, hlen, q⟩ := h
  unfold t_law
  walk_at "w"
  refine ⟨rfl, a, ns0, rfl, hS, hlen, fun s d H1 _ _ e1 T1 => ?_⟩
  walk_at "w"
  refine ⟨rfl, fun o os H2 e2 ho0 hos hO => ?_⟩
  have T2 := T1.up e2
  have hom : o ∉ [s, d] := T1.trk.ne ho0
  walk_at "w"
  refine ⟨a, _, rfl, (e1.trans e2).seq hS, fun c hc => ?_⟩
  walk_at "w"
  refine o_lenL upd_same ?_
  walk_at "w"
  have hcl : (cutV (ns0.map V.int) none (some 12)).length ≤ 63 := by
    unfold cutV
    rw [List.length_take, List.length_drop, List.length_map]
    omega
  refine o_mul (.inl ⟨by decide, by decide⟩) ?_
  walk_at "w"
  refine ⟨by omega, by omega, f_rng (fun i σ H' => ∃ (x3 x4 x5 x6 x7 x8 x9 : Option V), σ = [some (.ref a), some (.ref s), some (.ref o), x3, x4, x5, x6, x7, x8, x9] ∧ Src s d (1000 * i) H' ∧ H' o = some (.lst (os.map V.str))) ?_ ?_ ?_⟩
  · exact ⟨none, none, none, none, none, none, none, rfl, T2.up (same_upd hc), same_upd hc _ _ hO⟩
  · rintro i σ H' hi ⟨x3, x4, x5, x6, x7, x8, x9, rfl, T3, hO3⟩
    have hi : i < 300 := by omega
    walk_at "w"
    refine ⟨rfl, s, d, _, 8, rfl, T3, by omega, by decide, by decide, fun p ys cs H3 hcl hg T4 f4 hp0 hp hD => ?_⟩
    have hcs : cs.length ≤ 8 := hcl
    walk_at "w"
    refine ⟨rfl, _, cs, rfl, .lst hp (hD.mono cut_same), hg, by omega, fun H4 e4 => ?_⟩
    have T5 := T4.up e4
    have hO5 := e4 _ _ (f4 _ _ hom hO3)
    have hz4 : (drillS cs).length ≤ bnd 0 := by
      have := drillS_len hg
      show _ ≤ 400
      omega
    have hk4 : okS (drillS cs) := drillS_ok hg
    revert hz4 hk4
    generalize drillS cs = z4
    intro hz4 hk4
    refine g_name ?_
    refine z_ifM (fun σ H5 => ∃ (z : Str) (x5 x6 x7 x8 x9 : Option V), σ = [some (.ref a), some (.ref s), some (.ref o), some (.int i), some (.str z), x5, x6, x7, x8, x9] ∧ z.length ≤ bnd 0 ∧ okS z ∧ Src s d (1000 * i + 210) H5 ∧ H5 o = some (.lst (os.map V.str))) ?_ fun R hR => ?_
    · rintro σ H6 ⟨z, x5, x6, x7, x8, x9, rfl, hz, hk, T6, hO6⟩
      walk_at "w"
      refine ⟨len_ok rfl, fun p6 hp6 => ?_⟩
      have hp6m : p6 ∉ [s, d] := T6.trk.ne hp6
      walk_at "w"
      refine u_draw (T6.up (same_upd hp6)) (by omega) (by decide) (by decide) fun r7 H7 a7 b7 T7 f7 => ?_
      have hp7 := f7 _ _ hp6m (upd_same (H := H6) (a := p6) (o := .lst [.int 0, .int 1, .int 1, .int 2, .int 3]))
      have hO7 := f7 _ _ hom (same_upd (o := .lst [.int 0, .int 1, .int 1, .int 2, .int 3]) hp6 _ _ hO6)
      obtain ⟨m, hm1, hm2, hm3⟩ : ∃ m : Int, [V.int 0, .int 1, .int 1, .int 2, .int 3][r7.toNat]? = some (.int m) ∧ 0 ≤ m ∧ m ≤ 3 := by
        have h4 : r7 = 0 ∨ r7 = 1 ∨ r7 = 2 ∨ r7 = 3 ∨ r7 = 4 := by omega
        rcases h4 with rfl | rfl | rfl | rfl | rfl
        · exact ⟨0, rfl, by decide, by decide⟩
        · exact ⟨1, rfl, by decide, by decide⟩
        · exact ⟨1, rfl, by decide, by decide⟩
        · exact ⟨2, rfl, by decide, by decide⟩
        · exact ⟨3, rfl, by decide, by decide⟩
      refine o_ixLn hp7 a7 hm1 ?_
      walk_at "w"
      refine ⟨by omega, by omega, f_rng (fun j σ H8 => ∃ (z : Str) (x5 x6 x7 x8 x9 : Option V), σ = [some (.ref a), some (.ref s), some (.ref o), some (.int i), some (.str z), x5, x6, x7, x8, x9] ∧ z.length ≤ bnd j ∧ okS z ∧ Src s d (1000 * i + 220 + 20 * j) H8 ∧ H8 o = some (.lst (os.map V.str))) ?_ ?_ ?_⟩
      · exact ⟨z, _, _, _, _, _, rfl, hz, hk, T7.more (by omega), hO7⟩
      · rintro j σ H8 hj ⟨z, x5, x6, x7, x8, x9, rfl, hz, hk, T8, hO8⟩
        have hj : j < 3 := by omega
        have hz2 : z.length ≤ 20000 := by
          have h3 : j = 0 ∨ j = 1 ∨ j = 2 := by omega
          rcases h3 with rfl | rfl | rfl
          · exact Nat.le_trans hz (by decide)
          · exact Nat.le_trans hz (by decide)
          · exact Nat.le_trans hz (by decide)
        walk_at "w"
        refine ⟨rfl, s, d, _, z, o, os, rfl, T8, by omega, hom, hO8, hos, hz2, hk, fun z' H9 hc T9 f9 => ?_⟩
        walk_at "w"
        exact ⟨z', _, _, _, _, _, rfl, (bnd_step hj hz hc).2, hc.2, T9.more (by omega), f9 _ _ hom hO8⟩
      · rintro σ H8 ⟨z, x5, x6, x7, x8, x9, rfl, hz, hk, T8, hO8⟩
        have hb := bnd_le m.toNat
        walk_at "w"
        refine o_slS (Nat.le_trans (Nat.le_trans hz hb) (by decide)) ?_
        walk_at "w"
        have hy4 := cut4 z
        have hyk := okS_cut none (some 4000) hk
        generalize cutS z none (some 4000) = y at *
        generalize hH8 : H8 = H80 at *
        refine z_tryM (fun σ H9 => ∃ (x5 x8 x9 : Option V) (v6 v7 : V), σ = [some (.ref a), some (.ref s), some (.ref o), some (.int i), some (.str y), x5, some v6, some v7, x8, x9] ∧ Same H80 H9 ∧
          ((∃ cs r, readDrill y = some cs ∧ v6 = .non ∧ v7 = .ref r ∧ Dt H9 (.ref r) (drillD cs)) ∨ ∃ r, readDrill y = none ∧ v7 = .non ∧ v6 = .ref r ∧ H9 r = some (.lst [.str "BadText", .str y, .bl true]))) ?_ fun R hR => ?_
        · rintro σ H9 ⟨x5, x8, x9, v6, v7, rfl, e9, hv⟩
          have T9 := T8.up e9
          have hO9 := e9 _ _ hO8
          walk_at "w"
          rcases hv with ⟨ns, r, hr, rfl, rfl, hr1⟩ | ⟨r, hr, rfl, rfl, hr1⟩
          · refine ⟨rfl, y, rfl, by omega, hyk, fun ns2 hr2 p2 ys2 H10 e10 hp2 hd2 => ?_, fun hr2 => (by rw [hr] at hr2; cases hr2)⟩
            rw [hr] at hr2
            cases hr2
            obtain ⟨g1, _, g3⟩ := readDrill_inv hr
            walk_at "ww"
            refine u_same (hr1.mono e10) (Dt.lst hp2 hd2) (drill_sh (n := 1) (by omega) g1) fun H11 e11 => ?_
            walk_at "ww"
            exact ⟨_, _, _, _, _, _, _, rfl, ((T9.up e10).up e11).more (by omega), e11 _ _ (e10 _ _ hO9)⟩
          · refine ⟨rfl, y, rfl, by omega, hyk, fun ns2 hr2 => (by rw [hr] at hr2; cases hr2), fun _ H10 e10 => ?_⟩
            walk_at "ww"
            refine ⟨len_ok rfl, fun p7 hp7 => ?_⟩
            have e11 := same_upd (o := .lst [.str "BadText", .str y, .bl true]) hp7
            walk_at "ww"
            refine u_same (d := .list [.str "BadText", .str y, .bool true]) (Dt.lst (e11 _ _ (e10 _ _ hr1)) (.cons (.str _) (.cons (.str _) (.cons (.bl _) .nil)))) (Dt.lst upd_same (.cons (.str _) (.cons (.str _) (.cons (.bl _) .nil)))) (Sh.list (by show 3 ≤ 100000; decide) fun d m => ?_) fun H12 e12 => ?_
            · simp only [List.mem_cons, List.not_mem_nil, or_false] at m
              rcases m with rfl | rfl | rfl
              · exact Sh.str (by decide +kernel)
              · exact Sh.str hyk
              · exact Sh.bl _
            walk_at "ww"
            exact ⟨_, _, _, _, _, _, _, rfl, (((T9.up e10).up e11).up e12).more (by omega), e12 _ _ (e11 _ _ (e10 _ _ hO9))⟩
        · walk_at "w"
          refine ⟨_, rfl, ?_⟩
          refine ⟨rfl, y, rfl, by omega, fun ns2 hr2 p2 ys2 H10 e10 hp0 hp2 hY => ?_, fun hr2 d2 H10 e10 hd0 hd2 => ?_⟩
          · walk_at "w"
            exact hR _ _ ⟨_, _, _, _, _, rfl, e10, .inl ⟨ns2, p2, hr2, rfl, rfl, .lst hp2 (hY.mono (cut_same.trans nw_same))⟩⟩
          · refine w_caught X.exm fun ea hea => ?_
            walk_at "w"
            intro oe hz hf
            refine ⟨rfl, d2, _, rfl, hz, hf, hd2, fun r H11 e11 hr11 => ?_⟩
            walk_at "w"
            exact hR _ _ ⟨_, _, _, _, _, rfl, e10.trans e11, .inr ⟨r, hr2, rfl, rfl, hr11⟩⟩
    · refine w_test ?_
      walk_at "w"
      refine u_draw T5 (by omega) (by omega) (by omega) fun r6 H6 a6 b6 T6 f6 => ?_
      walk_at "w"
      by_cases hr : r6 = 0
      · rw [decide_eq_true (show V.int r6 = V.int 0 by rw [hr])]
        walk_at "w"
        have hO6 := f6 _ _ hom hO5
        obtain ⟨o1, o2, o3⟩ := hos
        have hol : (os.map V.str).length = os.length := List.length_map ..
        refine o_lenL hO6 ?_
        rw [hol]
        walk_at "w"
        refine u_draw T6 (by omega) (by omega) (by omega) fun r7 H7 a7 b7 T7 f7 => ?_
        have i7 : r7.toNat < os.length := by omega
        have hO7 := f7 _ _ hom hO6
        refine o_ixLn hO7 a7 (by rw [List.getElem?_map, List.getElem?_eq_getElem i7]; rfl) ?_
        walk_at "w"
        obtain ⟨k5, k6⟩ := o3 _ (List.getElem_mem i7)
        exact hR _ _ ⟨_, _, _, _, _, _, rfl, Nat.le_trans k5 (by decide), k6, T7.more (by omega), hO7⟩
      · rw [decide_eq_false (fun e => hr (V.int.inj e))]
        walk_at "w"
        exact hR _ _ ⟨z4, _, _, _, _, _, rfl, hz4, hk4, T6.more (by omega), f6 _ _ hom hO5⟩
  · rintro σ H' ⟨x3, x4, x5, x6, x7, x8, x9, rfl, T3, hO3⟩
    walk_at "w"
    exact q _
end Q

set_option Elab.async false
set_option linter.all false
set_option maxRecDepth 100000
set_option maxHeartbeats 0
namespace Q
open PySem PySem.Spec PyProof.Rows L2
/-! ### the text by places, the head -/
def topS (i : Nat) : Stmt := PySem.Challenge.pw_drillrow_k42_invalid_drill_texts.main.body.getD i (.Pass ⟨0, 0, 0, 0⟩)
abbrev s_is_colour : Stmt := topS 14
abbrev s_is_call : Stmt := topS 15
abbrev s_read_number : Stmt := topS 21
abbrev s_read_call : Stmt := topS 22
abbrev s_read_drill : Stmt := topS 23
abbrev s_law_source : Stmt := topS 25
abbrev s_law_draw : Stmt := topS 26
abbrev s_law_same : Stmt := topS 27
abbrev s_law_shuffled : Stmt := topS 28
abbrev s_law_error : Stmt := topS 29
abbrev s_law_long : Stmt := topS 30
abbrev s_law_long_orders : Stmt := topS 31
abbrev s_law_written : Stmt := topS 32
abbrev s_law_sign : Stmt := topS 33
abbrev s_law_parts_changed : Stmt := topS 34
abbrev s_law_changed : Stmt := topS 35
abbrev s_law_odd_texts : Stmt := topS 36
abbrev s_law_number_of : Stmt := topS 37
abbrev s_law_drill_of : Stmt := topS 38
abbrev s_law : Stmt := topS 39
abbrev c_DrillError : Stmt := topS 1
abbrev c_BadRow : Stmt := topS 2
abbrev c_BadCall : Stmt := topS 3
abbrev c_BadCounts : Stmt := topS 4
abbrev c_BadColour : Stmt := topS 5
abbrev c_BadTimes : Stmt := topS 6
abbrev c_BadGoal : Stmt := topS 7
abbrev c_BadIndex : Stmt := topS 8
abbrev c_BadText : Stmt := topS 9
def hd_is_colour : He.DefD := ⟨("is_colour", none), "is_colour", "is_colour", defArgs s_is_colour, defBody s_is_colour, defScope s_is_colour, [], []⟩
def hd_is_call : He.DefD := ⟨("is_call", none), "is_call", "is_call", defArgs s_is_call, defBody s_is_call, defScope s_is_call, [], []⟩
def hd_read_number : He.DefD := ⟨("read_number", none), "read_number", "read_number", defArgs s_read_number, defBody s_read_number, defScope s_read_number, [], []⟩
def hd_read_call : He.DefD := ⟨("read_call", none), "read_call", "read_call", defArgs s_read_call, defBody s_read_call, defScope s_read_call, [], []⟩
def hd_read_drill : He.DefD := ⟨("read_drill", none), "read_drill", "read_drill", defArgs s_read_drill, defBody s_read_drill, defScope s_read_drill, [], []⟩
def hd_law_source : He.DefD := ⟨("_law_source", none), "_law_source", "_law_source", defArgs s_law_source, defBody s_law_source, defScope s_law_source, [], []⟩
def hd_law_draw : He.DefD := ⟨("_law_draw", none), "_law_draw", "_law_draw", defArgs s_law_draw, defBody s_law_draw, defScope s_law_draw, [], []⟩
def hd_law_same : He.DefD := ⟨("_law_same", none), "_law_same", "_law_same", defArgs s_law_same, defBody s_law_same, defScope s_law_same, [], []⟩
def hd_law_shuffled : He.DefD := ⟨("_law_shuffled", none), "_law_shuffled", "_law_shuffled", defArgs s_law_shuffled, defBody s_law_shuffled, defScope s_law_shuffled, [], []⟩
def hd_law_error : He.DefD := ⟨("_law_error", none), "_law_error", "_law_error", defArgs s_law_error, defBody s_law_error, defScope s_law_error, [], []⟩
def hd_law_long : He.DefD := ⟨("_law_long", none), "_law_long", "_law_long", defArgs s_law_long, defBody s_law_long, defScope s_law_long, [], []⟩
def hd_law_long_orders : He.DefD := ⟨("_law_long_orders", none), "_law_long_orders", "_law_long_orders", defArgs s_law_long_orders, defBody s_law_long_orders, defScope s_law_long_orders, [], []⟩
def hd_law_written : He.DefD := ⟨("_law_written", none), "_law_written", "_law_written", defArgs s_law_written, defBody s_law_written, defScope s_law_written, [], []⟩
def hd_law_sign : He.DefD := ⟨("_law_sign", none), "_law_sign", "_law_sign", defArgs s_law_sign, defBody s_law_sign, defScope s_law_sign, [], []⟩
def hd_law_parts_changed : He.DefD := ⟨("_law_parts_changed", none), "_law_parts_changed", "_law_parts_changed", defArgs s_law_parts_changed, defBody s_law_parts_changed, defScope s_law_parts_changed, [], []⟩
def hd_law_changed : He.DefD := ⟨("_law_changed", none), "_law_changed", "_law_changed", defArgs s_law_changed, defBody s_law_changed, defScope s_law_changed, [], []⟩
def hd_law_odd_texts : He.DefD := ⟨("_law_odd_texts", none), "_law_odd_texts", "_law_odd_texts", defArgs s_law_odd_texts, defBody s_law_odd_texts, defScope s_law_odd_texts, [], []⟩
def hd_law_number_of : He.DefD := ⟨("_law_number_of", none), "_law_number_of", "_law_number_of", defArgs s_law_number_of, defBody s_law_number_of, defScope s_law_number_of, [], []⟩
def hd_law_drill_of : He.DefD := ⟨("_law_drill_of", none), "_law_drill_of", "_law_drill_of", defArgs s_law_drill_of, defBody s_law_drill_of, defScope s_law_drill_of, [], []⟩
def hd_law : He.DefD := ⟨("law", none), "law", "law", defArgs s_law, defBody s_law, defScope s_law, [], []⟩
def s_init_BadText : Stmt := (clsBody c_BadText).getD 0 (.Pass ⟨0, 0, 0, 0⟩)
def hd_init_BadText : He.DefD := ⟨("BadText", some "__init__"), "__init__", "BadText.__init__", defArgs s_init_BadText, defBody s_init_BadText, defScope s_init_BadText, [], []⟩
def exL (K : PySem.W.Frag) : Bool := excB K "BadText" && (basB K "DrillError" && (isFB K "BadText" [("BadRow", false), ("BadCall", false), ("BadCounts", false), ("BadColour", false), ("BadTimes", false), ("BadGoal", false), ("BadIndex", false), ("BadText", true), ("DrillError", true)] [("ValueError", true)] []))
def fnL : List He.DefD := [hd_is_colour, hd_is_call, hd_read_number, hd_read_call, hd_read_drill, hd_law_source, hd_law_draw, hd_law_same, hd_law_shuffled, hd_law_error, hd_law_long, hd_law_long_orders, hd_law_written, hd_law_sign, hd_law_parts_changed, hd_law_changed, hd_law_odd_texts, hd_law_number_of, hd_law_drill_of, hd_law, hd_init_BadText]
def faL : List He.Fa := [.glo "is_colour", .glo "is_call", .glo "read_number", .glo "read_call", .glo "read_drill", .glo "_law_source", .glo "_law_draw", .glo "_law_same", .glo "_law_shuffled", .glo "_law_error", .glo "_law_long", .glo "_law_long_orders", .glo "_law_written", .glo "_law_sign", .glo "_law_parts_changed", .glo "_law_changed", .glo "_law_odd_texts", .glo "_law_number_of", .glo "_law_drill_of", .glo "law", .str "COLOURS" "abcdef", .str "ALL" "all", .str "SWAP" "swap", .str "SPACE" " ", .str "NO_CALLS" "-", .str "DIGITS" "0123456789", .int "MOST_DIGITS" 30, .free "len", .free "max", .free "list", .free "int", .free "str", .free "bool", .free "tuple", .free "range", .free "isinstance", .free "all", .free "ValueError", .glo "BadText", .glo "DrillError", .meth "BadText" "__init__", .exm "BadText" "DrillError" true, .glo "BadRow", .glo "BadCall", .glo "BadCounts", .glo "BadColour", .glo "BadTimes", .glo "BadGoal", .glo "BadIndex", .glo "BadText", .glo "DrillError"]
abbrev R0 : PySem.W.OpenRow := PySem.W.OpenLaw.row PySem.Challenge.rw_drillrow_k42_invalid_drill_texts
abbrev hk : PySem.W.Hook := hookX 6 faL fnL exL
def ob (s : PySem.W.SharedT) : AlX := obsXG 6 faL fnL exL (HandSHeadRun.getT s)
theorem ob_eq (s : PySem.W.SharedT) : ob s = hk.obs s.abs := obsXG_eq (HandSHeadRun.getT_eq s)
def looseL : List Str := [Str.ofString "DrillError", Str.ofString "BadRow", Str.ofString "BadCall", Str.ofString "BadCounts", Str.ofString "BadColour", Str.ofString "BadTimes", Str.ofString "BadGoal", Str.ofString "BadIndex", Str.ofString "BadText", Str.ofString "COLOURS", Str.ofString "ALL", Str.ofString "SWAP", Str.ofString "is_colour", Str.ofString "is_call", Str.ofString "SPACE", Str.ofString "NO_CALLS", Str.ofString "DIGITS", Str.ofString "MOST_DIGITS", Str.ofString "read_number", Str.ofString "read_call", Str.ofString "read_drill", Str.ofString "_law_source", Str.ofString "_law_draw", Str.ofString "_law_same", Str.ofString "_law_shuffled", Str.ofString "_law_error", Str.ofString "_law_long", Str.ofString "_law_long_orders", Str.ofString "_law_written", Str.ofString "_law_sign", Str.ofString "_law_parts_changed", Str.ofString "_law_changed", Str.ofString "_law_odd_texts", Str.ofString "_law_number_of", Str.ofString "_law_drill_of"]
theorem run0 (w : World) : HandSHeadRun.RunEq R0 (PySem.W.view R0.prog [39]) hk ob 3000 looseL w := by
  intro os
  kernel_rfl
/-! ### what the top has left -/
structure Txt (K : PySem.W.Frag) (mg : Str → Option Value) : Prop where
  f_law_source : HasDef K mg "_law_source" s_law_source
  f_law_odd_texts : HasDef K mg "_law_odd_texts" s_law_odd_texts
  f_law_written : HasDef K mg "_law_written" s_law_written
  f_law_number_of : HasDef K mg "_law_number_of" s_law_number_of
  f_law_drill_of : HasDef K mg "_law_drill_of" s_law_drill_of
  f_law_draw : HasDef K mg "_law_draw" s_law_draw
  f_law_shuffled : HasDef K mg "_law_shuffled" s_law_shuffled
  f_law_long : HasDef K mg "_law_long" s_law_long
  f_law_long_orders : HasDef K mg "_law_long_orders" s_law_long_orders
  f_law_parts_changed : HasDef K mg "_law_parts_changed" s_law_parts_changed
  f_law_sign : HasDef K mg "_law_sign" s_law_sign
  f_law_changed : HasDef K mg "_law_changed" s_law_changed
  f_read_number : HasDef K mg "read_number" s_read_number
  f_is_colour : HasDef K mg "is_colour" s_is_colour
  f_is_call : HasDef K mg "is_call" s_is_call
  f_read_call : HasDef K mg "read_call" s_read_call
  f_read_drill : HasDef K mg "read_drill" s_read_drill
  f_law_error : HasDef K mg "_law_error" s_law_error
  f_law_same : HasDef K mg "_law_same" s_law_same
  f_law : HasDef K mg "law" s_law
  c_COLOURS : HasStr mg "COLOURS" "abcdef"
  c_ALL : HasStr mg "ALL" "all"
  c_SWAP : HasStr mg "SWAP" "swap"
  c_SPACE : HasStr mg "SPACE" " "
  c_NO_CALLS : HasStr mg "NO_CALLS" "-"
  c_DIGITS : HasStr mg "DIGITS" "0123456789"
  c_MOST_DIGITS : HasInt mg "MOST_DIGITS" 30
  b_len : mg "len" = none
  b_max : mg "max" = none
  b_list : mg "list" = none
  b_int : mg "int" = none
  b_str : mg "str" = none
  b_bool : mg "bool" = none
  b_tuple : mg "tuple" = none
  b_range : mg "range" = none
  b_isinstance : mg "isinstance" = none
  b_all : mg "all" = none
  b_ValueError : mg "ValueError" = none
  e_DrillError : HasBase K mg "DrillError"
  e_BadText : HasExc K mg "BadText" "BadText.__init__" s_init_BadText
  x_BadText_DrillError : PySem.W.exmOne K (.ref (He.ga K "BadText")) (.ref (He.ga K "DrillError")) = some true
  i_BadText : IsF K "BadText" [("BadRow", false), ("BadCall", false), ("BadCounts", false), ("BadColour", false), ("BadTimes", false), ("BadGoal", false), ("BadIndex", false), ("BadText", true), ("DrillError", true)] [("ValueError", true)] []
  g_BadRow : mg "BadRow" = some (.ref (He.ga K "BadRow"))
  g_BadCall : mg "BadCall" = some (.ref (He.ga K "BadCall"))
  g_BadCounts : mg "BadCounts" = some (.ref (He.ga K "BadCounts"))
  g_BadColour : mg "BadColour" = some (.ref (He.ga K "BadColour"))
  g_BadTimes : mg "BadTimes" = some (.ref (He.ga K "BadTimes"))
  g_BadGoal : mg "BadGoal" = some (.ref (He.ga K "BadGoal"))
  g_BadIndex : mg "BadIndex" = some (.ref (He.ga K "BadIndex"))
  g_BadText : mg "BadText" = some (.ref (He.ga K "BadText"))
  g_DrillError : mg "DrillError" = some (.ref (He.ga K "DrillError"))
theorem txt_of {K : PySem.W.Frag} {h : Heap} {mg : Str → Option Value} (X : K.In h) (G : h.Ns mainGlobals mg) (c : He.SaysD faL fnL K) (ce : exL K = true) : Txt K mg := {
  f_law_source := by
    obtain ⟨fd, F⟩ := c.def_ 5 (d := hd_law_source) rfl
    exact ⟨fd, F, He.glo_ok X G (c.fact 5 (f := .glo "_law_source") rfl)⟩
  f_law_odd_texts := by
    obtain ⟨fd, F⟩ := c.def_ 16 (d := hd_law_odd_texts) rfl
    exact ⟨fd, F, He.glo_ok X G (c.fact 16 (f := .glo "_law_odd_texts") rfl)⟩
  f_law_written := by
    obtain ⟨fd, F⟩ := c.def_ 12 (d := hd_law_written) rfl
    exact ⟨fd, F, He.glo_ok X G (c.fact 12 (f := .glo "_law_written") rfl)⟩
  f_law_number_of := by
    obtain ⟨fd, F⟩ := c.def_ 17 (d := hd_law_number_of) rfl
    exact ⟨fd, F, He.glo_ok X G (c.fact 17 (f := .glo "_law_number_of") rfl)⟩
  f_law_drill_of := by
    obtain ⟨fd, F⟩ := c.def_ 18 (d := hd_law_drill_of) rfl
    exact ⟨fd, F, He.glo_ok X G (c.fact 18 (f := .glo "_law_drill_of") rfl)⟩
  f_law_draw := by
    obtain ⟨fd, F⟩ := c.def_ 6 (d := hd_law_draw) rfl
    exact ⟨fd, F, He.glo_ok X G (c.fact 6 (f := .glo "_law_draw") rfl)⟩
  f_law_shuffled := by
    obtain ⟨fd, F⟩ := c.def_ 8 (d := hd_law_shuffled) rfl
    exact ⟨fd, F, He.glo_ok X G (c.fact 8 (f := .glo "_law_shuffled") rfl)⟩
  f_law_long := by
    obtain ⟨fd, F⟩ := c.def_ 10 (d := hd_law_long) rfl
    exact ⟨fd, F, He.glo_ok X G (c.fact 10 (f := .glo "_law_long") rfl)⟩
  f_law_long_orders := by
    obtain ⟨fd, F⟩ := c.def_ 11 (d := hd_law_long_orders) rfl
    exact ⟨fd, F, He.glo_ok X G (c.fact 11 (f := .glo "_law_long_orders") rfl)⟩
  f_law_parts_changed := by
    obtain ⟨fd, F⟩ := c.def_ 14 (d := hd_law_parts_changed) rfl
    exact ⟨fd, F, He.glo_ok X G (c.fact 14 (f := .glo "_law_parts_changed") rfl)⟩
  f_law_sign := by
    obtain ⟨fd, F⟩ := c.def_ 13 (d := hd_law_sign) rfl
    exact ⟨fd, F, He.glo_ok X G (c.fact 13 (f := .glo "_law_sign") rfl)⟩
  f_law_changed := by
    obtain ⟨fd, F⟩ := c.def_ 15 (d := hd_law_changed) rfl
    exact ⟨fd, F, He.glo_ok X G (c.fact 15 (f := .glo "_law_changed") rfl)⟩
  f_read_number := by
    obtain ⟨fd, F⟩ := c.def_ 2 (d := hd_read_number) rfl
    exact ⟨fd, F, He.glo_ok X G (c.fact 2 (f := .glo "read_number") rfl)⟩
  f_is_colour := by
    obtain ⟨fd, F⟩ := c.def_ 0 (d := hd_is_colour) rfl
    exact ⟨fd, F, He.glo_ok X G (c.fact 0 (f := .glo "is_colour") rfl)⟩
  f_is_call := by
    obtain ⟨fd, F⟩ := c.def_ 1 (d := hd_is_call) rfl
    exact ⟨fd, F, He.glo_ok X G (c.fact 1 (f := .glo "is_call") rfl)⟩
  f_read_call := by
    obtain ⟨fd, F⟩ := c.def_ 3 (d := hd_read_call) rfl
    exact ⟨fd, F, He.glo_ok X G (c.fact 3 (f := .glo "read_call") rfl)⟩
  f_read_drill := by
    obtain ⟨fd, F⟩ := c.def_ 4 (d := hd_read_drill) rfl
    exact ⟨fd, F, He.glo_ok X G (c.fact 4 (f := .glo "read_drill") rfl)⟩
  f_law_error := by
    obtain ⟨fd, F⟩ := c.def_ 9 (d := hd_law_error) rfl
    exact ⟨fd, F, He.glo_ok X G (c.fact 9 (f := .glo "_law_error") rfl)⟩
  f_law_same := by
    obtain ⟨fd, F⟩ := c.def_ 7 (d := hd_law_same) rfl
    exact ⟨fd, F, He.glo_ok X G (c.fact 7 (f := .glo "_law_same") rfl)⟩
  f_law := by
    obtain ⟨fd, F⟩ := c.def_ 19 (d := hd_law) rfl
    exact ⟨fd, F, He.glo_ok X G (c.fact 19 (f := .glo "law") rfl)⟩
  c_COLOURS := He.str_ok X G (c.fact 20 (f := .str "COLOURS" "abcdef") rfl)
  c_ALL := He.str_ok X G (c.fact 21 (f := .str "ALL" "all") rfl)
  c_SWAP := He.str_ok X G (c.fact 22 (f := .str "SWAP" "swap") rfl)
  c_SPACE := He.str_ok X G (c.fact 23 (f := .str "SPACE" " ") rfl)
  c_NO_CALLS := He.str_ok X G (c.fact 24 (f := .str "NO_CALLS" "-") rfl)
  c_DIGITS := He.str_ok X G (c.fact 25 (f := .str "DIGITS" "0123456789") rfl)
  c_MOST_DIGITS := He.int_ok X G (c.fact 26 (f := .int "MOST_DIGITS" 30) rfl)
  b_len := He.free_ok X G (c.fact 27 (f := .free "len") rfl)
  b_max := He.free_ok X G (c.fact 28 (f := .free "max") rfl)
  b_list := He.free_ok X G (c.fact 29 (f := .free "list") rfl)
  b_int := He.free_ok X G (c.fact 30 (f := .free "int") rfl)
  b_str := He.free_ok X G (c.fact 31 (f := .free "str") rfl)
  b_bool := He.free_ok X G (c.fact 32 (f := .free "bool") rfl)
  b_tuple := He.free_ok X G (c.fact 33 (f := .free "tuple") rfl)
  b_range := He.free_ok X G (c.fact 34 (f := .free "range") rfl)
  b_isinstance := He.free_ok X G (c.fact 35 (f := .free "isinstance") rfl)
  b_all := He.free_ok X G (c.fact 36 (f := .free "all") rfl)
  b_ValueError := He.free_ok X G (c.fact 37 (f := .free "ValueError") rfl)
  e_DrillError := basB_ok (He.glo_ok X G (c.fact 39 (f := .glo "DrillError") rfl)) (He.ba (He.ba ce).2).1
  e_BadText := hasExc (He.glo_ok X G (c.fact 38 (f := .glo "BadText") rfl)) (He.ba ce).1 (He.meth_ok (c.fact 40 (f := .meth "BadText" "__init__") rfl)) (c.def_ 20 (d := hd_init_BadText) rfl)
  x_BadText_DrillError := He.exm_ok (c.fact 41 (f := .exm "BadText" "DrillError" true) rfl)
  i_BadText := isFB_ok (He.ba (He.ba ce).2).2
  g_BadRow := He.glo_ok X G (c.fact 42 (f := .glo "BadRow") rfl)
  g_BadCall := He.glo_ok X G (c.fact 43 (f := .glo "BadCall") rfl)
  g_BadCounts := He.glo_ok X G (c.fact 44 (f := .glo "BadCounts") rfl)
  g_BadColour := He.glo_ok X G (c.fact 45 (f := .glo "BadColour") rfl)
  g_BadTimes := He.glo_ok X G (c.fact 46 (f := .glo "BadTimes") rfl)
  g_BadGoal := He.glo_ok X G (c.fact 47 (f := .glo "BadGoal") rfl)
  g_BadIndex := He.glo_ok X G (c.fact 48 (f := .glo "BadIndex") rfl)
  g_BadText := He.glo_ok X G (c.fact 49 (f := .glo "BadText") rfl)
  g_DrillError := He.glo_ok X G (c.fact 50 (f := .glo "DrillError") rfl)
}
section
variable {P : Program} {w : World} {K : PySem.W.Frag} {mg : Str → Option Value} {base : Heap}
theorem sc_init_BadText : FnScope ["self", "value"] ["self", "value"] (defScope s_init_BadText) := ⟨rfl, rfl, rfl, by decide +kernel, rfl, by decide +kernel, by decide +kernel⟩
theorem ok_init_BadText (T : Txt K mg) : ExcOk P w K mg base (He.ga K "BadText") (He.ma K (He.ga K "BadText") "__init__") := by
  have sc := sc_init_BadText
  obtain ⟨fd, F⟩ := T.e_BadText.fn
  refine ⟨fd, F.ok (k := 0) sc (fun _ _ _ _ h => h.1) (fun cdv A outer s H vs Q E hr h => ⟨tI K "invalid text", PSs.nox (?_), pure_I T.e_BadText.oex T.e_BadText.nov h⟩), F.bindsN (fun _ _ _ _ _ _ us hl => match us, hl with | [_, _], _ => rfl)⟩
  exact pss_cons (ps_expr (pe_dinit rfl T.e_DrillError (pa_cons (pv 0) (pa_cons pe_str pa_nil)))) (pss_one (ps_ost (pv 0) (pv 1)))

theorem sc_law_source : FnScope ["script", "mix", "digits", "cell", "size"] ["script"] (defScope s_law_source) := ⟨rfl, rfl, rfl, by decide +kernel, rfl, by decide +kernel, by decide +kernel⟩
theorem ok_law_source (T : Txt K mg) : Def P w K mg base CX0 1 "_law_source" ["script"] s_law_source (sp_law_source K) := by
  have sc := sc_law_source
  refine T.f_law_source.ok sc (fun _ _ _ _ h => h.1) (fun _ _ _ _ _ _ us hl => match us, hl with | [_], _ => rfl) (fun f cdv A outer s H vs Q E hr h => ⟨t_law_source K, PSs.nox (?_), pure_law_source h⟩)
  exact (pss_cons (ps_set (i := 1) sc.nd rfl (.inl rfl) pe_int)
    (pss_cons (ps_set (i := 2) sc.nd rfl (.inl rfl) (pe_lst pa_nil))
    (pss_cons (ps_for PassesOwn.never rfl (pi_list (pv 0)) (pg_name (i := 3) sc.nd rfl (Or.inl rfl)) (pss_cons (ps_set (i := 1) sc.nd rfl (.inl rfl) (pe_op op_mod (pe_op op_add (pe_op op_mul (pv 1) pe_int) (pv 3)) (pe_op op_sub (pe_op op_pow pe_int pe_int) pe_int)))
    (pss_cons (ps_set (i := 4) sc.nd rfl (.inl rfl) (pe_callB (call_max2 rfl) (by rfl) T.b_max boot_max (pa_cons (pv 3) (pa_cons (pe_op op_sub pe_int (pv 3)) pa_nil))))
    (pss_one (ps_if (pt_cmpR op_ge (pv 4) (pe_op op_pow pe_int pe_int) (nomark _)) (pss_one (ps_expr (pe_bm PySem.F.plainAttrs_list PySem.F.slot_list_append PySem.F.type_list_append mt_append (pv 2) (pa_cons (pe_op op_sub (pv 4) (pe_op op_pow pe_int pe_int)) pa_nil)))) pss_nil)))))
    (pss_one (ps_ret (pe_lst (pa_cons (pv 2) (pa_cons pe_int (pa_cons (pv 1) (pa_cons pe_int pa_nil))))))))))

theorem sc_law_odd_texts : FnScope ["some"] [] (defScope s_law_odd_texts) := ⟨rfl, rfl, rfl, by decide +kernel, rfl, by decide +kernel, by decide +kernel⟩
theorem ok_law_odd_texts (T : Txt K mg) : Def P w K mg base CX0 1 "_law_odd_texts" [] s_law_odd_texts (sp_law_odd_texts K) := by
  have sc := sc_law_odd_texts
  refine T.f_law_odd_texts.ok sc (fun _ _ _ _ h => h.1) (fun _ _ _ _ _ _ us hl => match us, hl with | [], _ => rfl) (fun f cdv A outer s H vs Q E hr h => ⟨t_law_odd_texts K, PSs.nox (?_), pure_law_odd_texts h⟩)
  exact (pss_cons (ps_set (i := 0) sc.nd rfl (.inl rfl) (pe_lst (pa_cons pe_str (pa_cons pe_str (pa_cons pe_str (pa_cons pe_str (pa_cons pe_str (pa_cons pe_str (pa_cons pe_str (pa_cons pe_str (pa_cons pe_str (pa_cons pe_str (pa_cons pe_str (pa_cons pe_str (pa_cons pe_str (pa_cons pe_str (pa_cons pe_str (pa_cons pe_str pa_nil))))))))))))))))))
    (pss_cons (ps_set (i := 0) sc.nd rfl (.inl rfl) (pe_op op_cat (pv 0) (pe_lst (pa_cons pe_str (pa_cons pe_str (pa_cons pe_str (pa_cons pe_str (pa_cons pe_str (pa_cons pe_str (pa_cons pe_str (pa_cons pe_str (pa_cons pe_str (pa_cons pe_str (pa_cons pe_str pa_nil))))))))))))))
    (pss_cons (ps_set (i := 0) sc.nd rfl (.inl rfl) (pe_op op_cat (pv 0) (pe_lst (pa_cons pe_str (pa_cons pe_str (pa_cons pe_str (pa_cons pe_str (pa_cons pe_str (pa_cons pe_str (pa_cons pe_str pa_nil))))))))))
    (pss_cons (ps_expr (pe_bm PySem.F.plainAttrs_list PySem.F.slot_list_append PySem.F.type_list_append mt_append (pv 0) (pa_cons pe_str pa_nil)))
    (pss_cons (ps_set (i := 0) sc.nd rfl (.inl rfl) (pe_op op_cat (pv 0) (pe_lst (pa_cons (pe_op op_add_str (pe_op op_mulS pe_str pe_int) pe_str) (pa_cons (pe_op op_add_str (pe_op op_mulS pe_str pe_int) pe_str) (pa_cons (pe_op op_add_str pe_str (pe_op op_mulS pe_str pe_int)) (pa_cons (pe_op op_add_str pe_str (pe_op op_mulS pe_str pe_int)) (pa_cons (pe_op op_mulS pe_str pe_int) pa_nil))))))))
    (pss_one (ps_ret (pe_op op_cat (pv 0) (pe_lst (pa_cons (pe_op op_add_str pe_str (pe_op op_mulS pe_str pe_int)) (pa_cons pe_str (pa_cons pe_str (pa_cons pe_str (pa_cons pe_str (pa_cons pe_str (pa_cons pe_str pa_nil))))))))))))))))

theorem sc_law_written : FnScope ["orders", "words", "kind", "old", "new"] ["orders"] (defScope s_law_written) := ⟨rfl, rfl, rfl, by decide +kernel, rfl, by decide +kernel, by decide +kernel⟩
theorem ok_law_written (T : Txt K mg) : Def P w K mg base CX0 1 "_law_written" ["orders"] s_law_written (sp_law_written K) := by
  have sc := sc_law_written
  refine T.f_law_written.ok sc (fun _ _ _ _ h => h.1) (fun _ _ _ _ _ _ us hl => match us, hl with | [_], _ => rfl) (fun f cdv A outer s H vs Q E hr h => ⟨t_law_written K, PSs.nox (?_), pure_law_written h⟩)
  exact (pss_cons (ps_setLc (i := 1) (own := [("kind", 2), ("old", 3), ("new", 4)]) rfl sc.nd rfl rfl (sw_true rfl rfl rfl (by decide +kernel)) (pi_list (pv 0)) (blkOk_by (own := [("kind", 2), ("old", 3), ("new", 4)]) (N := ["orders", "words", "kind", "old", "new"]) (sc := defScope s_law_written) (by decide +kernel)) (fun _ _ _ _ _ => (pg_tup rfl (pgs_cons (pg_name (i := 2) sc.nd rfl (Or.inl rfl)) (pgs_cons (pg_name (i := 3) sc.nd rfl (Or.inl rfl)) (pgs_cons (pg_name (i := 4) sc.nd rfl (Or.inl rfl)) pgs_nil))))) (fun _ _ _ _ _ => pts_nil) (fun _ _ _ _ _ => (pe_op op_add_str (pe_op op_add_str (pe_callTy call_str_any (by rfl) T.b_str boot_str (pa_cons (pv 2) pa_nil)) (pv 3)) (pv 4))))
    (pss_one (ps_ret (pe_ifExp (pt_cmpR (op_neD hr.units) (pv 1) (pe_lst pa_nil) (nomark _)) (pe_join pe_str (pv 1)) pe_str))))

theorem sc_law_number_of : FnScope ["word", "sign"] ["word"] (defScope s_law_number_of) := ⟨rfl, rfl, rfl, by decide +kernel, rfl, by decide +kernel, by decide +kernel⟩
theorem ok_law_number_of (T : Txt K mg) : Def P w K mg base CX0 1 "_law_number_of" ["word"] s_law_number_of (sp_law_number_of K) := by
  have sc := sc_law_number_of
  refine T.f_law_number_of.ok sc (fun _ _ _ _ h => h.1) (fun _ _ _ _ _ _ us hl => match us, hl with | [_], _ => rfl) (fun f cdv A outer s H vs Q E hr h => ⟨t_law_number_of K, PSs.nox (?_), pure_law_number_of h⟩)
  exact (pss_cons (ps_if (PW.pt (pw_or (pt_cmpR op_eq (pv 0) pe_str (nomark _)) (pw_or (pt_cmpR op_gt (pe_callB call_len_str (by rfl) T.b_len boot_len (pa_cons (pv 0) pa_nil)) pe_int (nomark _)) (pw_or1 (pt_cmpR (op_neD hr.units) (pe_lc (own := [("sign", 1)]) rfl sc.nd (pi_str (pv 0)) (blkOk_by (own := [("sign", 1)]) (N := ["word", "sign"]) (sc := defScope s_law_number_of) (by decide +kernel)) (fun _ _ _ _ _ => (pg_name (i := 1) sc.nd rfl (Or.inl rfl))) (fun _ _ _ _ _ => pts_one (pt_cmpR op_notIn_sign (pv 1) pe_str rfl)) (fun _ _ _ _ _ => (pv 1))) (pe_lst pa_nil) (nomark _)))))) (pss_one (ps_ret pe_non)) pss_nil)
    (pss_one (ps_ret (pe_ifExp (PW.pt (pw_or (pt_cmpR op_ne (pe_ix ix_str (pv 0) pe_int (fun _ _ => rfl)) pe_str (nomark _)) (pw_or1 (pt_cmpR op_eq (pv 0) pe_str (nomark _))))) (pe_callTy call_int_str (by rfl) T.b_int boot_int (pa_cons (pv 0) pa_nil)) pe_non))))

theorem sc_law_drill_of : FnScope ["text", "found", "word", "kind"] ["text"] (defScope s_law_drill_of) := ⟨rfl, rfl, rfl, by decide +kernel, rfl, by decide +kernel, by decide +kernel⟩
theorem ok_law_drill_of (T : Txt K mg) : Def P w K mg base CX0 2 "_law_drill_of" ["text"] s_law_drill_of (sp_law_drill_of K) := by
  have sc := sc_law_drill_of
  refine T.f_law_drill_of.ok sc (fun _ _ _ _ h => h.1) (fun _ _ _ _ _ _ us hl => match us, hl with | [_], _ => rfl) (fun f cdv A outer s H vs Q E hr h => ⟨t_law_drill_of K, PSs.nox (?_), pure_law_drill_of h⟩)
  exact (pss_cons (ps_if (pt_cmpR op_eq (pv 0) pe_str (nomark _)) (pss_one (ps_ret (pe_lst pa_nil))) pss_nil)
    (pss_cons (ps_set (i := 1) sc.nd rfl (.inl rfl) (pe_lst pa_nil))
    (pss_cons (ps_for PassesOwn.never rfl (pi_list (pe_split (pv 0) pe_str)) (pg_name (i := 2) sc.nd rfl (Or.inl rfl)) (pss_cons (ps_if (PW.pt (pw_or (pt_cmpR op_lt (pe_callB call_len_str (by rfl) T.b_len boot_len (pa_cons (pv 2) pa_nil)) pe_int (nomark _)) (pw_or (pt_cmpR op_notIn_sign (pe_ix ix_str (pv 2) (pe_un un_neg pe_int) (fun _ _ => rfl)) pe_str rfl) (pw_or (pt_cmpR op_notIn_sign (pe_ix ix_str (pv 2) (pe_un un_neg pe_int) (fun _ _ => rfl)) pe_str rfl) (pw_or1 (pt_cmpR op_eq (pe_ix ix_str (pv 2) (pe_un un_neg pe_int) (fun _ _ => rfl)) (pe_ix ix_str (pv 2) (pe_un un_neg pe_int) (fun _ _ => rfl)) (nomark _))))))) (pss_one (ps_ret pe_non)) pss_nil)
    (pss_cons (ps_set (i := 3) sc.nd rfl (.inl rfl) (pe_slice sl_str (pv 2) po_none (po_some (pe_un un_neg pe_int))))
    (pss_cons (ps_if (pt_cmpR op_notIn_seq (pv 3) (pe_tup (pa_cons pe_str (pa_cons pe_str pa_nil))) rfl) (pss_cons (ps_set (i := 3) sc.nd rfl (.inl rfl) (pe_callD (ok_law_number_of T) (hr.mono (by decide)) rfl pass0 (pa_cons (pv 3) pa_nil)))
    (pss_one (ps_if (PW.pt (pw_or (pt_cmpR op_isN (pv 3) pe_non (nomark _)) (pw_or1 (pt_cmpR op_eq (pv 3) pe_int (nomark _))))) (pss_one (ps_ret pe_non)) pss_nil))) pss_nil)
    (pss_one (ps_expr (pe_bm PySem.F.plainAttrs_list PySem.F.slot_list_append PySem.F.type_list_append mt_append (pv 1) (pa_cons (pe_tup (pa_cons (pv 3) (pa_cons (pe_ix ix_str (pv 2) (pe_un un_neg pe_int) (fun _ _ => rfl)) (pa_cons (pe_ix ix_str (pv 2) (pe_un un_neg pe_int) (fun _ _ => rfl)) pa_nil)))) pa_nil))))))))
    (pss_one (ps_ret (pv 1))))))

theorem sc_law_draw : FnScope ["source", "many", "drawn", "mixed"] ["source", "many"] (defScope s_law_draw) := ⟨rfl, rfl, rfl, by decide +kernel, rfl, by decide +kernel, by decide +kernel⟩
theorem ok_law_draw (T : Txt K mg) : Def P w K mg base CX0 1 "_law_draw" ["source", "many"] s_law_draw (sp_law_draw K) := by
  have sc := sc_law_draw
  refine T.f_law_draw.ok sc (fun _ _ _ _ h => h.1) (fun _ _ _ _ _ _ us hl => match us, hl with | [_, _], _ => rfl) (fun f cdv A outer s H vs Q E hr h => ⟨t_law_draw K, PSs.nox (?_), pure_law_draw h⟩)
  exact (pss_cons (ps_while PassesOwn.never (PW.pt (pw_and (pt_cmpR op_lt (pe_ix ix_list (pv 0) pe_int (fun _ _ => rfl)) pe_int (nomark _)) (pw_and1 (pt_cmpR (op_neD hr.units) (pe_ix ix_list (pv 0) pe_int (fun _ _ => rfl)) (pe_lst pa_nil) (nomark _))))) (pss_one (ps_asg (pe_bm PySem.F.plainAttrs_list PySem.F.slot_list_pop PySem.F.type_list_pop mt_popAt (pe_ix ix_list (pv 0) pe_int (fun _ _ => rfl)) (pa_cons pe_int pa_nil)) (pg_sub (pv 0) pe_int set_list))))
    (pss_cons (ps_if (pt_cmpR op_ge (pe_ix ix_list (pv 0) pe_int (fun _ _ => rfl)) pe_int (nomark _)) (pss_cons (ps_set (i := 2) sc.nd rfl (.inl rfl) (pe_op op_mod (pe_ix ix_list (pv 0) pe_int (fun _ _ => rfl)) (pv 1)))
    (pss_cons (ps_asg (pe_op op_fdivW (pe_ix ix_list (pv 0) pe_int (fun _ _ => rfl)) (pv 1)) (pg_sub (pv 0) pe_int set_list))
    (pss_one (ps_ret (pv 2))))) pss_nil)
    (pss_cons (ps_asg (pe_op op_add (pe_ix ix_list (pv 0) pe_int (fun _ _ => rfl)) pe_int) (pg_sub (pv 0) pe_int set_list))
    (pss_cons (ps_set (i := 3) sc.nd rfl (.inl rfl) (pe_op op_mul (pe_op op_add (pe_ix ix_list (pv 0) pe_int (fun _ _ => rfl)) pe_int) (pe_op op_pow (pe_op op_add (pe_ix ix_list (pv 0) pe_int (fun _ _ => rfl)) pe_int) pe_int)))
    (pss_cons (ps_set (i := 3) sc.nd rfl (.inl rfl) (pe_op op_mod (pe_op op_add (pv 3) (pe_op op_mul pe_int (pe_ix ix_list (pv 0) pe_int (fun _ _ => rfl)))) (pe_op op_sub (pe_op op_pow pe_int pe_int) pe_int)))
    (pss_one (ps_ret (pe_op op_mod (pe_op op_fdivW (pe_op op_mod (pe_op op_pow (pv 3) pe_int) (pe_op op_add (pe_op op_pow pe_int pe_int) pe_int)) pe_int) (pv 1)))))))))

theorem sc_law_shuffled : FnScope ["source", "items", "left", "k"] ["source", "items"] (defScope s_law_shuffled) := ⟨rfl, rfl, rfl, by decide +kernel, rfl, by decide +kernel, by decide +kernel⟩
theorem ok_law_shuffled (T : Txt K mg) : Def P w K mg base CX0 2 "_law_shuffled" ["source", "items"] s_law_shuffled (sp_law_shuffled K) := by
  have sc := sc_law_shuffled
  refine T.f_law_shuffled.ok sc (fun _ _ _ _ h => h.1) (fun _ _ _ _ _ _ us hl => match us, hl with | [_, _], _ => rfl) (fun f cdv A outer s H vs Q E hr h => ⟨t_law_shuffled K, PSs.nox (?_), pure_law_shuffled h⟩)
  exact (pss_cons (ps_set (i := 2) sc.nd rfl (.inr rfl) (pe_callTy (call_list_any rfl) (by rfl) T.b_list boot_list (pa_cons (pv 1) pa_nil)))
    (pss_one (ps_ret (pe_lc (own := [("k", 3)]) rfl sc.nd (pi_range1 (by rfl) T.b_range (pa_cons (pe_callB call_len_seq (by rfl) T.b_len boot_len (pa_cons (pv 2) pa_nil)) pa_nil)) (blkOk_by (own := [("k", 3)]) (N := ["source", "items", "left", "k"]) (sc := defScope s_law_shuffled) (by decide +kernel)) (fun _ _ _ _ _ => (pg_name (i := 3) sc.nd rfl (Or.inl rfl))) (fun _ _ _ _ _ => pts_nil) (fun _ _ _ _ _ => (pe_bm PySem.F.plainAttrs_list PySem.F.slot_list_pop PySem.F.type_list_pop mt_popAt (pv 2) (pa_cons (pe_callD (ok_law_draw T) (hr.mono (by decide)) rfl pass0 (pa_cons (pv 0) (pa_cons (pe_callB call_len_seq (by rfl) T.b_len boot_len (pa_cons (pv 2) pa_nil)) pa_nil))) pa_nil)))))))

theorem sc_law_long : FnScope ["source"] ["source"] (defScope s_law_long) := ⟨rfl, rfl, rfl, by decide +kernel, rfl, by decide +kernel, by decide +kernel⟩
theorem ok_law_long (T : Txt K mg) : Def P w K mg base CX0 2 "_law_long" ["source"] s_law_long (sp_law_long K) := by
  have sc := sc_law_long
  refine T.f_law_long.ok sc (fun _ _ _ _ h => h.1) (fun _ _ _ _ _ _ us hl => match us, hl with | [_], _ => rfl) (fun f cdv A outer s H vs Q E hr h => ⟨t_law_long K, PSs.nox (?_), pure_law_long h⟩)
  exact (pss_one (ps_ret (pe_op op_add (pe_op op_mul (pe_callD (ok_law_draw T) (hr.mono (by decide)) rfl pass0 (pa_cons (pv 0) (pa_cons (pe_op op_pow pe_int pe_int) pa_nil))) (pe_op op_pow pe_int pe_int)) (pe_callD (ok_law_draw T) (hr.mono (by decide)) rfl pass0 (pa_cons (pv 0) (pa_cons (pe_op op_pow pe_int pe_int) pa_nil))))))

theorem sc_law_long_orders : FnScope ["source", "most", "letters", "found", "k", "spot", "far", "kinds", "kind"] ["source", "most"] (defScope s_law_long_orders) := ⟨rfl, rfl, rfl, by decide +kernel, rfl, by decide +kernel, by decide +kernel⟩
theorem ok_law_long_orders (T : Txt K mg) : Def P w K mg base CX0 3 "_law_long_orders" ["source", "most"] s_law_long_orders (sp_law_long_orders K) := by
  have sc := sc_law_long_orders
  refine T.f_law_long_orders.ok sc (fun _ _ _ _ h => h.1) (fun _ _ _ _ _ _ us hl => match us, hl with | [_, _], _ => rfl) (fun f cdv A outer s H vs Q E hr h => ⟨t_law_long_orders K, PSs.nox (?_), pure_law_long_orders h⟩)
  exact (pss_cons (ps_set (i := 2) sc.nd rfl (.inl rfl) (pe_callD (ok_law_shuffled T) (hr.mono (by decide)) rfl pass0 (pa_cons (pv 0) (pa_cons pe_str pa_nil))))
    (pss_cons (ps_set (i := 3) sc.nd rfl (.inl rfl) (pe_lst pa_nil))
    (pss_cons (ps_for PassesOwn.never rfl (pi_range1 (by rfl) T.b_range (pa_cons (pe_callD (ok_law_draw T) (hr.mono (by decide)) rfl pass0 (pa_cons (pv 0) (pa_cons (pe_op op_add (pv 1) pe_int) pa_nil))) pa_nil)) (pg_name (i := 4) sc.nd rfl (Or.inl rfl)) (pss_cons (ps_set (i := 5) sc.nd rfl (.inl rfl) (pe_callD (ok_law_draw T) (hr.mono (by decide)) rfl pass0 (pa_cons (pv 0) (pa_cons pe_int pa_nil))))
    (pss_cons (ps_set (i := 6) sc.nd rfl (.inl rfl) (pe_op op_add pe_int (pe_callD (ok_law_draw T) (hr.mono (by decide)) rfl pass0 (pa_cons (pv 0) (pa_cons pe_int pa_nil)))))
    (pss_cons (ps_set (i := 7) sc.nd rfl (.inl rfl) (pe_lst (pa_cons pe_str (pa_cons pe_str (pa_cons pe_int (pa_cons (pe_op op_add pe_int (pe_callD (ok_law_draw T) (hr.mono (by decide)) rfl pass0 (pa_cons (pv 0) (pa_cons pe_int pa_nil)))) (pa_cons (pe_callB (call_max2 rfl) (by rfl) T.b_max boot_max (pa_cons pe_int (pa_cons (pe_callD (ok_law_long T) (hr.mono (by decide)) rfl pass0 (pa_cons (pv 0) pa_nil)) pa_nil))) (pa_cons (pe_op op_sub (pe_op op_pow pe_int pe_int) pe_int) pa_nil))))))))
    (pss_cons (ps_set (i := 8) sc.nd rfl (.inl rfl) (pe_ix ix_list (pv 7) (pe_callD (ok_law_draw T) (hr.mono (by decide)) rfl pass0 (pa_cons (pv 0) (pa_cons pe_int pa_nil))) (fun _ _ => rfl)))
    (pss_one (ps_expr (pe_bm PySem.F.plainAttrs_list PySem.F.slot_list_append PySem.F.type_list_append mt_append (pv 3) (pa_cons (pe_tup (pa_cons (pv 8) (pa_cons (pe_ix ix_list (pv 2) (pv 5) (fun _ _ => rfl)) (pa_cons (pe_ix ix_list (pv 2) (pe_op op_mod (pe_op op_add (pv 5) (pv 6)) pe_int) (fun _ _ => rfl)) pa_nil)))) pa_nil)))))))))
    (pss_one (ps_ret (pv 3))))))

theorem sc_law_parts_changed : FnScope ["source", "text", "odd", "mark", "parts", "one", "other", "way"] ["source", "text", "odd"] (defScope s_law_parts_changed) := ⟨rfl, rfl, rfl, by decide +kernel, rfl, by decide +kernel, by decide +kernel⟩
theorem ok_law_parts_changed (T : Txt K mg) : Def P w K mg base CX0 2 "_law_parts_changed" ["source", "text", "odd"] s_law_parts_changed (sp_law_parts_changed K) := by
  have sc := sc_law_parts_changed
  refine T.f_law_parts_changed.ok sc (fun _ _ _ _ h => h.1) (fun _ _ _ _ _ _ us hl => match us, hl with | [_, _, _], _ => rfl) (fun f cdv A outer s H vs Q E hr h => ⟨t_law_parts_changed K, PSs.nox (?_), pure_law_parts_changed h⟩)
  exact (pss_cons (ps_set (i := 3) sc.nd rfl (.inl rfl) (pe_ix ix_list (pe_lst (pa_cons pe_str (pa_cons pe_str pa_nil))) (pe_callD (ok_law_draw T) (hr.mono (by decide)) rfl pass0 (pa_cons (pv 0) (pa_cons pe_int pa_nil))) (fun _ _ => rfl)))
    (pss_cons (ps_set (i := 4) sc.nd rfl (.inl rfl) (pe_split (pv 1) (pv 3)))
    (pss_cons (ps_set (i := 5) sc.nd rfl (.inl rfl) (pe_callD (ok_law_draw T) (hr.mono (by decide)) rfl pass0 (pa_cons (pv 0) (pa_cons (pe_callB call_len_seq (by rfl) T.b_len boot_len (pa_cons (pv 4) pa_nil)) pa_nil))))
    (pss_cons (ps_set (i := 6) sc.nd rfl (.inl rfl) (pe_callD (ok_law_draw T) (hr.mono (by decide)) rfl pass0 (pa_cons (pv 0) (pa_cons (pe_callB call_len_seq (by rfl) T.b_len boot_len (pa_cons (pv 4) pa_nil)) pa_nil))))
    (pss_cons (ps_set (i := 7) sc.nd rfl (.inl rfl) (pe_callD (ok_law_draw T) (hr.mono (by decide)) rfl pass0 (pa_cons (pv 0) (pa_cons pe_int pa_nil))))
    (pss_cons (ps_if (pt_cmpR op_eq (pv 7) pe_int (nomark _)) (pss_one (ps_set (i := 4) sc.nd rfl (.inl rfl) (pe_op op_cat (pe_slice sl_list (pv 4) po_none (po_some (pv 5))) (pe_slice sl_list (pv 4) (po_some (pe_op op_add (pv 5) pe_int)) po_none)))) (pss_one (ps_if (pt_cmpR op_eq (pv 7) pe_int (nomark _)) (pss_one (ps_set (i := 4) sc.nd rfl (.inl rfl) (pe_op op_cat (pe_op op_cat (pe_slice sl_list (pv 4) po_none (po_some (pv 5))) (pe_slice sl_list (pv 4) (po_some (pv 5)) (po_some (pe_op op_add (pv 5) pe_int)))) (pe_slice sl_list (pv 4) (po_some (pv 5)) po_none)))) (pss_one (ps_if (pt_cmpR op_eq (pv 7) pe_int (nomark _)) (pss_one (ps_asg (pe_tup (pa_cons (pe_ix ix_list (pv 4) (pv 6) (fun _ _ => rfl)) (pa_cons (pe_ix ix_list (pv 4) (pv 5) (fun _ _ => rfl)) pa_nil))) (pg_tup rfl (pgs_cons (pg_sub (pv 4) (pv 5) set_list) (pgs_cons (pg_sub (pv 4) (pv 6) set_list) pgs_nil))))) (pss_one (ps_asg (pe_ix ix_list (pv 2) (pe_callD (ok_law_draw T) (hr.mono (by decide)) rfl pass0 (pa_cons (pv 0) (pa_cons (pe_callB call_len_seq (by rfl) T.b_len boot_len (pa_cons (pv 2) pa_nil)) pa_nil))) (fun _ _ => rfl)) (pg_sub (pv 4) (pv 5) set_list))))))))
    (pss_one (ps_ret (pe_join (pv 3) (pv 4))))))))))

theorem sc_law_sign : FnScope ["source", "some"] ["source"] (defScope s_law_sign) := ⟨rfl, rfl, rfl, by decide +kernel, rfl, by decide +kernel, by decide +kernel⟩
theorem ok_law_sign (T : Txt K mg) : Def P w K mg base CX0 2 "_law_sign" ["source"] s_law_sign (sp_law_sign K) := by
  have sc := sc_law_sign
  refine T.f_law_sign.ok sc (fun _ _ _ _ h => h.1) (fun _ _ _ _ _ _ us hl => match us, hl with | [_], _ => rfl) (fun f cdv A outer s H vs Q E hr h => ⟨t_law_sign K, PSs.nox (?_), pure_law_sign h⟩)
  exact (pss_cons (ps_set (i := 1) sc.nd rfl (.inl rfl) pe_str)
    (pss_cons (ps_if (pt_cmpR op_eq (pe_callD (ok_law_draw T) (hr.mono (by decide)) rfl pass0 (pa_cons (pv 0) (pa_cons pe_int pa_nil))) pe_int (nomark _)) (pss_one (ps_ret (pe_ix ix_str (pv 1) (pe_callD (ok_law_draw T) (hr.mono (by decide)) rfl pass0 (pa_cons (pv 0) (pa_cons (pe_callB call_len_str (by rfl) T.b_len boot_len (pa_cons (pv 1) pa_nil)) pa_nil))) (fun _ _ => rfl)))) pss_nil)
    (pss_cons (ps_set (i := 1) sc.nd rfl (.inl rfl) pe_str)
    (pss_cons (ps_set (i := 1) sc.nd rfl (.inl rfl) (pe_op op_add_str (pv 1) pe_str))
    (pss_one (ps_ret (pe_ix ix_str (pv 1) (pe_callD (ok_law_draw T) (hr.mono (by decide)) rfl pass0 (pa_cons (pv 0) (pa_cons (pe_callB call_len_str (by rfl) T.b_len boot_len (pa_cons (pv 1) pa_nil)) pa_nil))) (fun _ _ => rfl))))))))

theorem sc_law_changed : FnScope ["source", "text", "odd", "way", "spot"] ["source", "text", "odd"] (defScope s_law_changed) := ⟨rfl, rfl, rfl, by decide +kernel, rfl, by decide +kernel, by decide +kernel⟩
theorem ok_law_changed (T : Txt K mg) : Def P w K mg base CX0 3 "_law_changed" ["source", "text", "odd"] s_law_changed (sp_law_changed K) := by
  have sc := sc_law_changed
  refine T.f_law_changed.ok sc (fun _ _ _ _ h => h.1) (fun _ _ _ _ _ _ us hl => match us, hl with | [_, _, _], _ => rfl) (fun f cdv A outer s H vs Q E hr h => ⟨t_law_changed K, PSs.nox (?_), pure_law_changed h⟩)
  exact (pss_cons (ps_set (i := 3) sc.nd rfl (.inl rfl) (pe_callD (ok_law_draw T) (hr.mono (by decide)) rfl pass0 (pa_cons (pv 0) (pa_cons pe_int pa_nil))))
    (pss_cons (ps_set (i := 4) sc.nd rfl (.inl rfl) (pe_callD (ok_law_draw T) (hr.mono (by decide)) rfl pass0 (pa_cons (pv 0) (pa_cons (pe_op op_add (pe_callB call_len_str (by rfl) T.b_len boot_len (pa_cons (pv 1) pa_nil)) pe_int) pa_nil))))
    (pss_cons (ps_if (pt_cmpR op_eq (pv 3) pe_int (nomark _)) (pss_one (ps_ret (pe_op op_add_str (pe_op op_add_str (pe_slice sl_str (pv 1) po_none (po_some (pv 4))) (pe_callD (ok_law_sign T) (hr.mono (by decide)) rfl pass0 (pa_cons (pv 0) pa_nil))) (pe_slice sl_str (pv 1) (po_some (pv 4)) po_none)))) pss_nil)
    (pss_cons (ps_if (pt_cmpR op_eq (pv 3) pe_int (nomark _)) (pss_one (ps_ret (pe_op op_add_str (pe_slice sl_str (pv 1) po_none (po_some (pv 4))) (pe_slice sl_str (pv 1) (po_some (pe_op op_add (pv 4) pe_int)) po_none)))) pss_nil)
    (pss_cons (ps_if (pt_cmpR op_eq (pv 3) pe_int (nomark _)) (pss_one (ps_ret (pe_op op_add_str (pe_op op_add_str (pe_slice sl_str (pv 1) po_none (po_some (pv 4))) (pe_callD (ok_law_sign T) (hr.mono (by decide)) rfl pass0 (pa_cons (pv 0) pa_nil))) (pe_slice sl_str (pv 1) (po_some (pe_op op_add (pv 4) pe_int)) po_none)))) pss_nil)
    (pss_one (ps_ret (pe_callD (ok_law_parts_changed T) (hr.mono (by decide)) rfl pass0 (pa_cons (pv 0) (pa_cons (pv 1) (pa_cons (pv 2) pa_nil)))))))))))

theorem sc_read_number : FnScope ["word", "sign"] ["word"] (defScope s_read_number) := ⟨rfl, rfl, rfl, by decide +kernel, rfl, by decide +kernel, by decide +kernel⟩
theorem ok_read_number (T : Txt K mg) : Def P w K mg base CX0 1 "read_number" ["word"] s_read_number (sp_read_number K) := by
  have sc := sc_read_number
  refine T.f_read_number.ok sc (fun _ _ _ _ h => h.1) (fun _ _ _ _ _ _ us hl => match us, hl with | [_], _ => rfl) (fun f cdv A outer s H vs Q E hr h => ⟨t_read_number K, PSs.nox (?_), pure_read_number h⟩)
  exact (pss_cons (ps_if (PW.pt (pw_or (pt_not (pt_chain op_lt op_le pe_int (pe_callB call_len_str (by rfl) T.b_len boot_len (pa_cons (pv 0) pa_nil)) (pe_gint T.c_MOST_DIGITS rfl))) (pw_or1 (pt_not (pt_val (pe_callB (cr_all rfl) (by rfl) T.b_all boot_all (pa_cons (pe_lc (own := [("sign", 1)]) rfl sc.nd (pi_str (pv 0)) (blkOk_by (own := [("sign", 1)]) (N := ["word", "sign"]) (sc := defScope s_read_number) (by decide +kernel)) (fun _ _ _ _ _ => (pg_name (i := 1) sc.nd rfl (Or.inl rfl))) (fun _ _ _ _ _ => pts_nil) (fun _ _ _ _ _ => (pe_cmpR op_in_sign (pv 1) (pe_gstr T.c_DIGITS rfl) rfl))) pa_nil))))))) (pss_one (ps_ret pe_non)) pss_nil)
    (pss_one (ps_ret (pe_ifExp (PW.pt (pw_or (pt_cmpR op_eq (pv 0) pe_str (nomark _)) (pw_or1 (pt_cmpR op_ne (pe_ix ix_str (pv 0) pe_int (fun _ _ => rfl)) pe_str (nomark _))))) (pe_callTy call_int_str (by rfl) T.b_int boot_int (pa_cons (pv 0) pa_nil)) pe_non))))

theorem sc_is_colour : FnScope ["text"] ["text"] (defScope s_is_colour) := ⟨rfl, rfl, rfl, by decide +kernel, rfl, by decide +kernel, by decide +kernel⟩
theorem ok_is_colour (T : Txt K mg) : Def P w K mg base CX0 1 "is_colour" ["text"] s_is_colour (sp_is_colour K) := by
  have sc := sc_is_colour
  refine T.f_is_colour.ok sc (fun _ _ _ _ h => h.1) (fun _ _ _ _ _ _ us hl => match us, hl with | [_], _ => rfl) (fun f cdv A outer s H vs Q E hr h => ⟨t_is_colour K, PSs.nox (?_), pure_is_colour h⟩)
  exact (pss_one (ps_ret (pe_and (pe_cmpR op_eq (pe_callB call_len_str (by rfl) T.b_len boot_len (pa_cons (pv 0) pa_nil)) pe_int (nomark _)) (pe_one (pe_cmpR op_in_sign (pv 0) (pe_gstr T.c_COLOURS rfl) rfl)))))

theorem sc_is_call : FnScope ["call", "kind", "source", "target"] ["call"] (defScope s_is_call) := ⟨rfl, rfl, rfl, by decide +kernel, rfl, by decide +kernel, by decide +kernel⟩
theorem ok_is_call (T : Txt K mg) : Def P w K mg base CX0 2 "is_call" ["call"] s_is_call (sp_is_call K) := by
  have sc := sc_is_call
  refine T.f_is_call.ok sc (fun _ _ _ _ h => h.1) (fun _ _ _ _ _ _ us hl => match us, hl with | [_], _ => rfl) (fun f cdv A outer s H vs Q E hr h => ⟨t_is_call K, PSs.nox (?_), pure_is_call h⟩)
  exact (pss_cons (ps_asg (pv 0) (pg_tup rfl (pgs_cons (pg_name (i := 1) sc.nd rfl (Or.inl rfl)) (pgs_cons (pg_name (i := 2) sc.nd rfl (Or.inl rfl)) (pgs_cons (pg_name (i := 3) sc.nd rfl (Or.inl rfl)) pgs_nil)))))
    (pss_cons (ps_if (pt_val (pe_callB call_isi (by rfl) T.b_isinstance boot_isinstance (pa_cons (pv 1) (pa_cons (pe_bltn (by rfl) T.b_str boot_str rfl) pa_nil)))) (pss_one (ps_if (pt_cmpR op_notIn_seq (pv 1) (pe_tup (pa_cons (pe_gstr T.c_ALL rfl) (pa_cons (pe_gstr T.c_SWAP rfl) pa_nil))) rfl) (pss_one (ps_ret pe_bl)) pss_nil)) (pss_one (ps_if (pt_cmpR op_lt (pv 1) pe_int (nomark _)) (pss_one (ps_ret pe_bl)) pss_nil)))
    (pss_one (ps_ret (pe_and (pe_callD (ok_is_colour T) (hr.mono (by decide)) rfl pass0 (pa_cons (pv 2) pa_nil)) (pe_and (pe_callD (ok_is_colour T) (hr.mono (by decide)) rfl pass0 (pa_cons (pv 3) pa_nil)) (pe_one (pe_cmpR op_ne (pv 2) (pv 3) (nomark _)))))))))

theorem sc_read_call : FnScope ["word", "kind", "call"] ["word"] (defScope s_read_call) := ⟨rfl, rfl, rfl, by decide +kernel, rfl, by decide +kernel, by decide +kernel⟩
theorem ok_read_call (T : Txt K mg) : Def P w K mg base CX0 3 "read_call" ["word"] s_read_call (sp_read_call K) := by
  have sc := sc_read_call
  refine T.f_read_call.ok sc (fun _ _ _ _ h => h.1) (fun _ _ _ _ _ _ us hl => match us, hl with | [_], _ => rfl) (fun f cdv A outer s H vs Q E hr h => ⟨t_read_call K, PSs.nox (?_), pure_read_call h⟩)
  exact (pss_cons (ps_set (i := 1) sc.nd rfl (.inl rfl) (pe_ifExp (pt_cmpR op_in_seq (pe_slice sl_str (pv 0) po_none (po_some (pe_un un_neg pe_int))) (pe_tup (pa_cons (pe_gstr T.c_ALL rfl) (pa_cons (pe_gstr T.c_SWAP rfl) pa_nil))) rfl) (pe_slice sl_str (pv 0) po_none (po_some (pe_un un_neg pe_int))) (pe_callD (ok_read_number T) (hr.mono (by decide)) rfl pass0 (pa_cons (pe_slice sl_str (pv 0) po_none (po_some (pe_un un_neg pe_int))) pa_nil))))
    (pss_cons (ps_if (pt_cmpR op_isN (pv 1) pe_non (nomark _)) (pss_one (ps_ret pe_non)) pss_nil)
    (pss_cons (ps_set (i := 2) sc.nd rfl (.inl rfl) (pe_tup (pa_cons (pv 1) (pa_cons (pe_ix ix_str (pv 0) (pe_un un_neg pe_int) (fun _ _ => rfl)) (pa_cons (pe_ix ix_str (pv 0) (pe_un un_neg pe_int) (fun _ _ => rfl)) pa_nil)))))
    (pss_one (ps_ret (pe_ifExp (pt_val (pe_callD (ok_is_call T) (hr.mono (by decide)) rfl pass0 (pa_cons (pv 2) pa_nil))) (pv 2) pe_non))))))

theorem sc_read_drill : FnScope ["text", "calls", "word"] ["text"] (defScope s_read_drill) := ⟨rfl, rfl, rfl, by decide +kernel, rfl, by decide +kernel, by decide +kernel⟩
theorem ok_read_drill (T : Txt K mg) : Def P w K mg base (L2N.CX P w) 4 "read_drill" ["text"] s_read_drill (sp_read_drill K) := by
  have sc := sc_read_drill
  refine T.f_read_drill.ok sc (fun _ _ _ _ h => h.1) (fun _ _ _ _ _ _ us hl => match us, hl with | [_], _ => rfl) (fun f cdv A outer s H vs Q E hr h => ⟨t_read_drill E K, (?_), pure_read_drill h⟩)
  have tk := L2N.takes_of (X := cxOf (L2N.CX P w) P w K mg base ["text", "calls", "word"] "read_drill" (defScope s_read_drill) f cdv A outer s H E) rfl rfl rfl rfl
  exact (pss_cons (ps_set (i := 1) sc.nd rfl (.inl rfl) (pe_ifExp (pt_cmpR op_ne (pv 0) (pe_gstr T.c_NO_CALLS rfl) (nomark _)) (pe_lc (own := [("word", 2)]) rfl sc.nd (pi_list (pe_split (pv 0) (pe_gstr T.c_SPACE rfl))) (blkOk_by (own := [("word", 2)]) (N := ["text", "calls", "word"]) (sc := defScope s_read_drill) (by decide +kernel)) (fun _ _ _ _ _ => (pg_name (i := 2) sc.nd rfl (Or.inl rfl))) (fun _ _ _ _ _ => pts_nil) (fun _ _ _ _ _ => (pe_callD (ok_read_call T) (hr.mono (by decide)) rfl pass0 (pa_cons (pv 2) pa_nil)))) (pe_lst pa_nil)))
    (pss_cons (ps_if (pt_cmpR (op_inD (hu65 hr)) pe_non (pv 1) rfl) (pss_one (L2N.ps_raise rfl tk (pmk_badN T.e_BadText (ok_init_BadText T) (hr.mono (by decide)) rfl (pv 0)))) pss_nil)
    (pss_one (ps_ret (pv 1)))))

theorem sc_law_error : FnScope ["e", "kinds", "names", "name", "holds"] ["e"] (defScope s_law_error) := ⟨rfl, rfl, rfl, by decide +kernel, rfl, by decide +kernel, by decide +kernel⟩
theorem ok_law_error (T : Txt K mg) : DefP P w K mg base CX0 1 "_law_error" ["e"] s_law_error (sp_law_error K) := by
  have sc := sc_law_error
  refine T.f_law_error.okP sc (fun _ _ _ _ _ h => h.1) (fun _ _ _ _ _ _ us hl => match us, hl with | [_], _ => rfl) (fun f cdv A outer s H vs Q E p hot hr h => ⟨t_law_error p K, PSs.nox (?_), pure_law_error ⟨T.x_BadText_DrillError, T.e_BadText.xf, T.e_BadText.nov⟩ T.i_BadText h⟩)
  exact (pss_cons (ps_set (i := 1) sc.nd rfl (.inl rfl) (pe_lst (pa_cons (pe_tup (pa_cons pe_str (pa_cons (pe_callB (call_isP List.mem_cons_self) (by rfl) T.b_isinstance boot_isinstance (pa_cons (pv 0) (pa_cons (pe_glob rfl T.g_BadRow rfl) pa_nil))) pa_nil))) (pa_cons (pe_tup (pa_cons pe_str (pa_cons (pe_callB (call_isP List.mem_cons_self) (by rfl) T.b_isinstance boot_isinstance (pa_cons (pv 0) (pa_cons (pe_glob rfl T.g_BadCall rfl) pa_nil))) pa_nil))) pa_nil))))
    (pss_cons (ps_set (i := 1) sc.nd rfl (.inl rfl) (pe_op op_cat (pv 1) (pe_lst (pa_cons (pe_tup (pa_cons pe_str (pa_cons (pe_callB (call_isP List.mem_cons_self) (by rfl) T.b_isinstance boot_isinstance (pa_cons (pv 0) (pa_cons (pe_glob rfl T.g_BadCounts rfl) pa_nil))) pa_nil))) (pa_cons (pe_tup (pa_cons pe_str (pa_cons (pe_callB (call_isP List.mem_cons_self) (by rfl) T.b_isinstance boot_isinstance (pa_cons (pv 0) (pa_cons (pe_glob rfl T.g_BadColour rfl) pa_nil))) pa_nil))) pa_nil)))))
    (pss_cons (ps_set (i := 1) sc.nd rfl (.inl rfl) (pe_op op_cat (pv 1) (pe_lst (pa_cons (pe_tup (pa_cons pe_str (pa_cons (pe_callB (call_isP List.mem_cons_self) (by rfl) T.b_isinstance boot_isinstance (pa_cons (pv 0) (pa_cons (pe_glob rfl T.g_BadTimes rfl) pa_nil))) pa_nil))) (pa_cons (pe_tup (pa_cons pe_str (pa_cons (pe_callB (call_isP List.mem_cons_self) (by rfl) T.b_isinstance boot_isinstance (pa_cons (pv 0) (pa_cons (pe_glob rfl T.g_BadGoal rfl) pa_nil))) pa_nil))) pa_nil)))))
    (pss_cons (ps_set (i := 1) sc.nd rfl (.inl rfl) (pe_op op_cat (pv 1) (pe_lst (pa_cons (pe_tup (pa_cons pe_str (pa_cons (pe_callB (call_isP List.mem_cons_self) (by rfl) T.b_isinstance boot_isinstance (pa_cons (pv 0) (pa_cons (pe_glob rfl T.g_BadIndex rfl) pa_nil))) pa_nil))) (pa_cons (pe_tup (pa_cons pe_str (pa_cons (pe_callB (call_isP List.mem_cons_self) (by rfl) T.b_isinstance boot_isinstance (pa_cons (pv 0) (pa_cons (pe_glob rfl T.g_BadText rfl) pa_nil))) pa_nil))) pa_nil)))))
    (pss_cons (ps_setLcQ (i := 2) (own := [("name", 3), ("holds", 4)]) ⟨hot.1, hot.2⟩ List.mem_cons_self sc.nd rfl rfl (sw_true rfl rfl rfl (by decide +kernel)) (pi_listQ (pv 1)) (blkOk_by (own := [("name", 3), ("holds", 4)]) (N := ["e", "kinds", "names", "name", "holds"]) (sc := defScope s_law_error) (by decide +kernel)) (fun _ _ _ _ _ hb => (pg_tupQ ⟨hot.1, hot.2⟩ hb (pgs_cons (pg_name (i := 3) sc.nd rfl (Or.inl rfl)) (pgs_cons (pg_name (i := 4) sc.nd rfl (Or.inl rfl)) pgs_nil)))) (fun _ _ _ _ _ => pts_one (pt_val (pv 4))) (fun _ _ _ _ _ => (pv 3)))
    (pss_one (ps_ret (pe_op op_cat (pv 2) (pe_lst (pa_cons (pe_xfP List.mem_cons_self (pv 0)) (pa_cons (pe_and (pe_callB (call_isP List.mem_cons_self) (by rfl) T.b_isinstance boot_isinstance (pa_cons (pv 0) (pa_cons (pe_glob rfl T.g_DrillError rfl) pa_nil))) (pe_one (pe_callB (call_isP List.mem_cons_self) (by rfl) T.b_isinstance boot_isinstance (pa_cons (pv 0) (pa_cons (pe_bltn (by rfl) T.b_ValueError boot_ValueError rfl) pa_nil))))) pa_nil)))))))))))

theorem sc_law_same : FnScope ["found", "wanted", "k"] ["found", "wanted"] (defScope s_law_same) := ⟨rfl, rfl, rfl, by decide +kernel, rfl, by decide +kernel, by decide +kernel⟩
theorem mk_law_same {j : Nat} {rec sp : Sp} (T : Txt K mg) (hrec : Def P w K mg base CX0 j "_law_same" ["found", "wanted"] s_law_same rec) (len : ∀ vs H Q E, sp vs H Q E → vs.length = 2) (pure_ : ∀ vs H Q E, sp vs H Q E → t_law_same rec K { nx := fun _ H' => Q .non H', rt := Q } (start ["found", "wanted", "k"] vs) H) : Def P w K mg base CX0 (j + 1) "_law_same" ["found", "wanted"] s_law_same sp := by
  have sc := sc_law_same
  refine T.f_law_same.ok sc len (fun _ _ _ _ _ _ us hl => match us, hl with | [_, _], _ => rfl) (fun f cdv A outer s H vs Q E hr h => ⟨t_law_same rec K, PSs.nox (?_), pure_ vs H Q E h⟩)
  exact (pss_cons (ps_if (pt_cmpR op_isN (pv 1) pe_non (nomark _)) (pss_one (ps_ret (pe_cmpR op_isN (pv 0) pe_non (nomark _)))) pss_nil)
    (pss_cons (ps_if (pt_val (pe_callB call_isi (by rfl) T.b_isinstance boot_isinstance (pa_cons (pv 1) (pa_cons (pe_bltn (by rfl) T.b_bool boot_bool rfl) pa_nil)))) (pss_one (ps_ret (pe_and (pe_callB call_isi (by rfl) T.b_isinstance boot_isinstance (pa_cons (pv 0) (pa_cons (pe_bltn (by rfl) T.b_bool boot_bool rfl) pa_nil))) (pe_one (pe_cmpR (op_eqD hr.units) (pv 0) (pv 1) (nomark _)))))) pss_nil)
    (pss_cons (ps_if (pt_val (pe_callB call_isi (by rfl) T.b_isinstance boot_isinstance (pa_cons (pv 1) (pa_cons (pe_bltn (by rfl) T.b_int boot_int rfl) pa_nil)))) (pss_one (ps_ret (pe_and (pe_callB call_isi (by rfl) T.b_isinstance boot_isinstance (pa_cons (pv 0) (pa_cons (pe_bltn (by rfl) T.b_int boot_int rfl) pa_nil))) (pe_and (pe_not (pe_callB call_isi (by rfl) T.b_isinstance boot_isinstance (pa_cons (pv 0) (pa_cons (pe_bltn (by rfl) T.b_bool boot_bool rfl) pa_nil)))) (pe_one (pe_cmpR (op_eqD hr.units) (pv 0) (pv 1) (nomark _))))))) pss_nil)
    (pss_cons (ps_if (pt_val (pe_callB call_isi (by rfl) T.b_isinstance boot_isinstance (pa_cons (pv 1) (pa_cons (pe_bltn (by rfl) T.b_str boot_str rfl) pa_nil)))) (pss_one (ps_ret (pe_and (pe_callB call_isi (by rfl) T.b_isinstance boot_isinstance (pa_cons (pv 0) (pa_cons (pe_bltn (by rfl) T.b_str boot_str rfl) pa_nil))) (pe_one (pe_cmpR (op_eqD hr.units) (pv 0) (pv 1) (nomark _)))))) pss_nil)
    (pss_cons (ps_if (pt_cmpR op_ne (pe_callB call_isi (by rfl) T.b_isinstance boot_isinstance (pa_cons (pv 0) (pa_cons (pe_bltn (by rfl) T.b_list boot_list rfl) pa_nil))) (pe_callB call_isi (by rfl) T.b_isinstance boot_isinstance (pa_cons (pv 1) (pa_cons (pe_bltn (by rfl) T.b_list boot_list rfl) pa_nil))) (nomark _)) (pss_one (ps_ret pe_bl)) pss_nil)
    (pss_cons (ps_if (PW.pt (pw_or (pt_cmpR op_ne (pe_callB call_isi (by rfl) T.b_isinstance boot_isinstance (pa_cons (pv 0) (pa_cons (pe_bltn (by rfl) T.b_tuple boot_tuple rfl) pa_nil))) (pe_callB call_isi (by rfl) T.b_isinstance boot_isinstance (pa_cons (pv 1) (pa_cons (pe_bltn (by rfl) T.b_tuple boot_tuple rfl) pa_nil))) (nomark _)) (pw_or1 (pt_cmpR op_ne (pe_callB call_len (by rfl) T.b_len boot_len (pa_cons (pv 0) pa_nil)) (pe_callB call_len (by rfl) T.b_len boot_len (pa_cons (pv 1) pa_nil)) (nomark _))))) (pss_one (ps_ret pe_bl)) pss_nil)
    (pss_one (ps_ret (pe_cmpR (op_eqD hr.units) (pe_lc (own := [("k", 2)]) rfl sc.nd (pi_range1 (by rfl) T.b_range (pa_cons (pe_callB call_len (by rfl) T.b_len boot_len (pa_cons (pv 1) pa_nil)) pa_nil)) (blkOk_by (own := [("k", 2)]) (N := ["found", "wanted", "k"]) (sc := defScope s_law_same) (by decide +kernel)) (fun _ _ _ _ _ => (pg_name (i := 2) sc.nd rfl (Or.inl rfl))) (fun _ _ _ _ _ => pts_one (pt_not (pt_val (pe_callD hrec hr rfl pass0 (pa_cons (pe_ix ix_seq (pv 0) (pv 2) (fun _ _ => rfl)) (pa_cons (pe_ix ix_seq (pv 1) (pv 2) (fun _ _ => rfl)) pa_nil)))))) (fun _ _ _ _ _ => (pv 2))) (pe_lst pa_nil) (nomark _))))))))))
theorem ok_law_same (n : Nat) (T : Txt K mg) (hn : n ≤ 60 := by decide) : Def P w K mg base CX0 (n + 1) "_law_same" ["found", "wanted"] s_law_same (sp_law_same n K) := by
  induction n with
  | zero => exact mk_law_same T (rec := fun _ _ _ _ => False) (T.f_law_same.none sc_law_same (fun _ _ _ _ _ _ us hl => match us, hl with | [_, _], _ => rfl)) (fun _ _ _ _ h => h.1) (fun vs H Q E h => pure_law_same0 h)
  | succ n ih => exact mk_law_same T (ih (by omega)) (fun _ _ _ _ h => h.1) (fun vs H Q E h => pure_law_sameS (by omega) h)

theorem sc_law : FnScope ["script", "source", "odd", "k", "text", "turn", "caught", "found", "e", "wanted"] ["script"] (defScope s_law) := ⟨rfl, rfl, rfl, by decide +kernel, rfl, by decide +kernel, by decide +kernel⟩
theorem ok_law (T : Txt K mg) : Def P w K mg base CX0 5 "law" ["script"] s_law (sp_law K) := by
  have sc := sc_law
  refine T.f_law.ok sc (fun _ _ _ _ h => h.1) (fun _ _ _ _ _ _ us hl => match us, hl with | [_], _ => rfl) (fun f cdv A outer s H vs Q E hr h => ⟨t_law K, PSs.nox (?_), pure_law ⟨T.x_BadText_DrillError, T.e_BadText.xf, T.e_BadText.nov⟩ T.i_BadText h⟩)
  exact (pss_cons (ps_set (i := 1) sc.nd rfl (.inl rfl) (pe_callD (ok_law_source T) (hr.mono (by decide)) rfl pass0 (pa_cons (pv 0) pa_nil)))
    (pss_cons (ps_set (i := 2) sc.nd rfl (.inl rfl) (pe_callD0 (ok_law_odd_texts T) (hr.mono (by decide)) rfl pass0))
    (pss_cons (ps_for PassesOwn.never rfl (pi_range1 (by rfl) T.b_range (pa_cons (pe_op op_add pe_int (pe_op op_mul pe_int (pe_callB call_len_seq (by rfl) T.b_len boot_len (pa_cons (pe_slice sl_list (pv 0) po_none (po_some pe_int)) pa_nil)))) pa_nil)) (pg_name (i := 3) sc.nd rfl (Or.inl rfl)) (pss_cons (ps_set (i := 4) sc.nd rfl (.inl rfl) (pe_callD (ok_law_written T) (hr.mono (by decide)) rfl pass0 (pa_cons (pe_callD (ok_law_long_orders T) (hr.mono (by decide)) rfl pass0 (pa_cons (pv 1) (pa_cons pe_int pa_nil))) pa_nil)))
    (pss_cons (ps_if (pt_cmpR op_eq (pe_callD (ok_law_draw T) (hr.mono (by decide)) rfl pass0 (pa_cons (pv 1) (pa_cons pe_int pa_nil))) pe_int (nomark _)) (pss_one (ps_set (i := 4) sc.nd rfl (.inl rfl) (pe_ix ix_list (pv 2) (pe_callD (ok_law_draw T) (hr.mono (by decide)) rfl pass0 (pa_cons (pv 1) (pa_cons (pe_callB call_len_seq (by rfl) T.b_len boot_len (pa_cons (pv 2) pa_nil)) pa_nil))) (fun _ _ => rfl)))) pss_nil)
    (pss_cons (ps_for PassesOwn.never rfl (pi_range1 (by rfl) T.b_range (pa_cons (pe_ix ix_list (pe_lst (pa_cons pe_int (pa_cons pe_int (pa_cons pe_int (pa_cons pe_int (pa_cons pe_int pa_nil)))))) (pe_callD (ok_law_draw T) (hr.mono (by decide)) rfl pass0 (pa_cons (pv 1) (pa_cons pe_int pa_nil))) (fun _ _ => rfl)) pa_nil)) (pg_name (i := 5) sc.nd rfl (Or.inl rfl)) (pss_one (ps_set (i := 4) sc.nd rfl (.inl rfl) (pe_callD (ok_law_changed T) (hr.mono (by decide)) rfl pass0 (pa_cons (pv 1) (pa_cons (pv 4) (pa_cons (pv 2) pa_nil)))))))
    (pss_cons (ps_set (i := 4) sc.nd rfl (.inl rfl) (pe_slice sl_str (pv 4) po_none (po_some pe_int)))
    (pss_cons (ps_set (i := 6) sc.nd rfl (.inl rfl) pe_non)
    (pss_cons (ps_set (i := 7) sc.nd rfl (.inl rfl) pe_non)
    (pss_cons (ps_tryTN (i := 8) T.e_DrillError.hm rfl rfl sc.nd rfl rfl rfl takes0N (fun W pn xe tk hp => (pss_one (ps_set (i := 7) sc.nd rfl (.inl rfl) (pe_callDX (ok_read_drill T) (hr.mono (by decide)) rfl (L2N.passAt tk) (pa_cons (pv 4) pa_nil))))) (fun a oe cls d pn hz hf => (pss_one (ps_set (i := 6) sc.nd rfl (.inl rfl) (pe_callPS (ok_law_error T) (hr.mono (by decide)) hz hf rfl pass0 (pv 8))))))
    (pss_cons (ps_set (i := 9) sc.nd rfl (.inl rfl) (pe_callD (ok_law_drill_of T) (hr.mono (by decide)) rfl pass0 (pa_cons (pv 4) pa_nil)))
    (pss_cons (ps_if (PW.pt (pw_and (pt_cmpR op_isN (pv 9) pe_non (nomark _)) (pw_and1 (pt_not (pt_val (pe_callD (ok_law_same 3 T) (hr.mono (by decide)) rfl pass0 (pa_cons (pv 6) (pa_cons (pe_lst (pa_cons pe_str (pa_cons (pv 4) (pa_cons pe_bl pa_nil)))) pa_nil)))))))) (pss_one (ps_ret pe_bl)) pss_nil)
    (pss_one (ps_if (PW.pt (pw_and (pt_cmpR op_notN (pv 9) pe_non (nomark _)) (pw_and1 (PW.pt (pw_or (pt_cmpR op_notN (pv 6) pe_non (nomark _)) (pw_or1 (pt_not (pt_val (pe_callD (ok_law_same 3 T) (hr.mono (by decide)) rfl pass0 (pa_cons (pv 7) (pa_cons (pv 9) pa_nil))))))))))) (pss_one (ps_ret pe_bl)) pss_nil))))))))))))
    (pss_one (ps_ret pe_bl)))))

end
theorem law_all {P : Program} {w : World} {K : PySem.W.Frag} {mg : Str → Option Value} {fa : Addr} (T : Txt K mg) (hf : mg "law" = some (.ref fa)) :
    ∃ fd, FunD K "law" "law" (defArgs s_law) (defBody s_law) (defScope s_law) [] [] fa fd ∧ ∀ base : Heap, FnOk P w K mg base CX0 5 fa fd ["script"] (sp_law K) := by
  obtain ⟨fd, F, hm⟩ := T.f_law
  obtain rfl : He.ga K "law" = fa := by
    have e := hm.symm.trans hf
    cases e
    rfl
  refine ⟨fd, F, fun base => ?_⟩
  obtain ⟨g, fd', hm', kp, FD, hb, G⟩ := ok_law (P := P) (w := w) (base := base) T
  obtain rfl : g = He.ga K "law" := by
    have e := hm'.symm.trans hf
    cases e
    rfl
  obtain ⟨oc, od, dV, kV, doc, pm, an, cdv, ct, osl, rfl, lk, hcd, hD, hK⟩ := F.ex
  obtain ⟨oc2, od2, dV2, kV2, doc2, pm2, an2, cdv2, ct2, osl2, rfl, lk2, hcd2, hD2, hK2⟩ := FD.ex
  rw [lk] at lk2
  cases lk2
  exact G

end Q

open PySem PySem.W PySem.Calls PyProof.Rows
set_option maxRecDepth 100000 in
set_option maxHeartbeats 0 in
theorem PySem.Challenge.cw_drillrow_k42_invalid_drill_texts_holds : PySem.Challenge.rw_drillrow_k42_invalid_drill_texts.Holds := by
  w_on; o_law
  refine HandSHeadRun.head_any (r := OpenLaw.row PySem.Challenge.rw_drillrow_k42_invalid_drill_texts) (q := view (OpenLaw.row PySem.Challenge.rw_drillrow_k42_invalid_drill_texts).prog [39]) (H := Q.hk) (ob := Q.ob) (M := 3000) (loose := Q.looseL) (d := HandSHeadRun.topDef (OpenLaw.row PySem.Challenge.rw_drillrow_k42_invalid_drill_texts).prog 39) (kwd := []) Q.ob_eq
    (by kernel_rfl) (fun s => by kernel_rfl) Q.run0 (by kernel_rfl) (by kernel_rfl) (by kernel_rfl) (by rfl) (by first | assumption | decide +kernel) (by decide +kernel) ⟨rfl, rfl, rfl, rfl, rfl, by decide +kernel⟩ ?hw ?hc
  case hw => w_witness2
  case hc =>
    refine L2.walk_ofE (l := PySem.Challenge.rw_drillrow_k42_invalid_drill_texts) (n := 63) (k := 5) (x := "script") (CX := L2.CX0) rfl (by decide) (by kernel_rfl) ⟨rfl, by decide, by decide⟩ ?F (fun _ _ _ _ z => z)
    intro w mg fa h Y G hmg0
    obtain ⟨K, KX, c, ce⟩ := Y
    have hmg : mg ("law" : PySem.Str) = some (.ref fa) := by
      have e : (HandSHeadRun.topDef (OpenLaw.row PySem.Challenge.rw_drillrow_k42_invalid_drill_texts).prog 39).name = ("law" : PySem.Str) := by kernel_rfl
      rw [← e]
      exact hmg0
    have T := Q.txt_of KX G c ce
    obtain ⟨fd, FD, hF⟩ := Q.law_all (P := (PySem.Challenge.rw_drillrow_k42_invalid_drill_texts).prog) (w := w) T hmg
    exact ⟨K, fd, Q.sp_law K, KX, fun s v => FD.bindsA (ps := ["script"]) (fun _ _ _ _ _ _ us hl => match us, hl with | [_], _ => rfl) s [v] rfl, fun H a ns hl _ hS => ⟨rfl, a, ns, rfl, hS, hl, fun _ => rfl⟩, fun base _ _ => hF base⟩

