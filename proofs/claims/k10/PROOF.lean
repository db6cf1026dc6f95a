import PyProof.Rows.All
import Wide.All
import OpenK.AllK
import Wide.FinOn
import HandS.ForMost
import HandS.Wide
import HandS.Defaults
import HandS.IsInst
import HandS.Walk
import HandS.Head0
import HandS.Head1
import HandS.Head2
import HandS.HeadEnd
import HandS.HeadHook1
import HandS.HeadHook2
import HandS.Deep
import HandS.FStr
import HandS.RaiseMore
import HandS.TupMul
import PyProof.StrOps2
import PyProof.ListStr
import KE.KDictZip
import PyProof.Draws
import KE.KDictList
import HandS.ListItems
import HandS.Small
import HandS.ExcInit
import HandS.ExcField
import HandS.ExcIs
import HandS.ExcOwn
import HandS.WordsExc
import HandS.TryMany
import HandS.TryOnly
import HandS.Codes
import HandS.Replace
import PyProof.Rows.StrCountLaw
import PyProof.SetRoads
import PyProof.StrWalks
import KE.KDictDisplayH
import KE.KDictWalk
import PyProof.SumWalkG
import HandS.TupAny
import HandS.Strs
import HandS.Style
import HandS.ExcValue
import PySem.Challenge.RW_drillrow_k10_counts_errors
set_option Elab.async false
set_option linter.all false
set_option maxRecDepth 100000
set_option maxHeartbeats 4000000
namespace Q
open PySem PySem.Spec PyProof.Rows L2
/-! ### heaps: what is stable, what is new -/
theorem same_upd {H : Hp} {p : Addr} {o : HO} (h : H p = none) : Same H (upd H p o) := fun b x e => by
  rw [upd_ne (ne_of_none e h)]
  exact e
/-- the heap without the addresses M -/
def cut (M : List Addr) (H : Hp) : Hp := fun b => if b ∈ M then none else H b
/-- what H' has beside H -/
def nw (H H' : Hp) : Hp := fun b => match H b with
  | some _ => none
  | none => H' b
/-- all but M stands -/
def Fr (M : List Addr) (H H' : Hp) : Prop := ∀ b o, b ∉ M → H b = some o → H' b = some o
/-- M is tracked -/
def Trk (M : List Addr) (H : Hp) : Prop := ∀ b ∈ M, ∃ o, H b = some o
section
variable {M N : List Addr} {H H1 H2 H3 : Hp} {p : Addr} {o : HO}
theorem cut_in {b : Addr} (h : b ∈ M) : cut M H b = none := if_pos h
theorem cut_out {b : Addr} (h : b ∉ M) : cut M H b = H b := if_neg h
theorem cut_some {b : Addr} (h : cut M H b = some o) : b ∉ M ∧ H b = some o := by
  by_cases hb : b ∈ M
  · rw [cut_in hb] at h
    cases h
  · rw [cut_out hb] at h
    exact ⟨hb, h⟩
theorem cut_same : Same (cut M H) H := fun b o h => (cut_some h).2
theorem nw_none {b : Addr} (h : H b = none) : nw H H1 b = H1 b := by
  unfold nw
  rw [h]
theorem nw_some {b : Addr} (h : nw H H1 b = some o) : H b = none ∧ H1 b = some o := by
  unfold nw at h
  cases e : H b with
  | none =>
    rw [e] at h
    exact ⟨rfl, h⟩
  | some u =>
    rw [e] at h
    cases h
theorem nw_same : Same (nw H H1) H1 := fun b o h => (nw_some h).2
theorem Fr.refl : Fr M H H := fun _ _ _ h => h
theorem Fr.trans (a : Fr M H1 H2) (b : Fr M H2 H3) : Fr M H1 H3 := fun c o hc h => b c o hc (a c o hc h)
theorem Fr.of (a : Same H1 H2) : Fr M H1 H2 := fun b o _ h => a b o h
theorem Fr.same (a : Fr [] H1 H2) : Same H1 H2 := fun b o h => a b o (by simp) h
theorem Fr.more (a : Fr M H1 H2) (h : ∀ b ∈ M, b ∈ N) : Fr N H1 H2 := fun b o hb e => a b o (fun m => hb (h b m)) e
theorem Fr.mut (h : p ∈ M) : Fr M H (upd H p o) := fun b u hb e => by
  rw [upd_ne (fun z => hb (by rw [z]; exact h))]
  exact e
theorem Fr.new (h : H p = none) : Fr M H (upd H p o) := Fr.of (same_upd h)
/-- what was not tracked at the start may change -/
theorem Fr.drop (a : Fr (p :: M) H1 H2) (h : H1 p = none) : Fr M H1 H2 := fun b o hb e => a b o (by
  simp only [List.mem_cons, not_or]
  exact ⟨ne_of_none e h, hb⟩) e
theorem Fr.cut (a : Fr M H1 H2) : Same (cut M H1) (cut M H2) := fun b o h => by
  obtain ⟨hb, e⟩ := cut_some h
  rw [cut_out hb]
  exact a b o hb e
theorem cut_more (h : ∀ b ∈ N, b ∈ M) : Same (cut M H) (cut N H) := fun b o e => by
  obtain ⟨hb, e⟩ := cut_some e
  rw [cut_out (fun m => hb (h b m))]
  exact e
/-- new things are none of the tracked ones -/
theorem nw_cut (h : Trk M H1) : Same (nw H1 H2) (cut M H2) := fun b o e => by
  obtain ⟨e1, e2⟩ := nw_some e
  rw [cut_out]
  · exact e2
  · intro m
    obtain ⟨u, hu⟩ := h b m
    rw [e1] at hu
    cases hu
theorem nw_from (a : Same H1 H2) : Same (nw H2 H3) (nw H1 H3) := fun b o e => by
  obtain ⟨e1, e2⟩ := nw_some e
  rw [nw_none (a.free e1)]
  exact e2
/-- the new of a first step stands behind the second -/
theorem nw_on (h : Fr M H2 H3) (t : Trk M H1) : Same (nw H1 H2) (nw H1 H3) := fun b o e => by
  obtain ⟨e1, e2⟩ := nw_some e
  rw [nw_none e1]
  refine h b o (fun m => ?_) e2
  obtain ⟨u, hu⟩ := t b m
  rw [e1] at hu
  cases hu
theorem nw_on' (h : Same H2 H3) : Same (nw H1 H2) (nw H1 H3) := fun b o e => by
  obtain ⟨e1, e2⟩ := nw_some e
  rw [nw_none e1]
  exact h b o e2
/-- dom of H1 is in dom of H2 -/
theorem nw_from' (a : ∀ b o, H1 b = some o → ∃ u, H2 b = some u) : Same (nw H2 H3) (nw H1 H3) := fun b o e => by
  obtain ⟨e1, e2⟩ := nw_some e
  rw [nw_none]
  · exact e2
  · cases q : H1 b with
    | none => rfl
    | some u =>
      obtain ⟨v, hv⟩ := a b u q
      rw [e1] at hv
      cases hv
theorem nw_upd (h : H p = none) : nw H (upd H1 p o) p = some o := by
  rw [nw_none h, upd_same]
theorem cut_upd (h : p ∉ M) : cut M (upd H p o) p = some o := by
  rw [cut_out h, upd_same]
theorem Trk.ne {b : Addr} (t : Trk M H) (h : H b = none) : b ∉ M := fun m => by
  obtain ⟨u, hu⟩ := t b m
  rw [h] at hu
  cases hu
theorem Trk.up (t : Trk M H) (a : Same H H1) : Trk M H1 := fun b m => by
  obtain ⟨u, hu⟩ := t b m
  exact ⟨u, a b u hu⟩
end
theorem _root_.L2.Same.new {H : Hp} {p : Addr} {o : HO} (h : H p = none) : Same H (upd H p o) := same_upd h
/-- an object that the start does not know may change -/
theorem _root_.L2.Same.mut {H H' : Hp} {p : Addr} {o : HO} (e : Same H H') (h : H p = none) : Same H (upd H' p o) := fun a u ha => by
  rw [upd_ne (ne_of_none ha h)]
  exact e a u ha
theorem len_ok {xs : List V} (h : Nat.ble xs.length 1000 = true) : xs.length ≤ sizeLine := Nat.le_of_lt (small1000 (Nat.le_of_ble_eq_true h))
/-! ### data -/
mutual
inductive Dt (H : Hp) : V → PyData → Prop
  | non : Dt H .non .none
  | bl (b : Bool) : Dt H (.bl b) (.bool b)
  | int (i : Int) : Dt H (.int i) (.int i)
  | str (x : Str) : Dt H (.str x) (.str x)
  | lst {a : Addr} {xs : List V} {ds : List PyData} : H a = some (.lst xs) → DtAll H xs ds → Dt H (.ref a) (.list ds)
  | tup {a : Addr} {xs : List V} {ds : List PyData} : H a = some (.tup xs) → DtAll H xs ds → Dt H (.ref a) (.tuple ds)
inductive DtAll (H : Hp) : List V → List PyData → Prop
  | nil : DtAll H [] []
  | cons {v : V} {vs : List V} {d : PyData} {ds : List PyData} : Dt H v d → DtAll H vs ds → DtAll H (v :: vs) (d :: ds)
end
section
variable {H H1 : Hp} {K : PySem.W.Frag}
mutual
theorem Dt.mono (e : Same H H1) : ∀ {d : PyData} {v : V}, Dt H v d → Dt H1 v d
  | _, _, .non => .non
  | _, _, .bl b => .bl b
  | _, _, .int i => .int i
  | _, _, .str x => .str x
  | _, _, .lst h a => .lst (e _ _ h) (DtAll.mono e a)
  | _, _, .tup h a => .tup (e _ _ h) (DtAll.mono e a)
theorem DtAll.mono (e : Same H H1) : ∀ {ds : List PyData} {vs : List V}, DtAll H vs ds → DtAll H1 vs ds
  | _, _, .nil => .nil
  | _, _, .cons h a => .cons (Dt.mono e h) (DtAll.mono e a)
end
mutual
theorem Dt.dp : ∀ {d : PyData} {v : V}, Dt H v d → Dp K H v d
  | _, _, .non => .non
  | _, _, .bl b => .bl b
  | _, _, .int i => .int i
  | _, _, .str x => .str x
  | _, _, .lst h a => .lst (SqL.of h) (DtAll.dp a)
  | _, _, .tup h a => .tup (SqT.of h) (DtAll.dp a)
theorem DtAll.dp : ∀ {ds : List PyData} {vs : List V}, DtAll H vs ds → DpAll K H vs ds
  | _, _, .nil => .nil
  | _, _, .cons h a => .cons (Dt.dp h) (DtAll.dp a)
end
theorem Dt.int_inv {v : V} {i : Int} (h : Dt H v (.int i)) : v = .int i := by cases h <;> rfl
theorem Dt.str_inv {v : V} {x : Str} (h : Dt H v (.str x)) : v = .str x := by cases h <;> rfl
theorem Dt.bl_inv {v : V} {b : Bool} (h : Dt H v (.bool b)) : v = .bl b := by cases h <;> rfl
theorem Dt.non_inv {v : V} (h : Dt H v .none) : v = .non := by cases h <;> rfl
theorem Dt.lst_inv {v : V} {ds : List PyData} (h : Dt H v (.list ds)) : ∃ a xs, v = .ref a ∧ H a = some (.lst xs) ∧ DtAll H xs ds := by
  cases h with
  | lst h a => exact ⟨_, _, rfl, h, a⟩
theorem Dt.tup_inv {v : V} {ds : List PyData} (h : Dt H v (.tuple ds)) : ∃ a xs, v = .ref a ∧ H a = some (.tup xs) ∧ DtAll H xs ds := by
  cases h with
  | tup h a => exact ⟨_, _, rfl, h, a⟩
theorem DtAll.cons_inv {vs : List V} {d : PyData} {ds : List PyData} (h : DtAll H vs (d :: ds)) : ∃ v r, vs = v :: r ∧ Dt H v d ∧ DtAll H r ds := by
  cases h with
  | cons h a => exact ⟨_, _, rfl, h, a⟩
theorem DtAll.nil_inv {vs : List V} (h : DtAll H vs []) : vs = [] := by cases h <;> rfl
theorem DtAll.length : ∀ {ds : List PyData} {vs : List V}, DtAll H vs ds → vs.length = ds.length
  | _, _, .nil => rfl
  | _, _, .cons h a => congrArg Nat.succ (DtAll.length a)
theorem DtAll.get : ∀ {ds : List PyData} {vs : List V} {i : Nat} {d : PyData}, DtAll H vs ds → ds[i]? = some d → ∃ v, vs[i]? = some v ∧ Dt H v d
  | _, _, _, _, .nil, e => by simp at e
  | _, _, 0, d, .cons h a, e => by
    simp only [List.getElem?_cons_zero, Option.some.injEq] at e
    subst e
    exact ⟨_, by simp, h⟩
  | _, _, i + 1, d, .cons h a, e => by
    simp only [List.getElem?_cons_succ] at e
    obtain ⟨v, h1, h2⟩ := DtAll.get a e
    exact ⟨v, by simpa using h1, h2⟩
theorem DtAll.getV : ∀ {ds : List PyData} {vs : List V} {i : Nat} {v : V}, DtAll H vs ds → vs[i]? = some v → ∃ d, ds[i]? = some d ∧ Dt H v d
  | _, _, _, _, .nil, e => by simp at e
  | _, _, 0, d, .cons h a, e => by
    simp only [List.getElem?_cons_zero, Option.some.injEq] at e
    subst e
    exact ⟨_, by simp, h⟩
  | _, _, i + 1, d, .cons h a, e => by
    simp only [List.getElem?_cons_succ] at e
    obtain ⟨v, h1, h2⟩ := DtAll.getV a e
    exact ⟨v, by simpa using h1, h2⟩
theorem DtAll.append : ∀ {ds es : List PyData} {vs ws : List V}, DtAll H vs ds → DtAll H ws es → DtAll H (vs ++ ws) (ds ++ es)
  | _, _, _, _, .nil, b => b
  | _, _, _, _, .cons h a, b => .cons h (DtAll.append a b)
theorem DtAll.snoc {ds : List PyData} {d : PyData} {vs : List V} {v : V} (h : DtAll H vs ds) (k : Dt H v d) : DtAll H (vs ++ [v]) (ds ++ [d]) := h.append (.cons k .nil)
theorem DtAll.take : ∀ {ds : List PyData} {vs : List V} (n : Nat), DtAll H vs ds → DtAll H (vs.take n) (ds.take n)
  | _, _, 0, _ => by
    rw [List.take_zero, List.take_zero]
    exact .nil
  | _, _, n + 1, .nil => by
    rw [List.take_nil, List.take_nil]
    exact .nil
  | _, _, n + 1, .cons h a => by
    rw [List.take_succ_cons, List.take_succ_cons]
    exact .cons h (DtAll.take n a)
theorem DtAll.drop : ∀ {ds : List PyData} {vs : List V} (n : Nat), DtAll H vs ds → DtAll H (vs.drop n) (ds.drop n)
  | _, _, 0, h => h
  | _, _, n + 1, .nil => by
    rw [List.drop_nil, List.drop_nil]
    exact .nil
  | _, _, n + 1, .cons h a => by
    rw [List.drop_succ_cons, List.drop_succ_cons]
    exact DtAll.drop n a
theorem DtAll.ints : ∀ {ns : List Int} {vs : List V}, DtAll H vs (ns.map PyData.int) → vs = ns.map V.int
  | [], _, h => h.nil_inv
  | n :: ns, _, h => by
    obtain ⟨v, r, rfl, h1, h2⟩ := DtAll.cons_inv h
    rw [h1.int_inv, DtAll.ints h2]
    rfl
theorem DtAll.strs : ∀ {ns : List Str} {vs : List V}, DtAll H vs (ns.map PyData.str) → vs = ns.map V.str
  | [], _, h => h.nil_inv
  | n :: ns, _, h => by
    obtain ⟨v, r, rfl, h1, h2⟩ := DtAll.cons_inv h
    rw [h1.str_inv, DtAll.strs h2]
    rfl
theorem DtAll.ofInts : ∀ (ns : List Int), DtAll H (ns.map V.int) (ns.map PyData.int)
  | [] => .nil
  | n :: ns => .cons (.int n) (DtAll.ofInts ns)
theorem DtAll.ofStrs : ∀ (ns : List Str), DtAll H (ns.map V.str) (ns.map PyData.str)
  | [] => .nil
  | n :: ns => .cons (.str n) (DtAll.ofStrs ns)
theorem Dt.ints {ns : List Int} {v : V} (h : Dt H v (.list (ns.map PyData.int))) : ∃ a, v = .ref a ∧ H a = some (.lst (ns.map V.int)) := by
  obtain ⟨a, xs, rfl, e, k⟩ := h.lst_inv
  rw [k.ints] at e
  exact ⟨a, rfl, e⟩
theorem Dt.strs {ns : List Str} {v : V} (h : Dt H v (.list (ns.map PyData.str))) : ∃ a, v = .ref a ∧ H a = some (.lst (ns.map V.str)) := by
  obtain ⟨a, xs, rfl, e, k⟩ := h.lst_inv
  rw [k.strs] at e
  exact ⟨a, rfl, e⟩
theorem Dt.ofInts {a : Addr} {ns : List Int} (h : H a = some (.lst (ns.map V.int))) : Dt H (.ref a) (.list (ns.map PyData.int)) := .lst h (DtAll.ofInts ns)
theorem Dt.ofStrs {a : Addr} {ns : List Str} (h : H a = some (.lst (ns.map V.str))) : Dt H (.ref a) (.list (ns.map PyData.str)) := .lst h (DtAll.ofStrs ns)
theorem Dt.tup2 {v : V} {d1 d2 : PyData} (h : Dt H v (.tuple [d1, d2])) : ∃ a x1 x2, v = .ref a ∧ H a = some (.tup [x1, x2]) ∧ Dt H x1 d1 ∧ Dt H x2 d2 := by
  obtain ⟨a, xs, rfl, e, k⟩ := h.tup_inv
  obtain ⟨x1, r, rfl, h1, k⟩ := k.cons_inv
  obtain ⟨x2, r, rfl, h2, k⟩ := k.cons_inv
  rw [k.nil_inv] at e
  exact ⟨a, x1, x2, rfl, e, h1, h2⟩
theorem Dt.tup3 {v : V} {d1 d2 d3 : PyData} (h : Dt H v (.tuple [d1, d2, d3])) : ∃ a x1 x2 x3, v = .ref a ∧ H a = some (.tup [x1, x2, x3]) ∧ Dt H x1 d1 ∧ Dt H x2 d2 ∧ Dt H x3 d3 := by
  obtain ⟨a, xs, rfl, e, k⟩ := h.tup_inv
  obtain ⟨x1, r, rfl, h1, k⟩ := k.cons_inv
  obtain ⟨x2, r, rfl, h2, k⟩ := k.cons_inv
  obtain ⟨x3, r, rfl, h3, k⟩ := k.cons_inv
  rw [k.nil_inv] at e
  exact ⟨a, x1, x2, x3, rfl, e, h1, h2, h3⟩
theorem Dt.mk2 {a : Addr} {x1 x2 : V} {d1 d2 : PyData} (e : H a = some (.tup [x1, x2])) (h1 : Dt H x1 d1) (h2 : Dt H x2 d2) : Dt H (.ref a) (.tuple [d1, d2]) := .tup e (.cons h1 (.cons h2 .nil))
theorem Dt.mk3 {a : Addr} {x1 x2 x3 : V} {d1 d2 d3 : PyData} (e : H a = some (.tup [x1, x2, x3])) (h1 : Dt H x1 d1) (h2 : Dt H x2 d2) (h3 : Dt H x3 d3) : Dt H (.ref a) (.tuple [d1, d2, d3]) := .tup e (.cons h1 (.cons h2 (.cons h3 .nil)))
end
/-- a bundle of data -/
def Ct (S : Hp) (l : List (V × PyData)) : Prop := ∀ p ∈ l, Dt S p.1 p.2
theorem Ct.nil {S : Hp} : Ct S [] := fun p h => nomatch h
theorem Ct.mono {S S' : Hp} {l : List (V × PyData)} (h : Ct S l) (e : Same S S') : Ct S' l := fun p m => (h p m).mono e
theorem Ct.push {S : Hp} {l : List (V × PyData)} {v : V} {d : PyData} (h : Ct S l) (k : Dt S v d) : Ct S ((v, d) :: l) := fun p m => by
  rcases List.mem_cons.mp m with e | m
  · rw [e]
    exact k
  · exact h p m
theorem Ct.at {S : Hp} {l : List (V × PyData)} {v : V} {d : PyData} (h : Ct S l) (i : Nat) (e : l[i]? = some (v, d) := by rfl) : Dt S v d := h (v, d) (List.mem_of_getElem? e)
theorem Ct.tail {S : Hp} {l : List (V × PyData)} {p : V × PyData} (h : Ct S (p :: l)) : Ct S l := fun q m => h q (List.mem_cons_of_mem _ m)
end Q

set_option Elab.async false
set_option linter.all false
set_option maxRecDepth 100000
set_option maxHeartbeats 4000000
namespace Q
open PySem PySem.Spec PyProof.Rows L2
/-! ### the operators by names -/
def rAddI : R2 := rI0 fun i j => .int (i + j)
def rSubI : R2 := rI0 fun i j => .int (i - j)
def rMulI : R2 := rI CMul fun i j => .int (i * j)
def rModI : R2 := rI (fun _ j => 0 < j) fun i j => .int (i % j)
def rDivI : R2 := rI CDivW fun i j => .int (i / j)
def rPowI : R2 := rI CPow fun i j => .int (i ^ j.toNat)
def rLtI : R2 := rI0 fun i j => .bl (decide (i < j))
def rLeI : R2 := rI0 fun i j => .bl (decide (i ≤ j))
def rGtI : R2 := rI0 fun i j => .bl (decide (j < i))
def rGeI : R2 := rI0 fun i j => .bl (decide (j ≤ i))
def rAddS : R2 := fun x y H Q => ∃ i j, x = .str i ∧ y = .str j ∧ i.length + j.length ≤ sizeLine ∧ Q (.str (i ++ j)) H
def rInC : R2 := fun x y H Q => ∃ (c : Nat) (z : Str), x = .str ⟨#[c]⟩ ∧ y = .str z ∧ Q (.bl (decide (c ∈ z.cps.toList))) H
def rNotInC : R2 := fun x y H Q => ∃ (c : Nat) (z : Str), x = .str ⟨#[c]⟩ ∧ y = .str z ∧ Q (.bl (!decide (c ∈ z.cps.toList))) H
def rIsN : R2 := fun x y H Q => y = .non ∧ Q (.bl (decide (x = .non))) H
def rNotN : R2 := fun x y H Q => y = .non ∧ Q (.bl (!decide (x = .non))) H
abbrev RC := List V → Hp → VK → Prop
def rMax2 : RC := fun xs H Q => ∃ i j, xs = [.int i, .int j] ∧ Q (.int (if j > i then j else i)) H
def rMin2 : RC := fun xs H Q => ∃ i j, xs = [.int i, .int j] ∧ Q (.int (if j < i then j else i)) H
def rLenL (K : PySem.W.Frag) : RC := fun xs H Q => ∃ p ys, xs = [.ref p] ∧ (SqL K H p ys ∨ SqT K H p ys) ∧ Q (.int ys.length) H
def rLenS : RC := fun xs H Q => ∃ z, xs = [.str z] ∧ z.length ≤ sizeLine ∧ Q (.int z.length) H
def rLenA (K : PySem.W.Frag) : RC := fun xs H Q => ∃ x n, xs = [x] ∧ LenV K x H n ∧ Q (.int n) H
def rInt1 : RC := fun xs H Q => (∃ i, xs = [.int i] ∧ Q (.int i) H) ∨ ∃ k, xs = [.bl k] ∧ Q (.int (if k then 1 else 0)) H
def rStrI : RC := fun xs H Q => ∃ i, xs = [.int i] ∧ i.natAbs.log2 < 1920 ∧ Q (.str (toString i)) H
def rIntS : RC := fun xs H Q => ∃ a n, xs = [.str a] ∧ PySem.intText? a = some n ∧ a.length ≤ 640 ∧ Q (.int n) H
def rListL (K : PySem.W.Frag) : RC := fun xs H Q => ∃ p ys, xs = [.ref p] ∧ (SqL K H p ys ∨ SqT K H p ys) ∧ ∀ l, H l = none → Q (.ref l) (upd H l (.lst ys))
def rSplit : V → List V → Hp → VK → Prop := fun x xs H Q => ∃ a b, x = .str a ∧ xs = [.str b] ∧ (b.length == 0) = false ∧ a.length + 2 ≤ sizeLine ∧ rNewStrs (Txt.split a b) H Q
def rJoin (K : PySem.W.Frag) : V → List V → Hp → VK → Prop := fun x xs H Q => ∃ a p, ∃ ys : List Str, x = .str a ∧ xs = [.ref p] ∧ (SqL K H p (ys.map V.str) ∨ SqT K H p (ys.map V.str)) ∧ (ys.map (·.length)).sum + ys.length * a.length ≤ 16777216 ∧ Q (.str (Txt.join a ys)) H
def rCount : V → List V → Hp → VK → Prop := fun x xs H Q => ∃ a b, x = .str a ∧ xs = [.str b] ∧ Q (.int (Txt.count a b)) H
/-! ### steps of a reading -/
section
variable {σ : L2.St} {H : Hp} {Q : VK} {i : Nat} {v x y : V} {ta tb te : TE} {t u c : TT} {A B : TA} {r : R2} {K : PySem.W.Frag}
theorem w_var (h : σ[i]? = some (some v)) (q : Q v H) : tVar i σ H Q := ⟨v, h, q⟩
theorem w_c (q : Q v H) : tC v σ H Q := q
theorem w_op (q : ta σ H fun x H1 => tb σ H1 fun y H2 => r x y H2 Q) : tOp r ta tb σ H Q := q
theorem w_un {r : V → Hp → VK → Prop} (q : ta σ H fun x H1 => r x H1 Q) : tUn r ta σ H Q := q
theorem w_chain {r r' : R2} (q : ta σ H fun x H1 => tb σ H1 fun y H2 => r x y H2 fun z H3 => ∃ k, z = .bl k ∧ (if k = true then te σ H3 fun w' H4 => r' y w' H4 Q else Q (.bl false) H3)) : tChain r r' ta tb te σ H Q := q
theorem w_andV (q : ta σ H fun x H1 => ∃ c, x = .bl c ∧ if c = true then tb σ H1 Q else Q (.bl false) H1) : tAndV ta tb σ H Q := q
theorem w_orV (q : ta σ H fun x H1 => ∃ c, x = .bl c ∧ if c = true then Q (.bl true) H1 else tb σ H1 Q) : tOrV ta tb σ H Q := q
theorem w_notV (q : ta σ H fun x H1 => ∃ c, x = .bl c ∧ Q (.bl (!c)) H1) : tNotV ta σ H Q := q
theorem w_if (q : c σ H fun k H1 => if k = true then ta σ H1 Q else tb σ H1 Q) : tIf c ta tb σ H Q := q
theorem w_nil {Q : List V → Hp → Prop} (q : Q [] H) : tNil σ H Q := q
theorem w_cons {Q : List V → Hp → Prop} (q : ta σ H fun x H1 => A σ H1 fun xs H2 => Q (x :: xs) H2) : tCons ta A σ H Q := q
theorem w_cb {r : RC} (q : A σ H fun vs H1 => r vs H1 Q) : tCB r A σ H Q := q
theorem w_call {sp : Sp} {E : XK} (q : A σ H fun vs H1 => sp (vs ++ []) H1 Q E) : tCall sp [] E A σ H Q := q
theorem w_bm {T : String} {r : V → List V → Hp → VK → Prop} (q : ta σ H fun x H1 => tyV K T x H1 ∧ A σ H1 fun xs H2 => r x xs H2 Q) : tBM K T r ta A σ H Q := q
theorem w_bm0 {T : String} {r : V → List V → Hp → VK → Prop} (q : ta σ H fun x H1 => tyV K T x H1 ∧ r x [] H1 Q) : tBM0 K T r ta σ H Q := q
theorem w_m1 {r : V → List V → Hp → VK → Prop} (q : ta σ H fun x H1 => (∃ a, x = .str a) ∧ te σ H1 fun y H2 => r x [y] H2 Q) : tM1 r ta te σ H Q := q
theorem w_m0 {r : V → List V → Hp → VK → Prop} (q : ta σ H fun x H1 => (∃ a, x = .str a) ∧ r x [] H1 Q) : tM0 r ta σ H Q := q
theorem w_sl {r : V → Option Int → Option Int → Hp → VK → Prop} {tl th : TO} (q : te σ H fun x H1 => tl σ H1 fun l H2 => th σ H2 fun u H3 => r x l u H3 Q) : tSl r te tl th σ H Q := q
theorem w_nopart {Q : Option Int → Hp → Prop} (q : Q none H) : tNoPart σ H Q := q
theorem w_part {Q : Option Int → Hp → Prop} (q : te σ H fun x H1 => ∃ i, x = .int i ∧ Q (some i) H1) : tPart te σ H Q := q
theorem w_tup (q : A σ H fun xs H1 => xs.length ≤ sizeLine ∧ ∀ p, H1 p = none → Q (.ref p) (upd H1 p (.tup xs))) : tTup A σ H Q := q
theorem w_lst (q : A σ H fun xs H1 => xs.length ≤ sizeLine ∧ ∀ p, H1 p = none → Q (.ref p) (upd H1 p (.lst xs))) : tLst A σ H Q := q
/-- tests -/
theorem w_test {Q : Bool → Hp → Prop} (q : te σ H fun x H' => ∃ k, x = .bl k ∧ Q k H') : tTest te σ H Q := q
theorem w_tb {Q : Bool → Hp → Prop} (q : te σ H fun x H' => ∃ k, x = .bl k ∧ Q k H') : tB te σ H Q := q
theorem w_and {Q : Bool → Hp → Prop} (q : t σ H fun c H1 => if c = true then u σ H1 Q else Q false H1) : tAnd t u σ H Q := q
theorem w_or {Q : Bool → Hp → Prop} (q : t σ H fun c H1 => if c = true then Q true H1 else u σ H1 Q) : tOr t u σ H Q := q
theorem w_not {Q : Bool → Hp → Prop} (q : t σ H fun c H1 => Q (!c) H1) : tNot t σ H Q := q
theorem w_yes {Q : Bool → Hp → Prop} (q : Q true H) : tYes σ H Q := q
theorem ite_nt {A B : Prop} (h : B) : if (!true) = true then A else B := iteF h
theorem ite_nf {A B : Prop} (h : A) : if (!false) = true then A else B := iteT h
/-- operators on known kinds -/
theorem o_I0 {g : Int → Int → V} {i j : Int} (q : Q (g i j) H) : rI0 g (.int i) (.int j) H Q := ⟨i, j, rfl, rfl, q⟩
theorem o_I {C : Int → Int → Prop} {g : Int → Int → V} {i j : Int} (h : C i j) (q : Q (g i j) H) : rI C g (.int i) (.int j) H Q := ⟨i, j, rfl, rfl, h, q⟩
theorem o_add {i j : Int} (q : Q (.int (i + j)) H) : rAddI (.int i) (.int j) H Q := ⟨i, j, rfl, rfl, q⟩
theorem o_sub {i j : Int} (q : Q (.int (i - j)) H) : rSubI (.int i) (.int j) H Q := ⟨i, j, rfl, rfl, q⟩
theorem o_mul {i j : Int} (h : CMul i j) (q : Q (.int (i * j)) H) : rMulI (.int i) (.int j) H Q := ⟨i, j, rfl, rfl, h, q⟩
theorem o_mod {i j : Int} (h : 0 < j) (q : Q (.int (i % j)) H) : rModI (.int i) (.int j) H Q := ⟨i, j, rfl, rfl, h, q⟩
theorem o_div {i j : Int} (h : CDivW i j) (q : Q (.int (i / j)) H) : rDivI (.int i) (.int j) H Q := ⟨i, j, rfl, rfl, h, q⟩
theorem o_pow {i j : Int} (h : CPow i j) (q : Q (.int (i ^ j.toNat)) H) : rPowI (.int i) (.int j) H Q := ⟨i, j, rfl, rfl, h, q⟩
theorem o_lt {i j : Int} (q : Q (.bl (decide (i < j))) H) : rLtI (.int i) (.int j) H Q := ⟨i, j, rfl, rfl, q⟩
theorem o_le {i j : Int} (q : Q (.bl (decide (i ≤ j))) H) : rLeI (.int i) (.int j) H Q := ⟨i, j, rfl, rfl, q⟩
theorem o_gt {i j : Int} (q : Q (.bl (decide (j < i))) H) : rGtI (.int i) (.int j) H Q := ⟨i, j, rfl, rfl, q⟩
theorem o_ge {i j : Int} (q : Q (.bl (decide (j ≤ i))) H) : rGeI (.int i) (.int j) H Q := ⟨i, j, rfl, rfl, q⟩
theorem o_adds {i j : Str} (h : i.length + j.length ≤ sizeLine) (q : Q (.str (i ++ j)) H) : rAddS (.str i) (.str j) H Q := ⟨i, j, rfl, rfl, h, q⟩
theorem o_eq (h : scal x y = true) (q : Q (.bl (decide (x = y))) H) : rEq x y H Q := ⟨h, q⟩
theorem o_ne (h : scal x y = true) (q : Q (.bl (!decide (x = y))) H) : rNe x y H Q := ⟨h, q⟩
theorem o_inc {c : Nat} {z : Str} (q : Q (.bl (decide (c ∈ z.cps.toList))) H) : rInC (.str ⟨#[c]⟩) (.str z) H Q := ⟨c, z, rfl, rfl, q⟩
theorem o_notinc {c : Nat} {z : Str} (q : Q (.bl (!decide (c ∈ z.cps.toList))) H) : rNotInC (.str ⟨#[c]⟩) (.str z) H Q := ⟨c, z, rfl, rfl, q⟩
theorem o_isn (q : Q (.bl (decide (x = .non))) H) : rIsN x .non H Q := ⟨rfl, q⟩
theorem o_notn (q : Q (.bl (!decide (x = .non))) H) : rNotN x .non H Q := ⟨rfl, q⟩
theorem o_eqD {d e : PyData} (hd : Dp K H x d) (he : Dp K H y e) (sd : SeqAt.shaped d = true) (se : SeqAt.shaped e = true) (q : Q (.bl (PyData.eqv d e)) H) : rEqD K x y H Q := ⟨d, e, hd, he, sd, se, q⟩
theorem o_neD {d e : PyData} (hd : Dp K H x d) (he : Dp K H y e) (sd : SeqAt.shaped d = true) (se : SeqAt.shaped e = true) (q : Q (.bl (!PyData.eqv d e)) H) : rNeD K x y H Q := ⟨d, e, hd, he, sd, se, q⟩
theorem o_ixL {p : Addr} {xs : List V} {j : Nat} (h : H p = some (.lst xs)) (e : xs[j]? = some v) (q : Q v H) : rIxL K (.ref p) (.int (j : Int)) H Q := ⟨p, xs, _, v, rfl, rfl, SqL.of h, atI_nat e, q⟩
theorem o_ixL' {p : Addr} {xs : List V} {i : Int} (j : Nat) (hi : i = (j : Int)) (h : H p = some (.lst xs)) (e : xs[j]? = some v) (q : Q v H) : rIxL K (.ref p) (.int i) H Q := ⟨p, xs, _, v, rfl, rfl, SqL.of h, by rw [hi]; exact atI_nat e, q⟩
theorem o_ixLn {p : Addr} {xs : List V} {i : Int} (h : H p = some (.lst xs)) (hi : 0 ≤ i) (e : xs[i.toNat]? = some v) (q : Q v H) : rIxL K (.ref p) (.int i) H Q := o_ixL' i.toNat (Int.toNat_of_nonneg hi).symm h e q
theorem o_ixT' {p : Addr} {xs : List V} {i : Int} (j : Nat) (hi : i = (j : Int)) (h : H p = some (.tup xs)) (e : xs[j]? = some v) (q : Q v H) : rIxT K (.ref p) (.int i) H Q := ⟨p, xs, _, v, rfl, rfl, SqT.of h, by rw [hi]; exact atI_nat e, q⟩
theorem o_ixS' {z : Str} {i : Int} {c : Nat} (j : Nat) (hi : i = (j : Int)) (hz : z.length ≤ sizeLine) (e : z.cps.toList[j]? = some c) (q : Q (.str ⟨#[c]⟩) H) : rIxS (.str z) (.int i) H Q := ⟨z, i, c, rfl, rfl, hz, by rw [hi]; exact atI_nat e, q⟩
theorem o_ixTn {p : Addr} {xs : List V} {i : Int} (h : H p = some (.tup xs)) (hi : 0 ≤ i) (e : xs[i.toNat]? = some v) (q : Q v H) : rIxT K (.ref p) (.int i) H Q := o_ixT' i.toNat (Int.toNat_of_nonneg hi).symm h e q
theorem o_max2 {i j : Int} (q : Q (.int (if j > i then j else i)) H) : rMax2 [.int i, .int j] H Q := ⟨i, j, rfl, q⟩
theorem o_min2 {i j : Int} (q : Q (.int (if j < i then j else i)) H) : rMin2 [.int i, .int j] H Q := ⟨i, j, rfl, q⟩
theorem o_lenL {p : Addr} {ys : List V} (h : H p = some (.lst ys)) (q : Q (.int ys.length) H) : rLenL K [.ref p] H Q := ⟨p, ys, rfl, .inl (SqL.of h), q⟩
theorem o_lenT {p : Addr} {ys : List V} (h : H p = some (.tup ys)) (q : Q (.int ys.length) H) : rLenL K [.ref p] H Q := ⟨p, ys, rfl, .inr (SqT.of h), q⟩
theorem o_lenS {z : Str} (h : z.length ≤ sizeLine) (q : Q (.int z.length) H) : rLenS [.str z] H Q := ⟨z, rfl, h, q⟩
theorem o_isi {t T : String} {r : Bool} (ty : TyX K H x (.type t)) (k : kitB t T = some r) (q : Q (.bl r) H) : rIsi K [x, .ty T] H Q := ⟨x, .ty T, _, _, r, rfl, .ty T, ty, kit_ty k, q⟩
theorem o_intB {k : Bool} (q : Q (.int (if k then 1 else 0)) H) : rInt1 [.bl k] H Q := .inr ⟨k, rfl, q⟩
theorem o_strI {i : Int} (h : i.natAbs.log2 < 1920) (q : Q (.str (toString i)) H) : rStrI [.int i] H Q := ⟨i, rfl, h, q⟩
theorem o_listL {p : Addr} {ys : List V} (h : H p = some (.lst ys)) (q : ∀ l, H l = none → Q (.ref l) (upd H l (.lst ys))) : rListL K [.ref p] H Q := ⟨p, ys, rfl, .inl (SqL.of h), q⟩
theorem ty_list {p : Addr} {ys : List V} (h : H p = some (.lst ys)) : tyV K "list" (.ref p) H := .inl ⟨rfl, _, SqL.of h⟩
theorem o_append {p : Addr} {xs : List V} (h : H p = some (.lst xs)) (hz : xs.length < sizeLine) (q : Q .non (upd H p (.lst (xs ++ [y])))) : rAppend (.ref p) [y] H Q := ⟨p, xs, y, rfl, rfl, h, hz, q⟩
theorem o_join {a : Str} {p : Addr} {ys : List Str} (h : H p = some (.lst (ys.map V.str))) (hz : (ys.map (·.length)).sum + ys.length * a.length ≤ 16777216) (q : Q (.str (Txt.join a ys)) H) : rJoin K (.str a) [.ref p] H Q := ⟨a, p, ys, rfl, rfl, .inl (SqL.of h), hz, q⟩
end
section
variable {σ : L2.St} {H : Hp} {D : Ends} {i : Nat} {v : V} {ta tb te : TE} {c : TT} {t u rest : TS} {g : TG} {K : PySem.W.Frag} {wi : TI}
theorem z_asg (q : te σ H fun x H1 => g x σ H1 (rest D)) : tSeq (tAsg te g) rest D σ H := q
theorem z_asg1 (q : te σ H fun x H1 => g x σ H1 D.nx) : tAsg te g D σ H := q
theorem z_drop (q : te σ H fun _ H1 => rest D σ H1) : tSeq (tDrop te) rest D σ H := q
theorem z_drop1 (q : te σ H fun _ H1 => D.nx σ H1) : tDrop te D σ H := q
theorem z_ret (q : te σ H D.rt) : tRet te D σ H := q
theorem z_ret' (q : te σ H D.rt) : tSeq (tRet te) rest D σ H := q
theorem z_if (q : c σ H fun b H1 => if b = true then t { D with nx := rest D } σ H1 else u { D with nx := rest D } σ H1) : tSeq (tIfS c t u) rest D σ H := q
theorem z_if1 (q : c σ H fun b H1 => if b = true then t D σ H1 else u D σ H1) : tIfS c t u D σ H := q
theorem z_next (q : D.nx σ H) : tNext D σ H := q
theorem z_aug {f : TIp} (q : ∃ x, σ[i]? = some (some x) ∧ te σ H fun y H1 => f x y H1 fun z H2 => rest D (σ.set i (some z)) H2) : tSeq (tAug i te f) rest D σ H := q
theorem z_aug1 {f : TIp} (q : ∃ x, σ[i]? = some (some x) ∧ te σ H fun y H1 => f x y H1 fun z H2 => D.nx (σ.set i (some z)) H2) : tAug i te f D σ H := q
theorem g_name {Q : L2.St → Hp → Prop} (q : Q (σ.set i (some v)) H) : gName i v σ H Q := q
theorem g_nil {Q : L2.St → Hp → Prop} (q : Q σ H) : gNil [] σ H Q := ⟨rfl, q⟩
theorem g_cons {Q : L2.St → Hp → Prop} {t : TG} {u : TGs} {vs : List V} (q : t v σ H fun σ' H' => u vs σ' H' Q) : gCons t u (v :: vs) σ H Q := ⟨v, vs, rfl, q⟩
theorem g_tup {Q : L2.St → Hp → Prop} {n : Nat} {t : TGs} {a : Addr} {xs : List V} (h : H a = some (.tup xs)) (hn : xs.length = n) (q : t xs σ H Q) : gTup K n t (.ref a) σ H Q := ⟨a, xs, rfl, SqT.of h, hn, q⟩
theorem g_sub {Q : L2.St → Hp → Prop} {to ti : TE} {s : TSet} (q : to σ H fun o H1 => ti σ H1 fun i H2 => s o i v H2 fun H3 => Q σ H3) : gSub to ti s v σ H Q := q
theorem seq0 {α : Type} {x : α} {xs : List α} : seqIndex? 0 (x :: xs).length = some 0 := by
  unfold seqIndex?
  rw [List.length_cons]
  simp
theorem g_setLn {Q : Hp → Prop} {p : Addr} {xs : List V} {i : Int} (h : H p = some (.lst xs)) (hi : 0 ≤ i) (hj : Nat.blt i.toNat xs.length = true) (q : Q (upd H p (.lst (xs.set i.toNat v)))) : rSetL (.ref p) (.int i) v H Q := ⟨p, xs, i, i.toNat, rfl, rfl, h, by
  have hj := Nat.blt_eq.mp hj
  unfold ixN
  rw [if_pos hi, if_pos (by omega)], q⟩
theorem g_setL {Q : Hp → Prop} {p : Addr} {xs : List V} {j : Nat} (h : H p = some (.lst xs)) (hj : j < xs.length) (q : Q (upd H p (.lst (xs.set j v)))) : rSetL (.ref p) (.int (j : Int)) v H Q := ⟨p, xs, j, j, rfl, rfl, h, by
  unfold ixN
  rw [if_pos (Int.natCast_nonneg j), if_pos (by omega), Int.toNat_natCast], q⟩
/-! loops -/
theorem l_list (xs : List V) (Pv : Nat → L2.St → Hp → Prop)
    (q : ta σ H fun x H1 => ∃ a, x = .ref a ∧ SqL K H1 a xs ∧ Pv 0 σ H1 ∧ (∀ i σ' H', i ≤ xs.length → Pv i σ' H' → SqL K H' a xs) ∧
      (∀ i x σ' H', xs[i]? = some x → Pv i σ' H' → g x σ' H' fun σ2 H2 => t { D with nx := Pv (i + 1), ct := Pv (i + 1), bk := rest D } σ2 H2) ∧ (∀ σ' H', Pv xs.length σ' H' → rest D σ' H'))
    (mono : ∀ σ H Q Q', (∀ b H1, Q b H1 → Q' b H1) → ta σ H Q → ta σ H Q') : tSeq (tFor (iList K ta) g t) rest D σ H := by
  refine mono σ H _ _ (fun x H1 q => ?_) q
  obtain ⟨a, e, h, h0, hl, hs, hd⟩ := q
  exact ⟨a, e, ⟨_, h⟩, for_list (D := { D with nx := rest D }) Pv h0 hl hs hd⟩
theorem m_var {i : Nat} : ∀ (σ : L2.St) (H : Hp) (Q Q' : VK), (∀ b H1, Q b H1 → Q' b H1) → tVar i σ H Q → tVar i σ H Q' := fun σ H Q Q' h ⟨v, e, q⟩ => ⟨v, e, h _ _ q⟩
/-- for x in a list that stands at a name: l its address -/
theorem l_listV {j : Nat} {a : Addr} (xs : List V) (Pv : Nat → L2.St → Hp → Prop) (hv : σ[j]? = some (some (.ref a))) (h : SqL K H a xs) (h0 : Pv 0 σ H) (hl : ∀ i σ' H', i ≤ xs.length → Pv i σ' H' → SqL K H' a xs)
    (hs : ∀ i x σ' H', xs[i]? = some x → Pv i σ' H' → g x σ' H' fun σ2 H2 => t { D with nx := Pv (i + 1), ct := Pv (i + 1), bk := rest D } σ2 H2) (hd : ∀ σ' H', Pv xs.length σ' H' → rest D σ' H') : tSeq (tFor (iList K (tVar j)) g t) rest D σ H :=
  ⟨_, hv, a, rfl, ⟨_, h⟩, for_list (D := { D with nx := rest D }) Pv h0 hl hs hd⟩
/-- for k in range(n), n what ta gives -/
theorem l_range {A : TA} (n : Nat) (Pv : Nat → L2.St → Hp → Prop)
    (q : A σ H fun vs H1 => ∃ z : Int, vs = [.int z] ∧ z.toNat = n ∧ -(2 ^ 62) ≤ z ∧ z < 2 ^ 62 ∧ Pv 0 σ H1)
    (hs : ∀ i σ' H', i < n → Pv i σ' H' → g (.int (i : Nat)) σ' H' fun σ2 H2 => t { D with nx := Pv (i + 1), ct := Pv (i + 1), bk := rest D } σ2 H2) (hd : ∀ σ' H', Pv n σ' H' → rest D σ' H')
    (mono : ∀ (Q Q' : List V → Hp → Prop), (∀ b H1, Q b H1 → Q' b H1) → A σ H Q → A σ H Q') : tSeq (tFor (iRng1 A) g t) rest D σ H := by
  refine mono _ _ (fun vs H1 q => ?_) q
  obtain ⟨z, e, hz, b1, b2, h0⟩ := q
  refine ⟨z, e, b1, b2, ?_⟩
  rw [hz]
  refine for_range (D := { D with nx := rest D }) Pv h0 (fun i σ' H' hi p => ?_) hd
  have w := hs i σ' H' hi p
  rw [show (0 : Int) + (i : Nat) = (i : Nat) from Int.zero_add _]
  exact w
end
end Q

set_option Elab.async false
set_option linter.all false
set_option maxRecDepth 100000
set_option maxHeartbeats 4000000
namespace Q
open PySem PySem.Spec PyProof.Rows L2
/-! ### defs of the text, called by name -/
/-- a def of the top that keeps its promise -/
def Def (P : Program) (w : World) (K : PySem.W.Frag) (mg : Str → Option Value) (base : Heap) (CX : CXT) (k : Nat) (x : Str) (ps : List Str) (st : Stmt) (sp : Sp) : Prop :=
  ∃ f fd, mg x = some (.ref f) ∧ PySem.W.keepIn K (.ref f) = true ∧ FunD K x x (defArgs st) (defBody st) (defScope st) [] [] f fd ∧ Binds K fd ps [] ∧ FnOk P w K mg base CX k f fd ps sp
/-- what K and the module's names say of a def -/
def HasDef (K : PySem.W.Frag) (mg : Str → Option Value) (x : Str) (st : Stmt) : Prop := ∃ fd, FunD K x x (defArgs st) (defBody st) (defScope st) [] [] (He.ga K x) fd ∧ mg x = some (.ref (He.ga K x))
theorem HasDef.ok {P : Program} {w : World} {K : PySem.W.Frag} {mg : Str → Option Value} {base : Heap} {CX : CXT} {k : Nat} {x : Str} {N ps : List Str} {st : Stmt} {sp : Sp} (T : HasDef K mg x st) (S : FnScope N ps (defScope st)) (len : ∀ vs H Q E, sp vs H Q E → vs.length = ps.length)
    (hb : ∀ (kV doc pm : Value) (an : Option Addr) (cdv ct : Value) (us : List Value), us.length = ps.length → bindArgs (PySem.W.fnOf x x (defArgs st) (defBody st) (defScope st) .none kV doc pm an cdv ct) ⟨us, []⟩ = pure (ps.zip us))
    (hbody : ∀ (f : Addr) (cdv : Value) (A : Around) (outer : List Env) (s : Shared) (H : Hp) (vs : List V) (Q : VK) (E : XK), Room k (A.deeper (envOfC x (defScope st) s.heap.objs.size f cdv)) → sp vs H Q E →
      ∃ t, PSs (cxOf CX P w K mg base N x (defScope st) f cdv A outer s H E) (defBody st) t ∧ t { nx := fun _ H' => Q .non H', rt := Q } (start N vs) H) : Def P w K mg base CX (k + 1) x ps st sp := by
  obtain ⟨fd, F, hm⟩ := T
  exact ⟨_, fd, hm, F.kp, F, F.bindsN hb, F.ok S len (hbody _)⟩
/-- a def of which nothing is promised -/
theorem HasDef.none {P : Program} {w : World} {K : PySem.W.Frag} {mg : Str → Option Value} {base : Heap} {CX : CXT} {x : Str} {N ps : List Str} {st : Stmt} (T : HasDef K mg x st) (S : FnScope N ps (defScope st))
    (hb : ∀ (kV doc pm : Value) (an : Option Addr) (cdv ct : Value) (us : List Value), us.length = ps.length → bindArgs (PySem.W.fnOf x x (defArgs st) (defBody st) (defScope st) .none kV doc pm an cdv ct) ⟨us, []⟩ = pure (ps.zip us)) : Def P w K mg base CX 0 x ps st (fun _ _ _ _ => False) := by
  obtain ⟨fd, F, hm⟩ := T
  exact ⟨_, fd, hm, F.kp, F, F.bindsN hb, ⟨fun _ _ _ _ h => h.elim, fun _ _ _ _ _ _ _ _ _ _ _ _ _ h => h.elim⟩⟩
section
variable {X : Cx} {CX : CXT} {k : Nat} {ps ks : List Str} {sp : Sp} {st : Stmt} {E : XK} {x : Str} {p pos : Pos} {e : Expr} {es : List Expr} {kws : List Keyword} {t tk : TA}
theorem pe_callD (F : Def X.prog X.w X.K X.mg X.base CX k x ps st sp) (hr : Room k X.A) (hg : Gl X x) (hx : Passes CX X E)
    (ha : PA X (e :: es) t) (hdb : (x == ("__debug__" : Str)) = false := by decide) (he : starEach (e :: es) X.env = (false, eval e X.env) :: starEach es X.env := by rfl) (hpl : (backTo pos (starEach es X.env)).any (·.1) = false := by rfl) :
    PE X (.Call (.Name x p) (e :: es) [] pos) (tCall sp [] E t) := by
  obtain ⟨f, fd, hm, kp, _, hb, G⟩ := F
  exact pe_call G hr hg hm kp hb .nil hx ha hdb he hpl
theorem pe_callD0 (F : Def X.prog X.w X.K X.mg X.base CX k x ps st sp) (hr : Room k X.A) (hg : Gl X x) (hx : Passes CX X E) (hdb : (x == ("__debug__" : Str)) = false := by decide) :
    PE X (.Call (.Name x p) [] [] pos) (tCall sp [] E tNil) := by
  obtain ⟨f, fd, hm, kp, _, hb, G⟩ := F
  exact pe_call0 G hr hg hm kp hb .nil hx hdb
/-- the values by places -/
def pick {α : Type} (is : List Nat) (zs : List α) : List α := is.filterMap fun i => zs[i]?
theorem pick_rel {vs : List V} {us : List Value} (r : Vals vs us) : ∀ is : List Nat, Vals (pick is vs) (pick is us)
  | [] => .nil
  | i :: is => by
    unfold pick
    cases e : vs[i]? with
    | none =>
      rw [List.filterMap_cons, List.filterMap_cons, e, r.none_of e]
      exact pick_rel r is
    | some v =>
      obtain ⟨u, hu, ru⟩ := r.get e
      rw [List.filterMap_cons, List.filterMap_cons, e, hu]
      exact .cons ru (pick_rel r is)
/-- f(a = e, ..): every argument by name; is: for each parameter the place among the written ones -/
def tKw (is : List Nat) (sp : Sp) (E : XK) (tk : TA) : TE := fun σ H Q => tk σ H fun zs H2 => zs.length = is.length ∧ sp (pick is zs) H2 Q E
theorem w_kw {is : List Nat} {sp : Sp} {E : XK} {tk : TA} {σ : L2.St} {H : Hp} {Q : VK} (q : tk σ H fun zs H2 => zs.length = is.length ∧ sp (pick is zs) H2 Q E) : tKw is sp E tk σ H Q := q
theorem pe_kwD {is : List Nat} (F : Def X.prog X.w X.K X.mg X.base CX k x ps st sp) (hr : Room k X.A) (hg : Gl X x) (hx : Passes CX X E)
    (hb : ∀ (kV doc pm : Value) (an : Option Addr) (cdv ct : Value) (ws : List Value), ws.length = is.length → bindArgs (PySem.W.fnOf x x (defArgs st) (defBody st) (defScope st) .none kV doc pm an cdv ct) ⟨[], ks.zip ws⟩ = pure (ps.zip (pick is ws)))
    (hkw : PK X kws tk) (hall : (backToKw pos (keywordEach kws X.env)).all (·.1.isSome) = true := by rfl) (hks : (backToKw pos (keywordEach kws X.env)).filterMap (·.1) = ks := by rfl)
    (hdb : (x == ("__debug__" : Str)) = false := by decide)
    (hpl : ((backTo pos (starEach [] X.env)).any (·.1) || (backToKw pos (keywordEach kws X.env)).any (·.1.isNone)) = false := by rfl) :
    PE X (.Call (.Name x p) [] kws pos) (tKw is sp E tk) := by
  obtain ⟨f, fd, hm, kp, FD, _, F⟩ := F
  refine ⟨fun pins s σ H Q I h => ?_⟩
  refine wpAny_Call_Name_kw (ld_glob I hg hm ?_ hdb)
  refine PySem.W.callWith_KW0 (h₀ := X.base) I.ok.mod.kin kp hall (thn (hkw.run pos pins s σ H _ I h) fun ws s1 ⟨zs, H1, I1, r, l1, q⟩ => ⟨I1.kIn, ?_⟩) hpl
  rw [hks]
  have l2 : ws.length = is.length := r.length.symm.trans l1
  have bt : BindsTo s1 fd ⟨[], ks.zip ws⟩ (ps.zip (pick is ws)) := by
    obtain ⟨oc, od, dV, kV, doc, pm, an, cdv, ct, osl, rfl, lk, hcd, hD, hK⟩ := FD.ex
    rcases hD with ⟨_, rfl⟩ | ⟨e, _⟩
    · exact .of_eq (hb kV doc pm an cdv ct ws l2)
    · exact absurd rfl e
  show wpAny (model X.prog X.w) X.A (call (.ref f) [] (ks.zip ws)) _ _ _
  refine wpAny_call (codeAny_mono (F.run X.A X.stack s1 H1 ⟨[], ks.zip ws⟩ (pick is ws) (pick is zs) Q E hr I1.env0 bt (pick_rel r is) q) fun r s' hq => ?_)
  cases r with
  | error e => exact hx pins σ H1 s1 e s' I1 hq
  | ok fl =>
    cases fl with
    | ret u => exact I1.after hq
    | next => exact False.elim hq
    | brk => exact False.elim hq
    | cont => exact False.elim hq
end
/-- a module's constant text, a constant int -/
def HasStr (mg : Str → Option Value) (x z : Str) : Prop := ∃ t, mg x = some (.str z t)
def HasInt (mg : Str → Option Value) (x : Str) (i : Int) : Prop := ∃ t, mg x = some (.int i t)
section
variable {X : Cx} {x z : Str} {i : Int} {pos : Pos}
theorem pe_gstr (h : HasStr X.mg x z) (hg : Gl X x) (hd : (x == ("__debug__" : Str)) = false := by decide) : PE X (.Name x pos) (tC (.str z)) := by
  obtain ⟨t, h⟩ := h
  exact pe_glob hg h ⟨t, rfl⟩ hd
theorem pe_gint (h : HasInt X.mg x i) (hg : Gl X x) (hd : (x == ("__debug__" : Str)) = false := by decide) : PE X (.Name x pos) (tC (.int i)) := by
  obtain ⟨t, h⟩ := h
  exact pe_glob hg h ⟨t, rfl⟩ hd
end
/-- the law's def, from its promise -/
theorem law_of {P : Program} {w : World} {K : PySem.W.Frag} {mg : Str → Option Value} {base : Heap} {CX : CXT} {k : Nat} {x : Str} {p : Str} {st : Stmt} {sp : Sp} {f : Addr} (F : Def P w K mg base CX k x [p] st sp) (hf : mg x = some (.ref f)) :
    ∃ fd, FunD K x x (defArgs st) (defBody st) (defScope st) [] [] f fd ∧ FnOk P w K mg base CX k f fd [p] sp := by
  obtain ⟨g, fd, hm, kp, FD, hb, G⟩ := F
  obtain rfl : g = f := by
    have e := hm.symm.trans hf
    cases e
    rfl
  exact ⟨fd, FD, G⟩
end Q

set_option Elab.async false
set_option linter.all false
set_option maxRecDepth 100000
set_option maxHeartbeats 4000000
namespace Q
open PySem PySem.Spec PyProof.Rows L2
/-! ### loops and comprehensions over any walk -/
/-- a for's loop over J, then k -/
def FF (g : TG) (t : TS) (D : Ends) (k : L2.St → Hp → Prop) (σ : L2.St) (J : It) (H : Hp) : Prop := ∃ W : Nat → Nat → L2.St → Hp → Prop, (∃ m, W 0 m σ H) ∧ ∀ i m σ H, W i m σ H →
  (J.stop i H ∧ k σ H) ∨ (J.go i H ∧ ∃ N : L2.St → Hp → Prop, (∀ σ' H', N σ' H' → ∃ m', m' < m ∧ W (i + 1) m' σ' H') ∧ ∀ x H', J.yld i H x H' → g x σ H' fun σ2 H2 => t { D with nx := N, ct := N, bk := k } σ2 H2)
/-- a comprehension's loop over J, the new list at Dl -/
def CC (g : TG) (tt : TT) (te : TE) (vs : List Nat) (σ : L2.St) (Q : VK) (J : It) (Dl : Addr) (H1 : Hp) : Prop := ∃ W : Nat → Nat → Hp → Prop, (∃ m, W 0 m (upd H1 Dl (.lst []))) ∧ ∀ i m H, W i m H →
  (J.stop i H ∧ Q (.ref Dl) H) ∨ (J.go i H ∧ ∃ Nx : Hp → Prop, (∀ H', Nx H' → ∃ m', m' < m ∧ W (i + 1) m' H') ∧ ∀ x H', J.yld i H x H' → g x (wipe σ vs) H' fun σ2 H2 => wipe σ2 vs = wipe σ vs ∧ tt σ2 H2 fun b H3 =>
    if b = true then te σ2 H3 fun y H4 => ∃ acc, H4 Dl = some (.lst acc) ∧ acc.length < sizeLine ∧ Nx (upd H4 Dl (.lst (acc ++ [y]))) else Nx H3)
section
variable {σ : L2.St} {H H1 : Hp} {D : Ends} {g : TG} {t rest : TS} {tt : TT} {te ta : TE} {A : TA} {vs : List Nat} {wi : TI} {K : PySem.W.Frag} {k : L2.St → Hp → Prop} {J : It} {n : Nat} {Q : VK} {R : It → Hp → Prop} {c : TT}
theorem z_for (q : wi σ H fun J H1 => FF g t D (rest D) σ J H1) : tSeq (tFor wi g t) rest D σ H := q
theorem z_for1 (q : wi σ H fun J H1 => FF g t D D.nx σ J H1) : tFor wi g t D σ H := q
theorem w_lc (q : wi σ H fun J H1 => ∀ Dl, H1 Dl = none → CC g tt te vs σ Q J Dl H1) : tLc wi g tt te vs σ H Q := q
theorem w_ilist (q : ta σ H fun x H1 => ∃ a, x = .ref a ∧ (∃ xs, SqL K H1 a xs) ∧ R (Itl K a) H1) : iList K ta σ H R := q
theorem w_itup (q : ta σ H fun x H1 => ∃ a, x = .ref a ∧ (∃ xs, SqT K H1 a xs) ∧ R (Itt K a) H1) : iTup K ta σ H R := q
theorem w_irng1 (q : A σ H fun vs H1 => ∃ j : Int, vs = [.int j] ∧ -(2 ^ 62) ≤ j ∧ j < 2 ^ 62 ∧ R (Itr 0 j.toNat) H1) : iRng1 A σ H R := q
theorem w_irng2 (q : A σ H fun vs H1 => ∃ i j : Int, vs = [.int i, .int j] ∧ (-(2 ^ 62) ≤ i ∧ i < 2 ^ 62 ∧ -(2 ^ 62) ≤ j ∧ j < 2 ^ 62) ∧ R (Itr i (j - i).toNat) H1) : iRng2 A σ H R := q
theorem w_istr (q : ta σ H fun v H1 => ∃ x, v = .str x ∧ R (Its x) H1) : iStr ta σ H R := q
theorem w_ienum (q : A σ H fun vs H1 => ∃ a xs, vs = [.ref a] ∧ SqL K H1 a xs ∧ R (Ite K a) H1) : iEnum K A σ H R := q
theorem w_izip (q : A σ H fun vs H1 => ∃ a b xs ys, vs = [.ref a, .ref b] ∧ SqL K H1 a xs ∧ SqL K H1 b ys ∧ R (Itz K a b) H1) : iZip K A σ H R := q
theorem f_it {G : Hp → Prop} {Y : Nat → Hp → V → Hp → Prop} (w : Walk J n G Y) (Pv : Nat → L2.St → Hp → Prop) (h0 : Pv 0 σ H) (hG : ∀ i σ H, i ≤ n → Pv i σ H → G H)
    (hs : ∀ i x σ H H', i < n → Pv i σ H → Y i H x H' → g x σ H' fun σ2 H2 => t { D with nx := Pv (i + 1), ct := Pv (i + 1), bk := k } σ2 H2) (hd : ∀ σ H, Pv n σ H → k σ H) : FF g t D k σ J H :=
  for_it w (D := { D with nx := k }) Pv h0 hG hs hd
theorem c_it {Dl : Addr} {G : Hp → Prop} {Y : Nat → Hp → V → Hp → Prop} (w : Walk J n G Y) (Pv : Nat → Hp → Prop) (h0 : Pv 0 (upd H1 Dl (.lst []))) (hG : ∀ i H, i ≤ n → Pv i H → G H)
    (hs : ∀ i x H H', i < n → Pv i H → Y i H x H' → g x (wipe σ vs) H' fun σ2 H2 => wipe σ2 vs = wipe σ vs ∧ tt σ2 H2 fun b H3 =>
      if b = true then te σ2 H3 fun y H4 => ∃ acc, H4 Dl = some (.lst acc) ∧ acc.length < sizeLine ∧ Pv (i + 1) (upd H4 Dl (.lst (acc ++ [y]))) else Pv (i + 1) H3) (hd : ∀ H, Pv n H → Q (.ref Dl) H) : CC g tt te vs σ Q J Dl H1 :=
  lc_it w Pv h0 hG hs hd
/-- over a list: the items are the xs -/
theorem f_list {a : Addr} (xs : List V) (Pv : Nat → L2.St → Hp → Prop) (h0 : Pv 0 σ H) (hG : ∀ i σ H, i ≤ xs.length → Pv i σ H → SqL K H a xs)
    (hs : ∀ i x σ H, xs[i]? = some x → Pv i σ H → g x σ H fun σ2 H2 => t { D with nx := Pv (i + 1), ct := Pv (i + 1), bk := k } σ2 H2) (hd : ∀ σ H, Pv xs.length σ H → k σ H) : FF g t D k σ (Itl K a) H :=
  f_it walk_list Pv h0 hG (fun i x σ H H' hi p y => by
    obtain ⟨e, y⟩ := y
    subst e
    exact hs i x σ _ y p) hd
theorem f_tup {a : Addr} (xs : List V) (Pv : Nat → L2.St → Hp → Prop) (h0 : Pv 0 σ H) (hG : ∀ i σ H, i ≤ xs.length → Pv i σ H → SqT K H a xs)
    (hs : ∀ i x σ H, xs[i]? = some x → Pv i σ H → g x σ H fun σ2 H2 => t { D with nx := Pv (i + 1), ct := Pv (i + 1), bk := k } σ2 H2) (hd : ∀ σ H, Pv xs.length σ H → k σ H) : FF g t D k σ (Itt K a) H :=
  f_it walk_tup Pv h0 hG (fun i x σ H H' hi p y => by
    obtain ⟨e, y⟩ := y
    subst e
    exact hs i x σ _ y p) hd
/-- for i in range(z): i the turn -/
theorem f_rng {z : Int} (Pv : Nat → L2.St → Hp → Prop) (h0 : Pv 0 σ H)
    (hs : ∀ i σ H, i < z.toNat → Pv i σ H → g (.int (i : Int)) σ H fun σ2 H2 => t { D with nx := Pv (i + 1), ct := Pv (i + 1), bk := k } σ2 H2) (hd : ∀ σ H, Pv z.toNat σ H → k σ H) : FF g t D k σ (Itr 0 z.toNat) H :=
  f_it walk_range Pv h0 (fun _ _ _ _ _ => True.intro) (fun i x σ H H' hi p y => by
    obtain ⟨e, y⟩ := y
    subst e
    have e : x = V.int (i : Int) := y.trans (congrArg V.int (Int.zero_add _))
    rw [e]
    exact hs i σ _ hi p) hd
theorem f_rng2 {lo hi : Int} (Pv : Nat → L2.St → Hp → Prop) (h0 : Pv 0 σ H)
    (hs : ∀ i σ H, i < (hi - lo).toNat → Pv i σ H → g (.int (lo + (i : Nat))) σ H fun σ2 H2 => t { D with nx := Pv (i + 1), ct := Pv (i + 1), bk := k } σ2 H2) (hd : ∀ σ H, Pv (hi - lo).toNat σ H → k σ H) : FF g t D k σ (Itr lo (hi - lo).toNat) H :=
  f_it walk_range Pv h0 (fun _ _ _ _ _ => True.intro) (fun i x σ H H' hi p y => by
    obtain ⟨e, y⟩ := y
    subst e
    rw [y]
    exact hs i σ _ hi p) hd
theorem f_str {z : Str} (Pv : Nat → L2.St → Hp → Prop) (h0 : Pv 0 σ H)
    (hs : ∀ i c σ H, z.cps.toList[i]? = some c → Pv i σ H → g (.str ⟨#[c]⟩) σ H fun σ2 H2 => t { D with nx := Pv (i + 1), ct := Pv (i + 1), bk := k } σ2 H2) (hd : ∀ σ H, Pv z.cps.toList.length σ H → k σ H) : FF g t D k σ (Its z) H :=
  f_it walk_str Pv h0 (fun _ _ _ _ _ => True.intro) (fun i x σ H H' hi p y => by
    obtain ⟨e, c, hc, y⟩ := y
    subst e
    rw [y]
    exact hs i c σ _ (by rw [Array.getElem?_toList]; exact hc) p) (fun σ H p => hd σ H (by rw [Array.length_toList]; exact p))
theorem c_list {a Dl : Addr} (xs : List V) (Pv : Nat → Hp → Prop) (h0 : Pv 0 (upd H1 Dl (.lst []))) (hG : ∀ i H, i ≤ xs.length → Pv i H → SqL K H a xs)
    (hs : ∀ i x H, xs[i]? = some x → Pv i H → g x (wipe σ vs) H fun σ2 H2 => wipe σ2 vs = wipe σ vs ∧ tt σ2 H2 fun b H3 =>
      if b = true then te σ2 H3 fun y H4 => ∃ acc, H4 Dl = some (.lst acc) ∧ acc.length < sizeLine ∧ Pv (i + 1) (upd H4 Dl (.lst (acc ++ [y]))) else Pv (i + 1) H3) (hd : ∀ H, Pv xs.length H → Q (.ref Dl) H) : CC g tt te vs σ Q (Itl K a) Dl H1 :=
  c_it walk_list Pv h0 hG (fun i x H H' hi p y => by
    obtain ⟨e, y⟩ := y
    subst e
    exact hs i x _ y p) hd
theorem c_rng {z : Int} {Dl : Addr} (Pv : Nat → Hp → Prop) (h0 : Pv 0 (upd H1 Dl (.lst [])))
    (hs : ∀ (i : Nat) H, i < z.toNat → Pv i H → g (.int (i : Int)) (wipe σ vs) H fun σ2 H2 => wipe σ2 vs = wipe σ vs ∧ tt σ2 H2 fun b H3 =>
      if b = true then te σ2 H3 fun y H4 => ∃ acc, H4 Dl = some (.lst acc) ∧ acc.length < sizeLine ∧ Pv (i + 1) (upd H4 Dl (.lst (acc ++ [y]))) else Pv (i + 1) H3) (hd : ∀ H, Pv z.toNat H → Q (.ref Dl) H) : CC g tt te vs σ Q (Itr 0 z.toNat) Dl H1 :=
  c_it walk_range Pv h0 (fun _ _ _ _ => True.intro) (fun i x H H' hi p y => by
    obtain ⟨e, y⟩ := y
    subst e
    have e : x = V.int (i : Int) := y.trans (congrArg V.int (Int.zero_add _))
    rw [e]
    exact hs i _ hi p) hd
theorem c_str {z : Str} {Dl : Addr} (Pv : Nat → Hp → Prop) (h0 : Pv 0 (upd H1 Dl (.lst [])))
    (hs : ∀ i c H, z.cps.toList[i]? = some c → Pv i H → g (.str ⟨#[c]⟩) (wipe σ vs) H fun σ2 H2 => wipe σ2 vs = wipe σ vs ∧ tt σ2 H2 fun b H3 =>
      if b = true then te σ2 H3 fun y H4 => ∃ acc, H4 Dl = some (.lst acc) ∧ acc.length < sizeLine ∧ Pv (i + 1) (upd H4 Dl (.lst (acc ++ [y]))) else Pv (i + 1) H3) (hd : ∀ H, Pv z.cps.toList.length H → Q (.ref Dl) H) : CC g tt te vs σ Q (Its z) Dl H1 :=
  c_it walk_str Pv h0 (fun _ _ _ _ => True.intro) (fun i x H H' hi p y => by
    obtain ⟨e, c, hc, y⟩ := y
    subst e
    rw [y]
    exact hs i c _ (by rw [Array.getElem?_toList]; exact hc) p) (fun H p => hd H (by rw [Array.length_toList]; exact p))
/-- a while: W by its measure, Mid what holds behind it -/
theorem l_while (W : Nat → L2.St → Hp → Prop) (Mid : L2.St → Hp → Prop) (m0 : Nat) (h0 : W m0 σ H)
    (hs : ∀ Ex : L2.St → Hp → Prop, (∀ σ' H', Mid σ' H' → Ex σ' H') → ∀ m σ H, W m σ H → c σ H fun b H1 => if b = true then ∃ N : L2.St → Hp → Prop, (∀ σ' H', N σ' H' → ∃ m', m' < m ∧ W m' σ' H') ∧ t { D with nx := N, ct := N, bk := Ex } σ H1 else Ex σ H1)
    (hd : ∀ σ H, Mid σ H → rest D σ H) : tSeq (tWhile c t) rest D σ H :=
  ⟨W, ⟨m0, h0⟩, hs (rest D) hd⟩
end
section
variable {σ : L2.St} {H : Hp} {g : TG} {tt : TT} {te : TE} {vs : List Nat} {Q : VK} {K : PySem.W.Frag} {a Dl : Addr}
/-- [e for x in xs], the element pure and flat: a new list -/
theorem c_pure {J : It} {n : Nat} {Y : Nat → Hp → V → Hp → Prop} {G : Hp → Prop} {j : Nat} (w : Walk J n G Y) (xs ys : List V) (hn : n = ys.length) (hz : ys.length ≤ sizeLine) (hDl : H Dl = none) (hY : ∀ i H x H', i < n → Y i H x H' → H' = H ∧ xs[i]? = some x) (hG : ∀ H', Same H H' → G H')
    (hw : ∀ x, wipe ((wipe σ vs).set j (some x)) vs = wipe σ vs)
    (he : ∀ (i : Nat) (x y : V) (H' : Hp) (Q' : VK), xs[i]? = some x → ys[i]? = some y → Same H H' → (∀ H'', Same H' H'' → Q' y H'') → te ((wipe σ vs).set j (some x)) H' Q')
    (hq : ∀ H', Same H H' → H' Dl = some (.lst ys) → Q (.ref Dl) H') : CC (gName j) tYes te vs σ Q J Dl H := by
  refine c_it w (fun i H' => Same H H' ∧ H' Dl = some (.lst (ys.take i))) ⟨Same.new hDl, by rw [upd_same, List.take_zero]⟩ (fun i H' _ p => hG H' p.1) (fun i x H1 H2 hi p y => ?_) (fun H' p => hq H' p.1 (by rw [p.2, hn, List.take_length]))
  obtain ⟨rfl, hx⟩ := hY i H1 x H2 hi y
  obtain ⟨p1, p2⟩ := p
  have hi2 : i < ys.length := by omega
  refine ⟨hw x, ?_⟩
  refine w_yes (iteT ?_)
  refine he i x ys[i] _ _ hx (List.getElem?_eq_getElem hi2) p1 fun H4 e4 => ⟨_, e4 _ _ p2, ?_, ?_, ?_⟩
  · rw [List.length_take]
    omega
  · exact Same.mut (p1.trans e4) hDl
  · rw [upd_same, List.take_add_one, List.getElem?_eq_getElem hi2]
    rfl
/-- the same over a list, typed -/
theorem c_pureL {α : Type} {j : Nat} (ns : List α) (f g : α → V) (hz : ns.length ≤ sizeLine) (hDl : H Dl = none) (hS : SqL K H a (ns.map f)) (hw : ∀ x, wipe ((wipe σ vs).set j (some x)) vs = wipe σ vs)
    (he : ∀ (y : α) (H' : Hp) (Q' : VK), y ∈ ns → Same H H' → (∀ H'', Same H' H'' → Q' (g y) H'') → te ((wipe σ vs).set j (some (f y))) H' Q')
    (hq : ∀ H', Same H H' → H' Dl = some (.lst (ns.map g)) → Q (.ref Dl) H') : CC (gName j) tYes te vs σ Q (Itl K a) Dl H := by
  refine c_pure walk_list (ns.map f) (ns.map g) (by rw [List.length_map, List.length_map]) (by rw [List.length_map]; exact hz) hDl (fun i H x H' _ y => y) (fun H' e => e.seq hS) hw (fun i x y H' Q' hx hy e q => ?_) hq
  rw [List.getElem?_map] at hx hy
  cases hn : ns[i]? with
  | none => rw [hn] at hx; cases hx
  | some z =>
    rw [hn] at hx hy
    cases hx
    cases hy
    exact he z H' Q' (List.mem_of_getElem? hn) e q
/-- over a text, sign by sign -/
theorem c_pureS {j : Nat} {z : Str} (g : Nat → V) (hz : z.length ≤ sizeLine) (hDl : H Dl = none) (hw : ∀ x, wipe ((wipe σ vs).set j (some x)) vs = wipe σ vs)
    (he : ∀ (c : Nat) (H' : Hp) (Q' : VK), c ∈ TL.tl z → Same H H' → (∀ H'', Same H' H'' → Q' (g c) H'') → te ((wipe σ vs).set j (some (.str ⟨#[c]⟩))) H' Q')
    (hq : ∀ H', Same H H' → H' Dl = some (.lst ((TL.tl z).map g)) → Q (.ref Dl) H') : CC (gName j) tYes te vs σ Q (Its z) Dl H := by
  refine c_pure walk_str ((TL.tl z).map fun c => V.str ⟨#[c]⟩) ((TL.tl z).map g) (by rw [List.length_map]; exact (Array.length_toList).symm) (by rw [List.length_map, ← TL.len_tl]; exact hz) hDl (fun i H1 x H2 _ y => ?_) (fun _ _ => True.intro) hw (fun i x y H' Q' hx hy e q => ?_) hq
  · obtain ⟨e, c, hc, rfl⟩ := y
    refine ⟨e, ?_⟩
    rw [List.getElem?_map, show (TL.tl z)[i]? = some c by rw [← hc]; exact Array.getElem?_toList]
    rfl
  · rw [List.getElem?_map] at hx hy
    cases hn : (TL.tl z)[i]? with
    | none => rw [hn] at hx; cases hx
    | some c =>
      rw [hn] at hx hy
      cases hx
      cases hy
      exact he c H' Q' (List.mem_of_getElem? hn) e q
end
end Q

set_option Elab.async false
set_option linter.all false
set_option maxRecDepth 100000
set_option maxHeartbeats 4000000
namespace Q
open PySem PySem.Spec PyProof.Rows L2
/-! ### data that may be compared -/
/-- of depth at most n, its texts well-formed, its lists of 100,000 items at most -/
def Sh : Nat → PyData → Prop
  | _, .none => True
  | _, .bool _ => True
  | _, .int _ => True
  | _, .str x => PyData.strOk x = true
  | 0, .list _ => False
  | 0, .tuple _ => False
  | n + 1, .list ds => ds.length ≤ 100000 ∧ ∀ d ∈ ds, Sh n d
  | n + 1, .tuple ds => ds.length ≤ 100000 ∧ ∀ d ∈ ds, Sh n d
  | _, .dict _ => False
theorem Sh.int {n : Nat} (i : Int) : Sh n (.int i) := by cases n <;> exact True.intro
theorem Sh.non {n : Nat} : Sh n .none := by cases n <;> exact True.intro
theorem Sh.bl {n : Nat} (b : Bool) : Sh n (.bool b) := by cases n <;> exact True.intro
theorem Sh.str {n : Nat} {x : Str} (h : PyData.strOk x = true) : Sh n (.str x) := by cases n <;> exact h
theorem Sh.list {n : Nat} {ds : List PyData} (hl : ds.length ≤ 100000) (h : ∀ d ∈ ds, Sh n d) : Sh (n + 1) (.list ds) := ⟨hl, h⟩
theorem Sh.tuple {n : Nat} {ds : List PyData} (hl : ds.length ≤ 100000) (h : ∀ d ∈ ds, Sh n d) : Sh (n + 1) (.tuple ds) := ⟨hl, h⟩
theorem lay_all {n : Nat} : ∀ {ds : List PyData}, (∀ d ∈ ds, d.canLay0 = true ∧ d.depth ≤ n) → PyData.canLayAll0 ds = true ∧ PyData.depthAll ds ≤ n
  | [], _ => ⟨by simp only [PyData.canLayAll0], by simp only [PyData.depthAll]; omega⟩
  | d :: ds, h => by
    have h1 := h d List.mem_cons_self
    have h2 := lay_all fun e m => h e (List.mem_cons_of_mem _ m)
    simp only [PyData.canLayAll0, PyData.depthAll]
    exact ⟨by rw [h1.1, h2.1]; rfl, Nat.max_le.mpr ⟨h1.2, h2.2⟩⟩
theorem Sh.lay : ∀ {n : Nat} {d : PyData}, Sh n d → d.canLay0 = true ∧ d.depth ≤ n
  | n, .none, _ => ⟨by simp only [PyData.canLay0], by simp only [PyData.depth]; omega⟩
  | n, .bool _, _ => ⟨by simp only [PyData.canLay0], by simp only [PyData.depth]; omega⟩
  | n, .int _, _ => ⟨by simp only [PyData.canLay0], by simp only [PyData.depth]; omega⟩
  | 0, .str x, h => ⟨by simp only [PyData.canLay0]; exact h, by simp only [PyData.depth]; omega⟩
  | n + 1, .str x, h => ⟨by simp only [PyData.canLay0]; exact h, by simp only [PyData.depth]; omega⟩
  | 0, .list _, h => h.elim
  | 0, .tuple _, h => h.elim
  | n + 1, .list ds, h => by
    have q := lay_all fun d m => Sh.lay (h.2 d m)
    exact ⟨by simp only [PyData.canLay0]; exact q.1, by simp only [PyData.depth]; omega⟩
  | n + 1, .tuple ds, h => by
    have q := lay_all fun d m => Sh.lay (h.2 d m)
    exact ⟨by simp only [PyData.canLay0]; exact q.1, by simp only [PyData.depth]; omega⟩
  | 0, .dict _, h => h.elim
  | n + 1, .dict _, h => h.elim
theorem Sh.shaped {n : Nat} {d : PyData} (h : Sh n d) (hn : n ≤ 64) : SeqAt.shaped d = true := by
  unfold SeqAt.shaped
  rw [h.lay.1, Bool.true_and]
  exact decide_eq_true (Nat.le_trans h.lay.2 hn)
theorem Sh.mono : ∀ {n m : Nat} {d : PyData}, Sh n d → n ≤ m → Sh m d
  | _, _, .none, _, _ => Sh.non
  | _, _, .bool b, _, _ => Sh.bl b
  | _, _, .int i, _, _ => Sh.int i
  | 0, _, .str x, h, _ => Sh.str h
  | n + 1, _, .str x, h, _ => Sh.str h
  | 0, _, .list _, h, _ => h.elim
  | 0, _, .tuple _, h, _ => h.elim
  | n + 1, 0, .list _, _, e => by omega
  | n + 1, 0, .tuple _, _, e => by omega
  | n + 1, m + 1, .list ds, h, e => ⟨h.1, fun d q => Sh.mono (h.2 d q) (by omega)⟩
  | n + 1, m + 1, .tuple ds, h, e => ⟨h.1, fun d q => Sh.mono (h.2 d q) (by omega)⟩
  | 0, _, .dict _, h, _ => h.elim
  | n + 1, _, .dict _, h, _ => h.elim
theorem Sh.ints {n : Nat} {ns : List Int} (hl : ns.length ≤ 100000) : Sh (n + 1) (.list (ns.map PyData.int)) := Sh.list (by rw [List.length_map]; exact hl) fun d m => by
  obtain ⟨i, _, e⟩ := List.mem_map.mp m
  rw [← e]
  exact Sh.int i
theorem Sh.strs {n : Nat} {ns : List Str} (hl : ns.length ≤ 100000) (h : ∀ x ∈ ns, PyData.strOk x = true) : Sh (n + 1) (.list (ns.map PyData.str)) := Sh.list (by rw [List.length_map]; exact hl) fun d m => by
  obtain ⟨i, hi, e⟩ := List.mem_map.mp m
  rw [← e]
  exact Sh.str (h i hi)
theorem Sh.nil {n : Nat} : Sh (n + 1) (.list []) := Sh.list (Nat.zero_le _) fun d m => nomatch m
theorem Sh.eqv {n : Nat} {d : PyData} (h : Sh n d) : PyData.eqv d d = true := SeqAt.eqv_refl d h.lay.1
/-- what == asks of it alone: any length -/
theorem shaped_ints (ns : List Int) : SeqAt.shaped (.list (ns.map PyData.int)) = true := by
  have q := lay_all (n := 0) (ds := ns.map PyData.int) fun d m => by
    obtain ⟨i, _, e⟩ := List.mem_map.mp m
    rw [← e]
    exact (Sh.int (n := 0) i).lay
  unfold SeqAt.shaped
  rw [show (PyData.list (ns.map PyData.int)).canLay0 = true by simp only [PyData.canLay0]; exact q.1, Bool.true_and]
  exact decide_eq_true (by simp only [PyData.depth]; omega)
theorem shaped_nil : SeqAt.shaped (.list []) = true := (Sh.nil (n := 0)).shaped (by decide)
section
variable {H : Hp} {Q : VK} {v x y : V} {K : PySem.W.Frag} {d e : PyData}
theorem o_eqT {n m : Nat} (hx : Dt H x d) (hy : Dt H y e) (sd : Sh n d) (se : Sh m e) (hn : n ≤ 64) (hm : m ≤ 64) (q : Q (.bl (PyData.eqv d e)) H) : rEqD K x y H Q := o_eqD hx.dp hy.dp (sd.shaped hn) (se.shaped hm) q
theorem o_neT {n m : Nat} (hx : Dt H x d) (hy : Dt H y e) (sd : Sh n d) (se : Sh m e) (hn : n ≤ 64) (hm : m ≤ 64) (q : Q (.bl (!PyData.eqv d e)) H) : rNeD K x y H Q := o_neD hx.dp hy.dp (sd.shaped hn) (se.shaped hm) q
/-- xs == [] and xs != [], the items ints -/
theorem eqv_nil (ds : List PyData) : PyData.eqv (.list ds) (.list []) = ds.isEmpty := by
  cases ds <;> simp [PyData.eqv, PyData.eqvAll]
theorem o_neNil {a p : Addr} {ns : List Int} (ha : H a = some (.lst (ns.map V.int))) (hp : H p = some (.lst [])) (q : Q (.bl (!ns.isEmpty)) H) : rNeD K (.ref a) (.ref p) H Q := by
  refine o_neD (Dt.ofInts ha).dp (Dt.lst hp .nil).dp (shaped_ints ns) shaped_nil ?_
  rw [eqv_nil, List.isEmpty_map]
  exact q
theorem o_eqNil {a p : Addr} {ns : List Int} (ha : H a = some (.lst (ns.map V.int))) (hp : H p = some (.lst [])) (q : Q (.bl ns.isEmpty) H) : rEqD K (.ref a) (.ref p) H Q := by
  refine o_eqD (Dt.ofInts ha).dp (Dt.lst hp .nil).dp (shaped_ints ns) shaped_nil ?_
  rw [eqv_nil, List.isEmpty_map]
  exact q
end

/-! ### written powers -/
section
variable {H : Hp} {Q : VK}
theorem p_2_61 (q : Q (.int 2305843009213693952) H) : rPowI (.int 2) (.int 61) H Q := o_pow (by unfold CPow; decide) (by rw [show (2 : Int) ^ (61 : Int).toNat = 2305843009213693952 by decide +kernel]; exact q)
theorem p_10_18 (q : Q (.int 1000000000000000000) H) : rPowI (.int 10) (.int 18) H Q := o_pow (by unfold CPow; decide) (by rw [show (10 : Int) ^ (18 : Int).toNat = 1000000000000000000 by decide +kernel]; exact q)
theorem p_10_15 (q : Q (.int 1000000000000000) H) : rPowI (.int 10) (.int 15) H Q := o_pow (by unfold CPow; decide) (by rw [show (10 : Int) ^ (15 : Int).toNat = 1000000000000000 by decide +kernel]; exact q)
theorem p_10_30 (q : Q (.int 1000000000000000000000000000000) H) : rPowI (.int 10) (.int 30) H Q := o_pow (by unfold CPow; decide) (by rw [show (10 : Int) ^ (30 : Int).toNat = 1000000000000000000000000000000 by decide +kernel]; exact q)
theorem p_10_29 (q : Q (.int 100000000000000000000000000000) H) : rPowI (.int 10) (.int 29) H Q := o_pow (by unfold CPow; decide) (by rw [show (10 : Int) ^ (29 : Int).toNat = 100000000000000000000000000000 by decide +kernel]; exact q)
end
/-! ### texts well-formed -/
theorem strOk_iff {x : Str} : PyData.strOk x = true ↔ ∀ c ∈ TL.tl x, c < 1114112 := by
  unfold PyData.strOk
  rw [← Array.all_toList, List.all_eq_true]
  simp
theorem strOk_join {a : Str} (ha : PyData.strOk a = true) : ∀ {ys : List Str}, (∀ y ∈ ys, PyData.strOk y = true) → PyData.strOk (Txt.join a ys) = true := by
  intro ys h
  rw [strOk_iff, TL.join_eq, TL.tl_join]
  rw [strOk_iff] at ha
  induction ys with
  | nil => exact fun c m => nomatch m
  | cons y r ih =>
    have h1 := strOk_iff.mp (h y List.mem_cons_self)
    have h2 := ih fun z m => h z (List.mem_cons_of_mem _ m)
    cases r with
    | nil => exact h1
    | cons z r =>
      intro c m
      have m : c ∈ TL.tl y ++ (TL.tl a ++ TL.joinL (TL.tl a) ((z :: r).map TL.tl)) := m
      rcases List.mem_append.mp m with m | m
      · exact h1 c m
      · rcases List.mem_append.mp m with m | m
        · exact ha c m
        · exact h2 c m
end Q

set_option Elab.async false
set_option linter.all false
set_option maxRecDepth 100000
set_option maxHeartbeats 4000000
namespace Q
open PySem PySem.Spec PyProof.Rows L2
/-! ### further operators -/
theorem hu65 {k : Nat} {A : Around} (r : Room k A) : A.units + 65 < cLine := by have := r.un; omega
/-- the signs of a text, as texts -/
def signs (z : Str) : List V := (TL.tl z).map fun c => .str ⟨#[c]⟩
/-- list(x), x a text or a list -/
def rListS : RC := fun xs H Q => ∃ z, xs = [.str z] ∧ z.length ≤ 16777216 ∧ ∀ l, H l = none → Q (.ref l) (upd H l (.lst (signs z)))
def rListA (K : PySem.W.Frag) : RC := fun xs H Q => rListS xs H Q ∨ rListL K xs H Q
/-- str(x), x a text or an int -/
def rStrA : RC := fun xs H Q => (∃ i, xs = [.int i] ∧ i.natAbs.log2 < 1920 ∧ Q (.str (toString i)) H) ∨ ∃ a, xs = [.str a] ∧ Q (.str a) H
section
variable {X : Cx}
theorem call_list_sig (hc : X.calm = true) : CallR X (.type "list") rListS := by
  intro pins s σ H xs us Q I r h
  obtain ⟨z, rfl, hz, q⟩ := h
  obtain ⟨u, rfl, t, rfl⟩ := vals1 r
  refine PySem.call_list_str (I.ok.hd hc) z t (fun h' tk acc c' k e hi => ?_) (by rw [sizeLine_eq]; exact hz)
  have hf := I.hok.fresh (Nat.le_refl s.heap.objs.size)
  have hv : Vals (signs z) acc.toList := by
    obtain ⟨h1, h2⟩ := hi
    have hlen : (signs z).length = acc.toList.length := by
      unfold signs
      rw [List.length_map, Array.length_toList, Array.length_toList, h1]
    have go : ∀ (vs : List V) (us : List Value), vs.length = us.length → (∀ (j : Nat) (v : V) (u : Value), vs[j]? = some v → us[j]? = some u → RelV v u) → Vals vs us := by
      intro vs
      induction vs with
      | nil =>
        intro us hl _
        cases us with
        | nil => exact .nil
        | cons u us => simp at hl
      | cons v vs ih =>
        intro us hl hr
        cases us with
        | nil => simp at hl
        | cons u us => exact .cons (hr 0 v u rfl rfl) (ih us (by simpa using hl) fun j v u a b => hr (j + 1) v u a b)
    refine go _ _ hlen fun j v u a b => ?_
    obtain ⟨c, tt, hc, rfl⟩ := h2 j u (by rw [← Array.getElem?_toList]; exact b)
    unfold signs at a
    rw [List.getElem?_map, show (TL.tl z)[j]? = some c by rw [← hc]; exact Array.getElem?_toList] at a
    cases a
    exact ⟨tt, rfl⟩
  refine ⟨.ref s.heap.objs.size, upd H s.heap.objs.size (.lst (signs z)), I.laid (t' := tk) k (Nat.le_refl _) ?_, rfl, q _ hf⟩
  exact ⟨by unfold signs; rw [List.length_map, Array.length_toList, sizeLine_eq]; exact hz, acc.toList, c', hv, by simpa using e⟩
theorem call_list_any (hc : X.calm = true) : CallR X (.type "list") (rListA X.K) := by
  intro pins s σ H xs us Q I r h
  rcases h with h | h
  · exact call_list_sig hc pins s σ H xs us Q I r h
  · exact call_list_of pins s σ H xs us Q I r h
theorem call_str_any : CallR X (.type "str") rStrA := by
  intro pins s σ H xs us Q I r h
  rcases h with h | h
  · exact call_str_int pins s σ H xs us Q I r h
  · exact SkE.call_str_str pins s σ H xs us Q I r h
end
/-- x * n, x a text -/
def repS (x : Str) (n : Int) : Str := ⟨(List.replicate n.toNat (TL.tl x)).flatten.toArray⟩
def rMulS : R2 := fun x y H Q => ∃ z n, x = .str z ∧ y = .int n ∧ -1000000000 ≤ n ∧ n ≤ 1000000000 ∧ z.length * n.toNat ≤ 16777216 ∧ Q (.str (repS z n)) H
theorem flat_nils {α : Type} : ∀ k : Nat, (List.replicate k ([] : List α)).flatten = []
  | 0 => rfl
  | k + 1 => flat_nils k
theorem op_mulS {X : Cx} : OpR X (binaryOp .Mult) rMulS := by
  intro pins s σ H x y v u Q I rx ry h
  obtain ⟨z, n, rfl, rfl, h1, h2, hz, q⟩ := h
  obtain ⟨t, rfl⟩ := rx
  obtain ⟨t', rfl⟩ := ry
  have hlen : (repS z n).length = n.toNat * z.length := by
    rw [TL.len_tl, TL.len_tl]
    show ((List.replicate n.toNat (TL.tl z)).flatten).length = _
    rw [List.length_flatten, List.map_replicate, List.sum_replicate_nat]
  refine PySem.P.mul_str ?_ (fun hn _ => ?_) (fun _ _ => ?_) ?_
  · rw [decide_eq_false (show ¬ n < -(2 ^ 63 : Int) by omega), decide_eq_false (show ¬ n ≥ (2 ^ 63 : Int) by omega)]
    rfl
  · have e : ((n.toNat : Nat) : Int) = n := Int.toNat_of_nonneg (by omega)
    have e2 : (z.length : Int) * n ≤ 16777216 := by
      have e3 : ((z.length * n.toNat : Nat) : Int) ≤ ((16777216 : Nat) : Int) := Int.ofNat_le.mpr hz
      rw [Int.natCast_mul, e] at e3
      exact e3
    have : (z.length : Int) ≤ (2 ^ 63 - 1) / n := Int.le_ediv_of_mul_le (by omega) (by omega)
    omega
  · unfold PySem.Builtin.Str.tooLong sizeLine
    exact decide_eq_false (by omega)
  · by_cases hn : n < 1
    · rw [if_pos hn]
      have e : repS z n = Str.empty := by
        unfold repS
        rw [show n.toNat = 0 by omega]
        rfl
      rw [e] at q
      exact ⟨by decide, .str Str.empty, H, I.tok _, ⟨_, rfl⟩, q⟩
    · rw [if_neg hn]
      by_cases h3 : (n == 1 || z.length == 0) = true
      · rw [if_pos h3]
        have e : repS z n = z := by
          refine TL.ext_tl ?_
          show (List.replicate n.toNat (TL.tl z)).flatten = TL.tl z
          rcases Bool.or_eq_true_iff.mp h3 with h4 | h4
          · rw [show n.toNat = 1 by have := beq_iff_eq.mp h4; omega]
            simp
          · have h5 : TL.tl z = [] := by
              have := beq_iff_eq.mp h4
              rw [TL.len_tl] at this
              exact List.length_eq_zero_iff.mp this
            rw [h5, flat_nils]
        rw [e] at q
        exact ⟨.str z, H, I, ⟨_, rfl⟩, q⟩
      · rw [if_neg h3]
        have e : (⟨(List.replicate n.toNat z.cps).foldl (· ++ ·) #[]⟩ : Str) = repS z n := by
          unfold repS
          congr 1
          have go : ∀ (k : Nat) (acc : List Nat), (List.replicate k z.cps).foldl (· ++ ·) acc.toArray = (acc ++ (List.replicate k (TL.tl z)).flatten).toArray := by
            intro k
            induction k with
            | zero => intro acc; simp
            | succ k ih =>
              intro acc
              rw [List.replicate_succ, List.foldl_cons, List.replicate_succ, List.flatten_cons, ← List.append_assoc]
              have e3 : acc.toArray ++ z.cps = (acc ++ TL.tl z).toArray := by
                apply Array.toList_inj.mp
                simp
              rw [e3]
              exact ih _
          have e4 := go n.toNat []
          rw [List.nil_append] at e4
          exact e4
        rw [e]
        refine ⟨?_, .str (repS z n), H, I.tok _, ⟨_, rfl⟩, q⟩
        rw [hlen, Nat.mul_comm]
        exact Nat.le_trans hz (by decide)
/-- f'..' -/
def tJoin (ts : List TE) : TE := fun σ H Q => tJs ts Str.empty σ H fun out H1 => Q (.str out) H1
section
variable {σ : L2.St} {H : Hp} {Q : VK} {v x y : V} {te : TE} {ts : List TE} {K : PySem.W.Frag} {d : PyData} {ds : List PyData}
theorem w_join (q : tJs ts Str.empty σ H fun out H1 => Q (.str out) H1) : tJoin ts σ H Q := q
theorem w_js0 {acc : Str} {Q : Str → Hp → Prop} (q : Q acc H) : tJs [] acc σ H Q := q
theorem w_js {acc : Str} {Q : Str → Hp → Prop} (q : te σ H fun x H1 => ∃ y : Str, x = .str y ∧ (acc ++ y).length ≤ sizeLine ∧ tJs ts (acc ++ y) σ H1 Q) : tJs (te :: ts) acc σ H Q := q
theorem w_fmt (q : te σ H fun x H1 => (∃ y : Str, x = .str y ∧ y.length ≤ sizeLine ∧ Q (.str y) H1) ∨ ∃ i : Int, x = .int i ∧ i.natAbs.log2 < 1920 ∧ Q (.str (toString i)) H1) : tFmt te σ H Q := q
theorem o_inD {n m : Nat} (hx : Dt H x d) (hy : Dt H y (.list ds)) (sd : Sh n d) (se : Sh m (.list ds)) (hn : n ≤ 64) (hm : m ≤ 64) (q : Q (.bl (ds.any fun z => PyData.eqv z d)) H) : rInD K x y H Q := ⟨d, ds, hx.dp, hy.dp, sd.shaped hn, se.shaped hm, q⟩
theorem o_listS {z : Str} (hz : z.length ≤ 16777216) (q : ∀ l, H l = none → Q (.ref l) (upd H l (.lst (signs z)))) : rListA K [.str z] H Q := .inl ⟨z, rfl, hz, q⟩
theorem o_listA {p : Addr} {ys : List V} (h : H p = some (.lst ys)) (q : ∀ l, H l = none → Q (.ref l) (upd H l (.lst ys))) : rListA K [.ref p] H Q := .inr (o_listL h q)
theorem o_neg {i : Int} (q : Q (.int (-i)) H) : rU (fun i => .int (-i)) (.int i) H Q := ⟨i, rfl, q⟩
theorem o_mulS {z : Str} {n : Int} (h1 : -1000000000 ≤ n) (h2 : n ≤ 1000000000) (hz : z.length * n.toNat ≤ 16777216) (q : Q (.str (repS z n)) H) : rMulS (.str z) (.int n) H Q := ⟨z, n, rfl, rfl, h1, h2, hz, q⟩
theorem o_rep {l : Addr} {xs : List V} {k : Int} (h : H l = some (.lst xs)) (h1 : -1000000000 ≤ k) (h2 : k ≤ 1000000000) (hz : xs.length * k.toNat ≤ sizeLine) (q : ∀ p, H p = none → Q (.ref p) (upd H p (.lst (List.replicate k.toNat xs).flatten))) : rRep (.ref l) (.int k) H Q := ⟨l, k, xs, rfl, rfl, h, by omega, by omega, hz, q⟩
theorem o_slS {z : Str} {lo hi : Option Int} (hz : z.length ≤ sizeLine) (q : Q (.str (cutS z lo hi)) H) : rSlS (.str z) lo hi H Q := ⟨z, rfl, hz, q⟩
end
/-! ### calls and drills as data -/
inductive Kd where
  | num (i : Int) | txt (z : Str)
  deriving DecidableEq
abbrev Cal := Kd × Str × Str
def Kd.d : Kd → PyData
  | .num i => .int i
  | .txt z => .str z
def Kd.v : Kd → V
  | .num i => .int i
  | .txt z => .str z
def calD (c : Cal) : PyData := .tuple [c.1.d, .str c.2.1, .str c.2.2]
def drillD (cs : List Cal) : PyData := .list (cs.map calD)
section
variable {H : Hp} {x : V}
theorem Dt.kd {k : Kd} (h : Dt H x k.d) : x = k.v := by
  cases k with
  | num i => exact Dt.int_inv h
  | txt z => exact Dt.str_inv h
theorem Dt.ofKd (k : Kd) : Dt H k.v k.d := by
  cases k with
  | num i => exact Dt.int i
  | txt z => exact Dt.str z
theorem Dt.cal {c : Cal} (h : Dt H x (calD c)) : ∃ a, x = .ref a ∧ H a = some (.tup [c.1.v, .str c.2.1, .str c.2.2]) := by
  obtain ⟨a, x1, x2, x3, rfl, e, h1, h2, h3⟩ := Dt.tup3 h
  rw [h1.kd, h2.str_inv, h3.str_inv] at e
  exact ⟨a, rfl, e⟩
theorem Dt.ofCal {c : Cal} {a : Addr} (e : H a = some (.tup [c.1.v, .str c.2.1, .str c.2.2])) : Dt H (.ref a) (calD c) := Dt.mk3 e (Dt.ofKd _) (.str _) (.str _)
theorem Dt.drill {cs : List Cal} (h : Dt H x (drillD cs)) : ∃ a xs, x = .ref a ∧ H a = some (.lst xs) ∧ DtAll H xs (cs.map calD) := Dt.lst_inv h
def okKd : Kd → Bool
  | .num _ => true
  | .txt z => PyData.strOk z
theorem Sh.kd {n : Nat} {k : Kd} (h : okKd k = true) : Sh n k.d := by
  cases k with
  | num i => exact Sh.int i
  | txt z => exact Sh.str h
def okCal (c : Cal) : Bool := okKd c.1 && (PyData.strOk c.2.1 && PyData.strOk c.2.2)
theorem Sh.cal {n : Nat} {c : Cal} (h : okCal c = true) : Sh (n + 1) (calD c) := by
  unfold okCal at h
  simp only [Bool.and_eq_true] at h
  refine Sh.tuple (show 3 ≤ 100000 by decide) fun d m => ?_
  simp only [List.mem_cons, List.not_mem_nil, or_false] at m
  rcases m with rfl | rfl | rfl
  · exact Sh.kd h.1
  · exact Sh.str h.2.1
  · exact Sh.str h.2.2
theorem Sh.drill {n : Nat} {cs : List Cal} (hl : cs.length ≤ 100000) (h : ∀ c ∈ cs, okCal c = true) : Sh (n + 2) (drillD cs) := Sh.list (by rw [List.length_map]; exact hl) fun d m => by
  obtain ⟨c, hc, rfl⟩ := List.mem_map.mp m
  exact Sh.cal (h c hc)
end
/-! ### comprehensions over data -/
section
variable {σ : L2.St} {H : Hp} {g : TG} {tt : TT} {te : TE} {vs : List Nat} {Q : VK} {K : PySem.W.Frag} {a Dl : Addr}
/-- over a list of data: flat results -/
theorem c_dataL {α : Type} (f : α → PyData) (r : α → V) (ns : List α) (xs : List V) (hz : ns.length ≤ sizeLine) (hDl : H Dl = none) (hS : SqL K H a xs) (hD : DtAll H xs (ns.map f))
    (he : ∀ (y : α) (x : V) (H' : Hp) (Q' : VK), y ∈ ns → Same H H' → Dt H' x (f y) → (∀ H'', Same H' H'' → Q' (r y) H'') → g x (wipe σ vs) H' fun σ2 H2 => wipe σ2 vs = wipe σ vs ∧ te σ2 H2 Q')
    (hq : ∀ H', Same H H' → H' Dl = some (.lst (ns.map r)) → Q (.ref Dl) H') (mono : ∀ (x : V) (σ : L2.St) (H : Hp) (Q Q' : L2.St → Hp → Prop), (∀ a b, Q a b → Q' a b) → g x σ H Q → g x σ H Q') : CC g tYes te vs σ Q (Itl K a) Dl H := by
  have hl : xs.length = ns.length := by rw [hD.length, List.length_map]
  refine c_list xs (fun i H' => Same H H' ∧ H' Dl = some (.lst ((ns.map r).take i))) ⟨Same.new hDl, by rw [upd_same, List.take_zero]⟩ (fun i H' _ p => p.1.seq hS) (fun i x H1 hx p => ?_) (fun H' p => hq H' p.1 (by rw [p.2, hl, List.take_of_length_le (by rw [List.length_map]; exact Nat.le_refl _)]))
  obtain ⟨p1, p2⟩ := p
  obtain ⟨d, hd, dx⟩ := hD.getV hx
  rw [List.getElem?_map] at hd
  cases hn : ns[i]? with
  | none => rw [hn] at hd; cases hd
  | some y =>
    rw [hn] at hd
    cases hd
    refine mono _ _ _ _ _ (fun σ2 H2 q2 => ⟨q2.1, w_yes (iteT q2.2)⟩) (he y x H1 _ (List.mem_of_getElem? hn) p1 (dx.mono p1) fun H4 e4 => ⟨_, e4 _ _ p2, ?_, Same.mut (p1.trans e4) hDl, ?_⟩)
    · have := (List.getElem?_eq_some_iff.mp hn).1
      rw [List.length_take, List.length_map]
      omega
    · rw [upd_same, List.take_add_one, List.getElem?_map, hn]
      rfl
theorem mono_name {i : Nat} : ∀ (x : V) (σ : L2.St) (H : Hp) (Q Q' : L2.St → Hp → Prop), (∀ a b, Q a b → Q' a b) → gName i x σ H Q → gName i x σ H Q' := fun _ _ _ _ _ h q => h _ _ q
theorem mono_tup3 {i j k n : Nat} : ∀ (x : V) (σ : L2.St) (H : Hp) (Q Q' : L2.St → Hp → Prop), (∀ a b, Q a b → Q' a b) → gTup K n (gCons (gName i) (gCons (gName j) (gCons (gName k) gNil))) x σ H Q → gTup K n (gCons (gName i) (gCons (gName j) (gCons (gName k) gNil))) x σ H Q' := fun x σ H Q Q' h q => by
  obtain ⟨a, xs, e, hs, hl, v1, r1, e1, v2, r2, e2, v3, r3, e3, e4, q⟩ := q
  exact ⟨a, xs, e, hs, hl, v1, r1, e1, v2, r2, e2, v3, r3, e3, e4, h _ _ q⟩
/-- over a list, each result new data -/
theorem c_newL {α : Type} {j : Nat} (f : α → V) (r : α → PyData) (ns : List α) (hz : ns.length ≤ sizeLine) (hDl : H Dl = none) (hS : SqL K H a (ns.map f)) (hw : ∀ x, wipe ((wipe σ vs).set j (some x)) vs = wipe σ vs)
    (he : ∀ (y : α) (H' : Hp) (Q' : VK), y ∈ ns → Same H H' → (∀ v H'', Same H' H'' → Dt (nw H' H'') v (r y) → Q' v H'') → te ((wipe σ vs).set j (some (f y))) H' Q')
    (hq : ∀ ys H', Same H H' → H' Dl = some (.lst ys) → DtAll (cut [Dl] (nw H H')) ys (ns.map r) → Q (.ref Dl) H') : CC (gName j) tYes te vs σ Q (Itl K a) Dl H := by
  refine c_list (ns.map f) (fun i H' => Same H H' ∧ ∃ ys, H' Dl = some (.lst ys) ∧ DtAll (cut [Dl] (nw H H')) ys ((ns.map r).take i)) ⟨Same.new hDl, [], by rw [upd_same], by rw [List.take_zero]; exact .nil⟩ (fun i H' _ p => p.1.seq hS) (fun i x H1 hx p => ?_)
    (fun H' p => by
      obtain ⟨p1, ys, p2, p3⟩ := p
      rw [List.length_map, List.take_of_length_le (by rw [List.length_map]; exact Nat.le_refl _)] at p3
      exact hq ys H' p1 p2 p3)
  obtain ⟨p1, ys, p2, p3⟩ := p
  rw [List.getElem?_map] at hx
  cases hn : ns[i]? with
  | none => rw [hn] at hx; cases hx
  | some y =>
    rw [hn] at hx
    cases hx
    have hi := (List.getElem?_eq_some_iff.mp hn).1
    refine ⟨hw _, w_yes (iteT ?_)⟩
    refine he y H1 _ (List.mem_of_getElem? hn) p1 fun v H4 e4 dv => ⟨ys, e4 _ _ p2, ?_, Same.mut (p1.trans e4) hDl, ys ++ [v], upd_same, ?_⟩
    · rw [p3.length, List.length_take, List.length_map]
      omega
    · have s1 : Same (cut [Dl] (nw H H1)) (cut [Dl] (nw H (upd H4 Dl (.lst (ys ++ [v]))))) := fun b o e => by
        obtain ⟨e1, e2⟩ := cut_some e
        obtain ⟨e3, e5⟩ := nw_some e2
        rw [cut_out e1, nw_none e3, upd_ne (by simpa using e1)]
        exact e4 _ _ e5
      have s2 : Same (nw H1 H4) (cut [Dl] (nw H (upd H4 Dl (.lst (ys ++ [v]))))) := fun b o e => by
        obtain ⟨e3, e5⟩ := nw_some e
        have hb : b ≠ Dl := (ne_of_none p2 e3).symm
        rw [cut_out (by simpa using hb), nw_none (p1.free e3), upd_ne hb]
        exact e5
      rw [List.take_add_one, List.getElem?_map, hn]
      exact (p3.mono s1).append (.cons (dv.mono s2) .nil)
end
end Q

set_option Elab.async false
set_option linter.all false
set_option maxRecDepth 100000
set_option maxHeartbeats 4000000
namespace Q
open PySem PySem.Spec PyProof.Rows L2
/-! ### texts with their tokens -/
abbrev Pt := Str × Tok
def sv (ps : List Pt) : List Value := ps.map fun p => .str p.1 p.2
def vv (ps : List Pt) : List V := ps.map fun p => .str p.1
/-- no token is 0, no two are alike -/
def TkO (ps : List Pt) : Prop := (∀ p ∈ ps, p.2 ≠ 0) ∧ (ps.map (·.2)).Nodup
theorem TkO.sub {ps qs : List Pt} (h : TkO ps) (s : qs.Sublist ps) : TkO qs := ⟨fun p hp => h.1 p (s.subset hp), h.2.sublist (s.map _)⟩
theorem TkO.perm {ps qs : List Pt} (h : TkO ps) (s : qs.Perm ps) : TkO qs := ⟨fun p hp => h.1 p (s.mem_iff.mp hp), ((s.map (·.2)).nodup_iff).mpr h.2⟩
theorem sv_len (ps : List Pt) : (sv ps).length = ps.length := List.length_map _
theorem vv_len (ps : List Pt) : (vv ps).length = ps.length := List.length_map _
theorem vals_sv : ∀ ps : List Pt, Vals (vv ps) (sv ps)
  | [] => .nil
  | p :: ps => .cons ⟨p.2, rfl⟩ (vals_sv ps)
theorem sv_get {ps : List Pt} {i : Nat} {p : Pt} (h : ps[i]? = some p) : (sv ps)[i]? = some (.str p.1 p.2) := by unfold sv; rw [List.getElem?_map, h]; rfl
theorem sv_erase (ps : List Pt) (k : Nat) : (sv ps).eraseIdx k = sv (ps.eraseIdx k) := by
  unfold sv
  induction ps generalizing k with
  | nil => rfl
  | cons p ps ih =>
    cases k with
    | zero => rfl
    | succ k => exact congrArg (_ :: ·) (ih k)
theorem sv_snoc (ps : List Pt) (p : Pt) : sv ps ++ [.str p.1 p.2] = sv (ps ++ [p]) := by unfold sv; rw [List.map_append]; rfl
theorem sv_cut (ps : List Pt) (a b : Nat) : ((sv ps).drop a).take b = sv ((ps.drop a).take b) := by unfold sv; rw [List.map_take, List.map_drop]
theorem vv_cut (ps : List Pt) (a b : Nat) : ((vv ps).drop a).take b = vv ((ps.drop a).take b) := by unfold vv; rw [List.map_take, List.map_drop]
/-- the tokens of a list of texts -/
def TokL (o : Obj) (ys : List Str) : Prop := ∃ (ps : List Pt) (n : Nat), o.cls = .type "list" ∧ ps.map (·.1) = ys ∧ o.data = .seq (sv ps).toArray n ∧ TkO ps
/-- .. all of them out before the clock -/
def TokLB (B : Nat) (o : Obj) (ys : List Str) : Prop := ∃ (ps : List Pt) (n : Nat), o.cls = .type "list" ∧ ps.map (·.1) = ys ∧ o.data = .seq (sv ps).toArray n ∧ TkO ps ∧ ∀ p ∈ ps, p.2 < B
/-- the tokens of a call's colours are two objects -/
def TokC (o : Obj) (w : V) (x y : Str) : Prop := ∃ (k : Value) (t u : Tok), o.cls = .type "tuple" ∧ (∃ n, o.data = .seq #[k, .str x t, .str y u] n) ∧ RelV w k ∧ t ≠ 0 ∧ u ≠ 0 ∧ t ≠ u
end Q

set_option Elab.async false
set_option linter.all false
set_option maxRecDepth 100000
set_option maxHeartbeats 4000000
/-! zip(text, list), dict(zip(text, list)): the text's signs below 128 -/
namespace PySem
open Sem (wp)
section
variable {prog : Program} {w : World} {A : Around} {E : Value → Shared → Prop} {s : Shared}
abbrev aIt (h : Heap) (i : Addr) (x : Str) (t : Tok) (k : Nat) : Prop := h.IsStrIter i "str_ascii_iterator" x t k
theorem aIt_at {h h' : Heap} {i : Addr} {x : Str} {t : Tok} {k : Nat} (y : aIt h i x t k) (e : ∀ o, h.get? i = some o → h'.get? i = some o) : aIt h' i x t k :=
  let ⟨o, ho, r⟩ := y; ⟨o, e o ho, r⟩
theorem zipS_next_item {z TI TO i1 i2 l2 : Addr} {k1 k2 c : Nat} {x : Str} {t : Tok} {ys : Array Value} {y a b : Value} {Q : Value → Shared → Prop} (D : ZipApart z TI TO i1 i2 l2 l2)
    (hz : IsZip s.heap z TI TO .none) (hTI : IsPair s.heap TI (.ref i1) (.ref i2)) (hTO : IsPair s.heap TO a b)
    (h1 : aIt s.heap i1 x t k1) (h2 : s.heap.IsListIter i2 l2 k2) (hl2 : s.heap.IsList l2 ys) (hx : x.cps[k1]? = some c) (hy : ys[k2]? = some y)
    (hQ : ∀ h', IsZip h' z TI TO (rawInt s.heap.objs.size) → IsPair h' TO (.str ⟨#[c]⟩ s.toks) y → aIt h' i1 x t (k1 + 1) → h'.IsListIter i2 l2 (k2 + 1) → IsPair h' s.heap.objs.size (.str ⟨#[c]⟩ s.toks) y → h'.objs.size = s.heap.objs.size + 1 →
      (∀ c o, c ≠ z → c ≠ TO → c ≠ i1 → c ≠ i2 → s.heap.get? c = some o → h'.get? c = some o) → Q (.ref s.heap.objs.size) { s with heap := h', toks := s.toks + 1 }) :
    wpAny (model prog w) A (Builtin.«zip.__next__» ⟨[.ref z], []⟩) (fun fin s' => ∃ v, fin = .done (.ret v) ∧ Q v s') E s := by
  show wpAny _ _ (field (.ref z) 2 >>= _) _ _ _
  refine wpAny_bind (wpAny_field hz rfl (x := .bool false) rfl ?_)
  show wpAny _ _ (field (.ref z) 3 >>= _) _ _ _
  refine wpAny_bind (wpAny_field hz rfl (x := .ref TI) rfl ?_)
  refine wpAny_bind (wpAny_seqItems hTI rfl ?_)
  show wpAny _ _ (Builtin.SmallTypes.ownedTupleIsFree (.ref z) >>= _) _ _ _
  refine wpAny_bind ?_
  unfold Builtin.SmallTypes.ownedTupleIsFree
  refine wpAny_bind (wpAny_field hz rfl (x := .none) rfl (wpAny_pure ?_))
  simp only [if_true]
  refine wpAny_bind (wpAny_rule ?_)
  refine wpAny_bind (wpAny_field hz rfl (x := .ref TO) rfl ?_)
  refine wpAny_bind (wpAny_setField_rec hz (by simp) fun h₁ hz₁ hs₁ => ?_)
  replace hz₁ : IsZip h₁ z TI TO .ellipsis := hz₁
  refine wpAny_bind ?_
  simp only [List.zipIdx_cons, List.zipIdx_nil, List.forIn_cons, List.forIn_nil]
  refine wpAny_bind (wpAny_bind (wpAny_onRaise ?_))
  show wpAny _ _ (Builtin.SmallTypes.nextOf (.ref i1) >>= _) _ _ _
  refine wpAny_bind (wpAny_nextOf_ascii_item (h1.extBut hs₁.extBut D.i1z) hx fun h₂ h1₂ hs₂ => wpAny_pure ?_)
  have hTO₂ : IsPair h₂ TO a b := hs₂.extBut _ _ D.TOi1 (hs₁.extBut _ _ D.TOz hTO)
  refine wpAny_bind (wpAny_seqItems hTO₂ rfl ?_)
  refine wpAny_bind (wpAny_updateSeq_pair hTO₂ fun h₃ hTO₃ hs₃ => ?_)
  replace hTO₃ : IsPair h₃ TO (.str ⟨#[c]⟩ s.toks) b := hTO₃
  refine wpAny_bind (wpAny_letGo (wpAny_pure ?_))
  refine wpAny_bind (wpAny_bind (wpAny_onRaise ?_))
  show wpAny _ _ (Builtin.SmallTypes.nextOf (.ref i2) >>= _) _ _ _
  refine wpAny_bind (wpAny_nextOf_list_item (((h2.extBut hs₁.extBut D.i2z).extBut hs₂.extBut D.i12.symm).extBut hs₃.extBut D.TOi2.symm)
    (((hl2.extBut hs₁.extBut D.l2z).extBut hs₂.extBut D.l2i1).extBut hs₃.extBut D.l2TO) hy fun h₄ h2₄ hs₄ => wpAny_pure ?_)
  have hTO₄ : IsPair h₄ TO (.str ⟨#[c]⟩ s.toks) b := hs₄.extBut _ _ D.TOi2 hTO₃
  refine wpAny_bind (wpAny_seqItems hTO₄ rfl ?_)
  refine wpAny_bind (wpAny_updateSeq_pair hTO₄ fun h₅ hTO₅ hs₅ => ?_)
  replace hTO₅ : IsPair h₅ TO (.str ⟨#[c]⟩ s.toks) y := hTO₅
  refine wpAny_bind (wpAny_letGo (wpAny_pure (wpAny_pure ?_)))
  refine wpAny_bind (wpAny_seqItems hTO₅ rfl ?_)
  refine wpAny_bind (wpAny_newTuple ?_)
  have hsz : h₅.objs.size = s.heap.objs.size := by rw [hs₅.1, hs₄.1, hs₃.1, hs₂.1, hs₁.1]
  have hz₅ : IsZip h₅ z TI TO .ellipsis := hs₅.extBut _ _ D.TOz.symm (hs₄.extBut _ _ D.i2z.symm (hs₃.extBut _ _ D.TOz.symm (hs₂.extBut _ _ D.i1z.symm hz₁)))
  have hk₅ : ∀ c o, c ≠ z → c ≠ TO → c ≠ i1 → c ≠ i2 → s.heap.get? c = some o → h₅.get? c = some o := fun c o c1 c2 c3 c4 e =>
    hs₅.extBut _ _ c2 (hs₄.extBut _ _ c4 (hs₃.extBut _ _ c2 (hs₂.extBut _ _ c3 (hs₁.extBut _ _ c1 e))))
  have h1₅ : aIt h₅ i1 x t (k1 + 1) := ((h1₂.extBut hs₃.extBut D.TOi1.symm).extBut hs₄.extBut D.i12).extBut hs₅.extBut D.TOi1.symm
  have h2₅ : h₅.IsListIter i2 l2 (k2 + 1) := h2₄.extBut hs₅.extBut D.TOi2.symm
  have hzlt : z < h₅.objs.size := Heap.lt_size hz₅
  show wpAny _ _ (Builtin.SmallTypes.ownedTupleHandOut (.ref z) (.ref h₅.objs.size) >>= _) _ _ _
  refine wpAny_bind ?_
  unfold Builtin.SmallTypes.ownedTupleHandOut
  have hz₆ : IsZip (h₅.push { cls := .type "tuple", data := .seq #[.str ⟨#[c]⟩ s.toks, y] }) z TI TO .ellipsis := Heap.get?_push_of_some _ hz₅
  refine wpAny_bind (wpAny_setField_rec hz₆ (by simp) fun h₇ hz₇ hs₇ => ?_)
  replace hz₇ : IsZip h₇ z TI TO (rawInt h₅.objs.size) := hz₇
  refine wpAny_setField_rec hz₇ (by simp) fun h₈ hz₈ hs₈ => ?_
  replace hz₈ : IsZip h₈ z TI TO (rawInt h₅.objs.size) := hz₈
  have up : ∀ c o, c ≠ z → h₅.get? c = some o → h₈.get? c = some o := fun c o c1 e => hs₈.extBut _ _ c1 (hs₇.extBut _ _ c1 (Heap.get?_push_of_some _ e))
  have hT₈ : IsPair h₈ h₅.objs.size (.str ⟨#[c]⟩ s.toks) y := hs₈.extBut _ _ (Nat.ne_of_gt hzlt) (hs₇.extBut _ _ (Nat.ne_of_gt hzlt) (Heap.get?_push_size _ rfl))
  have hz8 : h₈.objs.size = h₅.objs.size + 1 := by rw [hs₈.1, hs₇.1, Heap.size_push]
  rw [hsz] at hz₈ hT₈ hz8
  refine wpAny_pure ⟨_, rfl, ?_⟩
  show Q (.ref h₅.objs.size) _
  rw [hsz]
  exact hQ h₈ hz₈ (up _ _ D.TOz hTO₅) (aIt_at h1₅ fun o e => up _ o D.i1z e) (h2₅.at fun o e => up _ o D.i2z e) hT₈ hz8 fun c o c1 c2 c3 c4 e => up c o c1 (hk₅ c o c1 c2 c3 c4 e)
theorem zipS_next_end {z TI TO i1 i2 l2 : Addr} {k1 k2 : Nat} {x : Str} {t : Tok} {ys : Array Value} {a b : Value} {Q : Fin → Shared → Prop} (hh : A.handled = none) (D : ZipApart z TI TO i1 i2 l2 l2)
    (hz : IsZip s.heap z TI TO .none) (hTI : IsPair s.heap TI (.ref i1) (.ref i2))
    (h1 : aIt s.heap i1 x t k1) (hx : x.cps[k1]? = none)
    (hE : ∀ h' e, (∀ c o, c ≠ z → c ≠ TO → c ≠ i1 → c ≠ i2 → s.heap.get? c = some o → h'.get? c = some o) → (∃ o, h'.get? e = some o ∧ o.cls = .type "StopIteration") → E (.ref e) { s with heap := h' }) :
    wpAny (model prog w) A (Builtin.«zip.__next__» ⟨[.ref z], []⟩) Q E s := by
  show wpAny _ _ (field (.ref z) 2 >>= _) _ _ _
  refine wpAny_bind (wpAny_field hz rfl (x := .bool false) rfl ?_)
  show wpAny _ _ (field (.ref z) 3 >>= _) _ _ _
  refine wpAny_bind (wpAny_field hz rfl (x := .ref TI) rfl ?_)
  refine wpAny_bind (wpAny_seqItems hTI rfl ?_)
  show wpAny _ _ (Builtin.SmallTypes.ownedTupleIsFree (.ref z) >>= _) _ _ _
  refine wpAny_bind ?_
  unfold Builtin.SmallTypes.ownedTupleIsFree
  refine wpAny_bind (wpAny_field hz rfl (x := .none) rfl (wpAny_pure ?_))
  simp only [if_true]
  refine wpAny_bind (wpAny_rule ?_)
  refine wpAny_bind (wpAny_field hz rfl (x := .ref TO) rfl ?_)
  refine wpAny_bind (wpAny_setField_rec hz (by simp) fun h₁ hz₁ hs₁ => ?_)
  replace hz₁ : IsZip h₁ z TI TO .ellipsis := hz₁
  refine wpAny_bind ?_
  simp only [List.zipIdx_cons, List.zipIdx_nil, List.forIn_cons, List.forIn_nil]
  refine wpAny_bind (wpAny_bind (wpAny_onRaise ?_))
  show wpAny _ _ (Builtin.SmallTypes.nextOf (.ref i1) >>= _) _ _ _
  refine wpAny_bind (wpAny_nextOf_ascii_end hh (h1.extBut hs₁.extBut D.i1z) hx fun h₂ e hs₂ he => ?_)
  obtain ⟨oe, hoe, hce⟩ := he
  have hz₂ : IsZip h₂ z TI TO .ellipsis := hs₂ _ _ D.i1z.symm hz₁
  have hez : e ≠ z := fun x => by subst x; rw [hz₂] at hoe; cases hoe; simp at hce
  refine wpAny_setField_rec hz₂ (by simp) fun h₃ _ hs₃ => hE h₃ e (fun c o c1 _ c3 _ x => hs₃.extBut _ _ c1 (hs₂ _ _ c3 (hs₁.extBut _ _ c1 x))) ⟨oe, hs₃.extBut _ _ hez hoe, hce⟩
theorem wpAny_pyNext_zipS_item {z TI TO i1 i2 l2 : Addr} {k1 k2 c : Nat} {x : Str} {t : Tok} {ys : Array Value} {y a b : Value} {Q : Option Value → Shared → Prop} (D : ZipApart z TI TO i1 i2 l2 l2)
    (hz : IsZip s.heap z TI TO .none) (hTI : IsPair s.heap TI (.ref i1) (.ref i2)) (hTO : IsPair s.heap TO a b)
    (h1 : aIt s.heap i1 x t k1) (h2 : s.heap.IsListIter i2 l2 k2) (hl2 : s.heap.IsList l2 ys) (hx : x.cps[k1]? = some c) (hy : ys[k2]? = some y)
    (hQ : ∀ h', IsZip h' z TI TO (rawInt s.heap.objs.size) → IsPair h' TO (.str ⟨#[c]⟩ s.toks) y → aIt h' i1 x t (k1 + 1) → h'.IsListIter i2 l2 (k2 + 1) → IsPair h' s.heap.objs.size (.str ⟨#[c]⟩ s.toks) y → h'.objs.size = s.heap.objs.size + 1 →
      (∀ c o, c ≠ z → c ≠ TO → c ≠ i1 → c ≠ i2 → s.heap.get? c = some o → h'.get? c = some o) → Q (some (.ref s.heap.objs.size)) { s with heap := h', toks := s.toks + 1 }) :
    wpAny (model prog w) A (pyNext (.ref z)) Q E s := by
  have hT : s.TypeIs (.ref z) "zip" := ⟨_, hz, rfl⟩
  unfold pyNext
  exact wpAny_bind (wpAny_attempt (wpAny_callSpecial?_slot (name := Str.ofString "__next__") hT F.slot_zip_next
    (wpAny_call_entry F.slot_zip_next hT F.entry_zip_next
      (zipS_next_item D hz hTI hTO h1 h2 hl2 hx hy fun h' a1 a2 a3 a4 a5 a6 a7 => wpAny_pure (hQ h' a1 a2 a3 a4 a5 a6 a7)) (F.args_zip_next_1 _))))
theorem wpAny_pyNext_zipS_end {z TI TO i1 i2 l2 : Addr} {k1 : Nat} {x : Str} {t : Tok} {Q : Option Value → Shared → Prop} (hh : A.handled = none) (D : ZipApart z TI TO i1 i2 l2 l2)
    (hz : IsZip s.heap z TI TO .none) (hTI : IsPair s.heap TI (.ref i1) (.ref i2)) (h1 : aIt s.heap i1 x t k1) (hx : x.cps[k1]? = none)
    (hQ : ∀ h', (∀ c o, c ≠ z → c ≠ TO → c ≠ i1 → c ≠ i2 → s.heap.get? c = some o → h'.get? c = some o) → Q none { s with heap := h' }) : wpAny (model prog w) A (pyNext (.ref z)) Q E s := by
  have hT : s.TypeIs (.ref z) "zip" := ⟨_, hz, rfl⟩
  unfold pyNext
  refine wpAny_bind (wpAny_attempt (wpAny_callSpecial?_slot (name := Str.ofString "__next__") hT F.slot_zip_next
    (wpAny_call_entry F.slot_zip_next hT F.entry_zip_next (zipS_next_end (k2 := 0) (ys := #[]) (a := .none) (b := .none) hh D hz hTI h1 hx fun h' e hk he => ?_) (F.args_zip_next_1 _))))
  obtain ⟨o, ho, hc⟩ := he
  refine wpAny_bind (wpAny_isInstance (T := "StopIteration") (b := true) ⟨o, ho, hc⟩ isSubtype_stop ?_)
  exact wpAny_pure (hQ _ hk)
theorem zipS_next_item_held {z TI TO T i1 i2 l2 : Addr} {f : Bool} {oT : Obj} {k1 k2 c : Nat} {x : Str} {t : Tok} {ys : Array Value} {y : Value} {Q : Value → Shared → Prop} (D : ZipApart z TI TO i1 i2 l2 l2)
    (hz : IsZipHeld s.heap z TI TO T f) (hT : s.heap.get? T = some oT) (hTI : IsPair s.heap TI (.ref i1) (.ref i2))
    (h1 : aIt s.heap i1 x t k1) (h2 : s.heap.IsListIter i2 l2 k2) (hl2 : s.heap.IsList l2 ys) (hx : x.cps[k1]? = some c) (hy : ys[k2]? = some y)
    (hQ : ∀ h', IsZipHeld h' z TI TO T true → aIt h' i1 x t (k1 + 1) → h'.IsListIter i2 l2 (k2 + 1) → IsPair h' s.heap.objs.size (.str ⟨#[c]⟩ s.toks) y → h'.objs.size = s.heap.objs.size + 1 →
      (∀ c o, c ≠ z → c ≠ i1 → c ≠ i2 → s.heap.get? c = some o → h'.get? c = some o) → Q (.ref s.heap.objs.size) { s with heap := h', toks := s.toks + 1 }) :
    wpAny (model prog w) A (Builtin.«zip.__next__» ⟨[.ref z], []⟩) (fun fin s' => ∃ v, fin = .done (.ret v) ∧ Q v s') E s := by
  show wpAny _ _ (field (.ref z) 2 >>= _) _ _ _
  refine wpAny_bind (wpAny_field hz rfl (x := .bool false) rfl ?_)
  show wpAny _ _ (field (.ref z) 3 >>= _) _ _ _
  refine wpAny_bind (wpAny_field hz rfl (x := .ref TI) rfl ?_)
  refine wpAny_bind (wpAny_seqItems hTI rfl ?_)
  show wpAny _ _ (Builtin.SmallTypes.ownedTupleIsFree (.ref z) >>= _) _ _ _
  refine wpAny_bind (wpAny_tupleHeld_zip hz hT fun h₁ hz₁ hs₁ => ?_)
  simp only [Bool.false_eq_true, if_false]
  refine wpAny_bind ?_
  rw [← Array.forIn_toList]
  simp only [List.forIn_cons, List.forIn_nil]
  refine wpAny_bind (wpAny_bind (wpAny_holding ?_))
  show wpAny _ _ (Builtin.SmallTypes.nextOf (.ref i1) >>= _) _ _ _
  refine wpAny_bind (wpAny_nextOf_ascii_item (s := { s with heap := h₁ }) (h1.extBut hs₁.extBut D.i1z) hx fun h₂ h1₂ hs₂ => wpAny_pure ?_)
  refine wpAny_pure ?_
  refine wpAny_bind (wpAny_bind (wpAny_holding ?_))
  show wpAny _ _ (Builtin.SmallTypes.nextOf (.ref i2) >>= _) _ _ _
  refine wpAny_bind (wpAny_nextOf_list_item ((h2.extBut hs₁.extBut D.i2z).extBut hs₂.extBut D.i12.symm) ((hl2.extBut hs₁.extBut D.l2z).extBut hs₂.extBut D.l2i1) hy fun h₃ h2₃ hs₃ => wpAny_pure ?_)
  refine wpAny_pure (wpAny_pure ?_)
  show wpAny _ _ (newTuple [.str ⟨#[c]⟩ s.toks, y] >>= _) _ _ _
  refine wpAny_bind (wpAny_newTuple ?_)
  have hsz : h₃.objs.size = s.heap.objs.size := by rw [hs₃.1, hs₂.1, hs₁.1]
  have hz₃ : IsZipHeld h₃ z TI TO T true := hs₃.extBut _ _ D.i2z.symm (hs₂.extBut _ _ D.i1z.symm hz₁)
  have hk : ∀ c o, c ≠ z → c ≠ i1 → c ≠ i2 → s.heap.get? c = some o → h₃.get? c = some o := fun c o c1 c2 c3 e => hs₃.extBut _ _ c3 (hs₂.extBut _ _ c2 (hs₁.extBut _ _ c1 e))
  have h1₃ : aIt h₃ i1 x t (k1 + 1) := h1₂.extBut hs₃.extBut D.i12
  refine wpAny_pure ⟨_, rfl, ?_⟩
  show Q (.ref h₃.objs.size) _
  have hp : IsPair (h₃.push { cls := .type "tuple", data := .seq #[.str ⟨#[c]⟩ s.toks, y] }) h₃.objs.size (.str ⟨#[c]⟩ s.toks) y := Heap.get?_push_size _ rfl
  have hz4 : (h₃.push { cls := .type "tuple", data := .seq #[.str ⟨#[c]⟩ s.toks, y] }).objs.size = h₃.objs.size + 1 := Heap.size_push ..
  rw [hsz] at hp hz4 ⊢
  exact hQ _ (Heap.get?_push_of_some _ hz₃) (aIt_at h1₃ fun o e => Heap.get?_push_of_some _ e) (h2₃.at fun o e => Heap.get?_push_of_some _ e) hp hz4 fun c o c1 c2 c3 e => Heap.get?_push_of_some _ (hk c o c1 c2 c3 e)
theorem zipS_next_end_held {z TI TO T i1 i2 l2 : Addr} {f : Bool} {oT : Obj} {k1 : Nat} {x : Str} {t : Tok} {Q : Fin → Shared → Prop} (hh : A.handled = none) (D : ZipApart z TI TO i1 i2 l2 l2)
    (hz : IsZipHeld s.heap z TI TO T f) (hT : s.heap.get? T = some oT) (hTI : IsPair s.heap TI (.ref i1) (.ref i2)) (h1 : aIt s.heap i1 x t k1) (hx : x.cps[k1]? = none)
    (hE : ∀ h' e, (∀ c o, c ≠ z → c ≠ i1 → c ≠ i2 → s.heap.get? c = some o → h'.get? c = some o) → (∃ o, h'.get? e = some o ∧ o.cls = .type "StopIteration") → E (.ref e) { s with heap := h' }) :
    wpAny (model prog w) A (Builtin.«zip.__next__» ⟨[.ref z], []⟩) Q E s := by
  show wpAny _ _ (field (.ref z) 2 >>= _) _ _ _
  refine wpAny_bind (wpAny_field hz rfl (x := .bool false) rfl ?_)
  show wpAny _ _ (field (.ref z) 3 >>= _) _ _ _
  refine wpAny_bind (wpAny_field hz rfl (x := .ref TI) rfl ?_)
  refine wpAny_bind (wpAny_seqItems hTI rfl ?_)
  show wpAny _ _ (Builtin.SmallTypes.ownedTupleIsFree (.ref z) >>= _) _ _ _
  refine wpAny_bind (wpAny_tupleHeld_zip hz hT fun h₁ hz₁ hs₁ => ?_)
  simp only [Bool.false_eq_true, if_false]
  refine wpAny_bind ?_
  rw [← Array.forIn_toList]
  simp only [List.forIn_cons, List.forIn_nil]
  refine wpAny_bind (wpAny_bind (wpAny_holding ?_))
  show wpAny _ _ (Builtin.SmallTypes.nextOf (.ref i1) >>= _) _ _ _
  refine wpAny_bind (wpAny_nextOf_ascii_end (s := { s with heap := h₁ }) hh (h1.extBut hs₁.extBut D.i1z) hx fun h₂ e hs₂ he => ?_)
  exact hE h₂ e (fun c o c1 c2 _ x => hs₂ _ _ c2 (hs₁.extBut _ _ c1 x)) he
theorem wpAny_pyNext_zipS_item_held {z TI TO T i1 i2 l2 : Addr} {f : Bool} {oT : Obj} {k1 k2 c : Nat} {x : Str} {t : Tok} {ys : Array Value} {y : Value} {Q : Option Value → Shared → Prop} (D : ZipApart z TI TO i1 i2 l2 l2)
    (hz : IsZipHeld s.heap z TI TO T f) (hT : s.heap.get? T = some oT) (hTI : IsPair s.heap TI (.ref i1) (.ref i2))
    (h1 : aIt s.heap i1 x t k1) (h2 : s.heap.IsListIter i2 l2 k2) (hl2 : s.heap.IsList l2 ys) (hx : x.cps[k1]? = some c) (hy : ys[k2]? = some y)
    (hQ : ∀ h', IsZipHeld h' z TI TO T true → aIt h' i1 x t (k1 + 1) → h'.IsListIter i2 l2 (k2 + 1) → IsPair h' s.heap.objs.size (.str ⟨#[c]⟩ s.toks) y → h'.objs.size = s.heap.objs.size + 1 →
      (∀ c o, c ≠ z → c ≠ i1 → c ≠ i2 → s.heap.get? c = some o → h'.get? c = some o) → Q (some (.ref s.heap.objs.size)) { s with heap := h', toks := s.toks + 1 }) :
    wpAny (model prog w) A (pyNext (.ref z)) Q E s := by
  have hTy : s.TypeIs (.ref z) "zip" := ⟨_, hz, rfl⟩
  unfold pyNext
  exact wpAny_bind (wpAny_attempt (wpAny_callSpecial?_slot (name := Str.ofString "__next__") hTy F.slot_zip_next
    (wpAny_call_entry F.slot_zip_next hTy F.entry_zip_next
      (zipS_next_item_held D hz hT hTI h1 h2 hl2 hx hy fun h' a1 a3 a4 a5 a6 a7 => wpAny_pure (hQ h' a1 a3 a4 a5 a6 a7)) (F.args_zip_next_1 _))))
theorem wpAny_pyNext_zipS_end_held {z TI TO T i1 i2 l2 : Addr} {f : Bool} {oT : Obj} {k1 : Nat} {x : Str} {t : Tok} {Q : Option Value → Shared → Prop} (hh : A.handled = none) (D : ZipApart z TI TO i1 i2 l2 l2)
    (hz : IsZipHeld s.heap z TI TO T f) (hT : s.heap.get? T = some oT) (hTI : IsPair s.heap TI (.ref i1) (.ref i2)) (h1 : aIt s.heap i1 x t k1) (hx : x.cps[k1]? = none)
    (hQ : ∀ h', (∀ c o, c ≠ z → c ≠ i1 → c ≠ i2 → s.heap.get? c = some o → h'.get? c = some o) → Q none { s with heap := h' }) : wpAny (model prog w) A (pyNext (.ref z)) Q E s := by
  have hTy : s.TypeIs (.ref z) "zip" := ⟨_, hz, rfl⟩
  unfold pyNext
  refine wpAny_bind (wpAny_attempt (wpAny_callSpecial?_slot (name := Str.ofString "__next__") hTy F.slot_zip_next
    (wpAny_call_entry F.slot_zip_next hTy F.entry_zip_next (zipS_next_end_held hh D hz hT hTI h1 hx fun h' e hk he => ?_) (F.args_zip_next_1 _))))
  obtain ⟨o, ho, hc⟩ := he
  refine wpAny_bind (wpAny_isInstance (T := "StopIteration") (b := true) ⟨o, ho, hc⟩ isSubtype_stop ?_)
  exact wpAny_pure (hQ _ hk)
abbrev zsH1 (h : Heap) (x : Str) (t : Tok) : Heap := h.push { cls := .type "str_ascii_iterator", data := .fields #[.str x t, .int 0 0] }
abbrev zsH2 (h : Heap) (x : Str) (t : Tok) (l2 : Addr) : Heap := (zsH1 h x t).push { cls := .type "list_iterator", data := .fields #[.ref l2, .int 0 0] }
abbrev zsH3 (h : Heap) (x : Str) (t : Tok) (l2 : Addr) : Heap := (zsH2 h x t l2).push { cls := .type "tuple", data := .seq #[.ref h.objs.size, .ref (zsH1 h x t).objs.size] }
abbrev zsH4 (h : Heap) (x : Str) (t : Tok) (l2 : Addr) : Heap := (zsH3 h x t l2).push { cls := .type "tuple", data := .seq #[.none, .none] }
abbrev zsH5 (h : Heap) (x : Str) (t : Tok) (l2 : Addr) : Heap := (zsH4 h x t l2).push { cls := .type "zip", data := .fields #[.none, .bool false, .bool false, .ref (zsH2 h x t l2).objs.size, .ref (zsH3 h x t l2).objs.size] }
theorem meets_zipS_new (x : Str) (t : Tok) (l2 : Addr) (ys : Array Value) (hx : x.cps.all (· < 128) = true) :
    Meets (Builtin.«zip.__new__» ⟨[.type "zip", .str x t, .ref l2], []⟩) (fun _ R s => s.heap.IsList l2 ys ∧
      R (.ok (.ret (.ref (zsH4 s.heap x t l2).objs.size))) { s with heap := zsH5 s.heap x t l2 }) :=
  .of_wp fun prog w A R s h => by
    obtain ⟨hp, g, d, tk, os⟩ := s
    obtain ⟨hl2, h⟩ := h
    have hsub := sub_zip
    have hL2 : Heap.IsList (Shared.heap ⟨hp.push { cls := .type "str_ascii_iterator", data := .fields #[.str x t, .int 0 0] }, g, d, tk, os⟩) l2 ys := Heap.IsList.push hl2 _
    wp_walk using wpAny_pyIter_ascii hx, wpAny_pyIter_list hL2
    exact ⟨_, rfl, h⟩
theorem call_zipS {x : Str} {t : Tok} {l2 : Addr} {ys : Array Value} {Q : Value → Shared → Prop} (hx : x.cps.all (· < 128) = true) (hl2 : s.heap.IsList l2 ys)
    (h : ∀ h', IsZip h' (s.heap.objs.size + 4) (s.heap.objs.size + 2) (s.heap.objs.size + 3) .none → IsPair h' (s.heap.objs.size + 2) (.ref s.heap.objs.size) (.ref (s.heap.objs.size + 1)) →
      IsPair h' (s.heap.objs.size + 3) .none .none → aIt h' s.heap.objs.size x t 0 → h'.IsListIter (s.heap.objs.size + 1) l2 0 → h'.objs.size = s.heap.objs.size + 5 →
      (∀ c o, s.heap.get? c = some o → h'.get? c = some o) → Q (.ref (s.heap.objs.size + 4)) { s with heap := h' }) :
    wpAny (model prog w) A (call (.type "zip") [.str x t, .ref l2]) Q E s := by
  refine callType_new F.called_zip (by decide) (F.typeCall_zip_2 _ _) (F.newCall_zip_2 _ _) (fun obj => F.args_object_init_3 obj _ _) F.entry_zip_new
    (meets_zipS_new x t l2 ys hx) ⟨hl2, ?_⟩
  have z1 : (zsH1 s.heap x t).objs.size = s.heap.objs.size + 1 := Heap.size_push ..
  have z2 : (zsH2 s.heap x t l2).objs.size = s.heap.objs.size + 2 := by rw [Heap.size_push, z1]
  have z3 : (zsH3 s.heap x t l2).objs.size = s.heap.objs.size + 3 := by rw [Heap.size_push, z2]
  have z4 : (zsH4 s.heap x t l2).objs.size = s.heap.objs.size + 4 := by rw [Heap.size_push, z3]
  have z5 : (zsH5 s.heap x t l2).objs.size = s.heap.objs.size + 5 := by rw [Heap.size_push, z4]
  have g5 : (zsH5 s.heap x t l2).get? (zsH4 s.heap x t l2).objs.size = some _ := Heap.get?_push_size _ rfl
  have g4 : (zsH5 s.heap x t l2).get? (zsH3 s.heap x t l2).objs.size = some _ := Heap.get?_push_of_some _ (Heap.get?_push_size _ rfl)
  have g3 : (zsH5 s.heap x t l2).get? (zsH2 s.heap x t l2).objs.size = some _ := Heap.get?_push_of_some _ (Heap.get?_push_of_some _ (Heap.get?_push_size _ rfl))
  have g2 : (zsH5 s.heap x t l2).get? (zsH1 s.heap x t).objs.size = some _ := Heap.get?_push_of_some _ (Heap.get?_push_of_some _ (Heap.get?_push_of_some _ (Heap.get?_push_size _ rfl)))
  have g1 : (zsH5 s.heap x t l2).get? s.heap.objs.size = some _ := Heap.get?_push_of_some _ (Heap.get?_push_of_some _ (Heap.get?_push_of_some _ (Heap.get?_push_of_some _ (Heap.get?_push_size _ rfl))))
  show _ ∧ _
  rw [z2, z3, z4] at g5
  rw [z1, z2] at g3
  rw [z3] at g4
  rw [z1] at g2
  rw [z4]
  exact ⟨⟨_, g5, rfl⟩, h _ g5 g3 g4 ⟨_, g1, rfl, rfl⟩ ⟨_, g2, rfl, rfl⟩ z5 fun c o x =>
    Heap.get?_push_of_some _ (Heap.get?_push_of_some _ (Heap.get?_push_of_some _ (Heap.get?_push_of_some _ (Heap.get?_push_of_some _ x))))⟩
end
section
variable {prog : Program} {w : World}
theorem PairArg.zipS (z TI TO i1 i2 l2 : Addr) (D : ZipApart z TI TO i1 i2 l2 l2) (x : Str) (t : Tok) (ys : Array Value) (hle : x.cps.size ≤ ys.size) :
    PairArg prog w "zip" z [z, TI, TO, i1, i2, l2] [z, TO, i1, i2] x.cps.size (fun i k v => (∃ c u, x.cps[i]? = some c ∧ k = .str ⟨#[c]⟩ u) ∧ ys[i]? = some v)
      (fun h => IsZip h z TI TO .none ∧ IsPair h TI (.ref i1) (.ref i2) ∧ (∃ a b, IsPair h TO a b) ∧ aIt h i1 x t 0 ∧ h.IsListIter i2 l2 0 ∧ h.IsList l2 ys) where
  type := fun s ok => ⟨_, ok.1, rfl⟩
  notDict := by decide
  keep := fun h h' ok hk => by
    obtain ⟨hz, hTI, ⟨a, b, hTO⟩, h1, h2, hl2⟩ := ok
    exact ⟨hk _ _ hz, hk _ _ hTI, ⟨a, b, hk _ _ hTO⟩, aIt_at h1 fun o e => hk _ o e, h2.at fun o e => hk _ o e, hl2.at fun o e => hk _ o e⟩
  there := fun h ok b hb => by
    obtain ⟨hz, hTI, ⟨a, c, hTO⟩, ⟨o1, h1, _⟩, ⟨o2, h2, _⟩, ⟨o4, hl2, _⟩⟩ := ok
    simp only [List.mem_cons, List.not_mem_nil, or_false] at hb
    rcases hb with rfl | rfl | rfl | rfl | rfl | rfl
    all_goals first | exact ⟨_, hz⟩ | exact ⟨_, hTI⟩ | exact ⟨_, hTO⟩ | exact ⟨_, h1⟩ | exact ⟨_, h2⟩ | exact ⟨_, hl2⟩
  sub := fun b hb => by simp at hb ⊢; rcases hb with rfl | rfl | rfl | rfl <;> simp
  noKeys := fun A s Q E hA ok h => getAttrOr_miss_zip ok.1 rfl rfl rfl zip_no_keys (by decide +kernel) hA h
  iter := fun A s d Q E hA ok hd hdf h => by
    obtain ⟨hz, hTI, ⟨a, b, hTO⟩, h1, h2, hl2⟩ := ok
    simp only [List.mem_cons, List.not_mem_nil, or_false, not_or] at hdf
    obtain ⟨dz, dTI, dTO, di1, di2, dl2⟩ := hdf
    refine wpAny_pyIter_zip hz (h z [z, TO, i1, i2] (fun i h => IsPair h TI (.ref i1) (.ref i2) ∧ aIt h i1 x t i ∧ h.IsListIter i2 l2 i ∧ h.IsList l2 ys ∧
      ((IsZip h z TI TO .none ∧ ∃ a b, IsPair h TO a b) ∨ ∃ T f oT, IsZipHeld h z TI TO T f ∧ h.get? T = some oT ∧ T ≠ z ∧ T ≠ i1 ∧ T ≠ i2 ∧ T ≠ d)) s.heap s.toks ?_
      ⟨hTI, h1, h2, hl2, .inl ⟨hz, a, b, hTO⟩⟩ (fun _ _ e => e) fun b hb => .inl hb)
    exact {
      off := fun hm => by
        simp only [List.mem_cons, List.not_mem_nil, or_false] at hm
        rcases hm with e | e | e | e
        · exact dz e
        · exact dTO e
        · exact di1 e
        · exact di2 e
      frame := fun i h₁ h₂ st hk => by
        obtain ⟨hTI, h1, h2, hl2, hz⟩ := st
        refine ⟨hk _ _ (Ne.symm dTI) hTI, aIt_at h1 fun o e => hk _ o (Ne.symm di1) e, h2.at fun o e => hk _ o (Ne.symm di2) e, hl2.at fun o e => hk _ o (Ne.symm dl2) e, ?_⟩
        rcases hz with ⟨hz, a, b, hTO⟩ | ⟨T, f, oT, hz, hT, r1, r2, r3, r4⟩
        · exact .inl ⟨hk _ _ (Ne.symm dz) hz, a, b, hk _ _ (Ne.symm dTO) hTO⟩
        · exact .inr ⟨T, f, oT, hk _ _ (Ne.symm dz) hz, hk _ _ r4 hT, r1, r2, r3, r4⟩
      item := fun i s₁ Q₁ E₁ hi st hds hQ => by
        obtain ⟨hTI, h1, h2, hl2, hz⟩ := st
        have hiy : i < ys.size := Nat.lt_of_lt_of_le hi hle
        have ex := Array.getElem?_eq_getElem hi
        have ey := Array.getElem?_eq_getElem hiy
        have lt : ∀ {c o}, s₁.heap.get? c = some o → s₁.heap.objs.size ≠ c := fun e => Nat.ne_of_gt (Heap.lt_size e)
        have n1 : s₁.heap.objs.size ≠ i1 := let ⟨_, e, _⟩ := h1; lt e
        have n2 : s₁.heap.objs.size ≠ i2 := let ⟨_, e, _⟩ := h2; lt e
        rcases hz with ⟨hz, a, b, hTO⟩ | ⟨T, f, oT, hz, hT, r1, r2, r3, r4⟩
        · refine wpAny_pyNext_zipS_item D hz hTI hTO h1 h2 hl2 ex ey fun h' a1 a2 a3 a4 a5 a6 hk => ?_
          exact hQ s₁.heap.objs.size _ _ h' (s₁.toks + 1) ⟨⟨_, _, ex, rfl⟩, ey⟩ (.inl ⟨_, a5, rfl, _, rfl⟩)
            ⟨hk _ _ D.TIz D.TITO D.TIi1 D.TIi2 hTI, a3, a4, hl2.at fun o e => hk _ o D.l2z D.l2TO D.l2i1 D.l2i2 e,
              .inr ⟨s₁.heap.objs.size, false, _, a1, a5, lt hz, n1, n2, Nat.ne_of_gt hds⟩⟩
            fun c o hc e => hk c o (fun x => hc (by simp [x])) (fun x => hc (by simp [x])) (fun x => hc (by simp [x])) (fun x => hc (by simp [x])) e
        · refine wpAny_pyNext_zipS_item_held D hz hT hTI h1 h2 hl2 ex ey fun h' a1 a3 a4 a5 a6 hk => ?_
          exact hQ s₁.heap.objs.size _ _ h' (s₁.toks + 1) ⟨⟨_, _, ex, rfl⟩, ey⟩ (.inl ⟨_, a5, rfl, _, rfl⟩)
            ⟨hk _ _ D.TIz D.TIi1 D.TIi2 hTI, a3, a4, hl2.at fun o e => hk _ o D.l2z D.l2i1 D.l2i2 e,
              .inr ⟨T, true, oT, a1, hk _ _ r1 r2 r3 hT, r1, r2, r3, r4⟩⟩
            fun c o hc e => hk c o (fun x => hc (by simp [x])) (fun x => hc (by simp [x])) (fun x => hc (by simp [x])) e
      done := fun s₁ Q₁ E₁ st hQ => by
        obtain ⟨hTI, h1, h2, hl2, hz⟩ := st
        have hend : x.cps[x.cps.size]? = none := Array.getElem?_eq_none (Nat.le_refl _)
        rcases hz with ⟨hz, a, b, hTO⟩ | ⟨T, f, oT, hz, hT, r1, r2, r3, r4⟩
        · exact wpAny_pyNext_zipS_end hA D hz hTI h1 hend fun h' hk => hQ h' s₁.toks fun c o hc e => hk c o (fun x => hc (by simp [x])) (fun x => hc (by simp [x])) (fun x => hc (by simp [x])) (fun x => hc (by simp [x])) e
        · exact wpAny_pyNext_zipS_end_held hA D hz hT hTI h1 hend fun h' hk => hQ h' s₁.toks fun c o hc e => hk c o (fun x => hc (by simp [x])) (fun x => hc (by simp [x])) (fun x => hc (by simp [x])) e }
end
end PySem

set_option Elab.async false
set_option linter.all false
set_option maxRecDepth 100000
set_option maxHeartbeats 4000000
namespace Q
open PySem PySem.Spec PyProof.Rows L2
/-! ### dict(zip(text, list)) -/
/-- the pairs -/
def zipKV (x : Str) (ys : List V) : List (L2.Key × V) := ((TL.tl x).map fun c => (Sum.inr ⟨#[c]⟩ : L2.Key)).zip ys
def tDZip (K : PySem.W.Frag) (ta : TA) : TE := fun σ H Q => ta σ H fun vs H1 => ∃ (x : Str) (b : Addr) (ys : List V), vs = [.str x, .ref b] ∧ SqL K H1 b ys ∧ x.cps.all (· < 128) = true ∧ x.length = ys.length ∧ ∀ p, H1 p = none → Q (.ref p) (upd H1 p (.dK (mergeK [] (zipKV x ys))))
theorem zipKV_rel {ys : List V} {us : List Value} (r : Vals ys us) : ∀ ks : List L2.Key, KV (ks.zip ys) (ks.zip us) := by
  intro ks
  induction r generalizing ks with
  | nil =>
    rw [List.zip_nil_right, List.zip_nil_right]
    exact .nil
  | cons h t ih =>
    cases ks with
    | nil => exact .nil
    | cons k ks => exact .cons ⟨rfl, h⟩ (ih ks)
theorem pe_dzip {X : Cx} {e1 e2 : Expr} {ta : TA} {p p2 pos pos2 : Pos} (hg : Gl X "dict") (hm : X.mg "dict" = none) (hg2 : Gl X "zip") (hm2 : X.mg "zip" = none) (hc : X.calm = true) (ha : PA X [e1, e2] ta)
    (hs : starEach [e1, e2] X.env = (false, eval e1 X.env) :: starEach [e2] X.env := by rfl) (hpl : (backTo pos2 (starEach [e2] X.env)).any (·.1) = false := by rfl)
    (hs2 : starEach [.Call (.Name "zip" p2) [e1, e2] [] pos2] X.env = [(false, eval (.Call (.Name "zip" p2) [e1, e2] [] pos2) X.env)] := by rfl) :
    PE X (.Call (.Name "dict" p) [.Call (.Name "zip" p2) [e1, e2] [] pos2] [] pos) (tDZip X.K ta) := by
  refine ⟨fun pins s σ H Q I h => ?_⟩
  refine Call_ (ld_blt I hg hm boot_dict (PyProof.Rows.callWith_type1 ?_ hs2 rfl))
  show wpAny _ _ (spliced ((false, eval (.Call (.Name "zip" p2) [e1, e2] [] pos2) X.env) :: [])) _ _ s
  refine Calls.spliced_cons (Call_ (ld_blt I hg2 hm2 PyProof.Rows.boot_zip (PyProof.Rows.callWith_type1 (thn (ha.run pos2 pins s σ H _ I h) fun us s1 ⟨vs, H1, I1, r1, q1⟩ => ?_) hs hpl)))
  obtain ⟨x, b, ys, ev, hq, hx, hl, q⟩ := q1
  subst ev
  cases r1 with
  | cons ru rr =>
    cases rr with
    | cons ru2 rr =>
      cases rr
      obtain ⟨t, rfl⟩ := ru
      cases ru2
      obtain ⟨its, rv, p1, hz⟩ := I1.list hq
      have lb : b < s1.heap.objs.size := p1.lt
      refine call_zipS hx p1.isList fun h' g1 g2 g3 g4 g5 g6 hk => ?_
      refine Calls.spliced_nil ?_
      have I2 : Inv X pins σ H1 { s1 with heap := h' } := I1.kept (t' := s1.toks) hk
      have hlen : x.cps.size = its.toArray.size := by
        rw [List.size_toArray]
        exact Eq.trans hl rv.length
      have D := PySem.W.ktu_apart s1.heap.objs.size b b lb lb
      refine PySem.call_dict_pairs (knd := mixKind X.prog X.w) (kvs := ((TL.tl x).map fun c => (Sum.inr ⟨#[c]⟩ : L2.Key)).zip its) (PairArg.zipS _ _ _ _ _ b D x t its.toArray (Nat.le_of_eq hlen)) (I.ok.hd hc)
        ⟨g1, g2, ⟨_, _, g3⟩, g4, g5, p1.isList.at fun o e => hk _ _ e⟩ ⟨?_, fun i key v hr => ?_⟩ ?_ fun h2 tk hd k2 => ?_
      · rw [List.length_zip, List.length_map, Array.length_toList, hlen, List.size_toArray, Nat.min_self]
      · obtain ⟨⟨c, u, hc, rfl⟩, hv⟩ := hr
        refine ⟨Sum.inr ⟨#[c]⟩, ?_, mixKind_str _ _ _ _⟩
        have hc2 : (TL.tl x)[i]? = some c := by rw [← hc]; exact Array.getElem?_toList
        have hv2 : its[i]? = some v := by simpa using hv
        rw [List.getElem?_zip_eq_some]
        exact ⟨by rw [List.getElem?_map, hc2]; rfl, hv2⟩
      · rw [hlen, List.size_toArray, ← rv.length]
        exact hz
      · have hm : (h'.objs.size == sysModules) = false := beq_eq_false_iff_ne.mpr (Nat.ne_of_gt I2.big)
        have rel : KV (zipKV x ys) (((TL.tl x).map fun c => (Sum.inr ⟨#[c]⟩ : L2.Key)).zip its) := zipKV_rel rv _
        have hln : (mergeK [] (zipKV x ys)).length ≤ sizeLine := by
          refine Nat.le_trans (length_mergeK _ []) ?_
          rw [List.length_nil, Nat.zero_add]
          unfold zipKV
          rw [List.length_zip]
          exact Nat.le_trans (Nat.min_le_right _ _) hz
        have keep : ∀ b o, s1.heap.get? b = some o → h2.get? b = some o := fun c o e => k2 c o (by
          have hc := Heap.lt_size e
          simp only [List.mem_cons, List.not_mem_nil, or_false, not_or]
          have up : ∀ n, c ≠ s1.heap.objs.size + n := fun n => Nat.ne_of_lt (Nat.lt_of_lt_of_le hc (Nat.le_add_right _ _))
          exact ⟨up 4, up 3, up 0, up 1⟩) (hk _ _ e)
        have hle : s1.heap.objs.size ≤ h'.objs.size := by
          rw [g6]
          exact Nat.le_add_right _ _
        exact ⟨.ref h'.objs.size, upd H1 h'.objs.size (.dK (mergeK [] (zipKV x ys))), I1.laid (t' := tk) keep hle (show ObjOk X.prog X.w _ _ _ (.dK (mergeK [] (zipKV x ys))) from ⟨hln, hm, _, KV.merge rel .nil, hd⟩), rfl, q _ (I1.hok.fresh hle)⟩
/-! ### list(e.values()) -/
theorem out_items {Pv : Nat → Value → Prop} {acc : Array Value} {out : List Value} (h : ItemsOf Pv acc out.length) (hP : ∀ j v, Pv j v → out[j]? = some v) : acc.toList = out := by
  refine List.ext_getElem? fun i => ?_
  by_cases hi : i < acc.size
  · rw [Array.getElem?_toList, hP i _ (h.2 i _ (Array.getElem?_eq_getElem hi)), Array.getElem?_eq_getElem hi]
  · rw [List.getElem?_eq_none (by rw [Array.length_toList]; omega), List.getElem?_eq_none (by rw [← h.1]; omega)]
def tListVals (te : TE) : TE := fun σ H Q => te σ H fun x H1 => ∃ (d : Addr) (kvs : List (L2.Key × V)), x = .ref d ∧ H1 d = some (.dK kvs) ∧ ∀ p, H1 p = none → Q (.ref p) (upd H1 p (.lst (kvs.map (·.2))))
theorem vals_snd : ∀ {kvs : List (L2.Key × V)} {vs : List (L2.Key × Value)}, KV kvs vs → Vals (kvs.map (·.2)) (vs.map (·.2))
  | _, _, .nil => .nil
  | _, _, .cons h t => .cons h.2 (vals_snd t)
theorem pe_listVals {X : Cx} {e : Expr} {te : TE} {p apos cpos pos : Pos} (hc : X.calm = true) (he : PE X e te) (hg : Gl X "list") (hm : X.mg "list" = none) (hv : bootBuiltins "list" = some (.type "list")) (hbase : attributeBase e "values" X.env (eval e X.env) = eval e X.env := by rfl) (hline : (apos.endLine == cpos.line) = true := by rfl)
    (hs : starEach [.Call (.Attribute e "values" apos) [] [] cpos] X.env = (false, eval (.Call (.Attribute e "values" apos) [] [] cpos) X.env) :: starEach [] X.env := by rfl) :
    PE X (.Call (.Name "list" p) [.Call (.Attribute e "values" apos) [] [] cpos] [] pos) (tListVals te) := by
  refine ⟨fun pins s σ H Q I hq => ?_⟩
  refine wpAny_Call_Name_kw (ld_blt I hg hm hv ?_)
  refine PyProof.Rows.callWith_type1 ?_ hs rfl
  rw [hs]
  show wpAny _ _ (spliced ((false, eval (.Call (.Attribute e "values" apos) [] [] cpos) X.env) :: backTo pos (starEach [] X.env))) _ _ s
  refine Calls.spliced_cons ?_
  refine wpAny_Call_method (T := "dict") (id := "dict.values") hbase rfl hline F.plainAttrs_dict F.slot_dict_values F.type_dict_values (thn (he.run pins s σ H _ I hq) fun u s1 ⟨x, H1, I1, rx, d, kvs, ex, hd, q⟩ => ?_)
  subst ex
  obtain rfl : u = Value.ref d := rx
  obtain ⟨hz, hs0, vs, kv, hdo⟩ := I1.hok d _ hd
  obtain ⟨ep, hat⟩ := hdo.dictAt
  have lk : kvs.length = vs.length := Paired.length kv
  have I2 : Inv X pins σ H1 { s1 with heap := s1.heap.push { cls := .type "dict_values", data := .fields #[.ref d] } } := I1.kept (t' := s1.toks) fun b ob q => Heap.get?_push_of_some _ q
  refine ⟨hdo.typeIs, hdo.mapOf.noDict, ?_⟩
  show wpAny _ _ (callWith cpos (.builtin "dict.values") [.ref d] [] []) _ X.xe s1
  refine method_meetsIn F.slot_dict_values F.entry_dict_values rfl (PySem.evalArgs_none ⟨rfl, hdo.typeIs, F.args_dict_values_1 _, _, meets_dict_values (mixKind X.prog X.w) d hs0, ⟨vs, hdo⟩, ?_⟩)
  refine Calls.spliced_nil ?_
  refine PySem.W.kdl_call (PySem.W.kdl_values (knd := mixKind X.prog X.w) (kvs := vs) (ep := ep) (d := d)) (I1.ok.hd hc) ⟨⟨_, Heap.get?_push_size _ rfl, rfl, rfl⟩, hat.push _⟩ (by omega) fun h' tk acc c hk hS hacc => ?_
  have hout : acc.toList = vs.map (·.2) := out_items (Pv := fun i v => ∃ k, vs[i]? = some (k, v)) (by rw [List.length_map]; exact hacc) fun j v z => by
    obtain ⟨k, e⟩ := z
    rw [List.getElem?_map, e]
    rfl
  refine ⟨.ref _, _, I2.laid (t' := tk) hk (Nat.le_refl _) (show ObjOk X.prog X.w _ _ _ (.lst (kvs.map (·.2))) from ⟨by rw [List.length_map]; exact hz, acc.toList, c, by rw [hout]; exact vals_snd kv, by rw [Array.toArray_toList]; exact hS⟩), rfl, q _ (I2.hok.fresh (Nat.le_refl _))⟩
end Q

set_option Elab.async false
set_option linter.all false
set_option maxRecDepth 100000
set_option maxHeartbeats 4000000
namespace Q
open PySem PySem.Spec PyProof.Rows L2
/-! ### the data layer: values as trees, lists of one owner, a source of draws -/
inductive Da where
  | non | bl (b : Bool) | int (i : Int) | str (x : Str)
  | lst (ds : List Da) | fl (ds : List Da) | tup (ds : List Da)
  | dic (kvs : List (L2.Key × Da))
  | cal (g : Bool) (k : Kd) (x y : Str)
  | lett (ys : List Str)
  | letb (B : Nat) (ys : List Str)
  | ref (a : Addr) | ty (n : String) | any | own (i : Nat)
def CalAt (K : PySem.W.Frag) (g : Bool) (S : Hp) (a : Addr) (k : Kd) (x y : Str) : Prop := SqT K S a [k.v, .str x, .str y] ∧ (g = true → ∃ o, S a = some (.frz o (.tup [k.v, .str x, .str y])) ∧ TokC o k.v x y)
mutual
inductive De (K : PySem.W.Frag) (S : Hp) : V → Da → Prop
  | non : De K S .non .non
  | bl (b : Bool) : De K S (.bl b) (.bl b)
  | int (i : Int) : De K S (.int i) (.int i)
  | str (x : Str) : De K S (.str x) (.str x)
  | ref (a : Addr) : De K S (.ref a) (.ref a)
  | ty (n : String) : De K S (.ty n) (.ty n)
  | any (v : V) : De K S v .any
  | lst {a : Addr} {xs : List V} {ds : List Da} : S a = some (.lst xs) → DeAll K S xs ds → De K S (.ref a) (.lst ds)
  | fl {a : Addr} {xs : List V} {ds : List Da} : SqL K S a xs → DeAll K S xs ds → De K S (.ref a) (.fl ds)
  | tup {a : Addr} {xs : List V} {ds : List Da} : S a = some (.tup xs) → DeAll K S xs ds → De K S (.ref a) (.tup ds)
  | dic {a : Addr} {es : List (L2.Key × V)} {kvs : List (L2.Key × Da)} : Rd S a (.dK es) → DeKV K S es kvs → De K S (.ref a) (.dic kvs)
  | cal {a : Addr} {g : Bool} {k : Kd} {x y : Str} : CalAt K g S a k x y → De K S (.ref a) (.cal g k x y)
  | lett {a : Addr} {o : Obj} {ys : List Str} : S a = some (.frz o (.lst (ys.map V.str))) → TokL o ys → De K S (.ref a) (.lett ys)
  | letb {a : Addr} {o : Obj} {B : Nat} {ys : List Str} : S a = some (.frz o (.lst (ys.map V.str))) → TokLB B o ys → De K S (.ref a) (.letb B ys)
inductive DeAll (K : PySem.W.Frag) (S : Hp) : List V → List Da → Prop
  | nil : DeAll K S [] []
  | cons {v : V} {vs : List V} {d : Da} {ds : List Da} : De K S v d → DeAll K S vs ds → DeAll K S (v :: vs) (d :: ds)
inductive DeKV (K : PySem.W.Frag) (S : Hp) : List (L2.Key × V) → List (L2.Key × Da) → Prop
  | nil : DeKV K S [] []
  | cons {k : L2.Key} {v : V} {es : List (L2.Key × V)} {d : Da} {kvs : List (L2.Key × Da)} : De K S v d → DeKV K S es kvs → DeKV K S ((k, v) :: es) ((k, d) :: kvs)
end
section
variable {K : PySem.W.Frag} {S S' H : Hp}
theorem Same.sqT {H H' : Hp} {a : Addr} {xs : List V} (e : Same H H') (h : SqT K H a xs) : SqT K H' a xs := by
  rcases h with (h | ⟨o, h⟩) | h
  · exact .inl (.inl (e _ _ h))
  · exact .inl (.inr ⟨o, e _ _ h⟩)
  · exact .inr h
theorem Same.rd {H H' : Hp} {a : Addr} {u : HO} (e : Same H H') (h : Rd H a u) : Rd H' a u := by
  rcases h with h | ⟨o, h⟩
  · exact .inl (e _ _ h)
  · exact .inr ⟨o, e _ _ h⟩
mutual
theorem De.mono (e : Same S S') : ∀ {v : V} {d : Da}, De K S v d → De K S' v d
  | _, _, .non => .non
  | _, _, .bl b => .bl b
  | _, _, .int i => .int i
  | _, _, .str x => .str x
  | _, _, .ref a => .ref a
  | _, _, .ty n => .ty n
  | _, _, .any v => .any v
  | _, _, .lst h a => .lst (e _ _ h) (DeAll.mono e a)
  | _, _, .fl h a => .fl (e.seq h) (DeAll.mono e a)
  | _, _, .tup h a => .tup (e _ _ h) (DeAll.mono e a)
  | _, _, .dic h a => .dic (Same.rd e h) (DeKV.mono e a)
  | _, _, .cal h => .cal ⟨Same.sqT e h.1, fun g => by
      obtain ⟨o, h1, h2⟩ := h.2 g
      exact ⟨o, e _ _ h1, h2⟩⟩
  | _, _, .lett h t => .lett (e _ _ h) t
  | _, _, .letb h t => .letb (e _ _ h) t
theorem DeAll.mono (e : Same S S') : ∀ {vs : List V} {ds : List Da}, DeAll K S vs ds → DeAll K S' vs ds
  | _, _, .nil => .nil
  | _, _, .cons h a => .cons (De.mono e h) (DeAll.mono e a)
theorem DeKV.mono (e : Same S S') : ∀ {es : List (L2.Key × V)} {kvs : List (L2.Key × Da)}, DeKV K S es kvs → DeKV K S' es kvs
  | _, _, .nil => .nil
  | _, _, .cons h a => .cons (De.mono e h) (DeKV.mono e a)
end
theorem DeAll.length : ∀ {ds : List Da} {vs : List V}, DeAll K S vs ds → vs.length = ds.length
  | _, _, .nil => rfl
  | _, _, .cons h a => congrArg Nat.succ (DeAll.length a)
theorem DeAll.get : ∀ {ds : List Da} {vs : List V} {i : Nat} {v : V}, DeAll K S vs ds → vs[i]? = some v → ∃ d, ds[i]? = some d ∧ De K S v d
  | _, _, _, _, .nil, e => by simp at e
  | _, _, 0, d, .cons h a, e => by
    simp only [List.getElem?_cons_zero, Option.some.injEq] at e
    subst e
    exact ⟨_, by simp, h⟩
  | _, _, i + 1, d, .cons h a, e => by
    simp only [List.getElem?_cons_succ] at e
    obtain ⟨v, h1, h2⟩ := DeAll.get a e
    exact ⟨v, by simpa using h1, h2⟩
theorem DeAll.getD : ∀ {ds : List Da} {vs : List V} {i : Nat} {d : Da}, DeAll K S vs ds → ds[i]? = some d → ∃ v, vs[i]? = some v ∧ De K S v d
  | _, _, _, _, .nil, e => by simp at e
  | _, _, 0, d, .cons h a, e => by
    simp only [List.getElem?_cons_zero, Option.some.injEq] at e
    subst e
    exact ⟨_, by simp, h⟩
  | _, _, i + 1, d, .cons h a, e => by
    simp only [List.getElem?_cons_succ] at e
    obtain ⟨v, h1, h2⟩ := DeAll.getD a e
    exact ⟨v, by simpa using h1, h2⟩
theorem DeAll.append : ∀ {ds es : List Da} {vs ws : List V}, DeAll K S vs ds → DeAll K S ws es → DeAll K S (vs ++ ws) (ds ++ es)
  | _, _, _, _, .nil, b => b
  | _, _, _, _, .cons h a, b => .cons h (DeAll.append a b)
theorem DeAll.snoc {ds : List Da} {d : Da} {vs : List V} {v : V} (h : DeAll K S vs ds) (k : De K S v d) : DeAll K S (vs ++ [v]) (ds ++ [d]) := h.append (.cons k .nil)
theorem DeAll.take : ∀ {ds : List Da} {vs : List V} (n : Nat), DeAll K S vs ds → DeAll K S (vs.take n) (ds.take n)
  | _, _, 0, _ => by rw [List.take_zero, List.take_zero]; exact .nil
  | _, _, n + 1, .nil => by rw [List.take_nil, List.take_nil]; exact .nil
  | _, _, n + 1, .cons h a => by rw [List.take_succ_cons, List.take_succ_cons]; exact .cons h (DeAll.take n a)
theorem DeAll.drop : ∀ {ds : List Da} {vs : List V} (n : Nat), DeAll K S vs ds → DeAll K S (vs.drop n) (ds.drop n)
  | _, _, 0, h => h
  | _, _, n + 1, .nil => by rw [List.drop_nil, List.drop_nil]; exact .nil
  | _, _, n + 1, .cons h a => by rw [List.drop_succ_cons, List.drop_succ_cons]; exact DeAll.drop n a
theorem DeAll.eraseIdx : ∀ {ds : List Da} {vs : List V} (n : Nat), DeAll K S vs ds → DeAll K S (vs.eraseIdx n) (ds.eraseIdx n)
  | _, _, _, .nil => .nil
  | _, _, 0, .cons h a => a
  | _, _, n + 1, .cons h a => .cons h (DeAll.eraseIdx n a)
theorem DeAll.set {v : V} {d : Da} (k : De K S v d) : ∀ {ds : List Da} {vs : List V} (n : Nat), DeAll K S vs ds → DeAll K S (vs.set n v) (ds.set n d)
  | _, _, _, .nil => .nil
  | _, _, 0, .cons h a => .cons k a
  | _, _, n + 1, .cons h a => .cons h (DeAll.set k n a)
theorem DeAll.reverse : ∀ {ds : List Da} {vs : List V}, DeAll K S vs ds → DeAll K S vs.reverse ds.reverse
  | _, _, .nil => .nil
  | _, _, .cons h a => by rw [List.reverse_cons, List.reverse_cons]; exact (DeAll.reverse a).snoc h
theorem DeAll.ofInts : ∀ (ns : List Int), DeAll K S (ns.map V.int) (ns.map Da.int)
  | [] => .nil
  | n :: ns => .cons (.int n) (DeAll.ofInts ns)
theorem DeAll.ofStrs : ∀ (ns : List Str), DeAll K S (ns.map V.str) (ns.map Da.str)
  | [] => .nil
  | n :: ns => .cons (.str n) (DeAll.ofStrs ns)
theorem De.int_inv {v : V} {i : Int} (h : De K S v (.int i)) : v = .int i := by cases h; rfl
theorem De.str_inv {v : V} {x : Str} (h : De K S v (.str x)) : v = .str x := by cases h; rfl
theorem De.bl_inv {v : V} {b : Bool} (h : De K S v (.bl b)) : v = .bl b := by cases h; rfl
theorem De.non_inv {v : V} (h : De K S v .non) : v = .non := by cases h; rfl
theorem De.ref_inv {v : V} {a : Addr} (h : De K S v (.ref a)) : v = .ref a := by cases h; rfl
theorem De.ty_inv {v : V} {n : String} (h : De K S v (.ty n)) : v = .ty n := by cases h; rfl
theorem De.lst_inv {v : V} {ds : List Da} (h : De K S v (.lst ds)) : ∃ a xs, v = .ref a ∧ S a = some (.lst xs) ∧ DeAll K S xs ds := by
  cases h with | lst h a => exact ⟨_, _, rfl, h, a⟩
theorem De.tup_inv {v : V} {ds : List Da} (h : De K S v (.tup ds)) : ∃ a xs, v = .ref a ∧ SqT K S a xs ∧ DeAll K S xs ds := by
  cases h with | tup h a => exact ⟨_, _, rfl, SqT.of h, a⟩
theorem De.tup_str {v : V} {ds : List Da} (h : De K S v (.tup ds)) : ∃ a xs, v = .ref a ∧ S a = some (.tup xs) ∧ DeAll K S xs ds := by
  cases h with | tup h a => exact ⟨_, _, rfl, h, a⟩
theorem De.cal_inv {v : V} {g : Bool} {k : Kd} {x y : Str} (h : De K S v (.cal g k x y)) : ∃ a, v = .ref a ∧ CalAt K g S a k x y := by
  cases h with | cal h => exact ⟨_, rfl, h⟩
theorem DeAll.ints : ∀ {ns : List Int} {vs : List V}, DeAll K S vs (ns.map Da.int) → vs = ns.map V.int
  | [], _, h => by cases h; rfl
  | n :: ns, _, h => by
    cases h with
    | cons h1 h2 => rw [h1.int_inv, DeAll.ints h2]; rfl
theorem DeAll.strs : ∀ {ns : List Str} {vs : List V}, DeAll K S vs (ns.map Da.str) → vs = ns.map V.str
  | [], _, h => by cases h; rfl
  | n :: ns, _, h => by
    cases h with
    | cons h1 h2 => rw [h1.str_inv, DeAll.strs h2]; rfl
theorem DeAll.bls : ∀ {ns : List Bool} {vs : List V}, DeAll K S vs (ns.map Da.bl) → vs = ns.map V.bl
  | [], _, h => by cases h; rfl
  | n :: ns, _, h => by
    cases h with
    | cons h1 h2 => rw [h1.bl_inv, DeAll.bls h2]; rfl
def Kd.a : Kd → Da
  | .num i => .int i
  | .txt z => .str z
theorem De.kd (k : Kd) : De K S k.v k.a := by
  cases k
  · exact .int _
  · exact .str _
end
/-- the entries of a dict of tuple keys -/
inductive DeKT (K : PySem.W.Frag) (S : Hp) : List (List L2.Key × V) → List (List L2.Key × Da) → Prop
  | nil : DeKT K S [] []
  | cons {k : List L2.Key} {v : V} {es : List (List L2.Key × V)} {d : Da} {kvs : List (List L2.Key × Da)} : De K S v d → DeKT K S es kvs → DeKT K S ((k, v) :: es) ((k, d) :: kvs)
theorem DeKT.mono {K : PySem.W.Frag} {S S' : Hp} (e : Same S S') : ∀ {es : List (List L2.Key × V)} {kvs : List (List L2.Key × Da)}, DeKT K S es kvs → DeKT K S' es kvs
  | _, _, .nil => .nil
  | _, _, .cons h a => .cons (De.mono e h) (DeKT.mono e a)
/-! ### states -/
inductive Sl where
  | un | dat (d : Da) | own (ds : List Da) | ownD (kvs : List (L2.Key × Da)) | ownT (kvs : List (List L2.Key × Da))
def Sl.isOwn : Sl → Bool
  | .own _ => true
  | .ownD _ => true
  | .ownT _ => true
  | _ => false
structure Ds where
  δ : List Sl
  n : Int
/-- a source: its objects, what holds of it by the draws so far -/
structure Wo where
  M : List Addr
  R : Int → Hp → Prop
  keep : ∀ n H H', R n H → (∀ b ∈ M, H' b = H b) → R n H'
  trk : ∀ n H, R n H → Trk M H
  nt : ∀ n H, R n H → ∀ b ∈ M, ∀ xs, H b ≠ some (.tup xs)
/-- as it was, or new, or a tuple that was there -/
def Nw (S H : Hp) (b : Addr) (o : HO) : Prop := S b = some o ∨ H b = none ∨ ((∃ xs, o = .tup xs) ∧ H b = some o)
structure Cg where
  K : PySem.W.Frag
  W : Wo
  S0 : Hp
  H0 : Hp
def SlOk (K : PySem.W.Frag) (S H : Hp) (x : Option V) : Sl → Prop
  | .un => True
  | .dat d => ∃ v, x = some v ∧ De K S v d
  | .own ds => ∃ p vs, x = some (.ref p) ∧ S p = none ∧ H p = some (.lst vs) ∧ DeAll K S vs ds
  | .ownD kvs => ∃ p es, x = some (.ref p) ∧ S p = none ∧ H p = some (.dK es) ∧ DeKV K S es kvs
  | .ownT kvs => ∃ p es, x = some (.ref p) ∧ S p = none ∧ H p = some (.dT es) ∧ DeKT K S es kvs
structure Ok (C : Cg) (S H : Hp) (σ : L2.St) (st : Ds) : Prop where
  le : Same C.S0 S
  sub : Same S H
  fr : Fr C.W.M C.H0 H
  off : ∀ b ∈ C.W.M, S b = none
  new : ∀ (b : Addr) (o : HO), S b = some o → Nw C.S0 C.H0 b o
  r : C.W.R st.n H
  len : σ.length = st.δ.length
  slot : ∀ (i : Nat) (x : Option V) (s : Sl), σ[i]? = some x → st.δ[i]? = some s → SlOk C.K S H x s
  priv : ∀ (i : Nat) (s : Sl) (p : Addr), st.δ[i]? = some s → s.isOwn = true → σ[i]? = some (some (.ref p)) → p ∉ C.W.M ∧ C.H0 p = none
  dis : ∀ (i j : Nat) (s t : Sl) (p : Addr), st.δ[i]? = some s → st.δ[j]? = some t → s.isOwn = true → t.isOwn = true → σ[i]? = some (some (.ref p)) → σ[j]? = some (some (.ref p)) → i = j
/-- new things, all else as it was -/
structure Ext (S H S' H' : Hp) : Prop where
  s : Same S S'
  sub : Same S' H'
  h : Same H H'
  new : ∀ b o, S' b = some o → Nw S H b o
theorem Ext.refl {S H : Hp} (h : Same S H) : Ext S H S H := ⟨Same.refl _, h, Same.refl _, fun _ _ e => .inl e⟩
theorem Ext.trans {S H S1 H1 S2 H2 : Hp} (a : Ext S H S1 H1) (b : Ext S1 H1 S2 H2) : Ext S H S2 H2 := ⟨a.s.trans b.s, b.sub, a.h.trans b.h, fun c o e => by
  rcases b.new c o e with e | e | ⟨t, e⟩
  · exact a.new c o e
  · exact .inr (.inl (a.h.free e))
  · cases q : H c with
    | none => exact .inr (.inl q)
    | some u => rw [a.h _ _ q] at e; cases e; exact .inr (.inr ⟨t, q⟩)⟩
theorem Ext.mk1 {S H : Hp} {p : Addr} {o : HO} (hs : Same S H) (hp : H p = none) : Ext S H (upd S p o) (upd H p o) := by
  refine ⟨same_upd (hs.free hp), fun b u e => ?_, same_upd hp, fun b u e => ?_⟩
  · by_cases hb : b = p
    · subst hb; rw [upd_same] at e ⊢; exact e
    · rw [upd_ne hb] at e ⊢; exact hs _ _ e
  · by_cases hb : b = p
    · subst hb; exact .inr (.inl hp)
    · rw [upd_ne hb] at e; exact .inl e
section
variable {C : Cg} {S H S' H' : Hp} {σ : L2.St} {st : Ds}
theorem Ok.ext (I : Ok C S H σ st) (e : Ext S H S' H') : Ok C S' H' σ st := by
  have tr := C.W.trk _ _ I.r
  have fm : ∀ b, H b = none → b ∉ C.W.M := fun b hb m => by
    obtain ⟨o, ho⟩ := tr b m
    rw [hb] at ho; cases ho
  refine ⟨I.le.trans e.s, e.sub, I.fr.trans (Fr.of e.h), fun b m => ?_, fun b o h => ?_, C.W.keep _ _ _ I.r (fun b m => ?_), I.len, fun i x s h1 h2 => ?_, I.priv, I.dis⟩
  · cases h : S' b with
    | none => rfl
    | some o =>
      rcases e.new b o h with h | h | ⟨⟨xs, rfl⟩, h⟩
      · rw [I.off b m] at h; cases h
      · exact absurd m (fm b h)
      · exact absurd h (C.W.nt _ _ I.r b m xs)
  · rcases e.new b o h with h | h | ⟨⟨xs, rfl⟩, h⟩
    · exact I.new b o h
    · right; left
      cases q : C.H0 b with
      | none => rfl
      | some u => rw [I.fr b u (fm b h) q] at h; cases h
    · right
      cases q : C.H0 b with
      | none => exact .inl rfl
      | some u =>
        have hm : b ∉ C.W.M := fun m => C.W.nt _ _ I.r b m xs h
        rw [I.fr b u hm q] at h; cases h; exact .inr ⟨⟨xs, rfl⟩, rfl⟩
  · obtain ⟨o, ho⟩ := tr b m
    rw [ho, e.h _ _ ho]
  · have := I.slot i x s h1 h2
    have nw : ∀ (p : Addr) (o : HO), S p = none → H p = some o → (∀ xs, o ≠ .tup xs) → S' p = none := fun p o a b nt => by
      cases h : S' p with
      | none => rfl
      | some u =>
        rcases e.new p u h with h | h | ⟨⟨xs, rfl⟩, h⟩
        · rw [a] at h; cases h
        · rw [b] at h; cases h
        · rw [b] at h; cases h; exact absurd rfl (nt xs)
    cases s with
    | un => trivial
    | dat d => obtain ⟨v, e1, e2⟩ := this; exact ⟨v, e1, e2.mono e.s⟩
    | own ds => obtain ⟨p, vs, e1, e2, e3, e4⟩ := this; exact ⟨p, vs, e1, nw _ _ e2 e3 (fun _ z => nomatch z), e.h _ _ e3, e4.mono e.s⟩
    | ownD ds => obtain ⟨p, vs, e1, e2, e3, e4⟩ := this; exact ⟨p, vs, e1, nw _ _ e2 e3 (fun _ z => nomatch z), e.h _ _ e3, e4.mono e.s⟩
    | ownT ds => obtain ⟨p, vs, e1, e2, e3, e4⟩ := this; exact ⟨p, vs, e1, nw _ _ e2 e3 (fun _ z => nomatch z), e.h _ _ e3, e4.mono e.s⟩
/-- behind a call -/
structure ExtM (W : Wo) (S H S' H' : Hp) : Prop where
  s : Same S S'
  sub : Same S' H'
  h : Fr W.M H H'
  new : ∀ b o, S' b = some o → Nw S H b o
theorem ExtM.of {W : Wo} (e : Ext S H S' H') : ExtM W S H S' H' := ⟨e.s, e.sub, Fr.of e.h, e.new⟩
theorem Ok.extM {m : Int} (I : Ok C S H σ st) (e : ExtM C.W S H S' H') (r : C.W.R m H') : Ok C S' H' σ { st with n := m } := by
  have tr := C.W.trk _ _ I.r
  have fm : ∀ b, H b = none → b ∉ C.W.M := fun b hb m => by
    obtain ⟨o, ho⟩ := tr b m
    rw [hb] at ho; cases ho
  refine ⟨I.le.trans e.s, e.sub, I.fr.trans e.h, fun b m => ?_, fun b o h => ?_, r, I.len, fun i x s h1 h2 => ?_, I.priv, I.dis⟩
  · cases h : S' b with
    | none => rfl
    | some o =>
      rcases e.new b o h with h | h | ⟨⟨xs, rfl⟩, h⟩
      · rw [I.off b m] at h; cases h
      · exact absurd m (fm b h)
      · exact absurd h (C.W.nt _ _ I.r b m xs)
  · rcases e.new b o h with h | h | ⟨⟨xs, rfl⟩, h⟩
    · exact I.new b o h
    · right; left
      cases q : C.H0 b with
      | none => rfl
      | some u => rw [I.fr b u (fm b h) q] at h; cases h
    · right
      cases q : C.H0 b with
      | none => exact .inl rfl
      | some u =>
        have hm : b ∉ C.W.M := fun m => C.W.nt _ _ I.r b m xs h
        rw [I.fr b u hm q] at h; cases h; exact .inr ⟨⟨xs, rfl⟩, rfl⟩
  · have hh := I.slot i x s h1 h2
    have nw : ∀ (p : Addr) (o : HO), S p = none → H p = some o → (∀ xs, o ≠ .tup xs) → S' p = none := fun p o a b nt => by
      cases h : S' p with
      | none => rfl
      | some u =>
        rcases e.new p u h with h | h | ⟨⟨xs, rfl⟩, h⟩
        · rw [a] at h; cases h
        · rw [b] at h; cases h
        · rw [b] at h; cases h; exact absurd rfl (nt xs)
    cases s with
    | un => trivial
    | dat d => obtain ⟨v, e1, e2⟩ := hh; exact ⟨v, e1, e2.mono e.s⟩
    | own ds =>
      obtain ⟨p, vs, e1, e2, e3, e4⟩ := hh
      have hp := (I.priv i _ p h2 rfl (by rw [h1, e1])).1
      exact ⟨p, vs, e1, nw _ _ e2 e3 (fun _ z => nomatch z), e.h _ _ hp e3, e4.mono e.s⟩
    | ownD ds =>
      obtain ⟨p, vs, e1, e2, e3, e4⟩ := hh
      have hp := (I.priv i _ p h2 rfl (by rw [h1, e1])).1
      exact ⟨p, vs, e1, nw _ _ e2 e3 (fun _ z => nomatch z), e.h _ _ hp e3, e4.mono e.s⟩
    | ownT ds =>
      obtain ⟨p, vs, e1, e2, e3, e4⟩ := hh
      have hp := (I.priv i _ p h2 rfl (by rw [h1, e1])).1
      exact ⟨p, vs, e1, nw _ _ e2 e3 (fun _ z => nomatch z), e.h _ _ hp e3, e4.mono e.s⟩
/-- an object that no one else knows is held over what follows -/
theorem Ok.hold {a : Addr} {o : HO} (I : Ok C S H σ st) (h : H a = some o) (hs : S a = none) (hm : a ∉ C.W.M) (hp : ∀ (i : Nat) (s : Sl), st.δ[i]? = some s → s.isOwn = true → σ[i]? ≠ some (some (.ref a))) : Ok { C with H0 := upd C.H0 a o } S H σ st := by
  refine ⟨I.le, I.sub, fun b u hb e => ?_, I.off, fun b u e => ?_, I.r, I.len, I.slot, fun i s p h1 h2 h3 => ⟨(I.priv i s p h1 h2 h3).1, ?_⟩, I.dis⟩
  · by_cases hba : b = a
    · subst hba
      have e : upd C.H0 b o b = some u := e
      rw [upd_same] at e; cases e; exact h
    · have e : upd C.H0 a o b = some u := e
      rw [upd_ne hba] at e; exact I.fr b u hb e
  · rcases I.new b u e with q | q | ⟨t, q⟩
    · exact .inl q
    · right; left
      show upd C.H0 a o b = none
      rw [upd_ne (fun z => by rw [z, hs] at e; cases e)]; exact q
    · right; right
      refine ⟨t, ?_⟩
      show upd C.H0 a o b = _
      rw [upd_ne (fun z => by rw [z, hs] at e; cases e)]; exact q
  · show upd C.H0 a o p = none
    rw [upd_ne (fun z => hp i s h1 h2 (by rw [h3, z]))]
    exact (I.priv i s p h1 h2 h3).2
theorem Ok.drop {a : Addr} {o : HO} (I : Ok { C with H0 := upd C.H0 a o } S H σ st) (h0 : C.H0 a = none) : Ok C S H σ st := by
  refine ⟨I.le, I.sub, fun b u hb e => ?_, I.off, fun b u e => ?_, I.r, I.len, I.slot, fun i s p h1 h2 h3 => ⟨(I.priv i s p h1 h2 h3).1, ?_⟩, I.dis⟩
  · refine I.fr b u hb ?_
    show upd C.H0 a o b = some u
    rw [upd_ne (fun z => by rw [z, h0] at e; cases e)]; exact e
  · rcases I.new b u e with q | q | ⟨t, q⟩
    · exact .inl q
    · right; left
      have q : upd C.H0 a o b = none := q
      rw [upd_ne (fun z => by rw [z, upd_same] at q; cases q)] at q; exact q
    · have q : upd C.H0 a o b = some u := q
      by_cases hba : b = a
      · rw [hba]; exact .inr (.inl h0)
      · rw [upd_ne hba] at q; exact .inr (.inr ⟨t, q⟩)
  · have q : upd C.H0 a o p = none := (I.priv i s p h1 h2 h3).2
    rw [upd_ne (fun z => by rw [z, upd_same] at q; cases q)] at q; exact q
theorem Ok.held {a : Addr} {o : HO} (I : Ok { C with H0 := upd C.H0 a o } S H σ st) (hm : a ∉ C.W.M) : H a = some o := I.fr a o hm (by show upd C.H0 a o a = _; exact upd_same)
theorem Ok.heldS {a : Addr} {o : HO} (I : Ok { C with H0 := upd C.H0 a o } S H σ st) (hs : C.S0 a = none) (nt : ∀ xs, o ≠ .tup xs) : S a = none := by
  cases h : S a with
  | none => rfl
  | some u =>
    rcases I.new a u h with q | q | ⟨⟨xs, rfl⟩, q⟩
    · have q : C.S0 a = some u := q
      rw [hs] at q; cases q
    · have q : upd C.H0 a o a = none := q
      rw [upd_same] at q; cases q
    · have q : upd C.H0 a o a = some (.tup xs) := q
      rw [upd_same] at q; cases q; exact absurd rfl (nt xs)
/-- a held object changes -/
theorem Ok.reput {a : Addr} {o u : HO} (I : Ok { C with H0 := upd C.H0 a o } S H σ st) (hm : a ∉ C.W.M) (hs : S a = none) : Ok { C with H0 := upd C.H0 a u } S (upd H a u) σ st := by
  have np : ∀ (i : Nat) (s : Sl) (p : Addr), st.δ[i]? = some s → s.isOwn = true → σ[i]? = some (some (.ref p)) → p ≠ a := fun i s p h1 h2 h3 z => by
    have q : upd C.H0 a o p = none := (I.priv i s p h1 h2 h3).2
    rw [z, upd_same] at q; cases q
  refine ⟨I.le, fun b w e => ?_, fun b w hb e => ?_, I.off, fun b w e => ?_, C.W.keep _ _ _ I.r (fun b m => ?_), I.len, fun i x s h1 h2 => ?_, fun i s p h1 h2 h3 => ⟨(I.priv i s p h1 h2 h3).1, ?_⟩, I.dis⟩
  · rw [upd_ne (fun z => by rw [z, hs] at e; cases e)]; exact I.sub b w e
  · by_cases hba : b = a
    · subst hba
      have e : upd C.H0 b u b = some w := e
      rw [upd_same] at e ⊢; exact e
    · have e : upd C.H0 a u b = some w := e
      rw [upd_ne hba] at e ⊢
      exact I.fr b w hb (by show upd C.H0 a o b = _; rw [upd_ne hba]; exact e)
  · have hba : b ≠ a := fun z => by rw [z, hs] at e; cases e
    rcases I.new b w e with q | q | ⟨t, q⟩
    · exact .inl q
    · right; left
      have q : upd C.H0 a o b = none := q
      show upd C.H0 a u b = none
      rw [upd_ne hba] at q ⊢; exact q
    · right; right
      refine ⟨t, ?_⟩
      have q : upd C.H0 a o b = some w := q
      show upd C.H0 a u b = some w
      rw [upd_ne hba] at q ⊢; exact q
  · exact upd_ne (fun z => hm (z ▸ m))
  · have hh := I.slot i x s h1 h2
    cases s with
    | un => trivial
    | dat d => exact hh
    | own ds =>
      obtain ⟨p, vs, e1, e2, e3, e4⟩ := hh
      refine ⟨p, vs, e1, e2, ?_, e4⟩
      rw [upd_ne (np i _ p h2 rfl (by rw [h1, e1]))]; exact e3
    | ownD ds =>
      obtain ⟨p, vs, e1, e2, e3, e4⟩ := hh
      refine ⟨p, vs, e1, e2, ?_, e4⟩
      rw [upd_ne (np i _ p h2 rfl (by rw [h1, e1]))]; exact e3
    | ownT ds =>
      obtain ⟨p, vs, e1, e2, e3, e4⟩ := hh
      refine ⟨p, vs, e1, e2, ?_, e4⟩
      rw [upd_ne (np i _ p h2 rfl (by rw [h1, e1]))]; exact e3
  · have q : upd C.H0 a o p = none := (I.priv i s p h1 h2 h3).2
    show upd C.H0 a u p = none
    rw [upd_ne (np i s p h1 h2 h3)] at q ⊢; exact q
theorem Ok.nm (I : Ok C S H σ st) {a : Addr} (h : H a = none) : a ∉ C.W.M := fun m => by
  obtain ⟨o, ho⟩ := C.W.trk _ _ I.r a m
  rw [h] at ho; cases ho
theorem Ok.h0 (I : Ok C S H σ st) {a : Addr} (h : H a = none) : C.H0 a = none := by
  cases q : C.H0 a with
  | none => rfl
  | some u => rw [I.fr a u (I.nm h) q] at h; cases h
theorem Ok.ownp (I : Ok C S H σ st) {i : Nat} {s : Sl} (h : st.δ[i]? = some s) (ho : s.isOwn = true) : ∃ p o, σ[i]? = some (some (.ref p)) ∧ S p = none ∧ H p = some o := by
  have hi : i < σ.length := by rw [I.len]; exact (List.getElem?_eq_some_iff.mp h).1
  have hx : σ[i]? = some σ[i] := List.getElem?_eq_getElem hi
  have := I.slot i _ s hx h
  cases s with
  | own ds => obtain ⟨p, vs, e1, e2, e3, e4⟩ := this; exact ⟨p, _, by rw [hx, e1], e2, e3⟩
  | ownD ds => obtain ⟨p, vs, e1, e2, e3, e4⟩ := this; exact ⟨p, _, by rw [hx, e1], e2, e3⟩
  | ownT ds => obtain ⟨p, vs, e1, e2, e3, e4⟩ := this; exact ⟨p, _, by rw [hx, e1], e2, e3⟩
  | un => cases ho
  | dat d => cases ho
end
end Q

set_option Elab.async false
set_option linter.all false
set_option maxRecDepth 100000
set_option maxHeartbeats 4000000
namespace Q
open PySem PySem.Spec PyProof.Rows L2
/-! ### judgements of the data layer -/
def RelD (K : PySem.W.Frag) (S : Hp) (σ : L2.St) (v : V) (d : Da) : Prop := (∃ i : Nat, d = .own i ∧ σ[i]? = some (some v)) ∨ De K S v d
theorem RelD.mono {K : PySem.W.Frag} {S S' : Hp} {σ : L2.St} {v : V} {d : Da} (h : RelD K S σ v d) (e : Same S S') : RelD K S' σ v d := h.imp id fun h => h.mono e
def RelA (K : PySem.W.Frag) (S : Hp) (σ : L2.St) : List V → List Da → Prop
  | [], [] => True
  | v :: vs, d :: ds => RelD K S σ v d ∧ RelA K S σ vs ds
  | _, _ => False
theorem RelA.mono {K : PySem.W.Frag} {S S' : Hp} {σ : L2.St} (e : Same S S') : ∀ {vs : List V} {ds : List Da}, RelA K S σ vs ds → RelA K S' σ vs ds
  | [], [], _ => True.intro
  | _ :: _, _ :: _, h => ⟨h.1.mono e, RelA.mono e h.2⟩
  | [], _ :: _, h => h.elim
  | _ :: _, [], h => h.elim
/-- a thing of one owner becomes a value that no one changes -/
def Ds.fz (st : Ds) (d : Da) : Da × Ds := match d with
  | .own i => match st.δ[i]? with
    | some (.own ds) => (.lst ds, { st with δ := st.δ.set i (.dat (.lst ds)) })
    | some (.ownD kvs) => (.dic kvs, { st with δ := st.δ.set i (.dat (.dic kvs)) })
    | some (.dat d) => (d, st)
    | _ => (.any, st)
  | d => (d, st)
/-- what a value shows -/
def Ds.pk (st : Ds) (d : Da) : Da := match d with
  | .own i => match st.δ[i]? with
    | some (.own ds) => .lst ds
    | some (.ownD kvs) => .dic kvs
    | some (.dat d) => d
    | _ => .any
  | d => d
def DeH (K : PySem.W.Frag) (S H : Hp) (v : V) (d : Da) : Prop := De K S v d ∨ (∃ (p : Addr) (vs : List V) (ds : List Da), v = .ref p ∧ d = .lst ds ∧ H p = some (.lst vs) ∧ DeAll K S vs ds) ∨
  (∃ (p : Addr) (es : List (L2.Key × V)) (kvs : List (L2.Key × Da)), v = .ref p ∧ d = .dic kvs ∧ H p = some (.dK es) ∧ DeKV K S es kvs)
def DeHs (K : PySem.W.Frag) (S H : Hp) : List V → List Da → Prop
  | [], [] => True
  | v :: vs, d :: ds => DeH K S H v d ∧ DeHs K S H vs ds
  | _, _ => False
section
variable {C : Cg} {K : PySem.W.Frag} {S H : Hp} {σ : L2.St} {st : Ds} {v : V} {d : Da}
theorem pk_ok (I : Ok C S H σ st) (h : RelD C.K S σ v d) : DeH C.K S H v (st.pk d) := by
  rcases h with ⟨i, rfl, hv⟩ | h
  · show DeH C.K S H v (match st.δ[i]? with
      | some (.own ds) => .lst ds
      | some (.ownD kvs) => .dic kvs
      | some (.dat d) => d
      | _ => .any)
    cases hs : st.δ[i]? with
    | none => exact .inl (.any v)
    | some s =>
      have := I.slot i _ s hv hs
      cases s with
      | un => exact .inl (.any v)
      | dat d => obtain ⟨u, e, h⟩ := this; cases e; exact .inl h
      | own ds => obtain ⟨p, vs, e, h1, h2, h3⟩ := this; cases e; exact .inr (.inl ⟨p, vs, ds, rfl, rfl, h2, h3⟩)
      | ownD ds => obtain ⟨p, vs, e, h1, h2, h3⟩ := this; cases e; exact .inr (.inr ⟨p, vs, ds, rfl, rfl, h2, h3⟩)
      | ownT ds => exact .inl (.any v)
  · have : st.pk d = d := by cases d <;> first | rfl | cases h
    rw [this]; exact .inl h
theorem pks_ok (I : Ok C S H σ st) : ∀ {vs : List V} {ds : List Da}, RelA C.K S σ vs ds → DeHs C.K S H vs (ds.map st.pk)
  | [], [], _ => True.intro
  | _ :: _, _ :: _, h => ⟨pk_ok I h.1, pks_ok I h.2⟩
  | [], _ :: _, h => h.elim
  | _ :: _, [], h => h.elim
theorem frz_own {i : Nat} {s : Sl} {p : Addr} {o : HO} {d : Da} (I : Ok C S H σ st) (hs : st.δ[i]? = some s) (ho : s.isOwn = true) (hv : σ[i]? = some (some (.ref p))) (hS : S p = none) (hH : H p = some o)
    (hd : De C.K (upd S p o) (.ref p) d) : Ok C (upd S p o) H σ { st with δ := st.δ.set i (.dat d) } := by
  have sm : Same S (upd S p o) := same_upd hS
  have hi : i < st.δ.length := (List.getElem?_eq_some_iff.mp hs).1
  obtain ⟨pm, p0⟩ := I.priv i s p hs ho hv
  have old : ∀ (j : Nat) (t : Sl), j ≠ i → (st.δ.set i (.dat d))[j]? = some t → st.δ[j]? = some t := fun j t hj e => by rw [List.getElem?_set_ne (Ne.symm hj)] at e; exact e
  have own : ∀ (j : Nat) (t : Sl), (st.δ.set i (.dat d))[j]? = some t → t.isOwn = true → j ≠ i := fun j t e h z => by
    subst z; rw [List.getElem?_set_self hi] at e; cases e; cases h
  refine ⟨I.le.trans sm, fun b u e => ?_, I.fr, fun b m => ?_, fun b u e => ?_, I.r, by simpa using I.len, fun j x t h1 h2 => ?_, fun j t q h1 h2 h3 => I.priv j t q (old j t (own j t h1 h2) h1) h2 h3,
    fun j k t u q h1 h2 h3 h4 h5 h6 => I.dis j k t u q (old j t (own j t h1 h3) h1) (old k u (own k u h2 h4) h2) h3 h4 h5 h6⟩
  · by_cases hb : b = p
    · subst hb; rw [upd_same] at e; cases e; exact hH
    · rw [upd_ne hb] at e; exact I.sub _ _ e
  · rw [upd_ne (fun (z : b = p) => pm (by rw [← z]; exact m))]; exact I.off b m
  · by_cases hb : b = p
    · subst hb; exact .inr (.inl p0)
    · rw [upd_ne hb] at e; exact I.new _ _ e
  · by_cases hj : j = i
    · subst hj
      rw [List.getElem?_set_self hi] at h2; cases h2
      rw [hv] at h1; cases h1
      exact ⟨_, rfl, hd⟩
    · have h2 := old j t hj h2
      have hh := I.slot j x t h1 h2
      cases t with
      | un => trivial
      | dat d => obtain ⟨w, e1, e2⟩ := hh; exact ⟨w, e1, e2.mono sm⟩
      | own ds =>
        obtain ⟨q, vs, e1, e2, e3, e4⟩ := hh
        have hq : q ≠ p := fun z => hj (I.dis j i _ s p h2 hs rfl ho (by rw [h1, e1, z]) hv)
        exact ⟨q, vs, e1, by rw [upd_ne hq]; exact e2, e3, e4.mono sm⟩
      | ownD ds =>
        obtain ⟨q, vs, e1, e2, e3, e4⟩ := hh
        have hq : q ≠ p := fun z => hj (I.dis j i _ s p h2 hs rfl ho (by rw [h1, e1, z]) hv)
        exact ⟨q, vs, e1, by rw [upd_ne hq]; exact e2, e3, e4.mono sm⟩
      | ownT ds =>
        obtain ⟨q, vs, e1, e2, e3, e4⟩ := hh
        have hq : q ≠ p := fun z => hj (I.dis j i _ s p h2 hs rfl ho (by rw [h1, e1, z]) hv)
        exact ⟨q, vs, e1, by rw [upd_ne hq]; exact e2, e3, e4.mono sm⟩
theorem fz_ok (I : Ok C S H σ st) (h : RelD C.K S σ v d) : ∃ S', Same S S' ∧ Ok C S' H σ (st.fz d).2 ∧ De C.K S' v (st.fz d).1 := by
  rcases h with ⟨i, rfl, hv⟩ | h
  · unfold Ds.fz
    cases hs : st.δ[i]? with
    | none => dsimp only; rw [hs]; exact ⟨S, Same.refl S, I, .any v⟩
    | some s =>
      have := I.slot i _ s hv hs
      dsimp only
      rw [hs]
      cases s with
      | un => exact ⟨S, Same.refl S, I, .any v⟩
      | dat d => obtain ⟨u, e, h⟩ := this; cases e; exact ⟨S, Same.refl S, I, h⟩
      | own ds =>
        obtain ⟨p, vs, e, h1, h2, h3⟩ := this
        cases e
        have hd : De C.K (upd S p (.lst vs)) (.ref p) (.lst ds) := .lst upd_same (h3.mono (same_upd h1))
        exact ⟨_, same_upd h1, frz_own I hs rfl hv h1 h2 hd, hd⟩
      | ownD ds =>
        obtain ⟨p, vs, e, h1, h2, h3⟩ := this
        cases e
        have hd : De C.K (upd S p (.dK vs)) (.ref p) (.dic ds) := .dic (.inl upd_same) (h3.mono (same_upd h1))
        exact ⟨_, same_upd h1, frz_own I hs rfl hv h1 h2 hd, hd⟩
      | ownT ds => exact ⟨S, Same.refl S, I, .any v⟩
  · have : st.fz d = (d, st) := by cases d <;> first | rfl | cases h
    rw [this]; exact ⟨S, Same.refl S, I, h⟩
def Ds.fzs (st : Ds) : List Da → List Da × Ds
  | [] => ([], st)
  | d :: ds => let a := st.fz d; let b := a.2.fzs ds; (a.1 :: b.1, b.2)
theorem fzs_ok : ∀ {vs : List V} {ds : List Da} {S : Hp} {st : Ds}, Ok C S H σ st → RelA C.K S σ vs ds → ∃ S', Same S S' ∧ Ok C S' H σ (st.fzs ds).2 ∧ DeAll C.K S' vs (st.fzs ds).1
  | [], [], S, st, I, _ => ⟨S, Same.refl S, I, .nil⟩
  | v :: vs, d :: ds, S, st, I, h => by
    obtain ⟨S1, e1, I1, h1⟩ := fz_ok I h.1
    obtain ⟨S2, e2, I2, h2⟩ := fzs_ok I1 (RelA.mono e1 h.2)
    exact ⟨S2, e1.trans e2, I2, .cons (h1.mono e2) h2⟩
  | [], _ :: _, _, _, _, h => h.elim
  | _ :: _, [], _, _, _, h => h.elim
end
abbrev DE := Ds → (Da → Ds → Prop) → Prop
abbrev DA := Ds → (List Da → Ds → Prop) → Prop
abbrev DT := Ds → (Bool → Ds → Prop) → Prop
def SE (K : PySem.W.Frag) (W : Wo) (t : TE) (e : DE) : Prop := ∀ (S0 H0 S H : Hp) (σ : L2.St) (st : Ds) (P : Da → Ds → Prop) (Q : VK), Ok ⟨K, W, S0, H0⟩ S H σ st → e st P →
  (∀ v d S' H' st', Ok ⟨K, W, S0, H0⟩ S' H' σ st' → Same S S' → RelD K S' σ v d → P d st' → Q v H') → t σ H Q
def SA (K : PySem.W.Frag) (W : Wo) (t : TA) (e : DA) : Prop := ∀ (S0 H0 S H : Hp) (σ : L2.St) (st : Ds) (P : List Da → Ds → Prop) (Q : List V → Hp → Prop), Ok ⟨K, W, S0, H0⟩ S H σ st → e st P →
  (∀ vs ds S' H' st', Ok ⟨K, W, S0, H0⟩ S' H' σ st' → Same S S' → RelA K S' σ vs ds → P ds st' → Q vs H') → t σ H Q
def ST (K : PySem.W.Frag) (W : Wo) (t : TT) (e : DT) : Prop := ∀ (S0 H0 S H : Hp) (σ : L2.St) (st : Ds) (P : Bool → Ds → Prop) (Q : Bool → Hp → Prop), Ok ⟨K, W, S0, H0⟩ S H σ st → e st P →
  (∀ b S' H' st', Ok ⟨K, W, S0, H0⟩ S' H' σ st' → Same S S' → P b st' → Q b H') → t σ H Q
/-- makes a new list -/
def SN (K : PySem.W.Frag) (W : Wo) (t : TE) (e : DA) : Prop := ∀ (S0 H0 S H : Hp) (σ : L2.St) (st : Ds) (P : List Da → Ds → Prop) (Q : VK), Ok ⟨K, W, S0, H0⟩ S H σ st → e st P →
  (∀ p vs ds S' H' st', Ok ⟨K, W, S0, H0⟩ S' H' σ st' → Same S S' → H' p = some (.lst vs) → S' p = none → p ∉ W.M → H0 p = none → (∀ (i : Nat) (s : Sl), st'.δ[i]? = some s → s.isOwn = true → σ[i]? ≠ some (some (.ref p))) → DeAll K S' vs ds → P ds st' → Q (.ref p) H') → t σ H Q
section
variable {K : PySem.W.Frag} {W : Wo} {t ta tb te : TE} {e a b : DE} {A : TA} {α : DA} {c u : TT} {ec eu : DT} {C : Cg} {S H : Hp} {σ : L2.St} {st : Ds}
/-- a new object that is not a value yet -/
theorem Ok.alloc {p : Addr} {o : HO} (I : Ok C S H σ st) (hp : H p = none) : Ok C S (upd H p o) σ st := I.ext ⟨Same.refl S, fun b u e => same_upd hp b u (I.sub b u e), same_upd hp, fun b u e => .inl e⟩
theorem Ok.sn (I : Ok C S H σ st) {p : Addr} (hp : H p = none) : S p = none := I.sub.free hp
theorem Ok.nown (I : Ok C S H σ st) {p : Addr} (hp : H p = none) (i : Nat) (s : Sl) (h : st.δ[i]? = some s) (ho : s.isOwn = true) : σ[i]? ≠ some (some (.ref p)) := fun e => by
  obtain ⟨q, o, h1, h2, h3⟩ := I.ownp h ho
  rw [e] at h1; cases h1
  rw [hp] at h3; cases h3
theorem Ok.newS {p : Addr} {o : HO} (I : Ok C S H σ st) (hp : H p = none) : Ok C (upd S p o) (upd H p o) σ st := I.ext (Ext.mk1 I.sub hp)
/-- what is new becomes a value -/
theorem Ok.put {p : Addr} {o : HO} (I : Ok C S H σ st) (h : H p = some o) (hs : S p = none) (hm : p ∉ C.W.M) (h0 : C.H0 p = none) (hn : ∀ (i : Nat) (s : Sl), st.δ[i]? = some s → s.isOwn = true → σ[i]? ≠ some (some (.ref p))) : Ok C (upd S p o) H σ st := by
  have sm : Same S (upd S p o) := same_upd hs
  refine ⟨I.le.trans sm, fun b u e => ?_, I.fr, fun b m => ?_, fun b u e => ?_, I.r, I.len, fun i x s h1 h2 => ?_, I.priv, I.dis⟩
  · by_cases hb : b = p
    · subst hb; rw [upd_same] at e; cases e; exact h
    · rw [upd_ne hb] at e; exact I.sub _ _ e
  · rw [upd_ne (fun (z : b = p) => hm (by rw [← z]; exact m))]; exact I.off b m
  · by_cases hb : b = p
    · subst hb; exact .inr (.inl h0)
    · rw [upd_ne hb] at e; exact I.new _ _ e
  · have hh := I.slot i x s h1 h2
    cases s with
    | un => trivial
    | dat d => obtain ⟨v, e1, e2⟩ := hh; exact ⟨v, e1, e2.mono sm⟩
    | own ds =>
      obtain ⟨q, vs, e1, e2, e3, e4⟩ := hh
      exact ⟨q, vs, e1, by rw [upd_ne (fun z => hn i _ h2 rfl (by rw [h1, e1, z]))]; exact e2, e3, e4.mono sm⟩
    | ownD ds =>
      obtain ⟨q, vs, e1, e2, e3, e4⟩ := hh
      exact ⟨q, vs, e1, by rw [upd_ne (fun z => hn i _ h2 rfl (by rw [h1, e1, z]))]; exact e2, e3, e4.mono sm⟩
    | ownT ds =>
      obtain ⟨q, vs, e1, e2, e3, e4⟩ := hh
      exact ⟨q, vs, e1, by rw [upd_ne (fun z => hn i _ h2 rfl (by rw [h1, e1, z]))]; exact e2, e3, e4.mono sm⟩
def eNew (α : DA) : DE := fun st P => α st fun ds st' => P (.lst ds) st'
theorem SN.se (h : SN K W t α) : SE K W t (eNew α) := by
  intro S0 H0 S H σ st P Q I he k
  refine h S0 H0 S H σ st _ Q I he fun p vs ds S' H' st' I' e hp hs hm h0 hn hd hP => ?_
  exact k _ _ _ _ _ (I'.put hp hs hm h0 hn) (e.trans (same_upd hs)) (.inr (.lst upd_same (hd.mono (same_upd hs)))) hP
/-! #### the rules -/
def eVar (i : Nat) : DE := fun st P => match st.δ[i]? with
  | some (.dat d) => P d st
  | some (.own _) => P (.own i) st
  | some (.ownD _) => P (.own i) st
  | some (.ownT _) => P (.own i) st
  | _ => False
theorem se_var {i : Nat} : SE K W (tVar i) (eVar i) := by
  intro S0 H0 S H σ st P Q I he k
  unfold eVar at he
  cases hs : st.δ[i]? with
  | none => rw [hs] at he; exact he.elim
  | some s =>
    rw [hs] at he
    have hi : i < σ.length := by rw [I.len]; exact (List.getElem?_eq_some_iff.mp hs).1
    have hx : σ[i]? = some σ[i] := List.getElem?_eq_getElem hi
    have hh := I.slot i _ s hx hs
    cases s with
    | un => exact he.elim
    | dat d => obtain ⟨v, e1, e2⟩ := hh; exact ⟨v, by rw [hx, e1], k v d S H st I (Same.refl S) (.inr e2) he⟩
    | own ds => obtain ⟨p, vs, e1, _⟩ := hh; exact ⟨.ref p, by rw [hx, e1], k _ _ S H st I (Same.refl S) (.inl ⟨i, rfl, by rw [hx, e1]⟩) he⟩
    | ownD ds => obtain ⟨p, vs, e1, _⟩ := hh; exact ⟨.ref p, by rw [hx, e1], k _ _ S H st I (Same.refl S) (.inl ⟨i, rfl, by rw [hx, e1]⟩) he⟩
    | ownT ds => obtain ⟨p, vs, e1, _⟩ := hh; exact ⟨.ref p, by rw [hx, e1], k _ _ S H st I (Same.refl S) (.inl ⟨i, rfl, by rw [hx, e1]⟩) he⟩
def eC (d : Da) : DE := fun st P => P d st
theorem se_c {v : V} {d : Da} (h : ∀ S, De K S v d) : SE K W (tC v) (eC d) := fun S0 H0 S H σ st P Q I he k => k v d S H st I (Same.refl S) (.inr (h S)) he
/-- an operator on values -/
abbrev F2 := Da → Da → (Da → Prop) → Prop
def R2Ok (K : PySem.W.Frag) (r : R2) (f : F2) : Prop := ∀ (S H : Hp) (x y : V) (dx dy : Da) (P : Da → Prop) (Q : VK), Same S H → DeH K S H x dx → DeH K S H y dy → f dx dy P → (∀ v d S' H', Ext S H S' H' → De K S' v d → P d → Q v H') → r x y H Q
def eOp (f : F2) (a b : DE) : DE := fun st P => a st fun x st1 => b st1 fun y st2 => f (st2.pk x) (st2.pk y) fun d => P d st2
theorem se_op {r : R2} {f : F2} (h : R2Ok K r f) (ha : SE K W ta a) (hb : SE K W tb b) : SE K W (tOp r ta tb) (eOp f a b) := by
  intro S0 H0 S H σ st P Q I he k
  refine ha S0 H0 S H σ st _ _ I he fun x dx S1 H1 st1 I1 e1 r1 q1 => ?_
  refine hb S0 H0 S1 H1 σ st1 _ _ I1 q1 fun y dy S2 H2 st2 I2 e2 r2 q2 => ?_
  exact h S2 H2 x y _ _ _ _ I2.sub (pk_ok I2 (r1.mono e2)) (pk_ok I2 r2) q2 fun v d S3 H3 ex hd hP => k v d S3 H3 st2 (I2.ext ex) ((e1.trans e2).trans ex.s) (.inr hd) hP
/-- an operator that makes a list -/
def R2New (K : PySem.W.Frag) (r : R2) (f : Da → Da → (List Da → Prop) → Prop) : Prop := ∀ (S H : Hp) (x y : V) (dx dy : Da) (P : List Da → Prop) (Q : VK), Same S H → DeH K S H x dx → DeH K S H y dy → f dx dy P → (∀ p vs ds, H p = none → DeAll K S vs ds → P ds → Q (.ref p) (upd H p (.lst vs))) → r x y H Q
def eOpN (f : Da → Da → (List Da → Prop) → Prop) (a b : DE) : DA := fun st P => a st fun x st1 => b st1 fun y st2 => f (st2.pk x) (st2.pk y) fun ds => P ds st2
theorem sn_op {r : R2} {f : Da → Da → (List Da → Prop) → Prop} (h : R2New K r f) (ha : SE K W ta a) (hb : SE K W tb b) : SN K W (tOp r ta tb) (eOpN f a b) := by
  intro S0 H0 S H σ st P Q I he k
  refine ha S0 H0 S H σ st _ _ I he fun x dx S1 H1 st1 I1 e1 r1 q1 => ?_
  refine hb S0 H0 S1 H1 σ st1 _ _ I1 q1 fun y dy S2 H2 st2 I2 e2 r2 q2 => ?_
  exact h S2 H2 x y _ _ _ _ I2.sub (pk_ok I2 (r1.mono e2)) (pk_ok I2 r2) q2 fun p vs ds hp hd hP => k p vs ds S2 _ st2 (I2.alloc hp) (e1.trans e2) upd_same (I2.sn hp) (I2.nm hp) (I2.h0 hp) (I2.nown hp) hd hP
abbrev F1 := Da → (Da → Prop) → Prop
def R1Ok (K : PySem.W.Frag) (r : V → Hp → VK → Prop) (f : F1) : Prop := ∀ (S H : Hp) (x : V) (dx : Da) (P : Da → Prop) (Q : VK), Same S H → DeH K S H x dx → f dx P → (∀ v d S' H', Ext S H S' H' → De K S' v d → P d → Q v H') → r x H Q
def eUn (f : F1) (a : DE) : DE := fun st P => a st fun x st1 => f (st1.pk x) fun d => P d st1
theorem se_un {r : V → Hp → VK → Prop} {f : F1} (h : R1Ok K r f) (ha : SE K W ta a) : SE K W (tUn r ta) (eUn f a) := by
  intro S0 H0 S H σ st P Q I he k
  refine ha S0 H0 S H σ st _ _ I he fun x dx S1 H1 st1 I1 e1 r1 q1 => ?_
  exact h S1 H1 x _ _ _ I1.sub (pk_ok I1 r1) q1 fun v d S3 H3 ex hd hP => k v d S3 H3 st1 (I1.ext ex) (e1.trans ex.s) (.inr hd) hP
/-! arguments -/
def aNil : DA := fun st P => P [] st
def aCons (e : DE) (α : DA) : DA := fun st P => e st fun d st1 => α st1 fun ds st2 => P (d :: ds) st2
theorem sa_nil : SA K W tNil aNil := fun S0 H0 S H σ st P Q I he k => k [] [] S H st I (Same.refl S) True.intro he
theorem sa_cons (ha : SE K W ta a) (hA : SA K W A α) : SA K W (tCons ta A) (aCons a α) := by
  intro S0 H0 S H σ st P Q I he k
  refine ha S0 H0 S H σ st _ _ I he fun x dx S1 H1 st1 I1 e1 r1 q1 => ?_
  refine hA S0 H0 S1 H1 σ st1 _ _ I1 q1 fun y dy S2 H2 st2 I2 e2 r2 q2 => ?_
  exact k (x :: y) (dx :: dy) S2 H2 st2 I2 (e1.trans e2) ⟨r1.mono e2, r2⟩ q2
/-! built-in functions -/
abbrev FC := List Da → (Da → Prop) → Prop
def RCOk (K : PySem.W.Frag) (r : RC) (f : FC) : Prop := ∀ (S H : Hp) (xs : List V) (ds : List Da) (P : Da → Prop) (Q : VK), Same S H → DeHs K S H xs ds → f ds P → (∀ v d S' H', Ext S H S' H' → De K S' v d → P d → Q v H') → r xs H Q
def eCB (f : FC) (α : DA) : DE := fun st P => α st fun ds st1 => f (ds.map st1.pk) fun d => P d st1
theorem se_cb {r : RC} {f : FC} (h : RCOk K r f) (hA : SA K W A α) : SE K W (tCB r A) (eCB f α) := by
  intro S0 H0 S H σ st P Q I he k
  refine hA S0 H0 S H σ st _ _ I he fun xs ds S1 H1 st1 I1 e1 r1 q1 => ?_
  exact h S1 H1 xs _ _ _ I1.sub (pks_ok I1 r1) q1 fun v d S3 H3 ex hd hP => k v d S3 H3 st1 (I1.ext ex) (e1.trans ex.s) (.inr hd) hP
def RCNew (K : PySem.W.Frag) (r : RC) (f : List Da → (List Da → Prop) → Prop) : Prop := ∀ (S H : Hp) (xs : List V) (ds : List Da) (P : List Da → Prop) (Q : VK), Same S H → DeHs K S H xs ds → f ds P → (∀ p vs ds, H p = none → DeAll K S vs ds → P ds → Q (.ref p) (upd H p (.lst vs))) → r xs H Q
def eCBN (f : List Da → (List Da → Prop) → Prop) (α : DA) : DA := fun st P => α st fun ds st1 => f (ds.map st1.pk) fun d => P d st1
theorem sn_cb {r : RC} {f : List Da → (List Da → Prop) → Prop} (h : RCNew K r f) (hA : SA K W A α) : SN K W (tCB r A) (eCBN f α) := by
  intro S0 H0 S H σ st P Q I he k
  refine hA S0 H0 S H σ st _ _ I he fun xs ds S1 H1 st1 I1 e1 r1 q1 => ?_
  exact h S1 H1 xs _ _ _ I1.sub (pks_ok I1 r1) q1 fun p vs ds hp hd hP => k p vs ds S1 _ st1 (I1.alloc hp) e1 upd_same (I1.sn hp) (I1.nm hp) (I1.h0 hp) (I1.nown hp) hd hP
/-! tuples and lists written -/
def eTup (α : DA) : DE := fun st P => α st fun ds st1 => ds.length ≤ 1000 ∧ P (.tup (st1.fzs ds).1) (st1.fzs ds).2
theorem se_tup (hA : SA K W A α) : SE K W (tTup A) (eTup α) := by
  intro S0 H0 S H σ st P Q I he k
  refine hA S0 H0 S H σ st _ _ I he fun xs ds S1 H1 st1 I1 e1 r1 ⟨hl, q1⟩ => ?_
  obtain ⟨S2, e2, I2, hd⟩ := fzs_ok I1 r1
  have hlen : xs.length ≤ 1000 := by
    have h1 := hd.length
    have h2 : ∀ (ds : List Da) (st : Ds), (st.fzs ds).1.length = ds.length := by
      intro ds
      induction ds with
      | nil => intro st; rfl
      | cons d r ih => intro st; show ((st.fz d).2.fzs r).1.length + 1 = r.length + 1; rw [ih]
    rw [h1, h2]; exact hl
  refine ⟨Nat.le_of_lt (small1000 hlen), fun p hp => ?_⟩
  have sm := same_upd (o := .tup xs) (I2.sn hp)
  exact k _ _ _ _ _ (I2.newS hp) ((e1.trans e2).trans sm) (.inr (.tup upd_same (hd.mono sm))) q1
def eLst (α : DA) : DA := fun st P => α st fun ds st1 => ds.length ≤ 1000 ∧ P (st1.fzs ds).1 (st1.fzs ds).2
theorem sn_lst (hA : SA K W A α) : SN K W (tLst A) (eLst α) := by
  intro S0 H0 S H σ st P Q I he k
  refine hA S0 H0 S H σ st _ _ I he fun xs ds S1 H1 st1 I1 e1 r1 ⟨hl, q1⟩ => ?_
  obtain ⟨S2, e2, I2, hd⟩ := fzs_ok I1 r1
  have hlen : xs.length ≤ 1000 := by
    have h1 := hd.length
    have h2 : ∀ (ds : List Da) (st : Ds), (st.fzs ds).1.length = ds.length := by
      intro ds
      induction ds with
      | nil => intro st; rfl
      | cons d r ih => intro st; show ((st.fz d).2.fzs r).1.length + 1 = r.length + 1; rw [ih]
    rw [h1, h2]; exact hl
  refine ⟨Nat.le_of_lt (small1000 hlen), fun p hp => ?_⟩
  exact k p xs _ S2 _ _ (I2.alloc hp) (e1.trans e2) upd_same (I2.sn hp) (I2.nm hp) (I2.h0 hp) (I2.nown hp) hd q1
/-! tests -/
def bE (e : DE) : DT := fun st P => e st fun d st1 => match st1.pk d with
  | .bl b => P b st1
  | _ => False
theorem De.bl_of {S H : Hp} {v : V} {b : Bool} (h : DeH K S H v (.bl b)) : v = .bl b := by
  rcases h with h | ⟨p, vs, ds, _, e, _⟩ | ⟨p, vs, ds, _, e, _⟩
  · exact h.bl_inv
  · cases e
  · cases e
theorem bE_ok (h : SE K W te e) : ∀ (S0 H0 S H : Hp) (σ : L2.St) (st : Ds) (P : Bool → Ds → Prop) (Q : Bool → Hp → Prop), Ok ⟨K, W, S0, H0⟩ S H σ st → bE e st P →
    (∀ b S' H' st', Ok ⟨K, W, S0, H0⟩ S' H' σ st' → Same S S' → P b st' → Q b H') → te σ H fun x H' => ∃ k, x = .bl k ∧ Q k H' := by
  intro S0 H0 S H σ st P Q I he k
  refine h S0 H0 S H σ st _ _ I he fun x dx S1 H1 st1 I1 e1 r1 q1 => ?_
  have hp := pk_ok I1 r1
  cases hd : st1.pk dx with
  | bl b =>
    rw [hd] at q1 hp
    exact ⟨b, De.bl_of hp, k b S1 H1 st1 I1 e1 q1⟩
  | _ => rw [hd] at q1; exact q1.elim
theorem st_test (h : SE K W te e) : ST K W (tTest te) (bE e) := bE_ok h
theorem st_b (h : SE K W te e) : ST K W (tB te) (bE e) := bE_ok h
def bAnd (c u : DT) : DT := fun st P => c st fun b st1 => if b = true then u st1 P else P false st1
def bOr (c u : DT) : DT := fun st P => c st fun b st1 => if b = true then P true st1 else u st1 P
def bNot (c : DT) : DT := fun st P => c st fun b st1 => P (!b) st1
def bYes : DT := fun st P => P true st
theorem st_yes : ST K W tYes bYes := fun S0 H0 S H σ st P Q I he k => k true S H st I (Same.refl S) he
theorem st_and (hc : ST K W c ec) (hu : ST K W u eu) : ST K W (tAnd c u) (bAnd ec eu) := by
  intro S0 H0 S H σ st P Q I he k
  refine hc S0 H0 S H σ st _ _ I he fun b S1 H1 st1 I1 e1 q1 => ?_
  cases b
  · exact k false S1 H1 st1 I1 e1 q1
  · exact hu S0 H0 S1 H1 σ st1 _ _ I1 q1 fun b S2 H2 st2 I2 e2 q2 => k b S2 H2 st2 I2 (e1.trans e2) q2
theorem st_or (hc : ST K W c ec) (hu : ST K W u eu) : ST K W (tOr c u) (bOr ec eu) := by
  intro S0 H0 S H σ st P Q I he k
  refine hc S0 H0 S H σ st _ _ I he fun b S1 H1 st1 I1 e1 q1 => ?_
  cases b
  · exact hu S0 H0 S1 H1 σ st1 _ _ I1 q1 fun b S2 H2 st2 I2 e2 q2 => k b S2 H2 st2 I2 (e1.trans e2) q2
  · exact k true S1 H1 st1 I1 e1 q1
theorem st_not (hc : ST K W c ec) : ST K W (tNot c) (bNot ec) := by
  intro S0 H0 S H σ st P Q I he k
  exact hc S0 H0 S H σ st _ _ I he fun b S1 H1 st1 I1 e1 q1 => k (!b) S1 H1 st1 I1 e1 q1
def eIf (c : DT) (a b : DE) : DE := fun st P => c st fun k st1 => if k = true then a st1 P else b st1 P
theorem se_if (hc : ST K W c ec) (ha : SE K W ta a) (hb : SE K W tb b) : SE K W (tIf c ta tb) (eIf ec a b) := by
  intro S0 H0 S H σ st P Q I he k
  refine hc S0 H0 S H σ st _ _ I he fun b S1 H1 st1 I1 e1 q1 => ?_
  cases b
  · exact hb S0 H0 S1 H1 σ st1 _ _ I1 q1 fun v d S2 H2 st2 I2 e2 r2 q2 => k v d S2 H2 st2 I2 (e1.trans e2) r2 q2
  · exact ha S0 H0 S1 H1 σ st1 _ _ I1 q1 fun v d S2 H2 st2 I2 e2 r2 q2 => k v d S2 H2 st2 I2 (e1.trans e2) r2 q2
def eAndV (a b : DE) : DE := fun st P => bE a st fun k st1 => if k = true then b st1 P else P (.bl false) st1
def eOrV (a b : DE) : DE := fun st P => bE a st fun k st1 => if k = true then P (.bl true) st1 else b st1 P
def eNotV (a : DE) : DE := fun st P => bE a st fun k st1 => P (.bl (!k)) st1
theorem se_andV (ha : SE K W ta a) (hb : SE K W tb b) : SE K W (tAndV ta tb) (eAndV a b) := by
  intro S0 H0 S H σ st P Q I he k
  refine bE_ok ha S0 H0 S H σ st _ (fun c H1 => if c = true then tb σ H1 Q else Q (.bl false) H1) I he fun b S1 H1 st1 I1 e1 q1 => ?_
  cases b
  · exact k _ _ S1 H1 st1 I1 e1 (.inr (.bl false)) q1
  · exact hb S0 H0 S1 H1 σ st1 _ _ I1 q1 fun v d S2 H2 st2 I2 e2 r2 q2 => k v d S2 H2 st2 I2 (e1.trans e2) r2 q2
theorem se_orV (ha : SE K W ta a) (hb : SE K W tb b) : SE K W (tOrV ta tb) (eOrV a b) := by
  intro S0 H0 S H σ st P Q I he k
  refine bE_ok ha S0 H0 S H σ st _ (fun c H1 => if c = true then Q (.bl true) H1 else tb σ H1 Q) I he fun b S1 H1 st1 I1 e1 q1 => ?_
  cases b
  · exact hb S0 H0 S1 H1 σ st1 _ _ I1 q1 fun v d S2 H2 st2 I2 e2 r2 q2 => k v d S2 H2 st2 I2 (e1.trans e2) r2 q2
  · exact k _ _ S1 H1 st1 I1 e1 (.inr (.bl true)) q1
theorem se_notV (ha : SE K W ta a) : SE K W (tNotV ta) (eNotV a) := by
  intro S0 H0 S H σ st P Q I he k
  exact bE_ok ha S0 H0 S H σ st _ (fun c H1 => Q (.bl (!c)) H1) I he fun b S1 H1 st1 I1 e1 q1 => k _ _ S1 H1 st1 I1 e1 (.inr (.bl _)) q1
def eChain (f g : F2) (a b e : DE) : DE := fun st P => a st fun x st1 => b st1 fun y st2 => f (st2.pk x) (st2.pk y) fun z => match z with
  | .bl k => if k = true then e st2 fun w st3 => g (st3.pk y) (st3.pk w) fun d => P d st3 else P (.bl false) st2
  | _ => False
theorem se_chain {r r' : R2} {f g : F2} (h : R2Ok K r f) (h' : R2Ok K r' g) (ha : SE K W ta a) (hb : SE K W tb b) (hc : SE K W te e) : SE K W (tChain r r' ta tb te) (eChain f g a b e) := by
  intro S0 H0 S H σ st P Q I he k
  refine ha S0 H0 S H σ st _ _ I he fun x dx S1 H1 st1 I1 e1 r1 q1 => ?_
  refine hb S0 H0 S1 H1 σ st1 _ _ I1 q1 fun y dy S2 H2 st2 I2 e2 r2 q2 => ?_
  refine h S2 H2 x y _ _ _ _ I2.sub (pk_ok I2 (r1.mono e2)) (pk_ok I2 r2) q2 fun v d S3 H3 ex hd hP => ?_
  have I3 := I2.ext ex
  cases d with
  | bl b =>
    refine ⟨b, hd.bl_inv, ?_⟩
    have hP : if b = true then e st2 fun w st3 => g (st3.pk dy) (st3.pk w) fun d => P d st3 else P (.bl false) st2 := hP
    cases b
    · exact k _ _ S3 H3 st2 I3 ((e1.trans e2).trans ex.s) (.inr (.bl false)) hP
    · refine hc S0 H0 S3 H3 σ st2 _ _ I3 hP fun w dw S4 H4 st4 I4 e4 r4 q4 => ?_
      exact h' S4 H4 y w _ _ _ _ I4.sub (pk_ok I4 ((r2.mono ex.s).mono e4)) (pk_ok I4 r4) q4 fun v d S5 H5 ex5 hd hP => k v d S5 H5 st4 (I4.ext ex5) ((((e1.trans e2).trans ex.s).trans e4).trans ex5.s) (.inr hd) hP
  | _ => exact hP.elim
/-! calls -/
abbrev FD := List Da → Int → (Da → Int → Prop) → Prop
def Da.scl : Da → Bool
  | .non => true | .bl _ => true | .int _ => true | .str _ => true | .ty _ => true | .ref _ => true
  | _ => false
theorem De.scl {S S' : Hp} {v : V} {d : Da} (h : De K S v d) (hs : d.scl = true) : De K S' v d := by
  cases h with
  | non => exact .non
  | bl b => exact .bl b
  | int i => exact .int i
  | str i => exact .str i
  | ref i => exact .ref i
  | ty i => exact .ty i
  | _ => cases hs
/-- a promise in terms of data -/
def spD (K : PySem.W.Frag) (W : Wo) (F : FD) : Sp := fun vs H Q _ => ∃ (S : Hp) (ds : List Da) (n : Int) (P : Da → Int → Prop), Same S H ∧ (∀ b ∈ W.M, S b = none) ∧ W.R n H ∧ DeAll K S vs ds ∧ F ds n P ∧
  ∀ v d m S' H', P d m → ExtM W S H S' H' → W.R m H' → De K S' v d → Q v H'
def CallOk (K : PySem.W.Frag) (W : Wo) (sp : Sp) (dvs : List V) (E : XK) (F : FD) : Prop := ∀ vs H Q, spD K W F vs H Q E → sp (vs ++ dvs) H Q E
def eCall (F : FD) (α : DA) : DE := fun st P => α st fun ds st1 => F (st1.fzs ds).1 st1.n fun d n' => P d { (st1.fzs ds).2 with n := n' }
theorem fz_n (st : Ds) (d : Da) : (st.fz d).2.n = st.n := by
  unfold Ds.fz
  cases d with
  | own i =>
    dsimp only
    cases st.δ[i]? with
    | none => rfl
    | some s => cases s <;> rfl
  | _ => rfl
theorem fzs_n : ∀ (ds : List Da) (st : Ds), (st.fzs ds).2.n = st.n
  | [], st => rfl
  | d :: r, st => by
    show ((st.fz d).2.fzs r).2.n = st.n
    rw [fzs_n r, fz_n]
theorem se_call {sp : Sp} {dvs : List V} {E : XK} {F : FD} (h : CallOk K W sp dvs E F) (hA : SA K W A α) : SE K W (tCall sp dvs E A) (eCall F α) := by
  intro S0 H0 S H σ st P Q I he k
  refine hA S0 H0 S H σ st _ _ I he fun xs ds S1 H1 st1 I1 e1 r1 q1 => ?_
  obtain ⟨S2, e2, I2, hd⟩ := fzs_ok I1 r1
  refine h _ _ _ ⟨S2, _, st1.n, _, I2.sub, I2.off, by have := I2.r; rw [fzs_n] at this; exact this, hd, q1, fun v d m S' H' hP ex r hv => ?_⟩
  exact k v d S' H' _ (I2.extM ex r) ((e1.trans e2).trans ex.s) (.inr hv) hP
/-- the arguments are lent: what comes back is no object -/
def eCallB (F : FD) (α : DA) : DE := fun st P => α st fun ds st1 => F (st1.fzs ds).1 st1.n fun d n' => d.scl = true ∧ P d { st1 with n := n' }
theorem se_callB {sp : Sp} {dvs : List V} {E : XK} {F : FD} (h : CallOk K W sp dvs E F) (hA : SA K W A α) : SE K W (tCall sp dvs E A) (eCallB F α) := by
  intro S0 H0 S H σ st P Q I he k
  refine hA S0 H0 S H σ st _ _ I he fun xs ds S1 H1 st1 I1 e1 r1 q1 => ?_
  obtain ⟨S2, e2, I2, hd⟩ := fzs_ok I1 r1
  refine h _ _ _ ⟨S2, _, st1.n, _, I2.sub, I2.off, by have := I2.r; rw [fzs_n] at this; exact this, hd, q1, fun v d m S' H' hP ex r hv => ?_⟩
  have fm : ∀ b, H1 b = none → b ∉ W.M := fun b hb => I1.nm hb
  refine k v d S1 H' { st1 with n := m } (I1.extM ⟨Same.refl S1, (e2.trans ex.s).trans ex.sub, ex.h, fun b o e => .inl e⟩ r) e1 (.inr (hv.scl hP.1)) hP.2
end
end Q

set_option Elab.async false
set_option linter.all false
set_option maxRecDepth 100000
set_option maxHeartbeats 4000000
namespace Q
open PySem PySem.Spec PyProof.Rows L2
/-! ### enumerate(text) -/
def Ites (z : Str) : It :=
  ⟨fun i _ => i < (TL.tl z).length, fun i H v H' => ∃ T c, v = .ref T ∧ H T = none ∧ H' = upd H T (.tup [.int (i : Nat), .str ⟨#[c]⟩]) ∧ (TL.tl z)[i]? = some c, fun i _ => i = (TL.tl z).length⟩
theorem drawsStr {prog : Program} {w : World} {A : Around} (hh : A.handled = none) (it : Addr) (x : Str) (t : Tok) :
    Draws prog w A it [it] x.cps.size (fun i v => ∃ c u, x.cps[i]? = some c ∧ v = .str ⟨#[c]⟩ u) (fun i h => h.IsStrIter it (strIterType x) x t i) := by
  have e : strIterType x = "str_ascii_iterator" ∨ strIterType x = "str_iterator" := by
    unfold strIterType
    split
    · exact .inl rfl
    · exact .inr rfl
  rcases e with e | e
  · rw [e]
    exact Draws.strAscii hh it x t
  · rw [e]
    exact Draws.strWide hh it x t
theorem cps_len (z : Str) : z.cps.size = (TL.tl z).length := (Array.length_toList).symm
theorem cps_get {z : Str} {i c : Nat} (h : z.cps[i]? = some c) : (TL.tl z)[i]? = some c := by rw [← h]; exact Array.getElem?_toList
theorem turn_enumS {P : Program} {w : World} {K : PySem.W.Frag} {elts : List Expr} {kk : Nat} {tpos : Pos} (z : Str) (t : Tok) (e it : Addr) :
    Turn P w K (.Tuple elts kk tpos) (Ites z) [e, it] e (fun i h => (∃ old, IsEnum h e it ((i : Nat) : Int) old) ∧ h.IsStrIter it (strIterType z) z t i ∧ e ≠ it) where
  mem := by simp
  obj := fun i h st b hb => by
    obtain ⟨⟨old, he⟩, ⟨o, ho, hc, hd⟩, _⟩ := st
    have e' : b = e ∨ b = it := by simpa using hb
    rcases e' with z | z
    · rw [z]; exact ⟨_, he, fun v q => nomatch q⟩
    · rw [z]; exact ⟨o, ho, fun v q => by rw [hd] at q; cases q⟩
  keep := fun i h h' st k => let ⟨⟨old, he⟩, ⟨o, ho, r⟩, hne⟩ := st; ⟨⟨old, k e (by simp) _ he⟩, ⟨o, k it (by simp) _ ho, r⟩, hne⟩
  item := by
    intro X hP hw hK hc i pins s σ H E I hf st hg
    subst hP hw hK
    obtain ⟨⟨old, he⟩, hit, hne⟩ := st
    have hi : i < z.cps.size := by rw [cps_len]; exact hg
    have hel : e < s.heap.objs.size := Heap.lt_size he
    have hil : it < s.heap.objs.size := by obtain ⟨_, q, _⟩ := hit; exact Heap.lt_size q
    refine wpAny_pyNext_enum_itemD (drawsStr (A := X.A.in1) (I.ok.hd hc) it z t) he hit hi hne (by simpa using hne) fun u h' tk hP ho hit' hT hsz hk => ?_
    obtain ⟨c, v, hcv, rfl⟩ := hP
    refine ⟨_, rfl, wpAny_letOwnedTupleGo_enum (s := { s with heap := h', toks := tk + 1 }) ho fun h'' he' sb => ?_⟩
    have hT2 : h''.get? s.heap.objs.size = some { cls := .type "tuple", data := .seq #[.int i tk, .str ⟨#[c]⟩ v] } := (sb.2 _ (Nat.ne_of_gt hel)).trans hT
    have new : ObjOk X.prog X.w (upd H s.heap.objs.size (.tup [.int (i : Nat), .str ⟨#[c]⟩])) h'' s.heap.objs.size (.tup [.int (i : Nat), .str ⟨#[c]⟩]) :=
      ⟨by show 2 ≤ sizeLine; decide, [.int i tk, .str ⟨#[c]⟩ v], .cons ⟨_, rfl⟩ (.cons ⟨_, rfl⟩ .nil), ⟨_, hT2, rfl, _, rfl⟩⟩
    have I1 : Inv X pins σ (upd H s.heap.objs.size (.tup [.int (i : Nat), .str ⟨#[c]⟩])) { s with heap := h'', toks := tk + 1 } :=
      I.turnedNew (ch := [e, it]) (fun b ob hb q => (sb.2 b (fun z => hb (by simp [z]))).trans (hk b ob (fun z => hb (by simp [z])) (fun z => hb (by simp [z])) q)) hf (Nat.le_refl _) new
    refine ⟨.ref s.heap.objs.size, _, I1, rfl, ⟨_, c, rfl, I.hok.fresh (Nat.le_refl _), rfl, cps_get hcv⟩, ⟨⟨.str ⟨#[c]⟩ v, ?_⟩, ?_, hne⟩, fun b hb => ?_⟩
    · have e1 : ((i + 1 : Nat) : Int) = (i : Int) + 1 := by omega
      rw [e1]; exact he'
    · obtain ⟨o, ho2, r⟩ := hit'
      exact ⟨o, (sb.2 it (Ne.symm hne)).trans ho2, r⟩
    · have hb' : b < s.heap.objs.size := by
        have e' : b = e ∨ b = it := by simpa using hb
        rcases e' with z | z
        · rw [z]; exact hel
        · rw [z]; exact hil
      rw [upd_ne (Nat.ne_of_lt hb')]
      exact (hf b hb).1
  done := by
    intro X hP hw hK hc i pins s σ H E I hf st hg
    subst hP hw hK
    obtain ⟨⟨old, he⟩, hit, hne⟩ := st
    obtain ⟨f0, f1, f2, f3, f4, f5⟩ := hf it (by simp)
    have hi : i = z.cps.size := by rw [cps_len]; exact hg
    subst hi
    exact wpAny_pyNext_enum_endD (drawsStr (A := X.A.in1) (I.ok.hd hc) it z t) he hit fun h' eb => ⟨rfl, I.turned (t' := s.toks) (fun b o hb q => eb b o hb q) f0 f1 f3 f4 f5⟩
  self := fun A i s Q E st h => let ⟨⟨_, he⟩, _⟩ := st; wpAny_pyIter_enum he h
def iEnumS (ta : TA) : TI := fun σ H R => ta σ H fun vs H1 => ∃ z, vs = [.str z] ∧ R (Ites z) H1
theorem pi_enumS {X : Cx} {e : Expr} {ta : TA} {p pos tpos : Pos} {elts : List Expr} {kk : Nat} (hg : Gl X "enumerate") (hm : X.mg "enumerate" = none) (ha : PA X [e] ta) (hs : starEach [e] X.env = [(false, eval e X.env)] := by rfl) :
    PI X (.Tuple elts kk tpos) (.Call (.Name "enumerate" p) [e] [] pos) (iEnumS ta) := by
  refine ⟨fun pins s σ H R I h => ?_⟩
  refine Call_ (ld_blt I hg hm boot_enumerate (PyProof.Rows.callWith_type1 (thn (ha.run pos pins s σ H _ I h) fun us s1 ⟨vs, H1, I1, r1, q1⟩ => ?_) hs rfl))
  obtain ⟨z, ex, q⟩ := q1
  subst ex
  cases r1 with
  | cons r rr =>
    cases rr
    obtain ⟨t, rfl⟩ := r
    refine call_enumerate_str fun h' he hit hsz hk => wpAny_pyIter_enum he ?_
    have I2 : Inv X pins σ H1 { s1 with heap := h' } := I1.kept (t' := s1.toks) hk
    refine ⟨s1.heap.objs.size + 1, [s1.heap.objs.size + 1, s1.heap.objs.size], _, _, H1, rfl, I2, turn_enumS z t (s1.heap.objs.size + 1) s1.heap.objs.size, ⟨⟨.none, he⟩, hit, Nat.succ_ne_self _⟩, fun b hb => ?_, q⟩
    have e' : b = s1.heap.objs.size + 1 ∨ b = s1.heap.objs.size := by simpa using hb
    have hle : s1.heap.objs.size ≤ b := by
      rcases e' with z | z
      · rw [z]; exact Nat.le_add_right _ _
      · rw [z]; exact Nat.le_refl _
    exact I1.fpOk hle (I1.hok.fresh hle)
theorem walk_enumS {z : Str} : Walk (Ites z) (TL.tl z).length (fun _ => True) (YPair (fun i => some (.int (i : Nat))) (fun i => (TL.tl z)[i]?.map fun c => .str ⟨#[c]⟩)) := by
  refine ⟨fun i _ hi _ => hi, fun _ _ => rfl, fun i H v H' _ _ y => ?_⟩
  obtain ⟨T, c, h1, h2, h3, h4⟩ := y
  exact ⟨T, .int (i : Nat), .str ⟨#[c]⟩, h1, h2, h3, rfl, congrArg (Option.map fun c => V.str ⟨#[c]⟩) h4⟩
section
variable {K : PySem.W.Frag} {σ : L2.St} {H : Hp} {Q : VK} {td ty tv te : TE} {ta : TA} {D : Ends} {rest : TS}
theorem w_lv (q : te σ H fun x H1 => ∃ (d : Addr) (kvs : List (L2.Key × V)), x = .ref d ∧ H1 d = some (.dK kvs) ∧ ∀ p, H1 p = none → Q (.ref p) (upd H1 p (.lst (kvs.map (·.2))))) : tListVals te σ H Q := q
theorem w_dzip (q : ta σ H fun vs H1 => ∃ (x : Str) (b : Addr) (ys : List V), vs = [.str x, .ref b] ∧ SqL K H1 b ys ∧ x.cps.all (· < 128) = true ∧ x.length = ys.length ∧ ∀ p, H1 p = none → Q (.ref p) (upd H1 p (.dK (mergeK [] (zipKV x ys))))) : tDZip K ta σ H Q := q
theorem w_dget (q : td σ H fun x H1 => ty σ H1 fun y H2 => ∃ a v, x = .ref a ∧ DGet H2 a y (some v) ∧ Q v H2) : tDGet td ty σ H Q := q
theorem z_daug {rd : V → V → Hp → VK → Prop} (q : td σ H fun x H1 => ty σ H1 fun y H2 => ∃ a v, x = .ref a ∧ DGet H2 a y (some v) ∧ tv σ H2 fun y2 H3 => rd v y2 H3 fun z H4 => ∃ H5, DPut H4 a y z H5 ∧ rest D σ H5) : tSeq (sDAug td ty tv rd) rest D σ H := q
theorem z_daug1 {rd : V → V → Hp → VK → Prop} (q : td σ H fun x H1 => ty σ H1 fun y H2 => ∃ a v, x = .ref a ∧ DGet H2 a y (some v) ∧ tv σ H2 fun y2 H3 => rd v y2 H3 fun z H4 => ∃ H5, DPut H4 a y z H5 ∧ D.nx σ H5) : sDAug td ty tv rd D σ H := q
theorem z_dput (q : tv σ H fun v H1 => td σ H1 fun x H2 => ty σ H2 fun y H3 => ∃ a H4, x = .ref a ∧ DPut H3 a y v H4 ∧ rest D σ H4) : tSeq (sDPut td ty tv) rest D σ H := q
theorem z_dput1 (q : tv σ H fun v H1 => td σ H1 fun x H2 => ty σ H2 fun y H3 => ∃ a H4, x = .ref a ∧ DPut H3 a y v H4 ∧ D.nx σ H4) : sDPut td ty tv D σ H := q
end
end Q

set_option Elab.async false
set_option linter.all false
set_option maxRecDepth 100000
set_option maxHeartbeats 4000000
namespace Q
open PySem PySem.Spec PyProof.Rows L2
structure DD where
  nx : Ds → Prop
  rt : Da → Ds → Prop
  bk : Ds → Prop := fun _ => False
  ct : Ds → Prop := fun _ => False
abbrev DC := DD → Ds → Prop
abbrev DG := Da → Ds → (Ds → Prop) → Prop
abbrev DGs := List Da → Ds → (Ds → Prop) → Prop
structure EndOk (K : PySem.W.Frag) (W : Wo) (S0 H0 : Hp) (D : DD) (E : Ends) : Prop where
  nx : ∀ S H σ st, Ok ⟨K, W, S0, H0⟩ S H σ st → D.nx st → E.nx σ H
  rt : ∀ S H σ st v d, Ok ⟨K, W, S0, H0⟩ S H σ st → De K S v d → D.rt d st → E.rt v H
  bk : ∀ S H σ st, Ok ⟨K, W, S0, H0⟩ S H σ st → D.bk st → E.bk σ H
  ct : ∀ S H σ st, Ok ⟨K, W, S0, H0⟩ S H σ st → D.ct st → E.ct σ H
def SS (K : PySem.W.Frag) (W : Wo) (t : TS) (c : DC) : Prop := ∀ (S0 H0 S H : Hp) (σ : L2.St) (st : Ds) (D : DD) (E : Ends), Ok ⟨K, W, S0, H0⟩ S H σ st → c D st → EndOk K W S0 H0 D E → t E σ H
/-- σ' is as σ off js -/
def Agr (js : List Nat) (σ σ' : L2.St) : Prop := σ'.length = σ.length ∧ ∀ i, i ∉ js → σ'[i]? = σ[i]?
def SG (K : PySem.W.Frag) (W : Wo) (js : List Nat) (g : TG) (dg : DG) : Prop := ∀ (S0 H0 S H : Hp) (σ : L2.St) (st : Ds) (v : V) (d : Da) (P : Ds → Prop) (Q : L2.St → Hp → Prop), Ok ⟨K, W, S0, H0⟩ S H σ st → RelD K S σ v d → dg d st P →
  (∀ S' H' σ' st', Ok ⟨K, W, S0, H0⟩ S' H' σ' st' → Same S S' → Agr js σ σ' → P st' → Q σ' H') → g v σ H Q
def SGs (K : PySem.W.Frag) (W : Wo) (js : List Nat) (g : TGs) (dg : DGs) : Prop := ∀ (S0 H0 S H : Hp) (σ : L2.St) (st : Ds) (vs : List V) (ds : List Da) (P : Ds → Prop) (Q : L2.St → Hp → Prop), Ok ⟨K, W, S0, H0⟩ S H σ st → DeAll K S vs ds → dg ds st P →
  (∀ S' H' σ' st', Ok ⟨K, W, S0, H0⟩ S' H' σ' st' → Same S S' → Agr js σ σ' → P st' → Q σ' H') → g vs σ H Q
section
variable {K : PySem.W.Frag} {W : Wo} {t u : TS} {c cu : DC} {te : TE} {e : DE} {A : TA} {α : DA} {tc : TT} {ec : DT} {C : Cg} {S H S1 : Hp} {σ : L2.St} {st : Ds} {v : V} {d : Da}
theorem Ok.up {S0 H0 : Hp} (I : Ok ⟨K, W, S0, H0⟩ S H σ st) (h : Same S0 S1) (h1 : Same S1 S) : Ok ⟨K, W, S1, H0⟩ S H σ st :=
  ⟨h1, I.sub, I.fr, I.off, fun b o e => (I.new b o e).imp (h b o) fun q => q, I.r, I.len, I.slot, I.priv, I.dis⟩
theorem Ok.down {S0 H0 : Hp} (I : Ok ⟨K, W, S1, H0⟩ S H σ st) (h : Same S0 S1) (hn : ∀ (b : Addr) (o : HO), S1 b = some o → Nw S0 H0 b o) : Ok ⟨K, W, S0, H0⟩ S H σ st :=
  ⟨h.trans I.le, I.sub, I.fr, I.off, fun b o e => (I.new b o e).elim (hn b o) fun q => .inr q, I.r, I.len, I.slot, I.priv, I.dis⟩
/-! ### stores -/
theorem get_set {α : Type} {l : List α} {i j : Nat} {a x : α} (h : (l.set i a)[j]? = some x) : (j = i ∧ x = a) ∨ (j ≠ i ∧ l[j]? = some x) := by
  by_cases hj : j = i
  · subst hj
    by_cases hl : j < l.length
    · rw [List.getElem?_set_self hl] at h; cases h; exact .inl ⟨rfl, rfl⟩
    · have : (l.set j a)[j]? = none := List.getElem?_eq_none (by rw [List.length_set]; omega)
      rw [this] at h; cases h
  · rw [List.getElem?_set_ne (Ne.symm hj)] at h; exact .inr ⟨hj, h⟩
theorem Ok.set (I : Ok C S H σ st) (hd : De C.K S v d) (i : Nat) : Ok C S H (σ.set i (some v)) { st with δ := st.δ.set i (.dat d) } := by
  refine ⟨I.le, I.sub, I.fr, I.off, I.new, I.r, by simpa using I.len, fun j x s h1 h2 => ?_, fun j s p h1 h2 h3 => ?_, fun j k s u p h1 h2 h3 h4 h5 h6 => ?_⟩
  · rcases get_set h1 with ⟨rfl, rfl⟩ | ⟨n1, h1⟩
    · rcases get_set h2 with ⟨_, rfl⟩ | ⟨n2, h2⟩
      · exact ⟨v, rfl, hd⟩
      · exact absurd rfl n2
    · rcases get_set h2 with ⟨rfl, rfl⟩ | ⟨n2, h2⟩
      · exact absurd rfl n1
      · exact I.slot j x s h1 h2
  · rcases get_set h1 with ⟨rfl, rfl⟩ | ⟨n1, h1⟩
    · cases h2
    · rcases get_set h3 with ⟨rfl, _⟩ | ⟨_, h3⟩
      · exact absurd rfl n1
      · exact I.priv j s p h1 h2 h3
  · rcases get_set h1 with ⟨rfl, rfl⟩ | ⟨n1, h1⟩
    · cases h3
    · rcases get_set h2 with ⟨rfl, rfl⟩ | ⟨n2, h2⟩
      · cases h4
      · rcases get_set h5 with ⟨rfl, _⟩ | ⟨_, h5⟩
        · exact absurd rfl n1
        · rcases get_set h6 with ⟨rfl, _⟩ | ⟨_, h6⟩
          · exact absurd rfl n2
          · exact I.dis j k s u p h1 h2 h3 h4 h5 h6
theorem Ok.setOwn {i : Nat} {s : Sl} {p : Addr} (I : Ok C S H σ st) (hs : SlOk C.K S H (some (.ref p)) s) (hm : p ∉ C.W.M) (h0 : C.H0 p = none) (hn : ∀ (i : Nat) (s : Sl), st.δ[i]? = some s → s.isOwn = true → σ[i]? ≠ some (some (.ref p))) :
    Ok C S H (σ.set i (some (.ref p))) { st with δ := st.δ.set i s } := by
  refine ⟨I.le, I.sub, I.fr, I.off, I.new, I.r, by simpa using I.len, fun j x s' h1 h2 => ?_, fun j s' q h1 h2 h3 => ?_, fun j k s1 u q h1 h2 h3 h4 h5 h6 => ?_⟩
  · rcases get_set h1 with ⟨rfl, rfl⟩ | ⟨n1, h1⟩
    · rcases get_set h2 with ⟨_, rfl⟩ | ⟨n2, h2⟩
      · exact hs
      · exact absurd rfl n2
    · rcases get_set h2 with ⟨rfl, rfl⟩ | ⟨n2, h2⟩
      · exact absurd rfl n1
      · exact I.slot j x s' h1 h2
  · rcases get_set h3 with ⟨rfl, e⟩ | ⟨n1, h3⟩
    · cases e; exact ⟨hm, h0⟩
    · rcases get_set h1 with ⟨rfl, _⟩ | ⟨_, h1⟩
      · exact absurd rfl n1
      · exact I.priv j s' q h1 h2 h3
  · rcases get_set h5 with ⟨rfl, e⟩ | ⟨n1, h5⟩
    · cases e
      rcases get_set h6 with ⟨rfl, _⟩ | ⟨n2, h6⟩
      · rfl
      · rcases get_set h2 with ⟨rfl, _⟩ | ⟨_, h2⟩
        · exact absurd rfl n2
        · exact absurd h6 (hn k u h2 h4)
    · rename_i h5'
      rcases get_set h6 with ⟨hk, e⟩ | ⟨n2, h6⟩
      · cases e
        rcases get_set h1 with ⟨hj, _⟩ | ⟨_, h1⟩
        · exact absurd hj n1
        · exact absurd h5 (hn j s1 h1 h3)
      · rcases get_set h1 with ⟨rfl, _⟩ | ⟨_, h1⟩
        · exact absurd rfl n1
        rcases get_set h2 with ⟨rfl, _⟩ | ⟨_, h2⟩
        · exact absurd rfl n2
        · exact I.dis j k s1 u q h1 h2 h3 h4 h5 h6
/-- an owned thing changes -/
theorem Ok.mut {i : Nat} {s s' : Sl} {p : Addr} {o : HO} (I : Ok C S H σ st) (hs : st.δ[i]? = some s) (ho : s.isOwn = true) (hv : σ[i]? = some (some (.ref p))) (hS : S p = none) (hs' : SlOk C.K S (upd H p o) (some (.ref p)) s') (ho' : s'.isOwn = true) :
    Ok C S (upd H p o) σ { st with δ := st.δ.set i s' } := by
  obtain ⟨pm, p0⟩ := I.priv i s p hs ho hv
  have back : ∀ (j : Nat) (t : Sl), (st.δ.set i s')[j]? = some t → t.isOwn = true → ∃ t', st.δ[j]? = some t' ∧ t'.isOwn = true := fun j t h1 h2 => by
    rcases get_set h1 with ⟨rfl, rfl⟩ | ⟨n1, h1⟩
    · exact ⟨s, hs, ho⟩
    · exact ⟨t, h1, h2⟩
  refine ⟨I.le, fun b u e => ?_, fun b u hb e => ?_, I.off, I.new, C.W.keep _ _ _ I.r (fun b m => ?_), by simpa using I.len, fun j x t h1 h2 => ?_, fun j t q h1 h2 h3 => ?_, fun j k t u q h1 h2 h3 h4 h5 h6 => ?_⟩
  · rw [upd_ne (fun (z : b = p) => by rw [z, hS] at e; cases e)]; exact I.sub b u e
  · rw [upd_ne (fun (z : b = p) => by rw [z, p0] at e; cases e)]; exact I.fr b u hb e
  · exact upd_ne (fun (z : b = p) => pm (by rw [← z]; exact m))
  · rcases get_set h2 with ⟨rfl, rfl⟩ | ⟨n1, h2⟩
    · rw [hv] at h1; cases h1; exact hs'
    · have hh := I.slot j x t h1 h2
      cases t with
      | un => trivial
      | dat d => exact hh
      | own ds =>
        obtain ⟨q, vs, e1, e2, e3, e4⟩ := hh
        exact ⟨q, vs, e1, e2, by rw [upd_ne (fun z => n1 (I.dis j i _ s p h2 hs rfl ho (by rw [h1, e1, z]) hv))]; exact e3, e4⟩
      | ownD ds =>
        obtain ⟨q, vs, e1, e2, e3, e4⟩ := hh
        exact ⟨q, vs, e1, e2, by rw [upd_ne (fun z => n1 (I.dis j i _ s p h2 hs rfl ho (by rw [h1, e1, z]) hv))]; exact e3, e4⟩
      | ownT ds =>
        obtain ⟨q, vs, e1, e2, e3, e4⟩ := hh
        exact ⟨q, vs, e1, e2, by rw [upd_ne (fun z => n1 (I.dis j i _ s p h2 hs rfl ho (by rw [h1, e1, z]) hv))]; exact e3, e4⟩
  · obtain ⟨t', q1, q2⟩ := back j t h1 h2
    exact I.priv j t' q q1 q2 h3
  · obtain ⟨t', q1, q2⟩ := back j t h1 h3
    obtain ⟨u', q3, q4⟩ := back k u h2 h4
    exact I.dis j k t' u' q q1 q3 q2 q4 h5 h6
/-! ### targets -/
def dName (i : Nat) : DG := fun d st P => P { (st.fz d).2 with δ := (st.fz d).2.δ.set i (.dat (st.fz d).1) }
theorem sg_name {i : Nat} : SG K W [i] (gName i) (dName i) := by
  intro S0 H0 S H σ st v d P Q I r he k
  obtain ⟨S1, e1, I1, h1⟩ := fz_ok I r
  refine k S1 H _ _ (I1.set h1 i) e1 ⟨by rw [List.length_set], fun j hj => ?_⟩ he
  rw [List.getElem?_set_ne (fun z => hj (by rw [z]; exact List.mem_cons_self))]
def dNil : DGs := fun ds st P => match ds with
  | [] => P st
  | _ => False
def dCons (g : DG) (u : DGs) : DGs := fun ds st P => match ds with
  | d :: ds => g d st fun st1 => u ds st1 P
  | [] => False
theorem sg_nil : SGs K W [] gNil dNil := by
  intro S0 H0 S H σ st vs ds P Q I r he k
  cases r with
  | nil => exact ⟨rfl, k S H σ st I (Same.refl S) ⟨rfl, fun _ _ => rfl⟩ he⟩
  | cons _ _ => exact he.elim
theorem sg_cons {js ks : List Nat} {g : TG} {dg : DG} {gs : TGs} {dgs : DGs} (hg : SG K W js g dg) (hs : SGs K W ks gs dgs) : SGs K W (js ++ ks) (gCons g gs) (dCons dg dgs) := by
  intro S0 H0 S H σ st vs ds P Q I r he k
  cases r with
  | nil => exact he.elim
  | cons h1 h2 =>
    refine ⟨_, _, rfl, hg S0 H0 S H σ st _ _ _ _ I (.inr h1) he fun S1 H1 σ1 st1 I1 e1 k1 q1 => ?_⟩
    refine hs S0 H0 S1 H1 σ1 st1 _ _ _ _ I1 (h2.mono e1) q1 fun S2 H2 σ2 st2 I2 e2 k2 q2 => ?_
    refine k S2 H2 σ2 st2 I2 (e1.trans e2) ⟨by rw [k2.1, k1.1], fun i hi => ?_⟩ q2
    rw [k2.2 i (fun m => hi (List.mem_append_right _ m)), k1.2 i (fun m => hi (List.mem_append_left _ m))]
def Da.asT : Da → Option (List Da)
  | .tup ds => some ds
  | .cal _ k x y => some [k.a, .str x, .str y]
  | _ => none
theorem De.asT {ds : List Da} (h : De K S v d) (e : d.asT = some ds) : ∃ a xs, v = .ref a ∧ SqT K S a xs ∧ DeAll K S xs ds := by
  cases h with
  | tup h a => cases e; exact ⟨_, _, rfl, SqT.of h, a⟩
  | cal h => cases e; exact ⟨_, _, rfl, h.1, .cons (De.kd _) (.cons (.str _) (.cons (.str _) .nil))⟩
  | _ => cases e
def dTup (n : Nat) (u : DGs) : DG := fun d st P => match (st.fz d).1.asT with
  | some ds => ds.length = n ∧ u ds (st.fz d).2 P
  | none => False
theorem sg_tup {n : Nat} {js : List Nat} {gs : TGs} {dgs : DGs} (hs : SGs K W js gs dgs) : SG K W js (gTup K n gs) (dTup n dgs) := by
  intro S0 H0 S H σ st v d P Q I r he k
  obtain ⟨S1, e1, I1, h1⟩ := fz_ok I r
  unfold dTup at he
  cases ha : (st.fz d).1.asT with
  | none => rw [ha] at he; exact he.elim
  | some ds =>
    rw [ha] at he
    obtain ⟨hn, he⟩ := he
    obtain ⟨a, xs, rfl, hT, hD⟩ := h1.asT ha
    refine ⟨a, xs, rfl, Same.sqT I1.sub hT, by rw [hD.length, hn], ?_⟩
    exact hs S0 H0 S1 H σ _ _ _ _ _ I1 hD he fun S2 H2 σ2 st2 I2 e2 k2 q2 => k S2 H2 σ2 st2 I2 (e1.trans e2) k2 q2
def ixD (n : Nat) (i : Int) : Option Nat := ixN n i
/-- x[i] = v, x a list of one owner -/
def dSetL (a b : DE) : DG := fun d st P => a (st.fz d).2 fun x st1 => b st1 fun i st2 => match x, st2.pk i with
  | .own j, .int i => (match st2.δ[j]? with
    | some (.own c) => ∃ n, ixN c.length i = some n ∧ P { st2 with δ := st2.δ.set j (.own (c.set n (st.fz d).1)) }
    | _ => False)
  | _, _ => False
theorem De.int_of {i : Int} (h : DeH K S H v (.int i)) : v = .int i := by
  rcases h with h | ⟨p, vs, ds, _, e, _⟩ | ⟨p, vs, ds, _, e, _⟩
  · exact h.int_inv
  · cases e
  · cases e
theorem De.str_of {i : Str} (h : DeH K S H v (.str i)) : v = .str i := by
  rcases h with h | ⟨p, vs, ds, _, e, _⟩ | ⟨p, vs, ds, _, e, _⟩
  · exact h.str_inv
  · cases e
  · cases e
theorem De.non_of (h : DeH K S H v .non) : v = .non := by
  rcases h with h | ⟨p, vs, ds, _, e, _⟩ | ⟨p, vs, ds, _, e, _⟩
  · exact h.non_inv
  · cases e
  · cases e
theorem own_at {j : Nat} {ds : List Da} (I : Ok C S H σ st) (r : RelD C.K S σ v (.own j)) (h : st.δ[j]? = some (.own ds)) : ∃ p vs, v = .ref p ∧ σ[j]? = some (some (.ref p)) ∧ S p = none ∧ H p = some (.lst vs) ∧ DeAll C.K S vs ds := by
  rcases r with ⟨i, e, hv⟩ | h
  · cases e
    obtain ⟨p, vs, e1, e2, e3, e4⟩ := I.slot j _ _ hv h
    cases e1
    exact ⟨p, vs, rfl, hv, e2, e3, e4⟩
  · cases h
theorem ownD_at {j : Nat} {kvs : List (L2.Key × Da)} (I : Ok C S H σ st) (r : RelD C.K S σ v (.own j)) (h : st.δ[j]? = some (.ownD kvs)) : ∃ p es, v = .ref p ∧ σ[j]? = some (some (.ref p)) ∧ S p = none ∧ H p = some (.dK es) ∧ DeKV C.K S es kvs := by
  rcases r with ⟨i, e, hv⟩ | h
  · cases e
    obtain ⟨p, vs, e1, e2, e3, e4⟩ := I.slot j _ _ hv h
    cases e1
    exact ⟨p, vs, rfl, hv, e2, e3, e4⟩
  · cases h
theorem sg_setL {ta tb : TE} {a b : DE} (ha : SE K W ta a) (hb : SE K W tb b) : SG K W [] (gSub ta tb rSetL) (dSetL a b) := by
  intro S0 H0 S H σ st v d P Q I r he k
  obtain ⟨S1, e1, I1, h1⟩ := fz_ok I r
  refine ha S0 H0 S1 H σ _ _ _ I1 he fun x dx S2 H2 st2 I2 e2 r2 q2 => ?_
  refine hb S0 H0 S2 H2 σ st2 _ _ I2 q2 fun y dy S3 H3 st3 I3 e3 r3 q3 => ?_
  have r2 := r2.mono e3
  have hp := pk_ok I3 r3
  cases dx with
  | own j =>
    cases hi : st3.pk dy with
    | int i =>
      simp only [hi] at q3
      rw [hi] at hp
      cases hj : st3.δ[j]? with
      | none => rw [hj] at q3; exact q3.elim
      | some s =>
        rw [hj] at q3
        cases s with
        | own c =>
          obtain ⟨n, hn, q⟩ := q3
          obtain ⟨p, vs, rfl, hv, hS, hH, hD⟩ := own_at I3 r2 hj
          rw [De.int_of hp]
          refine ⟨p, vs, i, n, rfl, rfl, hH, by rw [hD.length]; exact hn, ?_⟩
          exact k _ _ _ _ (I3.mut hj rfl hv hS (s' := .own (c.set n (st.fz d).1)) ⟨p, _, rfl, hS, upd_same, hD.set (h1.mono (e2.trans e3)) n⟩ rfl) ((e1.trans e2).trans e3) ⟨rfl, fun _ _ => rfl⟩ q
        | _ => exact q3.elim
    | _ => simp only [hi] at q3
  | _ => exact (by dsimp only at q3)
/-! ### statements -/
def cNext : DC := fun D st => D.nx st
def cSeq (c u : DC) : DC := fun D st => c { D with nx := u D } st
def cDrop (e : DE) : DC := fun D st => e st fun _ st1 => D.nx st1
def cRet (e : DE) : DC := fun D st => e st fun d st1 => D.rt (st1.fz d).1 (st1.fz d).2
def cRetN : DC := fun D st => D.rt .non st
def cIf (t : DT) (c u : DC) : DC := fun D st => t st fun b st1 => if b = true then c D st1 else u D st1
def cAsg (e : DE) (g : DG) : DC := fun D st => e st fun d st1 => g d st1 D.nx
def cAsgN (i : Nat) (α : DA) : DC := fun D st => α st fun ds st1 => D.nx { st1 with δ := st1.δ.set i (.own ds) }
def cBreak : DC := fun D st => D.bk st
def cCont : DC := fun D st => D.ct st
def cAug (i : Nat) (e : DE) (f : F2) : DC := fun D st => eVar i st fun x st0 => e st0 fun y st1 => f (st1.pk x) (st1.pk y) fun d => D.nx { st1 with δ := st1.δ.set i (.dat d) }
def cNever : DC := fun _ _ => False
theorem ss_next : SS K W tNext cNext := fun S0 H0 S H σ st D E I h k => k.nx S H σ st I h
theorem ss_break : SS K W tBreak cBreak := fun S0 H0 S H σ st D E I h k => k.bk S H σ st I h
theorem ss_cont : SS K W tCont cCont := fun S0 H0 S H σ st D E I h k => k.ct S H σ st I h
theorem ss_never : SS K W tNever cNever := fun S0 H0 S H σ st D E I h k => h.elim
theorem ss_seq (h : SS K W t c) (hu : SS K W u cu) : SS K W (tSeq t u) (cSeq c cu) := fun S0 H0 S H σ st D E I he k =>
  h S0 H0 S H σ st _ _ I he ⟨fun S H σ st I q => hu S0 H0 S H σ st D E I q k, k.rt, k.bk, k.ct⟩
theorem ss_drop (h : SE K W te e) : SS K W (tDrop te) (cDrop e) := fun S0 H0 S H σ st D E I he k => h S0 H0 S H σ st _ _ I he fun v d S' H' st' I' e' r q => k.nx _ _ _ _ I' q
theorem ss_ret (h : SE K W te e) : SS K W (tRet te) (cRet e) := fun S0 H0 S H σ st D E I he k => h S0 H0 S H σ st _ _ I he fun v d S' H' st' I' e' r q => by
  obtain ⟨S1, e1, I1, h1⟩ := fz_ok I' r
  exact k.rt _ _ _ _ _ _ I1 h1 q
theorem ss_retN : SS K W tRetN cRetN := fun S0 H0 S H σ st D E I he k => k.rt _ _ _ _ _ _ I .non he
theorem ss_if (hc : ST K W tc ec) (h : SS K W t c) (hu : SS K W u cu) : SS K W (tIfS tc t u) (cIf ec c cu) := by
  intro S0 H0 S H σ st D E I he k
  refine hc S0 H0 S H σ st _ _ I he fun b S1 H1 st1 I1 e1 q1 => ?_
  cases b
  · exact hu S0 H0 S1 H1 σ st1 D E I1 q1 k
  · exact h S0 H0 S1 H1 σ st1 D E I1 q1 k
theorem ss_asg {js : List Nat} {g : TG} {dg : DG} (h : SE K W te e) (hg : SG K W js g dg) : SS K W (tAsg te g) (cAsg e dg) := fun S0 H0 S H σ st D E I he k =>
  h S0 H0 S H σ st _ _ I he fun v d S' H' st' I' e' r q => hg S0 H0 S' H' σ st' v d _ _ I' r q fun S2 H2 σ2 st2 I2 _ _ q2 => k.nx _ _ _ _ I2 q2
theorem ss_asgN {i : Nat} (h : SN K W te α) : SS K W (tAsg te (gName i)) (cAsgN i α) := fun S0 H0 S H σ st D E I he k =>
  h S0 H0 S H σ st _ _ I he fun p vs ds S' H' st' I' e' hp hs hm h0 hn hd q => k.nx _ _ _ _ (I'.setOwn (s := .own ds) ⟨p, vs, rfl, hs, hp, hd⟩ hm h0 hn) q
def RIpOk (K : PySem.W.Frag) (r : TIp) (f : F2) : Prop := ∀ (S H : Hp) (x y : V) (dx dy : Da) (P : Da → Prop) (Q : VK), Same S H → DeH K S H x dx → DeH K S H y dy → f dx dy P → (∀ v d S' H', Ext S H S' H' → De K S' v d → P d → Q v H') → r x y H Q
theorem ss_aug {i : Nat} {r : TIp} {f : F2} (hr : RIpOk K r f) (h : SE K W te e) : SS K W (tAug i te r) (cAug i e f) := by
  intro S0 H0 S H σ st D E I he k
  obtain ⟨x, hx, q⟩ := se_var (K := K) (W := W) (i := i) S0 H0 S H σ st _ (fun x H' => te σ H' fun y H1 => r x y H1 fun z H2 => E.nx (σ.set i (some z)) H2) I he fun x dx S1 H1 st1 I1 e1 r1 q1 => by
    refine h S0 H0 S1 H1 σ st1 _ _ I1 q1 fun y dy S2 H2 st2 I2 e2 r2 q2 => ?_
    exact hr S2 H2 x y _ _ _ _ I2.sub (pk_ok I2 (r1.mono e2)) (pk_ok I2 r2) q2 fun v d S3 H3 ex hd hP => k.nx _ _ _ _ ((I2.ext ex).set hd i) hP
  exact ⟨x, hx, q⟩
/-- a, b = e1, e2 -/
def cPar (i j : Nat) (α : DA) : DC := fun D st => α st fun ds st1 => match (st1.fzs ds).1 with
  | [d1, d2] => D.nx { (st1.fzs ds).2 with δ := ((st1.fzs ds).2.δ.set i (.dat d1)).set j (.dat d2) }
  | _ => False
theorem ss_par {i j : Nat} (h : SA K W A α) : SS K W (tPar i j A) (cPar i j α) := fun S0 H0 S H σ st D E I he k =>
  h S0 H0 S H σ st _ _ I he fun vs ds S' H' st' I' e' r q => by
    obtain ⟨S1, e1, I1, h1⟩ := fzs_ok I' r
    revert q
    generalize st'.fzs ds = z at h1 I1
    obtain ⟨zs, z2⟩ := z
    intro q
    cases h1 with
    | nil => exact q.elim
    | cons a b =>
      cases b with
      | nil => exact q.elim
      | cons b c =>
        cases c with
        | nil => exact ⟨_, _, rfl, k.nx _ _ _ _ ((I1.set a i).set b j) q⟩
        | cons _ _ => exact q.elim
def cWhile (t : DT) (b : DC) : DC := fun D st => ∃ J : Nat → Ds → Prop, (∃ m, J m st) ∧ ∀ m st, J m st → t st fun k st1 => if k = true then b { nx := fun st' => ∃ m', m' < m ∧ J m' st', ct := fun st' => ∃ m', m' < m ∧ J m' st', bk := D.nx, rt := D.rt } st1 else D.nx st1
theorem ss_while (hc : ST K W tc ec) (h : SS K W t c) : SS K W (tWhile tc t) (cWhile ec c) := by
  intro S0 H0 S H σ st D E I he k
  obtain ⟨J, ⟨m0, j0⟩, hJ⟩ := he
  refine ⟨fun m σ H => ∃ S st, Ok ⟨K, W, S0, H0⟩ S H σ st ∧ J m st, ⟨m0, S, st, I, j0⟩, ?_⟩
  rintro m σ H ⟨S, st, I, j⟩
  refine hc S0 H0 S H σ st _ _ I (hJ m st j) fun b S1 H1 st1 I1 e1 q1 => ?_
  cases b
  · exact k.nx _ _ _ _ I1 q1
  · refine ⟨fun σ' H' => ∃ m', m' < m ∧ ∃ S st, Ok ⟨K, W, S0, H0⟩ S H' σ' st ∧ J m' st, fun σ' H' q => q, ?_⟩
    exact h S0 H0 S1 H1 σ st1 _ _ I1 q1 ⟨fun S H σ st I ⟨m', h1, h2⟩ => ⟨m', h1, S, st, I, h2⟩, k.rt, k.nx, fun S H σ st I ⟨m', h1, h2⟩ => ⟨m', h1, S, st, I, h2⟩⟩
/-! ### what is walked -/
abbrev DI := Ds → (List Da → Ds → Prop) → Prop
def ItOk (K : PySem.W.Frag) (S1 : Hp) (J : It) (items : List Da) : Prop := ∀ (i : Nat) (S H : Hp), Same S1 S → Same S H → (items.length ≤ i → J.stop items.length H) ∧ ∀ d, items[i]? = some d → J.go i H ∧ ∀ x H', J.yld i H x H' → ∃ S', Ext S H S' H' ∧ De K S' x d
def SI (K : PySem.W.Frag) (W : Wo) (wi : TI) (di : DI) : Prop := ∀ (S0 H0 S H : Hp) (σ : L2.St) (st : Ds) (P : List Da → Ds → Prop) (R : It → Hp → Prop), Ok ⟨K, W, S0, H0⟩ S H σ st → di st P →
  (∀ J S' H' st' items, Ok ⟨K, W, S0, H0⟩ S' H' σ st' → Same S S' → ItOk K S' J items → P items st' → R J H') → wi σ H R
def forGo (g : DG) (b : DC) (D : DD) : List Da → Ds → Prop
  | [], st => D.nx st
  | x :: xs, st => g x st fun st1 => b { nx := forGo g b D xs, ct := forGo g b D xs, bk := D.nx, rt := D.rt } st1
def cFor (di : DI) (g : DG) (b : DC) : DC := fun D st => di st fun items st1 => forGo g b D items st1
theorem ss_for {js : List Nat} {wi : TI} {di : DI} {g : TG} {dg : DG} (hi : SI K W wi di) (hg : SG K W js g dg) (h : SS K W t c) : SS K W (tFor wi g t) (cFor di dg c) := by
  intro S0 H0 S H σ st D E I he k
  refine hi S0 H0 S H σ st _ _ I he fun J S1 H1 st1 items I1 e1 hJ q1 => ?_
  refine ⟨fun i m σ H => ∃ S st, Ok ⟨K, W, S0, H0⟩ S H σ st ∧ Same S1 S ∧ i ≤ items.length ∧ m = items.length - i ∧ forGo dg c D (items.drop i) st, ⟨_, S1, st1, I1, Same.refl S1, Nat.zero_le _, rfl, q1⟩, ?_⟩
  rintro i m σ H ⟨S, st, I, e, hi, rfl, q⟩
  obtain ⟨hs, hgo⟩ := hJ i S H e I.sub
  by_cases hl : i < items.length
  · right
    have hx : items[i]? = some items[i] := List.getElem?_eq_getElem hl
    obtain ⟨hg1, hy⟩ := hgo _ hx
    rw [List.drop_eq_getElem_cons hl] at q
    refine ⟨hg1, fun σ' H' => ∃ S' st', Ok ⟨K, W, S0, H0⟩ S' H' σ' st' ∧ Same S1 S' ∧ forGo dg c D (items.drop (i + 1)) st', ?_, fun x H' hyl => ?_⟩
    · rintro σ' H' ⟨S', st', I', e', q'⟩
      exact ⟨_, by omega, S', st', I', e', by omega, rfl, q'⟩
    · obtain ⟨S2, ex, hd⟩ := hy x H' hyl
      have I2 := I.ext ex
      refine hg S0 H0 S2 H' σ st x _ _ _ I2 (.inr hd) q fun S3 H3 σ3 st3 I3 e3 k3 q3 => ?_
      have h13 : Same S1 S3 := (e.trans ex.s).trans e3
      have h01 : Same S0 S1 := I1.le
      have up : ∀ {S H σ st}, Ok ⟨K, W, S1, H0⟩ S H σ st → Ok ⟨K, W, S0, H0⟩ S H σ st := fun I => I.down h01 I1.new
      refine h S1 H0 S3 H3 σ3 st3 _ _ (I3.up h01 h13) q3 ⟨fun S H σ st I q => ⟨S, st, up I, I.le, q⟩, fun S H σ st v d I => k.rt _ _ _ _ _ _ (up I), fun S H σ st I => k.nx _ _ _ _ (up I), fun S H σ st I q => ⟨S, st, up I, I.le, q⟩⟩
  · left
    have hi' : i = items.length := by omega
    rw [List.drop_eq_nil_of_le (by omega)] at q
    refine ⟨?_, k.nx _ _ _ _ I q⟩
    rw [hi']
    exact hs (by omega)
/-! ### comprehensions -/
def Ds.wp (st : Ds) : List Nat → Ds
  | [] => st
  | v :: vs => { st.wp vs with δ := (st.wp vs).δ.set v .un }
theorem wp_get : ∀ {vs : List Nat} {st : Ds} {j : Nat} {s : Sl}, (st.wp vs).δ[j]? = some s → s = .un ∨ (j ∉ vs ∧ st.δ[j]? = some s)
  | [], st, j, s, h => .inr ⟨by simp, h⟩
  | v :: vs, st, j, s, h => by
    rcases get_set h with ⟨rfl, rfl⟩ | ⟨n, h⟩
    · exact .inl rfl
    · rcases wp_get h with h | ⟨h1, h2⟩
      · exact .inl h
      · exact .inr ⟨by simp only [List.mem_cons, not_or]; exact ⟨n, h1⟩, h2⟩
theorem wp_len : ∀ (vs : List Nat) (st : Ds), (st.wp vs).δ.length = st.δ.length
  | [], st => rfl
  | v :: vs, st => by show ((st.wp vs).δ.set v .un).length = _; rw [List.length_set, wp_len vs st]
theorem wp_n : ∀ (vs : List Nat) (st : Ds), (st.wp vs).n = st.n
  | [], st => rfl
  | v :: vs, st => wp_n vs st
theorem wipe_get : ∀ {vs : List Nat} {σ : L2.St} {j : Nat}, j ∉ vs → (wipe σ vs)[j]? = σ[j]?
  | [], σ, j, _ => rfl
  | v :: vs, σ, j, h => by
    simp only [List.mem_cons, not_or] at h
    show ((wipe σ vs).set v none)[j]? = _
    rw [List.getElem?_set_ne (Ne.symm h.1), wipe_get h.2]
theorem Ok.wp {vs : List Nat} {σ' : L2.St} (I : Ok C S H σ st) (hl : σ'.length = σ.length) (h : ∀ j, j ∉ vs → σ'[j]? = σ[j]?) : Ok C S H σ' (st.wp vs) := by
  refine ⟨I.le, I.sub, I.fr, I.off, I.new, by rw [wp_n]; exact I.r, by rw [hl, I.len, wp_len], fun j x s h1 h2 => ?_, fun j s p h1 h2 h3 => ?_, fun j k s u p h1 h2 h3 h4 h5 h6 => ?_⟩
  · rcases wp_get h2 with rfl | ⟨n, h2⟩
    · exact True.intro
    · rw [h j n] at h1; exact I.slot j x s h1 h2
  · rcases wp_get h1 with rfl | ⟨n, h1⟩
    · cases h2
    · rw [h j n] at h3; exact I.priv j s p h1 h2 h3
  · rcases wp_get h1 with rfl | ⟨n1, h1⟩
    · cases h3
    · rcases wp_get h2 with rfl | ⟨n2, h2⟩
      · cases h4
      · rw [h j n1] at h5
        rw [h k n2] at h6
        exact I.dis j k s u p h1 h2 h3 h4 h5 h6
theorem wipe_eq {σ σ2 : L2.St} {vs js : List Nat} (hl : σ2.length = σ.length) (h : ∀ i, i ∉ js → σ2[i]? = (wipe σ vs)[i]?) (hs : ∀ j ∈ js, j ∈ vs) : wipe σ2 vs = wipe σ vs := by
  refine List.ext_getElem? fun i => ?_
  by_cases hi : i ∈ vs
  · have hw : ∀ (vs : List Nat) (τ : L2.St), i ∈ vs → (wipe τ vs)[i]? = if i < τ.length then some none else none := by
      intro vs τ
      induction vs with
      | nil => intro m; cases m
      | cons v r ih =>
        intro m
        show ((wipe τ r).set v none)[i]? = _
        by_cases hv : i = v
        · subst hv
          by_cases hl : i < τ.length
          · rw [List.getElem?_set_self (by rw [wipe_length]; exact hl), if_pos hl]
          · rw [List.getElem?_eq_none (by rw [List.length_set, wipe_length]; omega), if_neg hl]
        · rw [List.getElem?_set_ne (Ne.symm hv)]
          exact ih ((List.mem_cons.mp m).resolve_left hv)
    rw [hw vs σ2 hi, hw vs σ hi, hl]
  · rw [wipe_get hi, h i (fun m => hi (hs i m))]
def lcGo (g : DG) (tt : DT) (te : DE) (vs : List Nat) (P : List Da → Ds → Prop) : List Da → List Da → Ds → Prop
  | [], acc, st => P acc (st.wp vs)
  | x :: xs, acc, st => g x (st.wp vs) fun st1 => tt st1 fun b st2 => if b = true then te st2 fun d st3 => acc.length < 100000 ∧ lcGo g tt te vs P xs (acc ++ [(st3.fz d).1]) (st3.fz d).2 else lcGo g tt te vs P xs acc st2
def eLc (di : DI) (g : DG) (tt : DT) (te : DE) (vs : List Nat) : DA := fun st P => di st fun items st1 => lcGo g tt te vs P items [] st1
theorem sn_lc {js vs : List Nat} {wi : TI} {di : DI} {g : TG} {dg : DG} {tt : TT} {et : DT} (hi : SI K W wi di) (hg : SG K W js g dg) (ht : ST K W tt et) (he : SE K W te e) (hjs : ∀ j ∈ js, j ∈ vs) : SN K W (tLc wi g tt te vs) (eLc di dg et e vs) := by
  intro S0 H0 S H σ st P Q I hh k
  refine hi S0 H0 S H σ st _ _ I hh fun J S1 H1 st1 items I1 e1 hJ q1 => ?_
  intro Dl hDl
  have hDm := I1.nm hDl
  have hD0 := I1.h0 hDl
  have hDS := I1.sn hDl
  have hS0D : S0 Dl = none := I1.le.free hDS
  have IA := (I1.alloc (o := .lst []) hDl).hold upd_same hDS hDm (I1.nown hDl)
  have kp : ∀ j, j ∉ vs → σ[j]? = σ[j]? := fun _ _ => rfl
  refine ⟨fun i m H => ∃ S st acc accd, Ok ⟨K, W, S0, upd H0 Dl (.lst acc)⟩ S H σ (st.wp vs) ∧ Same S1 S ∧ i ≤ items.length ∧ m = items.length - i ∧ DeAll K S acc accd ∧ lcGo dg et e vs P (items.drop i) accd st, ⟨_, S1, st1, [], [], IA.wp rfl kp, Same.refl S1, Nat.zero_le _, rfl, .nil, q1⟩, ?_⟩
  rintro i m H ⟨S, st, acc, accd, I, ee, hi, rfl, hacc, q⟩
  obtain ⟨hs, hgo⟩ := hJ i S H ee I.sub
  have hHD := I.held (C := ⟨K, W, S0, H0⟩) hDm
  have hSD : S Dl = none := I.heldS (C := ⟨K, W, S0, H0⟩) hS0D (fun _ z => nomatch z)
  by_cases hl : i < items.length
  · right
    have hx : items[i]? = some items[i] := List.getElem?_eq_getElem hl
    obtain ⟨hg1, hy⟩ := hgo _ hx
    rw [List.drop_eq_getElem_cons hl] at q
    refine ⟨hg1, fun H' => ∃ S st acc accd, Ok ⟨K, W, S0, upd H0 Dl (.lst acc)⟩ S H' σ (st.wp vs) ∧ Same S1 S ∧ DeAll K S acc accd ∧ lcGo dg et e vs P (items.drop (i + 1)) accd st, ?_, fun x H' hyl => ?_⟩
    · rintro H' ⟨S', st', acc', accd', I', e', h', q'⟩
      exact ⟨_, by omega, S', st', acc', accd', I', e', by omega, rfl, h', q'⟩
    · obtain ⟨S2, ex, hd⟩ := hy x H' hyl
      have hww : ∀ j, j ∉ vs → (wipe σ vs)[j]? = σ[j]? := fun j hj => wipe_get hj
      have ww : ∀ (vs : List Nat) (st : Ds), (st.wp vs).wp vs = st.wp vs := by
        have idem : ∀ (vs us : List Nat) (st : Ds), (∀ v ∈ vs, v ∈ us) → (st.wp us).wp vs = st.wp us := by
          intro vs us st
          have un : ∀ (us : List Nat) (v : Nat), v ∈ us → ((st.wp us).δ.set v .un) = (st.wp us).δ := by
            intro us v
            induction us with
            | nil => intro m; cases m
            | cons u r ih =>
              intro m
              show (((st.wp r).δ.set u .un).set v .un) = (st.wp r).δ.set u .un
              by_cases hv : v = u
              · subst hv; rw [List.set_set]
              · rw [List.set_comm _ _ (Ne.symm hv), ih ((List.mem_cons.mp m).resolve_left hv)]
          induction vs with
          | nil => intro _; rfl
          | cons v r ih =>
            intro hm
            show ({ (st.wp us).wp r with δ := ((st.wp us).wp r).δ.set v .un } : Ds) = st.wp us
            rw [ih (fun x m => hm x (List.mem_cons_of_mem _ m)), un us v (hm v List.mem_cons_self)]
        exact fun vs st => idem vs vs st fun _ m => m
      have I2 : Ok ⟨K, W, S0, upd H0 Dl (.lst acc)⟩ S2 H' (wipe σ vs) (st.wp vs) := by
        have := (I.ext ex).wp (vs := vs) (σ' := wipe σ vs) (wipe_length _ _) hww
        rw [ww] at this
        exact this
      refine hg S0 _ S2 H' _ _ x _ _ _ I2 (.inr hd) q fun S3 H3 σ3 st3 I3 e3 k3 q3 => ?_
      have hl3 : σ3.length = σ.length := by rw [k3.1, wipe_length]
      have k3 := k3.2
      refine ⟨wipe_eq hl3 k3 hjs, ?_⟩
      refine ht S0 _ S3 H3 σ3 st3 _ _ I3 q3 fun b S4 H4 st4 I4 e4 q4 => ?_
      have off : ∀ j, j ∉ vs → σ[j]? = σ3[j]? := fun j hj => by rw [k3 j (fun m => hj (hjs j m)), wipe_get hj]
      cases b
      · rw [if_neg Bool.false_ne_true] at q4 ⊢
        have e14 := ((ee.trans ex.s).trans e3).trans e4
        exact ⟨S4, st4, acc, accd, I4.wp hl3.symm off, e14, hacc.mono ((ex.s.trans e3).trans e4), q4⟩
      · rw [if_pos rfl] at q4 ⊢
        refine he S0 _ S4 H4 σ3 st4 _ _ I4 q4 fun y dy S5 H5 st5 I5 e5 r5 q5 => ?_
        obtain ⟨S6, e6, I6, h6⟩ := fz_ok I5 r5
        have hacc6 := hacc.mono ((((ex.s.trans e3).trans e4).trans e5).trans e6)
        have hlen : acc.length < sizeLine := Nat.lt_of_lt_of_le (by rw [hacc.length]; exact q5.1) (by decide)
        refine ⟨acc, I6.held (C := ⟨K, W, S0, H0⟩) hDm, hlen, S6, _, acc ++ [y], accd ++ [(st5.fz dy).1], ?_, ((((ee.trans ex.s).trans e3).trans e4).trans e5).trans e6, hacc6.snoc h6, q5.2⟩
        exact (I6.reput (C := ⟨K, W, S0, H0⟩) hDm (I6.heldS (C := ⟨K, W, S0, H0⟩) hS0D (fun _ z => nomatch z))).wp hl3.symm off
  · left
    have hi' : i = items.length := by omega
    rw [List.drop_eq_nil_of_le (by omega)] at q
    refine ⟨by rw [hi']; exact hs (by omega), ?_⟩
    have ID := I.drop (C := ⟨K, W, S0, H0⟩) hD0
    exact k Dl acc accd S H _ ID (e1.trans ee) hHD hSD hDm hD0 (fun j s h1 h2 h3 => by
      have q : upd H0 Dl (.lst acc) Dl = none := (I.priv j s Dl h1 h2 h3).2
      rw [upd_same] at q; cases q) hacc q
end
end Q

set_option Elab.async false
set_option linter.all false
set_option maxRecDepth 100000
set_option maxHeartbeats 4000000
namespace Q
open PySem PySem.Spec PyProof.Rows L2
/-! ### own exception classes over a base class over ValueError, with an own __init__ -/
def oexB (K : PySem.W.Frag) (C : Addr) : Bool := (match K.lookup C with
  | some ⟨.type "type", _, .cls cd, sl⟩ => (match cd.mro, sl.toList with
    | .ref C' :: bm, [_, _, _, _, some (.builtin n), _] => C' == C && (n == "ValueError.__new__" && (!cd.hasDel && (cd.hasDict && PySem.HandSPX.refsVE bm)))
    | _, _ => false)
  | _ => false) && (decide (PySem.W.findIn K (.ref C) "__setattr__" = some (some (.builtin "object.__setattr__"))) && (decide (PySem.W.subIn K (.ref C) (.type "BaseException") = some true) && (decide (PySem.W.typeIn K (.ref C) = some (.type "type")) && PySem.W.keepIn K (.ref C))))
theorem oexB_ok {K : PySem.W.Frag} {C : Addr} (h : oexB K C = true) : OexC K C := by
  obtain ⟨h1, h⟩ := He.ba h
  obtain ⟨h2, h⟩ := He.ba h
  obtain ⟨h3, h⟩ := He.ba h
  obtain ⟨h4, h5⟩ := He.ba h
  refine ⟨?_, of_decide_eq_true h2, of_decide_eq_true h3, of_decide_eq_true h4, h5⟩
  split at h1
  · rename_i dd cd sl ho
    split at h1
    · rename_i C' bm k0 k1 k2 k3 n k5 hm hs
      simp only [Bool.and_eq_true, beq_iff_eq, Bool.not_eq_true'] at h1
      obtain ⟨rfl, rfl, hdel, hdi, hr⟩ := h1
      obtain ⟨nm, bs, mro, ns, qn, hd, sn, sub, ab, col, del⟩ := cd
      dsimp only at hm hdel hdi
      subst hm hdel hdi
      have hsl : sl = #[k0, k1, k2, k3, some (.builtin "ValueError.__new__"), k5] := by
        obtain ⟨l⟩ := sl
        simp only at hs
        rw [hs]
      subst hsl
      exact ⟨nm, qn, ns, bs, bm, sn, sub, ab, col, dd, k0, k1, k2, k3, k5, ho, hr⟩
    · cases h1
  · cases h1
/-- what is looked at of such a class: x its name -/
def excB (K : PySem.W.Frag) (x : Str) : Bool := oexB K (He.ga K x) && (xfB K (He.ga K x) && decide (PySem.W.findIn K (.ref (He.ga K x)) "value" = some none))
/-- of the base class -/
def basB (K : PySem.W.Frag) (x : Str) : Bool := PySem.W.readsIn K (He.ga K x) (.type "type") && (decide (PySem.W.specialIn K (.ref (He.ga K x)) "__getattribute__" = some (some (.builtin "type.__getattribute__"))) && (match PySem.W.findCls K (.ref (He.ga K x)) (.type "type") "__init__" with
  | some (.val (.builtin n)) => n == "ValueError.__init__"
  | _ => false))
structure HasBase (K : PySem.W.Frag) (mg : Str → Option Value) (x : Str) : Prop where
  hm : mg x = some (.ref (He.ga K x))
  rd : PySem.W.readsIn K (He.ga K x) (.type "type") = true
  ga : PySem.W.specialIn K (.ref (He.ga K x)) "__getattribute__" = some (some (.builtin "type.__getattribute__"))
  ini : PySem.W.findCls K (.ref (He.ga K x)) (.type "type") "__init__" = some (.val (.builtin "ValueError.__init__"))
theorem basB_ok {K : PySem.W.Frag} {mg : Str → Option Value} {x : Str} (hm : mg x = some (.ref (He.ga K x))) (h : basB K x = true) : HasBase K mg x := by
  obtain ⟨h1, h⟩ := He.ba h
  obtain ⟨h2, h3⟩ := He.ba h
  refine ⟨hm, h1, of_decide_eq_true h2, ?_⟩
  split at h3
  · rename_i n e
    rw [e, beq_iff_eq.mp h3]
  · cases h3
/-- the suite of a class's text -/
def clsBody : Stmt → List Stmt
  | .ClassDef _ _ _ b _ _ _ _ _ _ _ => b
  | _ => []
structure HasExc (K : PySem.W.Frag) (mg : Str → Option Value) (x qual : Str) (st : Stmt) : Prop where
  hm : mg x = some (.ref (He.ga K x))
  oex : OexC K (He.ga K x)
  xf : XfC K (He.ga K x)
  nov : PySem.W.findIn K (.ref (He.ga K x)) "value" = some none
  iC : PySem.W.findIn K (.ref (He.ga K x)) "__init__" = some (some (.ref (He.ma K (He.ga K x) "__init__")))
  tI : PySem.W.typeIn K (.ref (He.ma K (He.ga K x) "__init__")) = some (.type "function")
  fn : ∃ fd, FunD K "__init__" qual (defArgs st) (defBody st) (defScope st) [] [] (He.ma K (He.ga K x) "__init__") fd
theorem hasExc {K : PySem.W.Frag} {mg : Str → Option Value} {x qual : Str} {st : Stmt} (hm : mg x = some (.ref (He.ga K x))) (h : excB K x = true) (M : Meth K (He.ga K x) "__init__" (He.ma K (He.ga K x) "__init__"))
    (fn : ∃ fd, FunD K "__init__" qual (defArgs st) (defBody st) (defScope st) [] [] (He.ma K (He.ga K x) "__init__") fd) : HasExc K mg x qual st := by
  obtain ⟨h1, h⟩ := He.ba h
  obtain ⟨h2, h3⟩ := He.ba h
  exact ⟨hm, oexB_ok h1, xfB_ok h2, of_decide_eq_true h3, M.1, beq_iff_eq.mp M.fn, fn⟩
/-! ### D.__init__(self, ..), D the base class -/
theorem pe_dinit {X : Cx} {x : Str} {e : Expr} {es : List Expr} {ta : TA} {p1 p2 pos : Pos} {pl : Sem Bool} (hg : Gl X x) (T : HasBase X.K X.mg x) (ha : PA X (e :: es) ta) (hdb : (x == ("__debug__" : Str)) = false := by decide)
    (hc : eval (.Call (.Attribute (.Name x p1) "__init__" p2) (e :: es) [] pos) X.env = (do
      let ov ← eval (.Name x p1) X.env
      standAt p2.atName
      let (f, first) ← holding [ov] (getMethod ov "__init__" pl)
      callWith pos f first (backTo pos (starEach (e :: es) X.env)) (backToKw pos (keywordEach [] X.env))) := by rfl)
    (he : starEach (e :: es) X.env = (false, eval e X.env) :: starEach es X.env := by rfl) (hpl : (backTo pos (starEach es X.env)).any (·.1) = false := by rfl) :
    PE X (.Call (.Attribute (.Name x p1) "__init__" p2) (e :: es) [] pos) (tVeI X.K ta) := by
  refine ⟨fun pins s σ H Q I h => ?_⟩
  refine PySem.W.methodCall_KW (ld_glob I hg T.hm ?_ hdb) hc
  obtain ⟨m, fr⟩ := I.fr
  refine PySem.W.method_of_cls fr I.ok.mod.kin T.ga (PySem.W.cls_value (I.ok.mod.kin.keeps fr.keep) T.rd T.ini (by decide +kernel) ?_)
  show wpAny _ _ (callWith pos (Value.builtin "ValueError.__init__") [] (backTo pos (starEach (e :: es) X.env)) []) _ _ _
  refine PyProof.Rows.callWith_method1 (thn (ha.run pos pins _ σ H _ (I.tok _) h) fun us s1 ⟨vs, H1, I1, r1, a, C, ws, ev, hl, T, ea, q⟩ => ?_) he hpl
  subst ev
  cases r1 with
  | @cons _ u0 _ ur ra rw' =>
    obtain rfl : u0 = Value.ref a := ra
    have hlen : ur.length ≤ sizeLine := by
      rw [← Paired.length rw', sizeLine_eq]
      omega
    exact oinit_ok T I1 ea hlen fun s' J => ⟨.non, H1, J, rfl, q⟩
/-! ### the __init__ of such a class -/
def spI (C : Addr) : Sp := fun vs H Q _ => vs.length = 2 ∧ ∃ (a : Addr) (v : V), vs = [.ref a, v] ∧ H a = some (exo a C none) ∧ ∀ dx, H dx = none → dx ≠ a → Q .non (upd (upd H dx (exd dx [("value", v)])) a (exo a C (some dx)))
def tI (K : PySem.W.Frag) (m : Str) : TS := tSeq (tDrop (tVeI K (tCons (tVar 0) (tCons (tC (.str m)) tNil)))) (tOst K "value" (tVar 0) (tVar 1))
theorem pure_I {K : PySem.W.Frag} {m : Str} {C : Addr} {vs : List V} {H : Hp} {Q : VK} {E : XK} (T : OexC K C) (hn : PySem.W.findIn K (.ref C) "value" = some none) (h : spI C vs H Q E) : tI K m { nx := fun _ H' => Q .non H', rt := Q } (start ["self", "value"] vs) H := by
  obtain ⟨_, a, v, rfl, ha, q⟩ := h
  refine ⟨.ref a, rfl, a, C, [.str m], rfl, show 1 ≤ 1000 by decide, T, ha, ?_⟩
  exact ⟨v, rfl, .ref a, rfl, a, C, rfl, T, hn, .inl ⟨ha, fun dx n ne => q dx n ne⟩⟩
/-- such a class's __init__ keeps that -/
def ExcOk (P : Program) (w : World) (K : PySem.W.Frag) (mg : Str → Option Value) (base : Heap) (C fI : Addr) : Prop := ∃ fd, FnOk P w K mg base CX0 1 fI fd ["self", "value"] (spI C) ∧ Binds K fd ["self", "value"] []
/-- BadX(v) -/
theorem pmk_bad {X : Cx} {x qual : Str} {st : Stmt} {e : Expr} {te : TE} {p pos : Pos} (T : HasExc X.K X.mg x qual st) (F : ExcOk X.prog X.w X.K X.mg X.base (He.ga X.K x) (He.ma X.K (He.ga X.K x) "__init__")) (hr : Room 2 X.A) (hg : Gl X x) (he' : PE X e te)
    (hdb : (x == ("__debug__" : Str)) = false := by decide) (he : starEach [e] X.env = (false, eval e X.env) :: starEach [] X.env := by rfl) (hpl : (backTo pos (starEach [] X.env)).any (·.1) = false := by rfl) :
    PMk X (.Call (.Name x p) [e] [] pos) (tMkO (He.ga X.K x) (spI (He.ga X.K x)) [] (tCons te tNil)) := by
  obtain ⟨fd, F, B⟩ := F
  exact pmk_oex T.oex T.iC T.tI F hr B .nil pass0 hg T.hm (pa_cons he' pa_nil (by rw [he])) hdb he hpl
/-- what such a call leaves -/
theorem w_bad {C : Addr} {te : TE} {v : V} {σ : L2.St} {H : Hp} {Q : XK} (h : ∀ Q : VK, Q v H → te σ H Q) (q : ∀ d, H d = none → Q (.ref C) (some d) (upd H d (.xd [("value", v)]))) : tMkO C (spI C) [] (tCons te tNil) σ H Q := by
  refine h _ ⟨show 1 ≤ 1000 by decide, fun a ha => ⟨rfl, a, v, rfl, upd_same, fun dx n ne => ?_⟩⟩
  have hd : H dx = none := by
    rw [upd_ne ne] at n
    exact n
  refine ⟨rfl, dx, [("value", v)], upd_same, ?_, hd, ?_⟩
  · rw [upd_ne ne]
    exact upd_same
  · have e : upd (del (upd (upd (upd H a (exo a C none)) dx (exd dx [("value", v)])) a (exo a C (some dx))) a) dx (.xd [("value", v)]) = upd H dx (.xd [("value", v)]) := by
      funext b
      by_cases hb : b = dx
      · rw [hb, upd_same, upd_same]
      · rw [upd_ne hb, upd_ne hb]
        by_cases hba : b = a
        · rw [hba, del_same, ha]
        · rw [del_ne hba, upd_ne hba, upd_ne hb, upd_ne hba]
    rw [e]
    exact q dx hd
/-- raise BadX(v) -/
def tRaise (C : Addr) (te : TE) (W : WX) : TS := fun _ σ H => tMkO C (spI C) [] (tCons te tNil) σ H fun cls d H' => W cls d σ H'
theorem z_raise {C : Addr} {te : TE} {v : V} {W : WX} {D : Ends} {σ : L2.St} {H : Hp} (h : ∀ Q : VK, Q v H → te σ H Q) (q : ∀ d, H d = none → W (.ref C) (some d) σ (upd H d (.xd [("value", v)]))) : tRaise C te W D σ H := w_bad h q
/-- E as a wish -/
abbrev XW (E : XK) : WX := fun cls d _ H => E cls d H
/-! ### try -/
def tTry (K : PySem.W.Frag) (x : Str) (i : Nat) (Wout : WX) (tb : WX → TS) (ts : Addr → Value → Option Addr → TS) : TS := fun D σ H => tb (wAs K (.ref (He.ga K x)) i ts Wout D) D σ H
theorem ps_tryT {X : Cx} {x n : Str} {i : Nat} {body suite : List Stmt} {b₀ : Stmt} {np pos pos' : Pos} {tb : WX → TS} {ts : Addr → Value → Option Addr → TS} {Wout : WX}
    (hm : X.mg x = some (.ref (He.ga X.K x))) (hs : X.stack = X.env :: X.outer) (hf : X.env.frame = some X.env.locals) (hN : X.N.Nodup) (hi : X.N[i]? = some n) (hln : X.env.kindOf n = some .local) (hg : Gl X x) (tk : Takes X Wout)
    (hb : ∀ (W : WX) (pn : List (Addr × Obj)) (xe : Value → Shared → Prop), Takes (X.tr pn xe) W → PassesOwn (model X.prog X.w) X.A X.env xe → PSs (X.tr pn xe) body (tb W))
    (hsu : ∀ (a : Addr) (oe : Obj) (cls : Value) (d : Option Addr) (pn : List (Addr × Obj)), Zc cls d oe → (∃ vs, oe.data = .fields vs) → PSs (X.suite a ((a, oe) :: pn)) (b₀ :: suite) (ts a cls d)) (hdb : (x == ("__debug__" : Str)) = false := by decide) :
    PS X (.Try body [.ExceptHandler (some (.Name x np)) (some n) (b₀ :: suite) pos'] [] [] pos) (tTry X.K x i Wout tb ts) := ps_try_as hs hf hN hi hln ⟨hg, hdb, .inl hm⟩ tk hb hsu
/-- e.f in the suite, e of any class -/
def tXfA (K : PySem.W.Frag) (a : Addr) (cls : Value) (d : Option Addr) (f : Str) (te : TE) : TE := fun σ H Q => te σ H fun x H1 => x = .ref a ∧ ∃ (C dd : Addr) (fs : List (Str × V)) (v : V), cls = .ref C ∧ XfC K C ∧ PySem.W.findIn K (.ref C) f = some none ∧ d = some dd ∧ H1 dd = some (.xd fs) ∧ fs.lookup f = some v ∧ Q v H1
theorem pe_xfA {X : Cx} {a : Addr} {oe : Obj} {cls : Value} {d : Option Addr} {pn : List (Addr × Obj)} {e : Expr} {te : TE} {pos : Pos} {n : Str}
    (hz : Zc cls d oe) (hf : ∃ vs, oe.data = .fields vs) (he : PE (X.suite a ((a, oe) :: pn)) e te) (hb : attributeBase e n X.env (eval e X.env) = eval e X.env := by rfl) :
    PE (X.suite a ((a, oe) :: pn)) (.Attribute e n pos) (tXfA X.K a cls d n te) := by
  refine ⟨fun pins s σ H Q I h => ?_⟩
  refine attr_of hb (thn (he.run pins s σ H _ I h) fun u s1 hh => ?_)
  obtain ⟨x, H1, I1, rx, ex, C, dd, fs, v, ec, T, hno, ed, ea, l, q⟩ := hh
  subst ex
  obtain rfl : u = Value.ref a := rx
  subst ec
  subst ed
  obtain ⟨ha, _⟩ := I1.pin (a, oe) (List.mem_append_left _ List.mem_cons_self)
  obtain ⟨vs, hd⟩ := hf
  have hx : ObjOk X.prog X.w H1 s1.heap dd (.xd fs) := I1.hok dd _ ea
  obtain ⟨mA, hns, hr⟩ := hx
  obtain ⟨od, ho, hl⟩ := lookIn_ns hns
  obtain ⟨u, hu, ru⟩ := RelO.some_of (v := v) (o := mA n) (by rw [← l]; exact hr n)
  have J : PySem.W.InstAt s1.heap a oe C (some od) := ⟨ha, hz.1, by unfold PySem.W.notCls; rw [hd] <;> rfl, by rw [hz.2]; exact ho⟩
  exact HandSPX.exc_get I1.kIn J T.ga T.gg T.exC (PySem.W.findObj_own T.hdC hno rfl (by rw [hl, hu])) (handed_of ru) ⟨v, H1, I1.tok _, ru, q⟩
section
variable {K : PySem.W.Frag}
theorem w_xf {a C dd : Addr} {f : Str} {te : TE} {fs : List (Str × V)} {v : V} {σ : L2.St} {H : Hp} {Q : VK} (h : ∀ Q : VK, Q (.ref a) H → te σ H Q) (T : XfC K C) (hn : PySem.W.findIn K (.ref C) f = some none) (e : H dd = some (.xd fs)) (l : fs.lookup f = some v) (q : Q v H) : tXfA K a (.ref C) (some dd) f te σ H Q := h _ ⟨rfl, C, dd, fs, v, rfl, T, hn, rfl, e, l, q⟩
end
/-- what a handler's reading leans on: x's exceptions, the clause's class m -/
structure ExF (K : PySem.W.Frag) (x m : Str) (b : Bool) : Prop where
  exm : PySem.W.exmOne K (.ref (He.ga K x)) (.ref (He.ga K m)) = some b
  xf : XfC K (He.ga K x)
  nov : PySem.W.findIn K (.ref (He.ga K x)) "value" = some none
/-- a call whose exceptions are taken -/
theorem pe_callDX {X : Cx} {CX : CXT} {k : Nat} {ps : List Str} {sp : Sp} {st : Stmt} {E : L2.St → XK} {x : Str} {p pos : Pos} {e : Expr} {es : List Expr} {t : TA} (F : Def X.prog X.w X.K X.mg X.base CX k x ps st sp) (hr : Room k X.A) (hg : Gl X x) (hx : ∀ σ, PassesAt CX X σ (E σ))
    (ha : PA X (e :: es) t) (hdb : (x == ("__debug__" : Str)) = false := by decide) (he : starEach (e :: es) X.env = (false, eval e X.env) :: starEach es X.env := by rfl) (hpl : (backTo pos (starEach es X.env)).any (·.1) = false := by rfl) :
    PE X (.Call (.Name x p) (e :: es) [] pos) (tCallS sp E t) := by
  obtain ⟨f, fd, hm, kp, _, hb, G⟩ := F
  exact pe_callS G hr hg hm kp hb hx ha hdb he hpl
section
variable {K : PySem.W.Frag} {D : Ends} {σ : L2.St} {H : Hp} {rest : TS}
/-- an if, behind it P -/
theorem z_ifM {c : TT} {t u : TS} (P : L2.St → Hp → Prop) (hP : ∀ σ H, P σ H → rest D σ H) (q : ∀ R : L2.St → Hp → Prop, (∀ σ H, P σ H → R σ H) → c σ H fun b H1 => if b = true then t { D with nx := R } σ H1 else u { D with nx := R } σ H1) : tSeq (tIfS c t u) rest D σ H := q (rest D) hP
theorem z_tryM {x : Str} {i : Nat} {Wout : WX} {tb : WX → TS} {ts : Addr → Value → Option Addr → TS} (P : L2.St → Hp → Prop) (hP : ∀ σ H, P σ H → rest D σ H)
    (q : ∀ R : L2.St → Hp → Prop, (∀ σ H, P σ H → R σ H) → tb (wAs K (.ref (He.ga K x)) i ts Wout { D with nx := R }) { D with nx := R } σ H) : tSeq (tTry K x i Wout tb ts) rest D σ H := q (rest D) hP
theorem w_callS {sp : Sp} {E : L2.St → XK} {A : TA} {Q : VK} (q : A σ H fun vs H1 => sp vs H1 Q (E σ)) : tCallS sp E A σ H Q := q
/-- an expression, behind it P -/
theorem w_mid {te : TE} {Q : VK} (P : V → Hp → Prop) (hP : ∀ v H, P v H → Q v H) (q : ∀ Q : VK, (∀ v H, P v H → Q v H) → te σ H Q) : te σ H Q := q Q hP
/-- the clause is the right one -/
theorem w_caught {c : Value} {i : Nat} {ts : Addr → Value → Option Addr → TS} {Wout : WX} {cls : Value} {d : Option Addr} (h : PySem.W.exmOne K cls c = some true)
    (q : ∀ a, H a = none → ts a cls d { nx := fun σ' H' => D.nx (σ'.set i none) H', rt := D.rt, bk := fun σ' H' => D.bk (σ'.set i none) H', ct := fun σ' H' => D.ct (σ'.set i none) H' } (σ.set i (some (.ref a))) H) : wAs K c i ts Wout D cls d σ H :=
  ⟨true, h, fun _ => q, fun z => nomatch z⟩
end
/-! ### the head's hook, with more looks -/
abbrev AlX : Type := He.AlD × Bool
def frX (g : Addr → Option Obj) (n : Nat) : PySem.W.Frag := He.frG g (PySem.cStatics :: He.asD g n)
def obsXG (n : Nat) (fa : List He.Fa) (fn : List He.DefD) (ex : PySem.W.Frag → Bool) (g : Addr → Option Obj) : AlX := (He.obsD fa fn (frX g n), ex (frX g n))
def hookX (n : Nat) (fa : List He.Fa) (fn : List He.DefD) (ex : PySem.W.Frag → Bool) : PySem.W.Hook where
  α := AlX
  obs := fun s => obsXG n fa fn ex s.heap.get?
  val := fun _ => (He.valD fn, true)
  says := fun _ h => ∃ K : PySem.W.Frag, K.In h ∧ He.SaysD fa fn K ∧ ex K = true
  of := fun _ _ e => ⟨_, He.frG_in, congrArg (fun z : AlX => z.1) e, congrArg (fun z : AlX => z.2) e⟩
  keeps := fun _ _ _ ⟨K, hK, c⟩ k => ⟨K, PySem.W.Frag.In.keeps hK k, c⟩
theorem obsXG_eq {n : Nat} {fa : List He.Fa} {fn : List He.DefD} {ex : PySem.W.Frag → Bool} {g : Addr → Option Obj} {s : Shared} (h : ∀ a, g a = s.heap.get? a) : obsXG n fa fn ex g = (hookX n fa fn ex).obs s := by
  have e : g = s.heap.get? := funext h
  rw [e] <;> rfl
end Q

set_option Elab.async false
set_option linter.all false
set_option maxRecDepth 100000
set_option maxHeartbeats 4000000
namespace Q
open PySem PySem.Spec PyProof.Rows L2
/-! ### x in (..), compared as data -/
def rInDT (K : PySem.W.Frag) : R2 := fun x y H Q => ∃ d ds, Dp K H x d ∧ Dp K H y (.tuple ds) ∧ SeqAt.shaped d = true ∧ SeqAt.shaped (.tuple ds) = true ∧ Q (.bl (ds.any fun z => PyData.eqv z d)) H
theorem op_inDT {X : Cx} (hu : X.A.units + 65 < cLine) : OpR X (compareOp .In) (rInDT X.K) := by
  intro pins s σ H x y v u Q I rx ry h
  obtain ⟨d, ds, hd, he, sd, se, q⟩ := h
  obtain ⟨as, r1⟩ := Dp.reads I d x v hd rx
  obtain ⟨bs, r2⟩ := Dp.reads I (.tuple ds) y u he ry
  exact SeqAt.in_tuple_reads r2 r1 (SeqAt.canLay_of_shaped se) (SeqAt.canLay_of_shaped sd) (room_in_shaped sd hu) ⟨.bl _, H, I, rfl, q⟩
theorem o_inDT {n m : Nat} {K : PySem.W.Frag} {H : Hp} {Q : VK} {x y : V} {d : PyData} {ds : List PyData} (hx : Dt H x d) (hy : Dt H y (.tuple ds)) (sd : Sh n d) (se : Sh m (.tuple ds)) (hn : n ≤ 64) (hm : m ≤ 64) (q : Q (.bl (ds.any fun z => PyData.eqv z d)) H) : rInDT K x y H Q := ⟨d, ds, hx.dp, hy.dp, sd.shaped hn, se.shaped hm, q⟩
/-! ### defs as values -/
theorem HasDef.mg {K : PySem.W.Frag} {mg : Str → Option Value} {x : Str} {st : Stmt} (T : HasDef K mg x st) : mg x = some (.ref (He.ga K x)) := by
  obtain ⟨fd, _, h⟩ := T
  exact h
structure HeldX (P : Program) (w : World) (K : PySem.W.Frag) (mg : Str → Option Value) (base : Heap) (CX : CXT) (k : Nat) (f : Addr) (sp : Sp) : Prop where
  ex : ∃ (fd : FuncData) (ps : List Str), FnOk P w K mg base CX k f fd ps sp ∧ PySem.W.keepIn K (.ref f) = true ∧ Binds K fd ps []
theorem heldX {P : Program} {w : World} {K : PySem.W.Frag} {mg : Str → Option Value} {base : Heap} {CX : CXT} {j k : Nat} {x : Str} {ps : List Str} {st : Stmt} {sp : Sp} (T : HasDef K mg x st) (F : Def P w K mg base CX j x ps st sp) (h : j ≤ k) : HeldX P w K mg base CX k (He.ga K x) sp := by
  obtain ⟨f, fd, hm, kp, _, hb, G⟩ := F
  have e := hm.symm.trans T.mg
  cases e
  exact ⟨fd, ps, G.mono h, kp, hb⟩
/-- one of some defs, called: the promise goes with the address -/
def tCallF (S : Addr → Sp → Prop) (E : L2.St → XK) (tf : TE) (t : TA) : TE := fun σ H Q => tf σ H fun v H1 => ∃ (f : Addr) (sp : Sp), v = .ref f ∧ S f sp ∧ t σ H1 fun vs H2 => sp vs H2 Q (E σ)
theorem pe_callF {X : Cx} {CX : CXT} {k : Nat} {S : Addr → Sp → Prop} {E : L2.St → XK} {a b e : Expr} {es : List Expr} {tf : TE} {t : TA} {p pos : Pos} (A : ∀ f sp, S f sp → HeldX X.prog X.w X.K X.mg X.base CX k f sp) (hr : Room k X.A) (hx : ∀ σ, PassesAt CX X σ (E σ))
    (hf : PE X (.Subscript a b p) tf) (ha : PA X (e :: es) t) (he : starEach (e :: es) X.env = (false, eval e X.env) :: starEach es X.env := by rfl) (hpl : (backTo pos (starEach es X.env)).any (·.1) = false := by rfl) :
    PE X (.Call (.Subscript a b p) (e :: es) [] pos) (tCallF S E tf t) := by
  refine ⟨fun pins s σ H Q I h => ?_⟩
  have arm : eval (.Call (.Subscript a b p) (e :: es) [] pos) X.env = (do callWith pos (← eval (.Subscript a b p) X.env) [] (backTo pos (starEach (e :: es) X.env)) (backToKw pos (keywordEach [] X.env))) := rfl
  rw [arm]
  refine wpAny_bind (thn (hf.run pins s σ H _ I h) fun u s1 ⟨v, H1, I1, r1, f, sp, ev, hS, q⟩ => ?_)
  subst ev
  obtain rfl : u = Value.ref f := r1
  obtain ⟨fd, ps, F, hk, hb⟩ := (A f sp hS).ex
  refine PySem.W.callWith_K (h₀ := X.base) I1.ok.mod.kin hk (thn (ha.run pos pins s1 σ _ _ I1 q) fun us s2 ⟨vs, H2, I2, r, q2⟩ => ⟨I2.kIn, ?_⟩) he hpl
  exact run_fnS F hr hb (hx σ) I2 r q2
section
variable {K : PySem.W.Frag} {D : Ends} {σ : L2.St} {H : Hp}
theorem w_callF {S : Addr → Sp → Prop} {E : L2.St → XK} {tf : TE} {t : TA} {Q : VK} (q : tf σ H fun v H1 => ∃ (f : Addr) (sp : Sp), v = .ref f ∧ S f sp ∧ t σ H1 fun vs H2 => sp vs H2 Q (E σ)) : tCallF S E tf t σ H Q := q
theorem z_try1 {x : Str} {i : Nat} {Wout : WX} {tb : WX → TS} {ts : Addr → Value → Option Addr → TS} (q : tb (wAs K (.ref (He.ga K x)) i ts Wout D) D σ H) : tTry K x i Wout tb ts D σ H := q
theorem ite_nn {A B : Prop} (q : B) : if (!decide (V.non = V.non)) = true then A else B := q
theorem ite_nr {A B : Prop} {a : Addr} (q : A) : if (!decide (V.ref a = V.non)) = true then A else B := q
theorem ite_dn {A B : Prop} (q : A) : if decide (V.non = V.non) = true then A else B := q
theorem ite_dr {A B : Prop} {a : Addr} (q : B) : if decide (V.ref a = V.non) = true then A else B := q
end
end Q

set_option Elab.async false
set_option linter.all false
set_option maxRecDepth 100000
set_option maxHeartbeats 4000000
/-! Defs that ask for repr: turned after HandS' fn_of, pe_call, law_call, walk_ofE, with the guards known. -/
namespace Q
open PySem PySem.Spec PyProof.Rows L2
structure FnG (P : Program) (w : World) (K : PySem.W.Frag) (mg : Str → Option Value) (base : Heap) (CX : CXT) (k : Nat) (f : Addr) (fd : FuncData) (ps : List Str) (sp : Sp) : Prop where
  len : ∀ vs H Q E, sp vs H Q E → vs.length = ps.length
  run : ∀ (A : Around) (outer : List Env) (s : Shared) (H : Hp) (args : Args) (us : List Value) (vs : List V) (Q : VK) (E : XK), Room k A → A.guards = some [] → Env0 P w K mg base A outer s H → BindsTo s fd args (ps.zip us) → Vals vs us → sp vs H Q E →
    codeAny (model P w) A (.call (.ref f) args) (CR CX outer P w H s Q E) s
theorem fnG_of {CX : CXT} {P : Program} {w : World} {K : PySem.W.Frag} {mg : Str → Option Value} {base : Heap} {k : Nat} {f : Addr} {name qual : Str} {params : Arguments} {body : List Stmt} {scope : Scope} {dV kV doc pm cdv ct oc : Value} {an od : Option Addr}
    {osl : Array (Option Value)} {N ps : List Str} {sp : Sp} (lk : K.lookup f = some ⟨oc, od, .func (PySem.W.fnOf name qual params body scope dV kV doc pm an cdv ct), osl⟩) (hcd : PySem.W.codeIn K cdv qual = true) (S : FnScope N ps scope)
    (len : ∀ vs H Q E, sp vs H Q E → vs.length = ps.length)
    (hbody : ∀ (A : Around) (outer : List Env) (s : Shared) (H : Hp) (vs : List V) (Q : VK) (E : XK), Room k (A.deeper (envOfC qual scope s.heap.objs.size f cdv)) → A.guards = some [] → sp vs H Q E →
      ∃ t, PSs (cxOf CX P w K mg base N qual scope f cdv A outer s H E) body t ∧ t { nx := fun _ H' => Q .non H', rt := Q } (start N vs) H) :
    FnG P w K mg base CX (k + 1) f (PySem.W.fnOf name qual params body scope dV kV doc pm an cdv ct) ps sp := by
  refine ⟨len, fun A outer s H args us vs Q E hr hgd e0 hb r hsp => ?_⟩
  have hl := len _ _ _ _ hsp
  have KX : K.In s.heap := e0.mod.kin.keeps fun b o e => (e0.bs b o e).1
  have lim : s.heap.NoLimit := e0.mod.nolimit.keeps fun b o e => (e0.bs b o e).1
  have hkind : ∀ y ∈ ps.zip us, scope.names.lookup y.1 = some .local ∨ (scope.names.lookup y.1 = some .cell ∧ ((cellsFrom (s.heap.objs.size + 1) scope.names []).lookup y.1).isSome = true) := fun ⟨n, v⟩ hy => by
    rcases S.par n (List.of_mem_zip hy).1 with q | q
    · exact .inl q
    · exact .inr ⟨q, PySem.W.cellsFrom_some _ _ _ (.inl q)⟩
  refine codeAny_call_function hr.depth (KX _ _ lk) rfl S.co S.gen rfl (PySem.W.codeRec_of KX hcd) (hb _ _ _ _ ?_)
  refine wpAny_newFunctionEnv_cells S.kind hkind fun env he s1 x => ?_
  subst he
  refine ⟨lim.keeps x.toInCall.keep, codeAny_func ?_⟩
  obtain ⟨t, ht, hq⟩ := hbody A outer s H vs Q E (hr.deeper _) hgd hsp
  have I : Inv (cxOf CX P w K mg base N qual scope f cdv A outer s H E) [] (start N vs) H s1 := inv_start S hr.hd e0 hl r x
  refine wpAny_mono (ht.run [] s1 (start N vs) H _ I hq) (fun fl s' hs => ?_) fun e s' hs => hs
  have fin : ∀ {σ' : L2.St} {H' : Hp} {v : V} {u : Value}, Inv (cxOf CX P w K mg base N qual scope f cdv A outer s H E) [] σ' H' s' → RelV v u → Q v H' → CE outer P w H s Q u s' :=
    fun {σ' H' v u} J rv q => ⟨v, H', J.os, J.bare, J.base, J.hok, rv, q⟩
  cases fl with
  | ret u =>
    obtain ⟨v, σ', H', J, rv, q⟩ := hs
    exact fin J rv q
  | next =>
    obtain ⟨σ', H', J, q⟩ := hs
    exact fin (v := V.non) (u := Value.none) J rfl q
  | brk =>
    obtain ⟨_, _, _, q⟩ := hs
    exact False.elim q
  | cont =>
    obtain ⟨_, _, _, q⟩ := hs
    exact False.elim q
section
variable {X : Cx} {CX : CXT} {k : Nat} {f C : Addr} {fd : FuncData} {ps : List Str} {sp : Sp} {dvs : List V} {ds : List Value} {E : XK} {x m : Str} {p pos apos : Pos} {e o : Expr} {es : List Expr} {ta : TE} {t : TA}
theorem run_fnG {pins : List (Addr × Obj)} {σ : L2.St} {H : Hp} {s : Shared} {Q : VK} {us : List Value} {vs : List V} (F : FnG X.prog X.w X.K X.mg X.base CX k f fd ps sp) (hr : Room k X.A) (hgd : X.A.guards = some []) (hb : Binds X.K fd ps ds) (hd : Vals dvs ds) (hx : Passes CX X E)
    (I : Inv X pins σ H s) (r : Vals vs us) (h : sp (vs ++ dvs) H Q E) : wpAny (model X.prog X.w) X.A (call (.ref f) us) (EP X pins σ Q) X.xe s := by
  have r2 : Vals (vs ++ dvs) (us ++ ds) := r.append hd
  have hl : (us ++ ds).length = ps.length := by rw [← r2.length]; exact F.len _ _ _ _ h
  refine wpAny_call (codeAny_mono (F.run X.A X.stack s H ⟨us, []⟩ (us ++ ds) (vs ++ dvs) Q E hr hgd I.env0 (hb s us I.kIn hl) r2 h) fun r s' hq => ?_)
  cases r with
  | error e => exact hx pins σ H s e s' I hq
  | ok fl =>
    cases fl with
    | ret u => exact I.after hq
    | next => exact False.elim hq
    | brk => exact False.elim hq
    | cont => exact False.elim hq

theorem pe_callG (F : FnG X.prog X.w X.K X.mg X.base CX k f fd ps sp) (hr : Room k X.A) (hgd : X.A.guards = some []) (hg : Gl X x) (hm : X.mg x = some (.ref f)) (hk : PySem.W.keepIn X.K (.ref f) = true) (hb : Binds X.K fd ps ds) (hd : Vals dvs ds) (hx : Passes CX X E)
    (ha : PA X (e :: es) t) (hdb : (x == ("__debug__" : Str)) = false := by decide) (he : starEach (e :: es) X.env = (false, eval e X.env) :: starEach es X.env := by rfl) (hpl : (backTo pos (starEach es X.env)).any (·.1) = false := by rfl) :
    PE X (.Call (.Name x p) (e :: es) [] pos) (tCall sp dvs E t) := by
  refine ⟨fun pins s σ H Q I h => ?_⟩
  refine wpAny_Call_Name_kw (ld_glob I hg hm ?_ hdb)
  refine PySem.W.callWith_K (h₀ := X.base) I.ok.mod.kin hk (thn (ha.run pos pins s σ H _ I h) fun us s1 ⟨vs, H1, I1, r, q⟩ => ⟨I1.kIn, ?_⟩) he hpl
  exact run_fnG F hr hgd hb hd hx I1 r q
end
theorem law_callG {P : Program} {w : World} {K : PySem.W.Frag} {mg mb : Str → Option Value} {CX : CXT} {k : Nat} {fa a : Addr} {fd : FuncData} {x : Str} {sp : Sp} {s₁ : Shared} {vs : List Value} {ns : List Int}
    (KX : K.In s₁.heap) (hns : s₁.heap.Ns mainGlobals mg) (hb : s₁.heap.Ns builtinsNs mb) (hbb : ∀ x : Str, x ≠ "__name__" → mb x = bootBuiltins x) (hlim : s₁.heap.NoLimit) (hg : s₁.gens = #[])
    (ha : s₁.heap.get? a = some { cls := .type "list", data := .seq vs.toArray }) (hi : IntsAre vs ns) (hl : ns.length ≤ sizeLine) (hr : Room k callerA)
    (F : ∀ base : Heap, K.In base → base.Ns mainGlobals mg → FnG P w K mg base CX k fa fd [x] sp) (hbind : ∀ (s : Shared) (u : Value), BindsTo s fd ⟨[u], []⟩ [(x, u)])
    (hsp : ∀ H : Hp, Only H → SqL K H a (ns.map V.int) → sp [.ref a] H (fun v _ => v = .bl true) fun _ _ _ => False)
    (hCX : ∀ H e s', CX [] H s₁ (fun _ _ _ => False) e s' → False) :
    codeAny (model P w) callerA (.call (.ref fa) ⟨[.ref a], []⟩) (fun r s' => r = .ok (.ret (.bool true)) ∧ OldK s₁.heap s'.heap ∧ s'.os = s₁.os ∧ AllBare s'.gens) s₁ := by
  have rv := vals_ints hi
  have lenV := hi.length
  -- from an abstract heap in which nothing but the script may be tracked
  have core : ∀ H : Hp, Only H → SqL K H a (ns.map V.int) → HOk P w H s₁.heap → (∀ b, H b ≠ none → b = a) → (H a ≠ none → K.lookup a = none) →
      codeAny (model P w) callerA (.call (.ref fa) ⟨[.ref a], []⟩) (fun r s' => r = .ok (.ret (.bool true)) ∧ OldK s₁.heap s'.heap ∧ s'.os = s₁.os ∧ AllBare s'.gens) s₁ := by
    intro H hO hS hok hA hK
    have base_of : ∀ {b : Addr} {o : Obj}, s₁.heap.get? b = some o → H b = none → (hidT s₁.heap H).get? b = some o := fun e n => hidT_get e n
    have noA : ∀ {b : Addr} {o : Obj} {es : Array DictEntry} {ep : Nat}, s₁.heap.get? b = some o → o.data = .dict es ep → H b = none := fun {b o es ep} e d => by
      cases q : H b with
      | none => rfl
      | some u =>
        have e' : b = a := hA b (by rw [q]; simp)
        subst e'
        rw [ha] at e; cases e
        have d' : Data.seq vs.toArray _ = Data.dict es ep := d
        cases d'
    have nsK : ∀ {b : Addr} {m : Str → Option Value}, s₁.heap.Ns b m → (hidT s₁.heap H).Ns b m := fun {b m} ⟨o, es, ep, e, d, r⟩ => ⟨o, es, ep, base_of e (noA e d), d, r⟩
    have hKb : K.In (hidT s₁.heap H) := fun b o e => base_of (KX b o e) (by
      cases q : H b with
      | none => rfl
      | some u =>
        have e' : b = a := hA b (by rw [q]; simp)
        subst e'
        rw [hK (by rw [q]; simp)] at e; cases e)
    have hM : Mod K mg (hidT s₁.heap H) := ⟨hKb, nsK hns, ⟨mb, nsK hb, hbb⟩, let ⟨mc, h1, h2⟩ := hlim; ⟨mc, nsK h1, h2⟩⟩
    have e0 : Env0 P w K mg (hidT s₁.heap H) callerA [] s₁ H := ⟨rfl, hM, fun b o e => of_hidT e, Nat.le_of_eq (hidT_size _ _), trivial, fun b hb => absurd (show b ∈ ([] : List Addr) from hb) (by simp), hok, .of_eq hg⟩
    refine codeAny_mono ((F _ hKb (nsK hns)).run callerA [] s₁ H ⟨[.ref a], []⟩ [.ref a] [.ref a] _ _ hr rfl e0 (hbind s₁ (.ref a)) (.cons rfl .nil) (hsp H hO hS)) fun r s' h => ?_
    cases r with
    | error e => exact (hCX H e s' h).elim
    | ok fl =>
      cases fl with
      | next => exact False.elim h
      | brk => exact False.elim h
      | cont => exact False.elim h
      | ret u =>
        obtain ⟨v, H', os, bare, un, hok', r', q⟩ := h
        have q' : v = .bl true := q
        subst q'
        obtain rfl : u = Value.bool true := r'
        refine ⟨rfl, OldK.of_keep fun b o e => ?_, os, bare⟩
        cases q : H b with
        | none => exact un.keep b o e q (by intro z; exact absurd (show b ∈ ([] : List Addr) from z) (by simp)) (by simp)
        | some u =>
          rcases hO b with z | ⟨ob, xs, z⟩
          · rw [q] at z; cases z
          · have z2 := un.frzs b ob _ z
            obtain ⟨e1, _⟩ := hok b _ z
            obtain ⟨e2, _⟩ := hok' b _ z2
            rw [e] at e1; cases e1
            exact e2
  cases hk : K.lookup a with
  | some o =>
    -- the script is one of the module's own objects
    have e := KX a o hk
    rw [ha] at e
    cases e
    refine core (fun _ => none) (fun _ => .inl rfl) (.inr ⟨_, vs.toArray, _, hk, rfl, rfl, rfl, by rw [List.size_toArray, lenV]; exact hl, by simpa using rv⟩) (fun b u z => by have z' : (none : Option HO) = some u := z; cases z') (fun b z => absurd rfl z) fun z => absurd rfl z
  | none =>
    refine core (fun b => if b = a then some (.frz { cls := .type "list", data := .seq vs.toArray } (.lst (ns.map V.int))) else none) (fun b => ?_) (.inl (.inr ⟨{ cls := .type "list", data := .seq vs.toArray }, if_pos rfl⟩)) (fun b u z => ?_) (fun b z => ?_) fun _ => hk
    · by_cases hb : b = a
      · exact .inr ⟨_, _, if_pos hb⟩
      · exact .inl (if_neg hb)
    · by_cases hb : b = a
      · have z' := (if_pos hb).symm.trans z
        cases z'
        subst hb
        exact ⟨ha, by rw [List.length_map]; exact hl, vs, _, rv, ha⟩
      · have z' := (if_neg hb).symm.trans z
        cases z'
    · by_cases hb : b = a
      · exact hb
      · exact absurd (if_neg hb) z
theorem walk_ofG {l : PySem.W.OpenLaw} {n k : Nat} {q : Program} {loose : List Str} {XP : (Str → Option Value) → Heap → Prop} {YP : World → Heap → Prop} {d : DefRec} {CX : CXT} {x : Str}
    (hn : l.most = some n) (hn2 : n ≤ sizeLine) (hdf : d.params.defaults = []) (hr : Room k callerA)
    (F : ∀ (w : World) (mg : Str → Option Value) (fa : Addr) (h : Heap), YP w h → h.Ns mainGlobals mg → mg d.name = some (.ref fa) →
      ∃ (K : PySem.W.Frag) (fd : FuncData) (sp : Sp), K.In h ∧ (∀ (s : Shared) (u : Value), BindsTo s fd ⟨[u], []⟩ [(x, u)]) ∧
        (∀ (H : Hp) (a : Addr) (ns : List Int), ns.length ≤ n → Only H → SqL K H a (ns.map V.int) → sp [.ref a] H (fun v _ => v = .bl true) fun _ _ _ => False) ∧
        ∀ base : Heap, K.In base → base.Ns mainGlobals mg → FnG l.prog w K mg base CX k fa fd [x] sp)
    (hCX : ∀ (H : Hp) (s : Shared) (e : Value) (s' : Shared), CX [] H s (fun _ _ _ => False) e s' → False) :
    PySem.W.WalkO q loose XP YP l.row.toRowW d [] (fun f vs => PySem.call f vs) := by
  refine Att.attach_call hn hdf fun w s₀ s₁ mg mb fa o pm cd doc a vs ns G Y ho hd hcd hmg hobj hints hlen hg => ?_
  obtain ⟨K, fd, sp, KX, hb, hsp, hF⟩ := F w mg fa _ Y G.T.g hmg
  exact law_callG KX G.T.g G.T.b G.T.builtins G.T.nolimit hg hobj hints (Nat.le_trans hlen hn2) hr hF hb (fun H hO hS => hsp H a ns hlen hO hS) fun H e s' => hCX H s₁ e s'
/-! ### repr of data -/
def rRepr : List V → Hp → VK → Prop := fun xs H Q => ∃ a d, xs = [.ref a] ∧ Dt H (.ref a) d ∧ d.showable = true ∧ d.hasDict = false ∧ d.depth ≤ 9 ∧ d.shown.length ≤ sizeLine ∧ Q (.str d.shown) H
theorem cr_repr {X : Cx} {k : Nat} (hr : Room k X.A) (hgd : X.A.guards = some []) : CallR X (.builtin "repr") rRepr := by
  intro pins s σ H vs us Q I r h
  obtain ⟨a, d, rfl, hd, h1, h2, h3, h4, q⟩ := h
  rw [Vals.ref1 r]
  obtain ⟨as, hR⟩ := Dp.reads I d (.ref a) (.ref a) (Dt.dp hd) rfl
  refine repr_of_reads' hR h1 (PyData.noDict_hsm h2) hgd (by have := hr.un; omega) (fun _ _ e => e) (fun h' u tk hk => ⟨.str _, H, I.kept hk, ⟨_, rfl⟩, q⟩) h4
/-! ### defs by name -/
def DefG (P : Program) (w : World) (K : PySem.W.Frag) (mg : Str → Option Value) (base : Heap) (CX : CXT) (k : Nat) (x : Str) (ps : List Str) (st : Stmt) (sp : Sp) : Prop :=
  ∃ f fd, mg x = some (.ref f) ∧ PySem.W.keepIn K (.ref f) = true ∧ FunD K x x (defArgs st) (defBody st) (defScope st) [] [] f fd ∧ Binds K fd ps [] ∧ FnG P w K mg base CX k f fd ps sp
theorem HasDef.okG {P : Program} {w : World} {K : PySem.W.Frag} {mg : Str → Option Value} {base : Heap} {CX : CXT} {k : Nat} {x : Str} {N ps : List Str} {st : Stmt} {sp : Sp} (T : HasDef K mg x st) (S : FnScope N ps (defScope st)) (len : ∀ vs H Q E, sp vs H Q E → vs.length = ps.length)
    (hb : ∀ (kV doc pm : Value) (an : Option Addr) (cdv ct : Value) (us : List Value), us.length = ps.length → bindArgs (PySem.W.fnOf x x (defArgs st) (defBody st) (defScope st) .none kV doc pm an cdv ct) ⟨us, []⟩ = pure (ps.zip us))
    (hbody : ∀ (f : Addr) (cdv : Value) (A : Around) (outer : List Env) (s : Shared) (H : Hp) (vs : List V) (Q : VK) (E : XK), Room k (A.deeper (envOfC x (defScope st) s.heap.objs.size f cdv)) → A.guards = some [] → sp vs H Q E →
      ∃ t, PSs (cxOf CX P w K mg base N x (defScope st) f cdv A outer s H E) (defBody st) t ∧ t { nx := fun _ H' => Q .non H', rt := Q } (start N vs) H) : DefG P w K mg base CX (k + 1) x ps st sp := by
  obtain ⟨fd, F, hm⟩ := T
  refine ⟨_, fd, hm, F.kp, F, F.bindsN hb, ?_⟩
  obtain ⟨oc, od, dV, kV, doc, pm, an, cdv, ct, osl, rfl, lk, hcd, _, _⟩ := F.ex
  exact fnG_of lk hcd S len fun A outer s H vs Q E hr hg hsp => hbody _ cdv A outer s H vs Q E hr hg hsp
section
variable {X : Cx} {CX : CXT} {k : Nat} {ps : List Str} {sp : Sp} {st : Stmt} {E : XK} {x : Str} {p pos : Pos} {e : Expr} {es : List Expr} {t : TA}
theorem pe_callDG (F : DefG X.prog X.w X.K X.mg X.base CX k x ps st sp) (hr : Room k X.A) (hgd : X.A.guards = some []) (hg : Gl X x) (hx : Passes CX X E)
    (ha : PA X (e :: es) t) (hdb : (x == ("__debug__" : Str)) = false := by decide) (he : starEach (e :: es) X.env = (false, eval e X.env) :: starEach es X.env := by rfl) (hpl : (backTo pos (starEach es X.env)).any (·.1) = false := by rfl) :
    PE X (.Call (.Name x p) (e :: es) [] pos) (tCall sp [] E t) := by
  obtain ⟨f, fd, hm, kp, _, hb, G⟩ := F
  exact pe_callG G hr hgd hg hm kp hb .nil hx ha hdb he hpl
end
end Q

set_option Elab.async false
set_option linter.all false
set_option maxRecDepth 100000
set_option maxHeartbeats 4000000
namespace Q
open PySem PySem.Spec PyProof.Rows L2
/-! ### greater powers -/
def CPowW (i j : Int) : Prop := 0 ≤ j ∧ (Builtin.Int.intBits i : Int) * j ≤ 2 ^ 27
def rPowW : R2 := rI CPowW fun i j => .int (i ^ j.toNat)
theorem op_powW {X : Cx} : OpR X (binaryOp .Pow) rPowW := opI fun _ _ _ _ _ _ _ hc q => pow_int hc.1 hc.2 q
theorem o_powW {i j : Int} {H : Hp} {Q : VK} (h : CPowW i j) (q : Q (.int (i ^ j.toNat)) H) : rPowW (.int i) (.int j) H Q := ⟨i, j, rfl, rfl, h, q⟩
theorem bits_lt {i : Int} {b : Nat} (hb : 0 < b) (h : i.natAbs < 2 ^ b) : Builtin.Int.intBits i ≤ b := by
  unfold Builtin.Int.intBits
  split
  · omega
  · have := PySem.Flt.log2_lt_of hb h
    omega
theorem powW_3 {i : Int} {b : Nat} (hb : 0 < b) (h : i.natAbs < 2 ^ b) (h2 : b ≤ 1000000) : CPowW i 3 := by
  have := bits_lt hb h
  refine ⟨by decide, ?_⟩
  have e : (2 : Int) ^ 27 = 134217728 := by decide
  rw [e]
  omega
def rMulW : R2 := rI CMulW fun i j => .int (i * j)
theorem o_mulW {i j : Int} {H : Hp} {Q : VK} (h : CMulW i j) (q : Q (.int (i * j)) H) : rMulW (.int i) (.int j) H Q := ⟨i, j, rfl, rfl, h, q⟩
theorem p_10_60 {H : Hp} {Q : VK} (q : Q (.int 1000000000000000000000000000000000000000000000000000000000000) H) : rPowI (.int 10) (.int 60) H Q := o_pow (by unfold CPow; decide) (by rw [show (10 : Int) ^ (60 : Int).toNat = 1000000000000000000000000000000000000000000000000000000000000 by decide +kernel]; exact q)
/-! ### abs, text.index -/
def rAbs : List V → Hp → VK → Prop := fun xs H Q => ∃ i, xs = [.int i] ∧ Q (.int (if i < 0 then -i else i)) H
def rSIndex : V → List V → Hp → VK → Prop := fun x xs H Q => ∃ a b i rest, x = .str a ∧ xs = [.str b] ∧ Builtin.Str.occurrences a b 0 a.length 1 = i :: rest ∧ Q (.int (i : Nat)) H
theorem boot_abs : bootBuiltins "abs" = some (.builtin "abs") := by decide +kernel
theorem boot_repr : bootBuiltins "repr" = some (.builtin "repr") := by decide +kernel
end Q

set_option Elab.async false
set_option linter.all false
set_option maxRecDepth 100000
set_option maxHeartbeats 4000000
namespace Q
open PySem PySem.Spec PyProof.Rows L2
/-! ### the operators on data -/
def Da.asL : Da → Option (List Da)
  | .lst ds => some ds
  | .fl ds => some ds
  | .lett ys => some (ys.map Da.str)
  | .letb _ ys => some (ys.map Da.str)
  | _ => none
section
variable {K : PySem.W.Frag} {W : Wo} {S H : Hp} {v x y : V} {d dx dy : Da} {ds : List Da}
theorem DeH.asL (h : DeH K S H v d) (e : d.asL = some ds) (s : Same S H) : ∃ a xs, v = .ref a ∧ SqL K H a xs ∧ DeAll K S xs ds := by
  rcases h with h | ⟨p, vs, ds', rfl, rfl, h1, h2⟩ | ⟨p, vs, ds', rfl, rfl, h1, h2⟩
  · cases h with
    | lst h a => cases e; exact ⟨_, _, rfl, s.seq (SqL.of h), a⟩
    | fl h a => cases e; exact ⟨_, _, rfl, s.seq h, a⟩
    | lett h a => cases e; exact ⟨_, _, rfl, s.seq (.inl (.inr ⟨_, h⟩)), DeAll.ofStrs _⟩
    | letb h a => cases e; exact ⟨_, _, rfl, s.seq (.inl (.inr ⟨_, h⟩)), DeAll.ofStrs _⟩
    | _ => cases e
  · cases e; exact ⟨_, _, rfl, SqL.of h1, h2⟩
  · cases e
theorem DeH.lst (h : DeH K S H v (.lst ds)) (s : Same S H) : ∃ a xs, v = .ref a ∧ H a = some (.lst xs) ∧ DeAll K S xs ds := by
  rcases h with h | ⟨p, vs, ds', rfl, e, h1, h2⟩ | ⟨p, vs, ds', rfl, e, h1, h2⟩
  · cases h with | lst h a => exact ⟨_, _, rfl, s _ _ h, a⟩
  · cases e; exact ⟨_, _, rfl, h1, h2⟩
  · cases e
theorem DeH.dic {kvs : List (L2.Key × Da)} (h : DeH K S H v (.dic kvs)) (s : Same S H) : ∃ a es, v = .ref a ∧ Rd H a (.dK es) ∧ DeKV K S es kvs := by
  rcases h with h | ⟨p, vs, ds', rfl, e, h1, h2⟩ | ⟨p, vs, ds', rfl, e, h1, h2⟩
  · cases h with | dic h a => exact ⟨_, _, rfl, Same.rd s h, a⟩
  · cases e
  · cases e; exact ⟨_, _, rfl, .inl h1, h2⟩
theorem DeH.asT (h : DeH K S H v d) (e : d.asT = some ds) (s : Same S H) : ∃ a xs, v = .ref a ∧ SqT K H a xs ∧ DeAll K S xs ds := by
  rcases h with h | ⟨p, vs, ds', rfl, rfl, h1, h2⟩ | ⟨p, vs, ds', rfl, rfl, h1, h2⟩
  · obtain ⟨a, xs, rfl, h1, h2⟩ := h.asT e
    exact ⟨a, xs, rfl, Same.sqT s h1, h2⟩
  · cases e
  · cases e
def fI0 (g : Int → Int → Da) : F2 := fun x y P => match x, y with
  | .int i, .int j => P (g i j)
  | _, _ => False
def fIc (C : Int → Int → Prop) (g : Int → Int → Da) : F2 := fun x y P => match x, y with
  | .int i, .int j => C i j ∧ P (g i j)
  | _, _ => False
theorem r2_I0 {g : Int → Int → V} {gd : Int → Int → Da} (h : ∀ i j S, De K S (g i j) (gd i j)) : R2Ok K (rI0 g) (fI0 gd) := by
  intro S H x y dx dy P Q s hx hy f k
  cases dx with
  | int i =>
    cases dy with
    | int j => exact ⟨i, j, De.int_of hx, De.int_of hy, k _ _ S H (Ext.refl s) (h i j S) f⟩
    | _ => exact f.elim
  | _ => exact f.elim
theorem r2_Ic {C : Int → Int → Prop} {g : Int → Int → V} {gd : Int → Int → Da} (h : ∀ i j S, De K S (g i j) (gd i j)) : R2Ok K (rI C g) (fIc C gd) := by
  intro S H x y dx dy P Q s hx hy f k
  cases dx with
  | int i =>
    cases dy with
    | int j => exact ⟨i, j, De.int_of hx, De.int_of hy, f.1, k _ _ S H (Ext.refl s) (h i j S) f.2⟩
    | _ => exact f.elim
  | _ => exact f.elim
def fAddI : F2 := fI0 fun i j => .int (i + j)
def fSubI : F2 := fI0 fun i j => .int (i - j)
def fMulI : F2 := fIc CMul fun i j => .int (i * j)
def fModI : F2 := fIc (fun _ j => 0 < j) fun i j => .int (i % j)
def fDivI : F2 := fIc CDivW fun i j => .int (i / j)
def fPowI : F2 := fIc CPow fun i j => .int (i ^ j.toNat)
def fPowW : F2 := fIc CPowW fun i j => .int (i ^ j.toNat)
def fMulW : F2 := fIc CMulW fun i j => .int (i * j)
def fLtI : F2 := fI0 fun i j => .bl (decide (i < j))
def fLeI : F2 := fI0 fun i j => .bl (decide (i ≤ j))
def fGtI : F2 := fI0 fun i j => .bl (decide (j < i))
def fGeI : F2 := fI0 fun i j => .bl (decide (j ≤ i))
theorem r2_AddI : R2Ok K rAddI fAddI := r2_I0 fun _ _ _ => .int _
theorem r2_SubI : R2Ok K rSubI fSubI := r2_I0 fun _ _ _ => .int _
theorem r2_MulI : R2Ok K rMulI fMulI := r2_Ic fun _ _ _ => .int _
theorem r2_ModI : R2Ok K rModI fModI := r2_Ic fun _ _ _ => .int _
theorem r2_DivI : R2Ok K rDivI fDivI := r2_Ic fun _ _ _ => .int _
theorem r2_PowI : R2Ok K rPowI fPowI := r2_Ic fun _ _ _ => .int _
theorem r2_PowW : R2Ok K rPowW fPowW := r2_Ic fun _ _ _ => .int _
theorem r2_MulW : R2Ok K rMulW fMulW := r2_Ic fun _ _ _ => .int _
theorem r2_LtI : R2Ok K rLtI fLtI := r2_I0 fun _ _ _ => .bl _
theorem r2_LeI : R2Ok K rLeI fLeI := r2_I0 fun _ _ _ => .bl _
theorem r2_GtI : R2Ok K rGtI fGtI := r2_I0 fun _ _ _ => .bl _
theorem r2_GeI : R2Ok K rGeI fGeI := r2_I0 fun _ _ _ => .bl _
def fNegI : F1 := fun x P => match x with
  | .int i => P (.int (-i))
  | _ => False
theorem r1_NegI : R1Ok K (rU fun i => .int (-i)) fNegI := by
  intro S H x dx P Q s hx f k
  cases dx with
  | int i => exact ⟨i, De.int_of hx, k _ _ S H (Ext.refl s) (.int _) f⟩
  | _ => exact f.elim
def ipI' (g : Int → Int → Int) : F2 := fI0 fun i j => .int (g i j)
theorem rip_I {g : Int → Int → Int} : RIpOk K (ipI g) (ipI' g) := by
  intro S H x y dx dy P Q s hx hy f k
  cases dx with
  | int i =>
    cases dy with
    | int j => exact ⟨i, j, De.int_of hx, De.int_of hy, k _ _ S H (Ext.refl s) (.int _) f⟩
    | _ => exact f.elim
  | _ => exact f.elim
def fAddS : F2 := fun x y P => match x, y with
  | .str i, .str j => i.length + j.length ≤ sizeLine ∧ P (.str (i ++ j))
  | _, _ => False
theorem r2_AddS : R2Ok K rAddS fAddS := by
  intro S H x y dx dy P Q s hx hy f k
  cases dx with
  | str i =>
    cases dy with
    | str j => exact ⟨i, j, De.str_of hx, De.str_of hy, f.1, k _ _ S H (Ext.refl s) (.str _) f.2⟩
    | _ => exact f.elim
  | _ => exact f.elim
/-- equality of values that are no objects -/
def sclEq : Da → Da → Option Bool
  | .int i, .int j => some (decide (i = j))
  | .str i, .str j => some (decide (i = j))
  | .bl i, .bl j => some (decide (i = j))
  | .non, .non => some true
  | .non, .int _ => some false | .int _, .non => some false | .non, .str _ => some false | .str _, .non => some false
  | .non, .bl _ => some false | .bl _, .non => some false
  | .int _, .str _ => some false | .str _, .int _ => some false | .bl _, .str _ => some false | .str _, .bl _ => some false
  | _, _ => none
theorem DeH.scl (h : DeH K S H v d) (hs : d.scl = true) : De K S v d := by
  rcases h with h | ⟨p, vs, ds', rfl, rfl, h1, h2⟩ | ⟨p, vs, ds', rfl, rfl, h1, h2⟩
  · exact h
  · cases hs
  · cases hs
theorem sclEq_ok {b : Bool} (hx : DeH K S H x dx) (hy : DeH K S H y dy) (h : sclEq dx dy = some b) : scal x y = true ∧ decide (x = y) = b := by
  have sx : dx.scl = true := by cases dx <;> first | rfl | (exfalso; cases dy <;> cases h)
  have sy : dy.scl = true := by cases dy <;> first | rfl | (exfalso; cases dx <;> cases h)
  have hx := hx.scl sx
  have hy := hy.scl sy
  cases hx <;> first | (cases sx; done) | (cases hy <;> first | (cases sy; done) | (simp only [sclEq, Option.some.injEq, reduceCtorEq] at h <;> first | (subst h; exact ⟨rfl, by simp⟩) | exact h.elim))
def fEq : F2 := fun x y P => match sclEq x y with
  | some b => P (.bl b)
  | none => False
def fNe : F2 := fun x y P => match sclEq x y with
  | some b => P (.bl (!b))
  | none => False
theorem r2_Eq : R2Ok K rEq fEq := by
  intro S H x y dx dy P Q s hx hy f k
  unfold fEq at f
  cases h : sclEq dx dy with
  | none => rw [h] at f; exact f.elim
  | some b =>
    rw [h] at f
    obtain ⟨h1, h2⟩ := sclEq_ok hx hy h
    exact ⟨h1, by rw [h2]; exact k _ _ S H (Ext.refl s) (.bl b) f⟩
theorem r2_Ne : R2Ok K rNe fNe := by
  intro S H x y dx dy P Q s hx hy f k
  unfold fNe at f
  cases h : sclEq dx dy with
  | none => rw [h] at f; exact f.elim
  | some b =>
    rw [h] at f
    obtain ⟨h1, h2⟩ := sclEq_ok hx hy h
    exact ⟨h1, by rw [h2]; exact k _ _ S H (Ext.refl s) (.bl _) f⟩
def fInC : F2 := fun x y P => ∃ (c : Nat) (z : Str), x = .str ⟨#[c]⟩ ∧ y = .str z ∧ P (.bl (decide (c ∈ TL.tl z)))
def fNotInC : F2 := fun x y P => ∃ (c : Nat) (z : Str), x = .str ⟨#[c]⟩ ∧ y = .str z ∧ P (.bl (!decide (c ∈ TL.tl z)))
theorem r2_InC : R2Ok K rInC fInC := by
  rintro S H x y dx dy P Q s hx hy ⟨c, z, rfl, rfl, f⟩ k
  exact ⟨c, z, De.str_of hx, De.str_of hy, k _ _ S H (Ext.refl s) (.bl _) f⟩
theorem r2_NotInC : R2Ok K rNotInC fNotInC := by
  rintro S H x y dx dy P Q s hx hy ⟨c, z, rfl, rfl, f⟩ k
  exact ⟨c, z, De.str_of hx, De.str_of hy, k _ _ S H (Ext.refl s) (.bl _) f⟩
def isNon : Da → Option Bool
  | .non => some true
  | .any => none
  | .own _ => none
  | _ => some false
theorem isNon_ok {b : Bool} (hx : DeH K S H x dx) (h : isNon dx = some b) : decide (x = V.non) = b := by
  rcases hx with hx | ⟨p, vs, ds', rfl, rfl, h1, h2⟩ | ⟨p, vs, ds', rfl, rfl, h1, h2⟩
  · cases hx <;> first | (cases h; rfl) | cases h
  · cases h; rfl
  · cases h; rfl
def fIsN : F2 := fun x y P => match y, isNon x with
  | .non, some b => P (.bl b)
  | _, _ => False
def fNotN : F2 := fun x y P => match y, isNon x with
  | .non, some b => P (.bl (!b))
  | _, _ => False
theorem r2_IsN : R2Ok K rIsN fIsN := by
  intro S H x y dx dy P Q s hx hy f k
  unfold fIsN at f
  cases dy with
  | non =>
    cases h : isNon dx with
    | none => rw [h] at f; exact f.elim
    | some b => rw [h] at f; exact ⟨De.non_of hy, by rw [isNon_ok hx h]; exact k _ _ S H (Ext.refl s) (.bl b) f⟩
  | _ => exact (by dsimp only at f)
theorem r2_NotN : R2Ok K rNotN fNotN := by
  intro S H x y dx dy P Q s hx hy f k
  unfold fNotN at f
  cases dy with
  | non =>
    cases h : isNon dx with
    | none => rw [h] at f; exact f.elim
    | some b => rw [h] at f; exact ⟨De.non_of hy, by rw [isNon_ok hx h]; exact k _ _ S H (Ext.refl s) (.bl _) f⟩
  | _ => exact (by dsimp only at f)
/-! subscripts -/
theorem atI_rel {xs : List V} {i : Int} {d : Da} (h : DeAll K S xs ds) (e : atI ds i = some d) : ∃ v, atI xs i = some v ∧ De K S v d := by
  unfold atI at e ⊢
  rw [h.length]
  cases hn : ixN ds.length i with
  | none => rw [hn] at e; cases e
  | some j =>
    rw [hn] at e
    exact h.getD e
def fIxL : F2 := fun x y P => match x.asL, y with
  | some ds, .int i => ∃ d, atI ds i = some d ∧ P d
  | _, _ => False
def fIxT : F2 := fun x y P => match x.asT, y with
  | some ds, .int i => ∃ d, atI ds i = some d ∧ P d
  | _, _ => False
def fIxS : F2 := fun x y P => match x, y with
  | .str z, .int i => z.length ≤ sizeLine ∧ ∃ c, atI (TL.tl z) i = some c ∧ P (.str ⟨#[c]⟩)
  | _, _ => False
theorem r2_IxL : R2Ok K (rIxL K) fIxL := by
  intro S H x y dx dy P Q s hx hy f k
  unfold fIxL at f
  cases h : dx.asL with
  | none => rw [h] at f; exact f.elim
  | some ds =>
    rw [h] at f
    cases dy with
    | int i =>
      obtain ⟨d, e, f⟩ := f
      obtain ⟨a, xs, rfl, h1, h2⟩ := hx.asL h s
      obtain ⟨v, e1, e2⟩ := atI_rel h2 e
      exact ⟨a, xs, i, v, rfl, De.int_of hy, h1, e1, k _ _ S H (Ext.refl s) e2 f⟩
    | _ => exact (by dsimp only at f)
theorem r2_IxT : R2Ok K (rIxT K) fIxT := by
  intro S H x y dx dy P Q s hx hy f k
  unfold fIxT at f
  cases h : dx.asT with
  | none => rw [h] at f; exact f.elim
  | some ds =>
    rw [h] at f
    cases dy with
    | int i =>
      obtain ⟨d, e, f⟩ := f
      obtain ⟨a, xs, rfl, h1, h2⟩ := hx.asT h s
      obtain ⟨v, e1, e2⟩ := atI_rel h2 e
      exact ⟨a, xs, i, v, rfl, De.int_of hy, h1, e1, k _ _ S H (Ext.refl s) e2 f⟩
    | _ => exact (by dsimp only at f)
theorem r2_IxS : R2Ok K rIxS fIxS := by
  intro S H x y dx dy P Q s hx hy f k
  cases dx with
  | str z =>
    cases dy with
    | int i =>
      obtain ⟨h1, c, h2, f⟩ := f
      exact ⟨z, i, c, De.str_of hx, De.int_of hy, h1, h2, k _ _ S H (Ext.refl s) (.str _) f⟩
    | _ => exact f.elim
  | _ => exact f.elim
/-! lists joined, repeated -/
def fCat : Da → Da → (List Da → Prop) → Prop := fun x y P => match x, y with
  | .lst a, .lst b => a.length + b.length ≤ 100000 ∧ P (a ++ b)
  | _, _ => False
theorem rn_Cat : R2New K rCat fCat := by
  intro S H x y dx dy P Q s hx hy f k
  cases dx with
  | lst a =>
    cases dy with
    | lst b =>
      obtain ⟨p, xs, rfl, h1, h2⟩ := hx.lst s
      obtain ⟨q, ys, rfl, h3, h4⟩ := hy.lst s
      refine ⟨p, q, xs, ys, rfl, rfl, h1, h3, ?_, fun r hr => k r _ _ hr (h2.append h4) f.2⟩
      rw [h2.length, h4.length]
      exact Nat.le_trans f.1 (by decide)
    | _ => exact f.elim
  | _ => exact f.elim
def repL {α : Type} (n : Nat) (xs : List α) : List α := (List.replicate n xs).flatten
theorem DeAll.rep {xs : List V} (h : DeAll K S xs ds) : ∀ n, DeAll K S (repL n xs) (repL n ds)
  | 0 => .nil
  | n + 1 => by
    unfold repL
    rw [List.replicate_succ, List.replicate_succ, List.flatten_cons, List.flatten_cons]
    exact h.append (DeAll.rep h n)
def fRep : Da → Da → (List Da → Prop) → Prop := fun x y P => match x, y with
  | .lst a, .int k => -1000000000 ≤ k ∧ k ≤ 1000000000 ∧ a.length * k.toNat ≤ 100000 ∧ P (repL k.toNat a)
  | _, _ => False
theorem rn_Rep : R2New K rRep fRep := by
  intro S H x y dx dy P Q s hx hy f k
  cases dx with
  | lst a =>
    cases dy with
    | int i =>
      obtain ⟨h1, h2, h3, f⟩ := f
      obtain ⟨p, xs, rfl, h4, h5⟩ := hx.lst s
      rw [De.int_of hy]
      exact o_rep h4 h1 h2 (by rw [h5.length]; exact Nat.le_trans h3 (by decide)) fun p hp => k p _ _ hp (h5.rep _) f
    | _ => exact f.elim
  | _ => exact f.elim
def fMulS : F2 := fun x y P => match x, y with
  | .str z, .int n => -1000000000 ≤ n ∧ n ≤ 1000000000 ∧ z.length * n.toNat ≤ 16777216 ∧ P (.str (repS z n))
  | _, _ => False
theorem r2_MulS : R2Ok K rMulS fMulS := by
  intro S H x y dx dy P Q s hx hy f k
  cases dx with
  | str z =>
    cases dy with
    | int i => exact ⟨z, i, De.str_of hx, De.int_of hy, f.1, f.2.1, f.2.2.1, k _ _ S H (Ext.refl s) (.str _) f.2.2.2⟩
    | _ => exact f.elim
  | _ => exact f.elim
/-! in a list of things that are no objects -/
def flatD : Da → Bool
  | .non => true | .bl _ => true | .int _ => true | .str _ => true
  | _ => false
def eqF : Da → Da → Bool
  | .non, .non => true
  | .bl a, .bl b => a == b
  | .bl a, .int b => (if a then 1 else 0) == b
  | .int a, .bl b => a == (if b then 1 else 0)
  | .int a, .int b => a == b
  | .str a, .str b => a == b
  | _, _ => false
theorem flat_v (h : De K S v d) (e : flatD d = true) : flatV v = true := by
  cases h <;> first | rfl | cases e
theorem eqF_v (hx : De K S x dx) (hy : De K S y dy) (e : flatD dx = true) (e' : flatD dy = true) : eqV x y = eqF dx dy := by
  cases hx <;> first | (cases e; done) | (cases hy <;> first | (cases e'; done) | rfl)
theorem flat_all {xs : List V} (h : DeAll K S xs ds) (e : ds.all flatD = true) : xs.all flatV = true := by
  induction ds generalizing xs with
  | nil => cases h; rfl
  | cons d r ih =>
    cases h with
    | cons h1 h2 =>
      rw [List.all_cons, Bool.and_eq_true] at e ⊢
      exact ⟨flat_v h1 e.1, ih h2 e.2⟩
def inF (x : Da) (ds : List Da) : Bool := ds.any fun y => eqF y x
theorem inF_v {xs : List V} (hx : De K S x dx) (e : flatD dx = true) (h : DeAll K S xs ds) (e' : ds.all flatD = true) : inV x xs = inF dx ds := by
  unfold inV inF
  induction ds generalizing xs with
  | nil => cases h; rfl
  | cons d r ih =>
    cases h with
    | cons h1 h2 =>
      rw [List.all_cons, Bool.and_eq_true] at e'
      rw [List.any_cons, List.any_cons, eqF_v h1 hx e'.1 e, ih h2 e'.2]
def Da.asS (d : Da) : Option (List Da) := match d.asL with
  | some ds => some ds
  | none => d.asT
theorem DeH.asS (h : DeH K S H v d) (e : d.asS = some ds) (s : Same S H) : ∃ a xs, v = .ref a ∧ (SqL K H a xs ∨ SqT K H a xs) ∧ DeAll K S xs ds := by
  unfold Da.asS at e
  cases hl : d.asL with
  | some l =>
    rw [hl] at e; cases e
    obtain ⟨a, xs, rfl, h1, h2⟩ := h.asL hl s
    exact ⟨a, xs, rfl, .inl h1, h2⟩
  | none =>
    rw [hl] at e
    obtain ⟨a, xs, rfl, h1, h2⟩ := h.asT e s
    exact ⟨a, xs, rfl, .inr h1, h2⟩
def fIn (neg : Bool) : F2 := fun x y P => match y.asS with
  | some ds => flatD x = true ∧ ds.all flatD = true ∧ P (.bl (if neg then !inF x ds else inF x ds))
  | none => False
theorem flat_scl : ∀ {d : Da}, flatD d = true → d.scl = true := by
  intro d h
  cases d <;> first | rfl | cases h
theorem r2_In {neg : Bool} : R2Ok K (rIn K neg) (fIn neg) := by
  intro S H x y dx dy P Q s hx hy f k
  unfold fIn at f
  cases h : dy.asS with
  | none => rw [h] at f; exact f.elim
  | some ds =>
    rw [h] at f
    obtain ⟨h1, h2, f⟩ := f
    obtain ⟨a, xs, rfl, h3, h4⟩ := hy.asS h s
    have hx := hx.scl (flat_scl h1)
    exact ⟨a, xs, rfl, h3, flat_v hx h1, flat_all h4 h2, by rw [inF_v hx h1 h4 h2]; exact k _ _ S H (Ext.refl s) (.bl _) f⟩
/-! equality of nested data -/
def Kd.py : Kd → PyData
  | .num i => .int i
  | .txt z => .str z
mutual
def Da.py : Da → PyData
  | .non => .none
  | .bl b => .bool b
  | .int i => .int i
  | .str x => .str x
  | .lst ds => .list (Da.pyL ds)
  | .fl ds => .list (Da.pyL ds)
  | .tup ds => .tuple (Da.pyL ds)
  | .lett ys => .list (ys.map PyData.str)
  | .letb _ ys => .list (ys.map PyData.str)
  | .cal _ k x y => .tuple [k.py, .str x, .str y]
  | _ => .none
def Da.pyL : List Da → List PyData
  | [] => []
  | d :: ds => Da.py d :: Da.pyL ds
end
mutual
def Da.isPy : Da → Bool
  | .non => true
  | .bl _ => true
  | .int _ => true
  | .str _ => true
  | .lst ds => Da.isPyL ds
  | .fl ds => Da.isPyL ds
  | .tup ds => Da.isPyL ds
  | .lett _ => true
  | .letb _ _ => true
  | .cal _ _ _ _ => true
  | _ => false
def Da.isPyL : List Da → Bool
  | [] => true
  | d :: ds => Da.isPy d && Da.isPyL ds
end
theorem dp_strs : ∀ (ys : List Str), DpAll K S (ys.map V.str) (ys.map PyData.str)
  | [] => .nil
  | y :: r => .cons (.str y) (dp_strs r)
mutual
theorem De.dp : ∀ {v : V} {d : Da}, De K S v d → d.isPy = true → Dp K S v d.py
  | _, _, .non, _ => .non
  | _, _, .bl b, _ => .bl b
  | _, _, .int i, _ => .int i
  | _, _, .str x, _ => .str x
  | _, _, .lst h a, e => .lst (SqL.of h) (DeAll.dp a e)
  | _, _, .fl h a, e => .lst h (DeAll.dp a e)
  | _, _, .tup h a, e => .tup (SqT.of h) (DeAll.dp a e)
  | _, _, .lett h _, _ => .lst (.inl (.inr ⟨_, h⟩)) (dp_strs _)
  | _, _, .letb h _, _ => .lst (.inl (.inr ⟨_, h⟩)) (dp_strs _)
  | _, _, .cal (k := k) h, _ => .tup h.1 (.cons (by cases k; exact .int _; exact .str _) (.cons (.str _) (.cons (.str _) .nil)))
  | _, _, .ref a, e => by cases e
  | _, _, .ty n, e => by cases e
  | _, _, .any v, e => by cases e
  | _, _, .dic h a, e => by cases e
theorem DeAll.dp : ∀ {vs : List V} {ds : List Da}, DeAll K S vs ds → Da.isPyL ds = true → DpAll K S vs (Da.pyL ds)
  | _, _, .nil, _ => .nil
  | _, _, .cons h a, e => by
    have e : (Da.isPy _ && Da.isPyL _) = true := e
    rw [Bool.and_eq_true] at e
    exact .cons (De.dp h e.1) (DeAll.dp a e.2)
end
theorem DeH.dp (h : DeH K S H v d) (s : Same S H) (e : d.isPy = true) : Dp K H v d.py := by
  rcases h with h | ⟨p, vs, ds', rfl, rfl, h1, h2⟩ | ⟨p, vs, ds', rfl, rfl, h1, h2⟩
  · exact (h.mono s).dp e
  · exact .lst (SqL.of h1) ((h2.mono s).dp e)
  · cases e
def fEqD : F2 := fun x y P => x.isPy = true ∧ y.isPy = true ∧ SeqAt.shaped x.py = true ∧ SeqAt.shaped y.py = true ∧ P (.bl (PyData.eqv x.py y.py))
def fNeD : F2 := fun x y P => x.isPy = true ∧ y.isPy = true ∧ SeqAt.shaped x.py = true ∧ SeqAt.shaped y.py = true ∧ P (.bl (!PyData.eqv x.py y.py))
theorem r2_EqD : R2Ok K (rEqD K) fEqD := by
  rintro S H x y dx dy P Q s hx hy ⟨h1, h2, h3, h4, f⟩ k
  exact ⟨_, _, hx.dp s h1, hy.dp s h2, h3, h4, k _ _ S H (Ext.refl s) (.bl _) f⟩
theorem r2_NeD : R2Ok K (rNeD K) fNeD := by
  rintro S H x y dx dy P Q s hx hy ⟨h1, h2, h3, h4, f⟩ k
  exact ⟨_, _, hx.dp s h1, hy.dp s h2, h3, h4, k _ _ S H (Ext.refl s) (.bl _) f⟩
def fInD : F2 := fun x y P => ∃ ds, y.py = .list ds ∧ x.isPy = true ∧ y.isPy = true ∧ SeqAt.shaped x.py = true ∧ SeqAt.shaped y.py = true ∧ P (.bl (ds.any fun z => PyData.eqv z x.py))
theorem r2_InD : R2Ok K (rInD K) fInD := by
  rintro S H x y dx dy P Q s hx hy ⟨ds, e, h1, h2, h3, h4, f⟩ k
  have := hy.dp s h2
  rw [e] at this h4
  exact ⟨_, _, hx.dp s h1, this, h3, h4, k _ _ S H (Ext.refl s) (.bl _) f⟩
def fNotInD : F2 := fun x y P => ∃ ds, y.py = .list ds ∧ x.isPy = true ∧ y.isPy = true ∧ SeqAt.shaped x.py = true ∧ SeqAt.shaped y.py = true ∧ P (.bl (!ds.any fun z => PyData.eqv z x.py))
/-! ### built-in functions -/
theorem deHs1 {xs : List V} (h : DeHs K S H xs [d]) : ∃ x, xs = [x] ∧ DeH K S H x d := by
  match xs, h with
  | [x], h => exact ⟨x, rfl, h.1⟩
theorem deHs2 {xs : List V} {d e : Da} (h : DeHs K S H xs [d, e]) : ∃ x y, xs = [x, y] ∧ DeH K S H x d ∧ DeH K S H y e := by
  match xs, h with
  | [x, y], h => exact ⟨x, y, rfl, h.1, h.2.1⟩
def fLenL : FC := fun ds P => match ds with
  | [x] => (match x.asS with
    | some l => P (.int l.length)
    | none => False)
  | _ => False
def fLenS : FC := fun ds P => match ds with
  | [.str z] => z.length ≤ sizeLine ∧ P (.int z.length)
  | _ => False
theorem rc_LenL : RCOk K (rLenL K) fLenL := by
  intro S H xs ds P Q s hx f k
  match ds, f with
  | [x], f =>
    obtain ⟨v, rfl, hv⟩ := deHs1 hx
    simp only [fLenL] at f
    cases h : x.asS with
    | none => rw [h] at f; exact f.elim
    | some l =>
      rw [h] at f
      obtain ⟨a, ys, rfl, h1, h2⟩ := hv.asS h s
      exact ⟨a, ys, rfl, h1, by rw [h2.length]; exact k _ _ S H (Ext.refl s) (.int _) f⟩
theorem rc_LenS : RCOk K rLenS fLenS := by
  intro S H xs ds P Q s hx f k
  match ds, f with
  | [.str z], f =>
    obtain ⟨v, rfl, hv⟩ := deHs1 hx
    rw [De.str_of hv]
    exact ⟨z, rfl, f.1, k _ _ S H (Ext.refl s) (.int _) f.2⟩
def fMax2 : FC := fun ds P => match ds with
  | [.int i, .int j] => P (.int (if j > i then j else i))
  | _ => False
def fMin2 : FC := fun ds P => match ds with
  | [.int i, .int j] => P (.int (if j < i then j else i))
  | _ => False
theorem rc_Max2 : RCOk K rMax2 fMax2 := by
  intro S H xs ds P Q s hx f k
  match ds, f with
  | [.int i, .int j], f =>
    obtain ⟨v, w, rfl, hv, hw⟩ := deHs2 hx
    rw [De.int_of hv, De.int_of hw]
    exact ⟨i, j, rfl, k _ _ S H (Ext.refl s) (.int _) f⟩
theorem rc_Min2 : RCOk K rMin2 fMin2 := by
  intro S H xs ds P Q s hx f k
  match ds, f with
  | [.int i, .int j], f =>
    obtain ⟨v, w, rfl, hv, hw⟩ := deHs2 hx
    rw [De.int_of hv, De.int_of hw]
    exact ⟨i, j, rfl, k _ _ S H (Ext.refl s) (.int _) f⟩
def fInt1 : FC := fun ds P => match ds with
  | [.int i] => P (.int i)
  | [.bl b] => P (.int (if b then 1 else 0))
  | _ => False
theorem rc_Int1 : RCOk K rInt1 fInt1 := by
  intro S H xs ds P Q s hx f k
  match ds, f with
  | [.int i], f =>
    obtain ⟨v, rfl, hv⟩ := deHs1 hx
    rw [De.int_of hv]
    exact .inl ⟨i, rfl, k _ _ S H (Ext.refl s) (.int _) f⟩
  | [.bl b], f =>
    obtain ⟨v, rfl, hv⟩ := deHs1 hx
    rw [De.bl_of hv]
    exact .inr ⟨b, rfl, k _ _ S H (Ext.refl s) (.int _) f⟩
def fAbs : FC := fun ds P => match ds with
  | [.int i] => P (.int (if i < 0 then -i else i))
  | _ => False
theorem rc_Abs : RCOk K rAbs fAbs := by
  intro S H xs ds P Q s hx f k
  match ds, f with
  | [.int i], f =>
    obtain ⟨v, rfl, hv⟩ := deHs1 hx
    rw [De.int_of hv]
    exact ⟨i, rfl, k _ _ S H (Ext.refl s) (.int _) f⟩
def fStrI : FC := fun ds P => match ds with
  | [.int i] => i.natAbs.log2 < 1920 ∧ P (.str (toString i))
  | _ => False
theorem rc_StrI : RCOk K rStrI fStrI := by
  intro S H xs ds P Q s hx f k
  match ds, f with
  | [.int i], f =>
    obtain ⟨v, rfl, hv⟩ := deHs1 hx
    rw [De.int_of hv]
    exact ⟨i, rfl, f.1, k _ _ S H (Ext.refl s) (.str _) f.2⟩
/-- signs of a text -/
def sgD (z : Str) : List Da := (TL.tl z).map fun c => .str ⟨#[c]⟩
theorem sgD_ok (z : Str) : DeAll K S (signs z) (sgD z) := by
  unfold signs sgD
  induction TL.tl z with
  | nil => exact .nil
  | cons c r ih => exact .cons (.str _) ih
def fListS : List Da → (List Da → Prop) → Prop := fun ds P => match ds with
  | [.str z] => z.length ≤ 16777216 ∧ P (sgD z)
  | _ => False
theorem rn_ListS : RCNew K rListS fListS := by
  intro S H xs ds P Q s hx f k
  match ds, f with
  | [.str z], f =>
    obtain ⟨v, rfl, hv⟩ := deHs1 hx
    rw [De.str_of hv]
    exact ⟨z, rfl, f.1, fun l hl => k l _ _ hl (sgD_ok z) f.2⟩
def fListL : List Da → (List Da → Prop) → Prop := fun ds P => match ds with
  | [x] => (match x.asS with
    | some l => P l
    | none => False)
  | _ => False
theorem rn_ListL : RCNew K (rListL K) fListL := by
  intro S H xs ds P Q s hx f k
  match ds, f with
  | [x], f =>
    obtain ⟨v, rfl, hv⟩ := deHs1 hx
    simp only [fListL] at f
    cases h : x.asS with
    | none => rw [h] at f; exact f.elim
    | some l =>
      rw [h] at f
      obtain ⟨a, ys, rfl, h1, h2⟩ := hv.asS h s
      exact ⟨a, ys, rfl, h1, fun l hl => k l _ _ hl h2 f⟩
def fListA : List Da → (List Da → Prop) → Prop := fun ds P => fListS ds P ∨ fListL ds P
theorem rn_ListA : RCNew K (rListA K) fListA := by
  intro S H xs ds P Q s hx f k
  rcases f with f | f
  · exact .inl (rn_ListS S H xs ds P Q s hx f k)
  · exact .inr (rn_ListL S H xs ds P Q s hx f k)
def fSum : FC := fun ds P => match ds with
  | [x] => ∃ ns : List Int, x.asL = some (ns.map Da.int) ∧ P (.int ns.sum)
  | _ => False
theorem rc_Sum : RCOk K (rSum K) fSum := by
  intro S H xs ds P Q s hx f k
  match ds, f with
  | [x], f =>
    obtain ⟨v, rfl, hv⟩ := deHs1 hx
    obtain ⟨ns, h, f⟩ := f
    obtain ⟨a, ys, rfl, h1, h2⟩ := hv.asL h s
    rw [h2.ints] at h1
    exact ⟨a, ns, rfl, h1, k _ _ S H (Ext.refl s) (.int _) f⟩
def fAny : FC := fun ds P => match ds with
  | [x] => ∃ ns : List Bool, x.asL = some (ns.map Da.bl) ∧ P (.bl (ns.any id))
  | _ => False
theorem rc_Any : RCOk K (rAny K) fAny := by
  intro S H xs ds P Q s hx f k
  match ds, f with
  | [x], f =>
    obtain ⟨v, rfl, hv⟩ := deHs1 hx
    obtain ⟨ns, h, f⟩ := f
    obtain ⟨a, ys, rfl, h1, h2⟩ := hv.asL h s
    rw [h2.bls] at h1
    exact ⟨a, ns, rfl, h1, k _ _ S H (Ext.refl s) (.bl _) f⟩
def fAll : FC := fun ds P => match ds with
  | [x] => ∃ ns : List Bool, x.asL = some (ns.map Da.bl) ∧ P (.bl (ns.all id))
  | _ => False
theorem rc_All : RCOk K (rAll K) fAll := by
  intro S H xs ds P Q s hx f k
  match ds, f with
  | [x], f =>
    obtain ⟨v, rfl, hv⟩ := deHs1 hx
    obtain ⟨ns, h, f⟩ := f
    obtain ⟨a, ys, rfl, h1, h2⟩ := hv.asL h s
    rw [h2.bls] at h1
    exact ⟨a, ns, rfl, h1, k _ _ S H (Ext.refl s) (.bl _) f⟩
/-! slices -/
abbrev DO := Ds → (Option Int → Ds → Prop) → Prop
def SO (K : PySem.W.Frag) (W : Wo) (t : TO) (e : DO) : Prop := ∀ (S0 H0 S H : Hp) (σ : L2.St) (st : Ds) (P : Option Int → Ds → Prop) (Q : Option Int → Hp → Prop), Ok ⟨K, W, S0, H0⟩ S H σ st → e st P →
  (∀ o S' H' st', Ok ⟨K, W, S0, H0⟩ S' H' σ st' → Same S S' → P o st' → Q o H') → t σ H Q
def oNo : DO := fun st P => P none st
def oPart (e : DE) : DO := fun st P => e st fun d st1 => match st1.pk d with
  | .int i => P (some i) st1
  | _ => False
theorem so_no : SO K W tNoPart oNo := fun S0 H0 S H σ st P Q I he k => k none S H st I (Same.refl S) he
theorem so_part {te : TE} {e : DE} (h : SE K W te e) : SO K W (tPart te) (oPart e) := by
  intro S0 H0 S H σ st P Q I he k
  refine h S0 H0 S H σ st _ _ I he fun x dx S1 H1 st1 I1 e1 r1 q1 => ?_
  have hp := pk_ok I1 r1
  cases hd : st1.pk dx with
  | int i =>
    rw [hd] at q1 hp
    exact ⟨i, De.int_of hp, k (some i) S1 H1 st1 I1 e1 q1⟩
  | _ => rw [hd] at q1; exact q1.elim
def cutG {α : Type} (xs : List α) (lo hi : Option Int) : List α := (xs.drop (HT.sIx xs.length 0 lo)).take (HT.sIx xs.length xs.length hi - HT.sIx xs.length 0 lo)
theorem DeAll.cut {xs : List V} (h : DeAll K S xs ds) (lo hi : Option Int) : DeAll K S (cutV xs lo hi) (cutG ds lo hi) := by
  unfold cutV cutG
  rw [h.length]
  exact (h.drop _).take _
def eSlL (e : DE) (o1 o2 : DO) : DA := fun st P => e st fun x st1 => o1 st1 fun lo st2 => o2 st2 fun hi st3 => match (st3.pk x).asL with
  | some ds => P (cutG ds lo hi) st3
  | none => False
theorem sn_slL {te : TE} {e : DE} {t1 t2 : TO} {o1 o2 : DO} (h : SE K W te e) (h1 : SO K W t1 o1) (h2 : SO K W t2 o2) : SN K W (tSl (rSlL K) te t1 t2) (eSlL e o1 o2) := by
  intro S0 H0 S H σ st P Q I he k
  refine h S0 H0 S H σ st _ _ I he fun x dx S1 H1 st1 I1 e1 r1 q1 => ?_
  refine h1 S0 H0 S1 H1 σ st1 _ _ I1 q1 fun lo S2 H2 st2 I2 e2 q2 => ?_
  refine h2 S0 H0 S2 H2 σ st2 _ _ I2 q2 fun hi S3 H3 st3 I3 e3 q3 => ?_
  have hp := pk_ok I3 (r1.mono (e2.trans e3))
  cases hl : (st3.pk dx).asL with
  | none => rw [hl] at q3; exact q3.elim
  | some ds =>
    rw [hl] at q3
    obtain ⟨a, xs, rfl, z1, z2⟩ := hp.asL hl I3.sub
    exact ⟨a, xs, rfl, z1, fun p hp => k p _ _ S3 _ st3 (I3.alloc hp) ((e1.trans e2).trans e3) upd_same (I3.sn hp) (I3.nm hp) (I3.h0 hp) (I3.nown hp) (z2.cut lo hi) q3⟩
def eSlS (e : DE) (o1 o2 : DO) : DE := fun st P => e st fun x st1 => o1 st1 fun lo st2 => o2 st2 fun hi st3 => match st3.pk x with
  | .str z => z.length ≤ sizeLine ∧ P (.str (cutS z lo hi)) st3
  | _ => False
theorem se_slS {te : TE} {e : DE} {t1 t2 : TO} {o1 o2 : DO} (h : SE K W te e) (h1 : SO K W t1 o1) (h2 : SO K W t2 o2) : SE K W (tSl rSlS te t1 t2) (eSlS e o1 o2) := by
  intro S0 H0 S H σ st P Q I he k
  refine h S0 H0 S H σ st _ _ I he fun x dx S1 H1 st1 I1 e1 r1 q1 => ?_
  refine h1 S0 H0 S1 H1 σ st1 _ _ I1 q1 fun lo S2 H2 st2 I2 e2 q2 => ?_
  refine h2 S0 H0 S2 H2 σ st2 _ _ I2 q2 fun hi S3 H3 st3 I3 e3 q3 => ?_
  have hp := pk_ok I3 (r1.mono (e2.trans e3))
  cases hl : st3.pk dx with
  | str z =>
    rw [hl] at q3 hp
    rw [De.str_of hp]
    exact ⟨z, rfl, q3.1, k _ _ S3 H3 st3 I3 ((e1.trans e2).trans e3) (.inr (.str _)) q3.2⟩
  | _ => rw [hl] at q3; exact q3.elim
/-! methods of texts -/
abbrev FM := Da → Da → (Da → Prop) → Prop
def RMOk (K : PySem.W.Frag) (r : V → List V → Hp → VK → Prop) (f : FM) : Prop := ∀ (S H : Hp) (z : Str) (y : V) (dy : Da) (P : Da → Prop) (Q : VK), Same S H → DeH K S H y dy → f (.str z) dy P → (∀ v d S' H', Ext S H S' H' → De K S' v d → P d → Q v H') → r (.str z) [y] H Q
def eM1 (f : FM) (a b : DE) : DE := fun st P => a st fun x st1 => match st1.pk x with
  | .str z => b st1 fun y st2 => f (.str z) (st2.pk y) fun d => P d st2
  | _ => False
theorem se_m1 {r : V → List V → Hp → VK → Prop} {f : FM} {ta tb : TE} {a b : DE} (h : RMOk K r f) (ha : SE K W ta a) (hb : SE K W tb b) : SE K W (tM1 r ta tb) (eM1 f a b) := by
  intro S0 H0 S H σ st P Q I he k
  refine ha S0 H0 S H σ st _ _ I he fun x dx S1 H1 st1 I1 e1 r1 q1 => ?_
  have hp := pk_ok I1 r1
  cases hd : st1.pk dx with
  | str z =>
    rw [hd] at q1 hp
    have hz := De.str_of hp
    subst hz
    refine ⟨⟨z, rfl⟩, ?_⟩
    refine hb S0 H0 S1 H1 σ st1 _ _ I1 q1 fun y dy S2 H2 st2 I2 e2 r2 q2 => ?_
    exact h S2 H2 z y _ _ _ I2.sub (pk_ok I2 r2) q2 fun v d S3 H3 ex hd hP => k v d S3 H3 st2 (I2.ext ex) ((e1.trans e2).trans ex.s) (.inr hd) hP
  | _ => rw [hd] at q1; exact q1.elim
def fCount : FM := fun x y P => match x, y with
  | .str a, .str b => P (.int (Txt.count a b))
  | _, _ => False
theorem rm_Count : RMOk K rCount fCount := by
  intro S H z y dy P Q s hy f k
  cases dy with
  | str b => rw [De.str_of hy]; exact ⟨z, b, rfl, rfl, k _ _ S H (Ext.refl s) (.int _) f⟩
  | _ => exact f.elim
def fSIndex : FM := fun x y P => match x, y with
  | .str a, .str b => ∃ i rest, Builtin.Str.occurrences a b 0 a.length 1 = i :: rest ∧ P (.int (i : Nat))
  | _, _ => False
theorem rm_SIndex : RMOk K rSIndex fSIndex := by
  intro S H z y dy P Q s hy f k
  cases dy with
  | str b => obtain ⟨i, r, h, f⟩ := f; rw [De.str_of hy]; exact ⟨z, b, i, r, rfl, rfl, h, k _ _ S H (Ext.refl s) (.int _) f⟩
  | _ => exact f.elim
def fJoin : FM := fun x y P => match x with
  | .str a => ∃ ys : List Str, y.asS = some (ys.map Da.str) ∧ (ys.map (·.length)).sum + ys.length * a.length ≤ 16777216 ∧ P (.str (Txt.join a ys))
  | _ => False
theorem rm_Join : RMOk K (rJoin K) fJoin := by
  intro S H z y dy P Q s hy f k
  obtain ⟨ys, h, hz, f⟩ := f
  obtain ⟨a, xs, rfl, h1, h2⟩ := hy.asS h s
  rw [h2.strs] at h1
  exact ⟨z, a, ys, rfl, rfl, h1, hz, k _ _ S H (Ext.refl s) (.str _) f⟩
/-! methods that change a list of one owner -/
abbrev FMu := List Da → List Da → (List Da → Da → Prop) → Prop
def RMuOk (K : PySem.W.Frag) (r : V → List V → Hp → VK → Prop) (f : FMu) : Prop := ∀ (S H : Hp) (p : Addr) (vs as : List V) (ds es : List Da) (P : List Da → Da → Prop) (Q : VK), Same S H → S p = none → H p = some (.lst vs) → DeAll K S vs ds → DeAll K S as es → f ds es P →
  (∀ vs' ds' v d, DeAll K S vs' ds' → De K S v d → P ds' d → Q v (upd H p (.lst vs'))) → r (.ref p) as H Q
def eMu (f : FMu) (a : DE) (α : DA) : DE := fun st P => a st fun x st1 => match x with
  | .own i => (match st1.δ[i]? with
    | some (.own _) => α st1 fun es st2 => (match (st2.fzs es).2.δ[i]? with
      | some (.own c) => f c (st2.fzs es).1 fun c' d => P d { (st2.fzs es).2 with δ := (st2.fzs es).2.δ.set i (.own c') }
      | _ => False)
    | _ => False)
  | _ => False
theorem mu_core {r : V → List V → Hp → VK → Prop} {f : FMu} {S0 H0 S1 S2 H2 : Hp} {σ : L2.St} {st2 : Ds} {i : Nat} {x : V} {es : List Da} {as : List V} {P : Da → Ds → Prop} {Q : VK} (h : RMuOk K r f) (rx : RelD K S1 σ x (.own i)) (e2 : Same S1 S2) (I2 : Ok ⟨K, W, S0, H0⟩ S2 H2 σ st2) (r2 : RelA K S2 σ as es)
    (q : match (st2.fzs es).2.δ[i]? with
      | some (.own c) => f c (st2.fzs es).1 fun c' d => P d { (st2.fzs es).2 with δ := (st2.fzs es).2.δ.set i (.own c') }
      | _ => False)
    (k : ∀ v d S' H' st', Ok ⟨K, W, S0, H0⟩ S' H' σ st' → Same S1 S' → RelD K S' σ v d → P d st' → Q v H') : r x as H2 Q := by
  obtain ⟨S3, e3, I3, hd⟩ := fzs_ok I2 r2
  cases hj : (st2.fzs es).2.δ[i]? with
  | none => rw [hj] at q; exact q.elim
  | some s =>
    rw [hj] at q
    cases s with
    | own c =>
      obtain ⟨p, vs, rfl, hv, hS, hH, hD⟩ := own_at I3 ((rx.mono e2).mono e3) hj
      refine h S3 H2 p vs as c _ _ _ I3.sub hS hH hD hd q fun vs' ds' v d h1 h2 hP => ?_
      exact k v d S3 _ _ (I3.mut hj rfl hv hS (s' := .own ds') ⟨p, vs', rfl, hS, upd_same, h1⟩ rfl) (e2.trans e3) (.inr h2) hP
    | _ => exact q.elim
theorem se_mu {r : V → List V → Hp → VK → Prop} {f : FMu} {ta : TE} {A : TA} {a : DE} {α : DA} (h : RMuOk K r f) (ha : SE K W ta a) (hA : SA K W A α) : SE K W (tBM K "list" r ta A) (eMu f a α) := by
  intro S0 H0 S H σ st P Q I he k
  refine ha S0 H0 S H σ st _ _ I he fun x dx S1 H1 st1 I1 e1 r1 q1 => ?_
  cases dx with
  | own i =>
    dsimp only at q1
    cases hi : st1.δ[i]? with
    | none => rw [hi] at q1; exact q1.elim
    | some s =>
      rw [hi] at q1
      cases s with
      | own c0 =>
        obtain ⟨p, vs, rfl, hv, hS, hH, hD⟩ := own_at I1 r1 hi
        refine ⟨.inl ⟨rfl, vs, SqL.of hH⟩, ?_⟩
        refine hA S0 H0 S1 H1 σ st1 _ _ I1 q1 fun as es S2 H2 st2 I2 e2 r2 q2 => ?_
        exact mu_core h r1 e2 I2 r2 q2 fun v d S' H' st' I' e' r' q' => k v d S' H' st' I' (e1.trans e') r' q'
      | _ => exact q1.elim
  | _ => exact (by dsimp only at q1)
theorem se_mu0 {r : V → List V → Hp → VK → Prop} {f : FMu} {ta : TE} {a : DE} (h : RMuOk K r f) (ha : SE K W ta a) : SE K W (tBM0 K "list" r ta) (eMu f a aNil) := by
  intro S0 H0 S H σ st P Q I he k
  refine ha S0 H0 S H σ st _ _ I he fun x dx S1 H1 st1 I1 e1 r1 q1 => ?_
  cases dx with
  | own i =>
    dsimp only at q1
    cases hi : st1.δ[i]? with
    | none => rw [hi] at q1; exact q1.elim
    | some s =>
      rw [hi] at q1
      cases s with
      | own c0 =>
        obtain ⟨p, vs, rfl, hv, hS, hH, hD⟩ := own_at I1 r1 hi
        refine ⟨.inl ⟨rfl, vs, SqL.of hH⟩, ?_⟩
        exact mu_core (es := []) h r1 (Same.refl S1) I1 True.intro q1 fun v d S' H' st' I' e' r' q' => k v d S' H' st' I' (e1.trans e') r' q'
      | _ => exact q1.elim
  | _ => exact (by dsimp only at q1)
def fAppend : FMu := fun c es P => match es with
  | [d] => c.length < 100000 ∧ P (c ++ [d]) .non
  | _ => False
theorem deAll1 {vs : List V} (h : DeAll K S vs [d]) : ∃ v, vs = [v] ∧ De K S v d := by
  cases h with
  | cons h a => cases a; exact ⟨_, rfl, h⟩
theorem ru_Append : RMuOk K rAppend fAppend := by
  intro S H p vs as ds es P Q s hp hH hD hd f k
  match es, f with
  | [d], f =>
    obtain ⟨v, rfl, hv⟩ := deAll1 hd
    exact o_append hH (Nat.lt_of_lt_of_le (by rw [hD.length]; exact f.1) (by decide)) (k _ _ _ _ (hD.snoc hv) .non f.2)
def fPopAt : FMu := fun c es P => match es with
  | [.int i] => -1000000000 ≤ i ∧ i ≤ 1000000000 ∧ ∃ n d, seqIndex? i c.length = some n ∧ c[n]? = some d ∧ P (c.eraseIdx n) d
  | _ => False
theorem ru_PopAt : RMuOk K rPopAt fPopAt := by
  intro S H p vs as ds es P Q s hp hH hD hd f k
  match es, f with
  | [.int i], f =>
    obtain ⟨v, rfl, hv⟩ := deAll1 hd
    rw [hv.int_inv]
    obtain ⟨h1, h2, n, d, h3, h4, f⟩ := f
    obtain ⟨w, h5, h6⟩ := hD.getD h4
    exact ⟨p, vs, i, n, w, rfl, rfl, hH, by omega, by omega, by rw [hD.length]; exact h3, h5, k _ _ _ _ (hD.eraseIdx n) h6 f⟩
def fPop : FMu := fun c es P => match es with
  | [] => ∃ d, c[c.length - 1]? = some d ∧ P c.dropLast d
  | _ => False
theorem DeAll.dropLast {vs : List V} (h : DeAll K S vs ds) : DeAll K S vs.dropLast ds.dropLast := by
  rw [List.dropLast_eq_take, List.dropLast_eq_take, h.length]
  exact h.take _
theorem ru_Pop : RMuOk K rPop fPop := by
  intro S H p vs as ds es P Q s hp hH hD hd f k
  match es, f with
  | [], f =>
    cases hd
    obtain ⟨d, h4, f⟩ := f
    obtain ⟨w, h5, h6⟩ := hD.getD h4
    exact ⟨p, vs, w, rfl, rfl, hH, by rw [hD.length]; exact h5, k _ _ _ _ hD.dropLast h6 f⟩
def fReverse : FMu := fun c es P => match es with
  | [] => P c.reverse .non
  | _ => False
theorem ru_Reverse : RMuOk K rReverse fReverse := by
  intro S H p vs as ds es P Q s hp hH hD hd f k
  match es, f with
  | [], f =>
    cases hd
    exact ⟨p, vs, rfl, rfl, hH, k _ _ _ _ hD.reverse .non f⟩
def fExtend : FMu := fun c es P => match es with
  | [.lst b] => c.length + b.length ≤ 100000 ∧ P (c ++ b) .non
  | _ => False
theorem ru_Extend : RMuOk K rExtend fExtend := by
  intro S H p vs as ds es P Q s hp hH hD hd f k
  match es, f with
  | [.lst b], f =>
    obtain ⟨v, rfl, hv⟩ := deAll1 hd
    obtain ⟨q, ys, rfl, h1, h2⟩ := hv.lst_inv
    refine ⟨p, q, vs, ys, rfl, rfl, hH, s _ _ h1, ?_, k _ _ _ _ (hD.append h2) .non f.2⟩
    rw [hD.length, h2.length]
    exact Nat.le_trans f.1 (by decide)
/-! ### what is walked -/
def diL (e : DE) : DI := fun st P => e st fun d st1 => match (st1.fz d).1.asL with
  | some ds => P ds (st1.fz d).2
  | none => False
theorem si_list {te : TE} {e : DE} (h : SE K W te e) : SI K W (iList K te) (diL e) := by
  intro S0 H0 S H σ st P R I he k
  refine h S0 H0 S H σ st _ _ I he fun x dx S1 H1 st1 I1 e1 r1 q1 => ?_
  obtain ⟨S2, e2, I2, h2⟩ := fz_ok I1 r1
  cases hl : (st1.fz dx).1.asL with
  | none => rw [hl] at q1; exact q1.elim
  | some ds =>
    rw [hl] at q1
    obtain ⟨a, xs, rfl, hS, hD⟩ := DeH.asL (H := S2) (.inl h2) hl (Same.refl S2)
    refine ⟨a, rfl, ⟨xs, I2.sub.seq hS⟩, k _ S2 H1 _ ds I2 (e1.trans e2) (fun i S H e s => ⟨fun hi => ⟨xs, s.seq (e.seq hS), by rw [hD.length]; exact Nat.le_refl _⟩, fun d hd => ?_⟩) q1⟩
    have hq := s.seq (e.seq hS)
    obtain ⟨v, hv, hdv⟩ := hD.getD hd
    refine ⟨⟨xs, v, hq, hv⟩, fun x H' ⟨hH, hx⟩ => ?_⟩
    subst hH
    have hx := hx xs hq
    rw [hv] at hx; cases hx
    exact ⟨S, Ext.refl s, hdv.mono e⟩
def diT (e : DE) : DI := fun st P => e st fun d st1 => match (st1.fz d).1.asT with
  | some ds => P ds (st1.fz d).2
  | none => False
theorem si_tup {te : TE} {e : DE} (h : SE K W te e) : SI K W (iTup K te) (diT e) := by
  intro S0 H0 S H σ st P R I he k
  refine h S0 H0 S H σ st _ _ I he fun x dx S1 H1 st1 I1 e1 r1 q1 => ?_
  obtain ⟨S2, e2, I2, h2⟩ := fz_ok I1 r1
  cases hl : (st1.fz dx).1.asT with
  | none => rw [hl] at q1; exact q1.elim
  | some ds =>
    rw [hl] at q1
    obtain ⟨a, xs, rfl, hS, hD⟩ := h2.asT hl
    refine ⟨a, rfl, ⟨xs, Same.sqT I2.sub hS⟩, k _ S2 H1 _ ds I2 (e1.trans e2) (fun i S H e s => ⟨fun hi => ⟨xs, Same.sqT s (Same.sqT e hS), by rw [hD.length]; exact Nat.le_refl _⟩, fun d hd => ?_⟩) q1⟩
    have hq := Same.sqT s (Same.sqT e hS)
    obtain ⟨v, hv, hdv⟩ := hD.getD hd
    refine ⟨⟨xs, v, hq, hv⟩, fun x H' ⟨hH, hx⟩ => ?_⟩
    subst hH
    have hx := hx xs hq
    rw [hv] at hx; cases hx
    exact ⟨S, Ext.refl s, hdv.mono e⟩
def diR1 (α : DA) : DI := fun st P => α st fun ds st1 => match ds.map st1.pk with
  | [.int j] => -(2 ^ 62) ≤ j ∧ j < 2 ^ 62 ∧ P ((List.range j.toNat).map fun i => .int (i : Nat)) st1
  | _ => False
theorem deHs_int1 {vs : List V} {j : Int} (h : DeHs K S H vs [.int j]) : vs = [.int j] := by
  obtain ⟨v, rfl, hv⟩ := deHs1 h
  rw [De.int_of hv]
theorem si_rng1 {A : TA} {α : DA} (h : SA K W A α) : SI K W (iRng1 A) (diR1 α) := by
  intro S0 H0 S H σ st P R I he k
  refine h S0 H0 S H σ st _ _ I he fun vs ds S1 H1 st1 I1 e1 r1 q1 => ?_
  have hp := pks_ok I1 r1
  split at q1
  · rename_i j hj
    rw [hj] at hp
    refine ⟨j, deHs_int1 hp, q1.1, q1.2.1, k _ S1 H1 st1 _ I1 e1 (fun i S H e s => ⟨fun hi => ?_, fun d hd => ?_⟩) q1.2.2⟩
    · show j.toNat ≤ ((List.range j.toNat).map fun i => Da.int (i : Nat)).length
      simp
    · have hi : i < j.toNat := by
        have := (List.getElem?_eq_some_iff.mp hd).1
        simpa using this
      have hd' : d = .int (i : Nat) := by
        have := hd
        rw [List.getElem?_map, List.getElem?_range hi] at this
        exact (Option.some.inj this).symm
      subst hd'
      refine ⟨hi, fun x H' ⟨hH, hx⟩ => ?_⟩
      subst hH
      rw [hx, Int.zero_add]
      exact ⟨S, Ext.refl s, .int _⟩
  · exact q1.elim
def diR2 (α : DA) : DI := fun st P => α st fun ds st1 => match ds.map st1.pk with
  | [.int i, .int j] => -(2 ^ 62) ≤ i ∧ i < 2 ^ 62 ∧ -(2 ^ 62) ≤ j ∧ j < 2 ^ 62 ∧ P ((List.range (j - i).toNat).map fun n => .int (i + (n : Nat))) st1
  | _ => False
theorem si_rng2 {A : TA} {α : DA} (h : SA K W A α) : SI K W (iRng2 A) (diR2 α) := by
  intro S0 H0 S H σ st P R I he k
  refine h S0 H0 S H σ st _ _ I he fun vs ds S1 H1 st1 I1 e1 r1 q1 => ?_
  have hp := pks_ok I1 r1
  split at q1
  · rename_i lo j hj
    rw [hj] at hp
    obtain ⟨v, w, rfl, hv, hw⟩ := deHs2 hp
    refine ⟨lo, j, by rw [De.int_of hv, De.int_of hw], ⟨q1.1, q1.2.1, q1.2.2.1, q1.2.2.2.1⟩, k _ S1 H1 st1 _ I1 e1 (fun i S H e s => ⟨fun hi => ?_, fun d hd => ?_⟩) q1.2.2.2.2⟩
    · show (j - lo).toNat ≤ ((List.range (j - lo).toNat).map fun n => Da.int (lo + (n : Nat))).length
      simp
    · have hi : i < (j - lo).toNat := by
        have := (List.getElem?_eq_some_iff.mp hd).1
        simpa using this
      have hd' : d = .int (lo + (i : Nat)) := by
        have := hd
        rw [List.getElem?_map, List.getElem?_range hi] at this
        exact (Option.some.inj this).symm
      subst hd'
      refine ⟨hi, fun x H' ⟨hH, hx⟩ => ?_⟩
      subst hH
      rw [hx]
      exact ⟨S, Ext.refl s, .int _⟩
  · exact q1.elim
def diS (e : DE) : DI := fun st P => e st fun d st1 => match st1.pk d with
  | .str z => P (sgD z) st1
  | _ => False
theorem sg_len (z : Str) : (sgD z).length = z.cps.size := by
  unfold sgD
  rw [List.length_map]
  exact Array.length_toList
theorem sg_get {z : Str} {i : Nat} {d : Da} (h : (sgD z)[i]? = some d) : ∃ c, z.cps[i]? = some c ∧ d = .str ⟨#[c]⟩ := by
  unfold sgD at h
  rw [List.getElem?_map] at h
  have e : (TL.tl z)[i]? = z.cps[i]? := Array.getElem?_toList
  rw [e] at h
  cases hc : z.cps[i]? with
  | none => rw [hc] at h; cases h
  | some c => rw [hc] at h; exact ⟨c, rfl, (Option.some.inj h).symm⟩
theorem si_str {te : TE} {e : DE} (h : SE K W te e) : SI K W (iStr te) (diS e) := by
  intro S0 H0 S H σ st P R I he k
  refine h S0 H0 S H σ st _ _ I he fun x dx S1 H1 st1 I1 e1 r1 q1 => ?_
  have hp := pk_ok I1 r1
  cases hd : st1.pk dx with
  | str z =>
    rw [hd] at q1 hp
    refine ⟨z, De.str_of hp, k _ S1 H1 st1 _ I1 e1 (fun i S H e s => ⟨fun hi => ?_, fun d hd => ?_⟩) q1⟩
    · show z.cps.size ≤ (sgD z).length
      rw [sg_len]; exact Nat.le_refl _
    · obtain ⟨c, hc, rfl⟩ := sg_get hd
      refine ⟨(Array.getElem?_eq_some_iff.mp hc).1, fun x H' ⟨hH, c', hc', hx⟩ => ?_⟩
      subst hH
      rw [hc] at hc'; cases hc'
      rw [hx]
      exact ⟨S, Ext.refl s, .str _⟩
  | _ => rw [hd] at q1; exact q1.elim
/-! pairs -/
def prD (xs ys : List Da) : List Da := List.zipWith (fun a b => .tup [a, b]) xs ys
theorem pair_ext {T : Addr} {x y : V} {a b : Da} (s : Same S H) (hT : H T = none) (h1 : De K S x a) (h2 : De K S y b) : ∃ S', Ext S H S' (upd H T (.tup [x, y])) ∧ De K S' (.ref T) (.tup [a, b]) := by
  have e := Ext.mk1 (o := .tup [x, y]) s hT
  exact ⟨_, e, .tup upd_same (.cons (h1.mono e.s) (.cons (h2.mono e.s) .nil))⟩
def diE (α : DA) : DI := fun st P => α st fun ds st1 => match (st1.fzs ds).1 with
  | [d] => (match d.asL with
    | some l => P (prD ((List.range l.length).map fun i => .int (i : Nat)) l) (st1.fzs ds).2
    | none => False)
  | _ => False
theorem pr_get {xs ys : List Da} {i : Nat} {d : Da} (h : (prD xs ys)[i]? = some d) : ∃ a b, xs[i]? = some a ∧ ys[i]? = some b ∧ d = .tup [a, b] := by
  unfold prD at h
  rw [List.getElem?_zipWith] at h
  cases h1 : xs[i]? with
  | none => rw [h1] at h; cases h
  | some a =>
    cases h2 : ys[i]? with
    | none => rw [h1, h2] at h; cases h
    | some b => rw [h1, h2] at h; exact ⟨a, b, rfl, rfl, (Option.some.inj h).symm⟩
theorem rng_get {n i : Nat} {d : Da} (h : ((List.range n).map fun i => Da.int (i : Nat))[i]? = some d) : d = .int (i : Nat) ∧ i < n := by
  have hi : i < n := by
    have := (List.getElem?_eq_some_iff.mp h).1
    simpa using this
  rw [List.getElem?_map, List.getElem?_range hi] at h
  exact ⟨(Option.some.inj h).symm, hi⟩
theorem si_enum {A : TA} {α : DA} (h : SA K W A α) : SI K W (iEnum K A) (diE α) := by
  intro S0 H0 S H σ st P R I he k
  refine h S0 H0 S H σ st _ _ I he fun vs ds S1 H1 st1 I1 e1 r1 q1 => ?_
  obtain ⟨S2, e2, I2, h2⟩ := fzs_ok I1 r1
  revert q1
  generalize st1.fzs ds = z at h2 I2
  obtain ⟨zs, st2⟩ := z
  intro q1
  match zs, q1, h2 with
  | [d], q1, h2 =>
    obtain ⟨v, rfl, hv⟩ := deAll1 h2
    dsimp only at q1
    cases hl : d.asL with
    | none => rw [hl] at q1; exact q1.elim
    | some l =>
      rw [hl] at q1
      obtain ⟨a, xs, rfl, hS, hD⟩ := DeH.asL (H := S2) (.inl hv) hl (Same.refl S2)
      refine ⟨a, xs, rfl, I2.sub.seq hS, k _ S2 H1 _ _ I2 (e1.trans e2) (fun i S H e s => ⟨fun hi => ⟨xs, s.seq (e.seq hS), ?_⟩, fun d hd => ?_⟩) q1⟩
      · rw [hD.length]; simp [prD]
      · obtain ⟨p, q, h3, h4, rfl⟩ := pr_get hd
        obtain ⟨rfl, _⟩ := rng_get h3
        have hq := s.seq (e.seq hS)
        obtain ⟨w, hw, hdw⟩ := hD.getD h4
        refine ⟨⟨xs, w, hq, hw⟩, fun x H' ⟨T, y, hx, hT, hH, hy⟩ => ?_⟩
        subst hx; subst hH
        have hy := hy xs hq
        rw [hw] at hy; cases hy
        exact pair_ext s hT (.int _) (hdw.mono e)
def diES (α : DA) : DI := fun st P => α st fun ds st1 => match ds.map st1.pk with
  | [.str z] => P (prD ((List.range (sgD z).length).map fun i => .int (i : Nat)) (sgD z)) st1
  | _ => False
theorem si_enumS {A : TA} {α : DA} (h : SA K W A α) : SI K W (iEnumS A) (diES α) := by
  intro S0 H0 S H σ st P R I he k
  refine h S0 H0 S H σ st _ _ I he fun vs ds S1 H1 st1 I1 e1 r1 q1 => ?_
  have hp := pks_ok I1 r1
  split at q1
  · rename_i z hz
    rw [hz] at hp
    obtain ⟨v, rfl, hv⟩ := deHs1 hp
    rw [De.str_of hv]
    have wk := walk_enumS (z := z)
    have hlen : (prD ((List.range (sgD z).length).map fun i => .int (i : Nat)) (sgD z)).length = (TL.tl z).length := by simp [prD, sgD]
    refine ⟨z, rfl, k _ S1 H1 st1 _ I1 e1 (fun i S H e s => ⟨fun hi => ?_, fun d hd => ?_⟩) q1⟩
    · rw [hlen]; exact wk.stops H True.intro
    · obtain ⟨p, q, h3, h4, rfl⟩ := pr_get hd
      obtain ⟨rfl, hi⟩ := rng_get h3
      have hi : i < (TL.tl z).length := by rw [sg_len] at hi; rw [← cps_len]; exact hi
      refine ⟨wk.goes i H hi True.intro, fun x H' hy => ?_⟩
      obtain ⟨T, a, b, rfl, hT, rfl, ha, hb⟩ := wk.yields i H x H' hi True.intro hy
      cases ha
      obtain ⟨c, hc, rfl⟩ := sg_get h4
      have e' : (TL.tl z)[i]? = some c := cps_get hc
      dsimp only at hb
      rw [e'] at hb
      cases hb
      exact pair_ext s hT (.int _) (.str _)
  · exact q1.elim
def diZ (α : DA) : DI := fun st P => α st fun ds st1 => match (st1.fzs ds).1 with
  | [d, d'] => (match d.asL, d'.asL with
    | some l, some l' => P (prD l l') (st1.fzs ds).2
    | _, _ => False)
  | _ => False
theorem deAll2 {vs : List V} {d e : Da} (h : DeAll K S vs [d, e]) : ∃ v w, vs = [v, w] ∧ De K S v d ∧ De K S w e := by
  cases h with
  | cons h a =>
    obtain ⟨w, rfl, hw⟩ := deAll1 a
    exact ⟨_, _, rfl, h, hw⟩
theorem si_zip {A : TA} {α : DA} (h : SA K W A α) : SI K W (iZip K A) (diZ α) := by
  intro S0 H0 S H σ st P R I he k
  refine h S0 H0 S H σ st _ _ I he fun vs ds S1 H1 st1 I1 e1 r1 q1 => ?_
  obtain ⟨S2, e2, I2, h2⟩ := fzs_ok I1 r1
  revert q1
  generalize st1.fzs ds = z at h2 I2
  obtain ⟨zs, st2⟩ := z
  intro q1
  match zs, q1, h2 with
  | [d, d'], q1, h2 =>
    obtain ⟨v, w, rfl, hv, hw⟩ := deAll2 h2
    dsimp only at q1
    cases hl : d.asL with
    | none => rw [hl] at q1; exact q1.elim
    | some l =>
      cases hl' : d'.asL with
      | none => rw [hl, hl'] at q1; exact q1.elim
      | some l' =>
        rw [hl, hl'] at q1
        obtain ⟨a, xs, rfl, hS, hD⟩ := DeH.asL (H := S2) (.inl hv) hl (Same.refl S2)
        obtain ⟨b, ys, rfl, hS', hD'⟩ := DeH.asL (H := S2) (.inl hw) hl' (Same.refl S2)
        refine ⟨a, b, xs, ys, rfl, I2.sub.seq hS, I2.sub.seq hS', k _ S2 H1 _ _ I2 (e1.trans e2) (fun i S H e s => ⟨fun hi => ⟨xs, ys, s.seq (e.seq hS), s.seq (e.seq hS'), ?_⟩, fun d hd => ?_⟩) q1⟩
        · rw [hD.length, hD'.length]
          have : (prD l l').length = min l.length l'.length := by simp [prD]
          omega
        · obtain ⟨p, q, h3, h4, rfl⟩ := pr_get hd
          have hq := s.seq (e.seq hS)
          have hq' := s.seq (e.seq hS')
          obtain ⟨w1, hw1, hdw1⟩ := hD.getD h3
          obtain ⟨w2, hw2, hdw2⟩ := hD'.getD h4
          refine ⟨⟨xs, ys, w1, w2, hq, hq', hw1, hw2⟩, fun x H' ⟨T, y1, y2, hx, hT, hH, hy1, hy2⟩ => ?_⟩
          subst hx; subst hH
          have hy1 := hy1 xs hq
          have hy2 := hy2 ys hq'
          rw [hw1] at hy1; cases hy1
          rw [hw2] at hy2; cases hy2
          exact pair_ext s hT (hdw1.mono e) (hdw2.mono e)
end
end Q

set_option Elab.async false
set_option linter.all false
set_option maxRecDepth 100000
set_option maxHeartbeats 4000000
namespace Q
open PySem PySem.Spec PyProof.Rows L2
/-! ### functions on data -/
section
variable {K : PySem.W.Frag} {W : Wo} {S H : Hp} {c : DC} {t : TS}
def W0 : Wo := ⟨[], fun _ _ => True, fun _ _ _ _ _ => True.intro, (fun _ _ _ b m => nomatch m), (fun _ _ _ b m => nomatch m)⟩
abbrev FP := List Da → (Da → Prop) → Prop
/-- a promise of a def that has no source and changes nothing -/
def spP (K : PySem.W.Frag) (f : FP) : Sp := fun vs H Q _ => ∃ (S : Hp) (ds : List Da) (P : Da → Prop), Same S H ∧ DeAll K S vs ds ∧ f ds P ∧ ∀ v d S' H', P d → Ext S H S' H' → De K S' v d → Q v H'
def FP.d (f : FP) : FD := fun ds n P => f ds fun d => P d n
theorem call_p {f : FP} {E : XK} : CallOk K W (spP K f) [] E f.d := by
  rintro vs H Q ⟨S, ds, n, P, s, hm, hr, hd, hf, k⟩
  rw [List.append_nil]
  refine ⟨S, ds, fun d => P d n, s, hd, hf, fun v d S' H' hP ex hv => ?_⟩
  refine k v d n S' H' hP (ExtM.of ex) (W.keep _ _ _ hr fun b m => ?_) hv
  obtain ⟨o, ho⟩ := W.trk _ _ hr b m
  rw [ho, ex.h _ _ ho]
/-- the first slots -/
def δ0 (N : Nat) (ds : List Da) : List Sl := ds.map Sl.dat ++ List.replicate (N - ds.length) .un
theorem ok_start {N : List Str} {vs : List V} {ds : List Da} {n : Int} (s : Same S H) (hm : ∀ b ∈ W.M, S b = none) (hr : W.R n H) (hd : DeAll K S vs ds) : Ok ⟨K, W, S, H⟩ S H (L2.start N vs) ⟨δ0 N.length ds, n⟩ := by
  have hl := hd.length
  have un : ∀ (i : Nat) (s : Sl), (δ0 N.length ds)[i]? = some s → s.isOwn = false := fun i s h => by
    unfold δ0 at h
    rcases List.mem_append.mp (List.mem_of_getElem? h) with m | m
    · obtain ⟨d, _, rfl⟩ := List.mem_map.mp m; rfl
    · rw [(List.mem_replicate.mp m).2]; rfl
  refine ⟨Same.refl S, s, Fr.refl, hm, fun b o e => .inl e, hr, ?_, fun i x sl h1 h2 => ?_, fun i s p h1 h2 => ?_, fun i j s t p h1 h2 h3 => ?_⟩
  · unfold L2.start δ0
    simp [hl]
  · unfold L2.start at h1
    unfold δ0 at h2
    by_cases hi : i < ds.length
    · rw [List.getElem?_append_left (by simpa using hi), List.getElem?_map] at h2
      rw [List.getElem?_append_left (by rw [List.length_map, hl]; exact hi), List.getElem?_map] at h1
      cases hd1 : ds[i]? with
      | none => rw [hd1] at h2; cases h2
      | some d =>
        rw [hd1] at h2
        obtain ⟨v, hv, hdv⟩ := hd.getD hd1
        rw [hv] at h1
        cases h1; cases h2
        exact ⟨v, rfl, hdv⟩
    · rw [List.getElem?_append_right (by simpa using hi)] at h2
      have := List.mem_of_getElem? h2
      rw [(List.mem_replicate.mp this).2]
      exact True.intro
  · rw [un i s h1] at h2; cases h2
  · rw [un i s h1] at h3; cases h3
/-- a def's walk from its reading on data -/
theorem fn_pure {f : FP} {N : List Str} {vs : List V} {Q : VK} {E : XK} (hs : SS K W0 t c) (h : ∀ ds P, f ds P → c ⟨fun st => P .non, fun d st => P d, fun _ => False, fun _ => False⟩ ⟨δ0 N.length ds, 0⟩) (hp : spP K f vs H Q E) : t { nx := fun _ H' => Q .non H', rt := Q } (L2.start N vs) H := by
  obtain ⟨S, ds, P, s, hd, hf, k⟩ := hp
  have ex : ∀ {S' H' σ st}, Ok ⟨K, W0, S, H⟩ S' H' σ st → Ext S H S' H' := fun I => ⟨I.le, I.sub, I.fr.same, fun b o e => I.new b o e⟩
  exact hs S H S H _ _ _ _ (ok_start s (fun b m => nomatch m) True.intro hd) (h ds P hf) ⟨fun S' H' σ st I q => k _ _ S' H' q (ex I) .non, fun S' H' σ st v d I hv q => k _ _ S' H' q (ex I) hv, fun _ _ _ _ _ q => q.elim, fun _ _ _ _ _ q => q.elim⟩
theorem fn_src {f : FD} {N : List Str} {vs : List V} {Q : VK} {E : XK} (hs : SS K W t c) (h : ∀ ds n P, f ds n P → c ⟨fun st => P .non st.n, fun d st => P d st.n, fun _ => False, fun _ => False⟩ ⟨δ0 N.length ds, n⟩) (hp : spD K W f vs H Q E) : t { nx := fun _ H' => Q .non H', rt := Q } (L2.start N vs) H := by
  obtain ⟨S, ds, n, P, s, hm, hr, hd, hf, k⟩ := hp
  have ex : ∀ {S' H' σ st}, Ok ⟨K, W, S, H⟩ S' H' σ st → ExtM W S H S' H' := fun I => ⟨I.le, I.sub, I.fr, fun b o e => I.new b o e⟩
  exact hs S H S H _ _ _ _ (ok_start s hm hr hd) (h ds n P hf) ⟨fun S' H' σ st I q => k _ _ _ S' H' q (ex I) I.r .non, fun S' H' σ st v d I hv q => k _ _ _ S' H' q (ex I) I.r hv, fun _ _ _ _ _ q => q.elim, fun _ _ _ _ _ q => q.elim⟩
/-- keywords alone -/
def eKw (is : List Nat) (F : FD) (α : DA) : DE := fun st P => α st fun ds st1 => ds.length = is.length ∧ F (pick is (st1.fzs ds).1) st1.n fun d n' => P d { (st1.fzs ds).2 with n := n' }
theorem pick_de {vs : List V} {ds : List Da} (r : DeAll K S vs ds) : ∀ is : List Nat, DeAll K S (pick is vs) (pick is ds)
  | [] => .nil
  | i :: is => by
    unfold pick
    rw [List.filterMap_cons, List.filterMap_cons]
    cases hd : ds[i]? with
    | none =>
      have : vs[i]? = none := List.getElem?_eq_none (by rw [r.length]; exact List.getElem?_eq_none_iff.mp hd)
      rw [this]
      exact pick_de r is
    | some d =>
      obtain ⟨v, hv, h⟩ := r.getD hd
      rw [hv]
      exact .cons h (pick_de r is)
theorem fzs_len : ∀ (ds : List Da) (st : Ds), (st.fzs ds).1.length = ds.length
  | [], st => rfl
  | d :: r, st => by
    show ((st.fz d).2.fzs r).1.length + 1 = r.length + 1
    rw [fzs_len r]
theorem se_kw {is : List Nat} {sp : Sp} {E : XK} {F : FD} {A : TA} {α : DA} (h : CallOk K W sp [] E F) (hA : SA K W A α) : SE K W (tKw is sp E A) (eKw is F α) := by
  intro S0 H0 S H σ st P Q I he k
  refine hA S0 H0 S H σ st _ _ I he fun xs ds S1 H1 st1 I1 e1 r1 q1 => ?_
  obtain ⟨S2, e2, I2, hd⟩ := fzs_ok I1 r1
  refine ⟨by rw [hd.length, fzs_len]; exact q1.1, ?_⟩
  have := h (pick is xs) H1 Q ⟨S2, _, st1.n, _, I2.sub, I2.off, by have := I2.r; rw [fzs_n] at this; exact this, pick_de hd is, q1.2, fun v d m S' H' hP ex r hv => k v d S' H' _ (I2.extM ex r) ((e1.trans e2).trans ex.s) (.inr hv) hP⟩
  rw [List.append_nil] at this
  exact this
def eKwB (is : List Nat) (F : FD) (α : DA) : DE := fun st P => α st fun ds st1 => ds.length = is.length ∧ F (pick is (st1.fzs ds).1) st1.n fun d n' => d.scl = true ∧ P d { st1 with n := n' }
theorem se_kwB {is : List Nat} {sp : Sp} {E : XK} {F : FD} {A : TA} {α : DA} (h : CallOk K W sp [] E F) (hA : SA K W A α) : SE K W (tKw is sp E A) (eKwB is F α) := by
  intro S0 H0 S H σ st P Q I he k
  refine hA S0 H0 S H σ st _ _ I he fun xs ds S1 H1 st1 I1 e1 r1 q1 => ?_
  obtain ⟨S2, e2, I2, hd⟩ := fzs_ok I1 r1
  refine ⟨by rw [hd.length, fzs_len]; exact q1.1, ?_⟩
  have := h (pick is xs) H1 Q ⟨S2, _, st1.n, _, I2.sub, I2.off, by have := I2.r; rw [fzs_n] at this; exact this, pick_de hd is, q1.2, fun v d m S' H' hP ex r hv => k v d S1 H' { st1 with n := m } (I1.extM ⟨Same.refl S1, (e2.trans ex.s).trans ex.sub, ex.h, fun b o e => .inl e⟩ r) e1 (.inr (hv.scl hP.1)) hP.2⟩
  rw [List.append_nil] at this
  exact this
end
end Q

set_option Elab.async false
set_option linter.all false
set_option maxRecDepth 100000
set_option maxHeartbeats 4000000
namespace Q
open PySem PySem.Spec PyProof.Rows L2
/-! ### walks on data -/
def fzT (d : Da) (st : Ds) (P : Da → Ds → Prop) : Prop := P (st.fz d).1 (st.fz d).2
section
variable {K : PySem.W.Frag} {W : Wo}
theorem call_pn {k : Nat} {f : FP} {E : XK} (hl : ∀ ds P, f ds P → ds.length = k) : CallOk K W (fun vs H Q E => vs.length = k ∧ spP K f vs H Q E) [] E f.d := by
  intro vs H Q h
  have h2 := call_p (K := K) (W := W) (f := f) (E := E) vs H Q h
  obtain ⟨S, ds, n, P, s, hm, hr, hd, hf, _⟩ := h
  exact ⟨by rw [List.append_nil, hd.length]; exact hl _ _ hf, h2⟩
theorem spD_len {k : Nat} {F : FD} {vs : List V} {H : Hp} {Q : VK} {E : XK} (hl : ∀ ds n P, F ds n P → ds.length = k) (h : spD K W F vs H Q E) : vs.length = k := by
  obtain ⟨S, ds, n, P, s, hm, hr, hd, hf, _⟩ := h
  rw [hd.length]; exact hl _ _ _ hf
theorem drop_get {α : Type} {l : List α} {i : Nat} {x : α} (h : l[i]? = some x) : l.drop i = x :: l.drop (i + 1) := by
  obtain ⟨hi, e⟩ := List.getElem?_eq_some_iff.mp h
  rw [List.drop_eq_getElem_cons hi, e]
/-- for, by an invariant -/
theorem for_inv {g : DG} {b : DC} {D : DD} {items : List Da} {st : Ds} (J : Nat → Ds → Prop) (h0 : J 0 st)
    (step : ∀ i x st (R : Ds → Prop), items[i]? = some x → J i st → (∀ st', J (i + 1) st' → R st') → g x st fun st1 => b { nx := R, ct := R, bk := D.nx, rt := D.rt } st1)
    (fin : ∀ st, J items.length st → D.nx st) : forGo g b D items st := by
  have all : ∀ (m i : Nat) (st : Ds), i + m = items.length → J i st → forGo g b D (items.drop i) st := by
    intro m
    induction m with
    | zero =>
      intro i st hi j
      rw [List.drop_eq_nil_of_le (by omega)]
      exact fin st (by rw [← hi]; exact j)
    | succ m ih =>
      intro i st hi j
      have hl : i < items.length := by omega
      have hx : items[i]? = some items[i] := List.getElem?_eq_getElem hl
      rw [List.drop_eq_getElem_cons hl]
      exact step i items[i] st (forGo g b D (items.drop (i + 1))) hx j fun st' j' => ih (i + 1) st' (by omega) j'
  have := all items.length 0 st (Nat.zero_add _) h0
  rwa [List.drop_zero] at this
/-- a comprehension, by an invariant -/
theorem lc_inv {g : DG} {tt : DT} {te : DE} {vs : List Nat} {P : List Da → Ds → Prop} {items : List Da} {st : Ds} (J : Nat → List Da → Ds → Prop) (h0 : J 0 [] st)
    (step : ∀ i x acc st (R : List Da → Ds → Prop), items[i]? = some x → J i acc st → (∀ acc' st', J (i + 1) acc' st' → R acc' st') →
      g x (st.wp vs) fun st1 => tt st1 fun b st2 => if b = true then te st2 fun d st3 => acc.length < 100000 ∧ fzT d st3 (fun d' st' => R (acc ++ [d']) st') else R acc st2)
    (fin : ∀ acc st, J items.length acc st → P acc (st.wp vs)) : lcGo g tt te vs P items [] st := by
  have all : ∀ (m i : Nat) (acc : List Da) (st : Ds), i + m = items.length → J i acc st → lcGo g tt te vs P (items.drop i) acc st := by
    intro m
    induction m with
    | zero =>
      intro i acc st hi j
      rw [List.drop_eq_nil_of_le (by omega)]
      exact fin acc st (by rw [← hi]; exact j)
    | succ m ih =>
      intro i acc st hi j
      have hl : i < items.length := by omega
      have hx : items[i]? = some items[i] := List.getElem?_eq_getElem hl
      rw [List.drop_eq_getElem_cons hl]
      exact step i items[i] acc st (fun acc' st' => lcGo g tt te vs P (items.drop (i + 1)) acc' st') hx j fun acc' st' j' => ih (i + 1) acc' st' (by omega) j'
  have := all items.length 0 [] st (Nat.zero_add _) h0
  rwa [List.drop_zero] at this
/-- a comprehension that only maps and filters -/
theorem lc_map {g : DG} {tt : DT} {te : DE} {vs : List Nat} {P : List Da → Ds → Prop} {items : List Da} {st : Ds} (p : Da → Bool) (f : Da → Da) (hz : items.length ≤ 100000)
    (step : ∀ (i : Nat) (x : Da) (acc : List Da) (R : List Da → Ds → Prop), items[i]? = some x → acc.length < 100000 → (∀ st', st'.wp vs = st.wp vs → R (if p x = true then acc ++ [f x] else acc) st') →
      g x (st.wp vs) fun st1 => tt st1 fun b st2 => if b = true then te st2 fun d st3 => acc.length < 100000 ∧ fzT d st3 (fun d' st' => R (acc ++ [d']) st') else R acc st2)
    (fin : P ((items.filter p).map f) (st.wp vs)) : lcGo g tt te vs P items [] st := by
  refine lc_inv (fun i acc st' => st'.wp vs = st.wp vs ∧ acc = ((items.take i).filter p).map f) ⟨rfl, rfl⟩ ?_ ?_
  · rintro i x acc st' R hx ⟨h1, h2⟩ hR
    rw [h1]
    have hi : i < items.length := (List.getElem?_eq_some_iff.mp hx).1
    have hl : acc.length < 100000 := by
      rw [h2, List.length_map]
      have := List.length_filter_le p (items.take i)
      rw [List.length_take] at this
      omega
    refine step i x acc R hx hl fun st2 e => hR _ _ ⟨e, ?_⟩
    rw [h2, List.take_add_one, hx]
    by_cases hp : p x = true
    · simp [hp]
    · simp [hp]
  · rintro acc st' ⟨h1, h2⟩
    rw [List.take_length] at h2
    rw [h1, h2]
    exact fin
/-- all turns give one -/
theorem lc_map1 {g : DG} {tt : DT} {te : DE} {vs : List Nat} {P : List Da → Ds → Prop} {items : List Da} {st : Ds} (f : Da → Da) (hz : items.length ≤ 100000)
    (step : ∀ (i : Nat) (x : Da) (acc : List Da) (R : List Da → Ds → Prop), items[i]? = some x → acc.length < 100000 → (∀ st', st'.wp vs = st.wp vs → R (acc ++ [f x]) st') →
      g x (st.wp vs) fun st1 => tt st1 fun b st2 => if b = true then te st2 fun d st3 => acc.length < 100000 ∧ fzT d st3 (fun d' st' => R (acc ++ [d']) st') else R acc st2)
    (fin : P (items.map f) (st.wp vs)) : lcGo g tt te vs P items [] st := by
  refine lc_map (fun _ => true) f hz (fun i x acc R hx hl h => step i x acc R hx hl fun st' e => ?_) ?_
  · have := h st' e
    rwa [if_pos rfl] at this
  · rw [List.filter_eq_self.mpr (fun _ _ => rfl)]
    exact fin
end
/-! #### calls and drills -/
def calDa (g : Bool) (c : Cal) : Da := match g with
  | true => .cal true c.1 c.2.1 c.2.2
  | false => .tup [c.1.a, .str c.2.1, .str c.2.2]
theorem calDa_asT {g : Bool} {c : Cal} : (calDa g c).asT = some [c.1.a, .str c.2.1, .str c.2.2] := by cases g <;> rfl
def drDa (g : Bool) (cs : List Cal) : Da := .lst (cs.map (calDa g))
end Q

set_option Elab.async false
set_option linter.all false
set_option maxRecDepth 100000
set_option maxHeartbeats 4000000
namespace Q
open PySem PySem.Spec PyProof.Rows L2
/-! ### steps of a walk on data -/
def Ds.tick (st : Ds) (n : Int) : Ds := ⟨st.δ, n⟩
def Ds.put (st : Ds) (i : Nat) (s : Sl) : Ds := ⟨st.δ.set i s, st.n⟩
def onBl (d : Da) (Q : Bool → Prop) : Prop := match d with
  | .bl b => Q b
  | _ => False
def onInt (d : Da) (Q : Int → Prop) : Prop := match d with
  | .int b => Q b
  | _ => False
def onStr (d : Da) (Q : Str → Prop) : Prop := match d with
  | .str b => Q b
  | _ => False
def onL (o : Option (List Da)) (Q : List Da → Prop) : Prop := match o with
  | some ds => Q ds
  | none => False
def onI (d : Da) (Q : Nat → Prop) : Prop := match d with
  | .own i => Q i
  | _ => False
def onO (o : Option Sl) (Q : List Da → Prop) : Prop := match o with
  | some (.own c) => Q c
  | _ => False
def mkT (ds : List Da) (st : Ds) (P : Da → Ds → Prop) : Prop := ds.length ≤ 1000 ∧ P (.tup (st.fzs ds).1) (st.fzs ds).2
def mkL (ds : List Da) (st : Ds) (P : List Da → Ds → Prop) : Prop := ds.length ≤ 1000 ∧ P (st.fzs ds).1 (st.fzs ds).2
def fzL (d : Da) (st : Ds) (P : List Da → Ds → Prop) : Prop := onL (st.fz d).1.asL fun ds => P ds (st.fz d).2
def fzU (d : Da) (st : Ds) (P : List Da → Ds → Prop) : Prop := onL (st.fz d).1.asT fun ds => P ds (st.fz d).2
def callF (fd : FD) (ds : List Da) (st : Ds) (P : Da → Ds → Prop) : Prop := fd (st.fzs ds).1 st.n fun d n' => P d (Ds.tick (st.fzs ds).2 n')
def callB (fd : FD) (ds : List Da) (st : Ds) (P : Da → Ds → Prop) : Prop := fd (st.fzs ds).1 st.n fun d n' => d.scl = true ∧ P d (Ds.tick st n')
def muF (fm : FMu) (i : Nat) (es : List Da) (st : Ds) (P : Da → Ds → Prop) : Prop := onO (st.fzs es).2.δ[i]? fun c => fm c (st.fzs es).1 fun c' d => P d (Ds.put (st.fzs es).2 i (.own c'))
def kwF (is : List Nat) (fd : FD) (ds : List Da) (st : Ds) (P : Da → Ds → Prop) : Prop := ds.length = is.length ∧ fd (pick is (st.fzs ds).1) st.n fun d n' => P d (Ds.tick (st.fzs ds).2 n')
def kwB (is : List Nat) (fd : FD) (ds : List Da) (st : Ds) (P : Da → Ds → Prop) : Prop := ds.length = is.length ∧ fd (pick is (st.fzs ds).1) st.n fun d n' => d.scl = true ∧ P d (Ds.tick st n')
def on1 (l : List Da) (Q : Da → Prop) : Prop := match l with
  | [d] => Q d
  | _ => False
def on2 (l : List Da) (Q : Da → Da → Prop) : Prop := match l with
  | [d, e] => Q d e
  | _ => False

section
variable {st st' : Ds} {P : Da → Ds → Prop} {PB : Bool → Ds → Prop} {PA : List Da → Ds → Prop} {PS : Ds → Prop} {PO : Option Int → Ds → Prop} {R : Da → Prop} {D : DD} {i j : Nat} {d d' x x' y y' : Da} {ds : List Da} {a b e : DE} {α : DA} {c u : DT} {s r : DC} {g : DG} {gs : DGs} {f : F2} {h : F1} {fc : FC} {fd : FD} {o1 o2 : DO} {m n : Int} {z w : Str} {k : Bool}
theorem fz_kd {k : Kd} : st.fz k.a = (k.a, st) := by cases k <;> rfl
theorem pk_kd {k : Kd} : st.pk k.a = k.a := by cases k <;> rfl
/-- no thing of one owner -/
def Da.stl : Da → Bool
  | .own _ => false
  | _ => true
theorem kd_stl {k : Kd} : k.a.stl = true := by cases k <;> rfl
theorem calDa_stl {g : Bool} {c : Cal} : (calDa g c).stl = true := by cases g <;> rfl
theorem fz_stl (h : d.stl = true) : st.fz d = (d, st) := by cases d <;> first | rfl | cases h
theorem pk_stl (h : d.stl = true) : st.pk d = d := by cases d <;> first | rfl | cases h
theorem fzs_stl : ∀ {ds : List Da}, ds.all Da.stl = true → st.fzs ds = (ds, st)
  | [], _ => rfl
  | d :: r, h => by
    rw [List.all_cons, Bool.and_eq_true] at h
    show ((st.fz d).1 :: ((st.fz d).2.fzs r).1, ((st.fz d).2.fzs r).2) = _
    rw [fz_stl h.1]
    dsimp only
    rw [fzs_stl h.2]
theorem fz_own {L L2 : List Sl} {l : List Da} (h : L[i]? = some (.own l)) (h2 : L.set i (.dat (.lst l)) = L2) : (⟨L, n⟩ : Ds).fz (.own i) = (.lst l, ⟨L2, n⟩) := by
  subst h2
  unfold Ds.fz
  dsimp only
  rw [h]
theorem fz_ownD {l : List (L2.Key × Da)} {L L2 : List Sl} (h : L[i]? = some (.ownD l)) (h2 : L.set i (.dat (.dic l)) = L2) : (⟨L, n⟩ : Ds).fz (.own i) = (.dic l, ⟨L2, n⟩) := by
  subst h2
  unfold Ds.fz
  dsimp only
  rw [h]
theorem pk_own {l : List Da} (h : st.δ[i]? = some (.own l)) : st.pk (.own i) = .lst l := by unfold Ds.pk; dsimp only; rw [h]
theorem pk_ownD {l : List (L2.Key × Da)} (h : st.δ[i]? = some (.ownD l)) : st.pk (.own i) = .dic l := by unfold Ds.pk; dsimp only; rw [h]
theorem fzs_nil : st.fzs [] = ([], st) := rfl
theorem fzs_cons {r r' : List Da} {st1 : Ds} (h : st.fz d = (d', st1)) (h2 : st1.fzs r = (r', st')) : st.fzs (d :: r) = (d' :: r', st') := by
  show ((st.fz d).1 :: ((st.fz d).2.fzs r).1, ((st.fz d).2.fzs r).2) = _
  rw [h]
  dsimp only
  rw [h2]
theorem k_var (hd : st.δ[i]? = some (.dat d)) (q : P d st) : eVar i st P := by unfold eVar; rw [hd]; exact q
theorem k_varO {l : List Da} (hd : st.δ[i]? = some (.own l)) (q : P (.own i) st) : eVar i st P := by unfold eVar; rw [hd]; exact q
theorem k_varD {l : List (L2.Key × Da)} (hd : st.δ[i]? = some (.ownD l)) (q : P (.own i) st) : eVar i st P := by unfold eVar; rw [hd]; exact q
theorem n_put {T : Ds → Prop} {L L2 : List Sl} {s : Sl} (h : L.set i s = L2) (q : T ⟨L2, n⟩) : T (Ds.put ⟨L, n⟩ i s) := by unfold Ds.put; dsimp only; rw [h]; exact q
theorem n_putE {β : Type} {T : Ds → β → Prop} {b : β} {L L2 : List Sl} {s : Sl} (h : L.set i s = L2) (q : T ⟨L2, n⟩ b) : T (Ds.put ⟨L, n⟩ i s) b := by unfold Ds.put; dsimp only; rw [h]; exact q
theorem n_put2 {T : Ds → Prop} {L L2 L3 : List Sl} {s s' : Sl} (h : L.set i s = L2) (h' : L2.set j s' = L3) (q : T ⟨L3, n⟩) : T (Ds.put (Ds.put ⟨L, n⟩ i s) j s') := by unfold Ds.put; dsimp only; rw [h, h']; exact q
theorem n_tick {T : Ds → Prop} {L : List Sl} (q : T ⟨L, m⟩) : T (Ds.tick ⟨L, n⟩ m) := q
theorem n_tickE {β : Type} {T : Ds → β → Prop} {b : β} {L : List Sl} (q : T ⟨L, m⟩ b) : T (Ds.tick ⟨L, n⟩ m) b := q
theorem k_c (q : P d st) : eC d st P := q
theorem k_op (q : a st fun x st1 => b st1 fun y st2 => f (st2.pk x) (st2.pk y) fun d => P d st2) : eOp f a b st P := q
theorem k_opN {f : Da → Da → (List Da → Prop) → Prop} (q : a st fun x st1 => b st1 fun y st2 => f (st2.pk x) (st2.pk y) fun d => PA d st2) : eOpN f a b st PA := q
theorem k_un (q : a st fun x st1 => h (st1.pk x) fun d => P d st1) : eUn h a st P := q
theorem k_pk2 (h1 : st.pk x = x') (h2 : st.pk y = y') (q : f x' y' R) : f (st.pk x) (st.pk y) R := by rw [h1, h2]; exact q
theorem k_pk2N {f : Da → Da → (List Da → Prop) → Prop} {R : List Da → Prop} (h1 : st.pk x = x') (h2 : st.pk y = y') (q : f x' y' R) : f (st.pk x) (st.pk y) R := by rw [h1, h2]; exact q
theorem k_pk1 (h1 : st.pk x = x') (q : h x' R) : h (st.pk x) R := by rw [h1]; exact q
theorem k_new (q : α st fun ds st' => P (.lst ds) st') : eNew α st P := q
theorem k_nil (q : PA [] st) : aNil st PA := q
theorem k_cons (q : e st fun d st1 => α st1 fun ds st2 => PA (d :: ds) st2) : aCons e α st PA := q
theorem k_cb (q : α st fun ds st1 => fc (ds.map st1.pk) fun d => P d st1) : eCB fc α st P := q
theorem k_cbN {f : List Da → (List Da → Prop) → Prop} (q : α st fun ds st1 => f (ds.map st1.pk) fun d => PA d st1) : eCBN f α st PA := q
theorem k_mp0 {st : Ds} : ([] : List Da).map st.pk = [] := rfl
theorem k_mp1 (h1 : st.pk x = x') (q : fc [x'] R) : fc ([x].map st.pk) R := by rw [List.map_cons, List.map_nil, h1]; exact q
theorem k_mp2 (h1 : st.pk x = x') (h2 : st.pk y = y') (q : fc [x', y'] R) : fc ([x, y].map st.pk) R := by rw [List.map_cons, List.map_cons, List.map_nil, h1, h2]; exact q
theorem k_mp1N {f : List Da → (List Da → Prop) → Prop} {R : List Da → Prop} (h1 : st.pk x = x') (q : f [x'] R) : f ([x].map st.pk) R := by rw [List.map_cons, List.map_nil, h1]; exact q
theorem k_call (q : α st fun ds st1 => callF fd ds st1 P) : eCall fd α st P := q
theorem k_callB (q : α st fun ds st1 => callB fd ds st1 P) : eCallB fd α st P := q
theorem k_kw {is : List Nat} (q : α st fun ds st1 => kwF is fd ds st1 P) : eKw is fd α st P := q
theorem k_kwB {is : List Nat} (q : α st fun ds st1 => kwB is fd ds st1 P) : eKwB is fd α st P := q
theorem k_cF {L L' : List Sl} {ds ds' : List Da} (h : (⟨L, n⟩ : Ds).fzs ds = (ds', ⟨L', m⟩)) (q : fd ds' n fun d n' => P d ⟨L', n'⟩) : callF fd ds ⟨L, n⟩ P := by unfold callF; rw [h]; exact q
theorem k_cB {L : List Sl} {ds ds' : List Da} (h : (⟨L, n⟩ : Ds).fzs ds = (ds', st')) (q : fd ds' n fun d n' => d.scl = true ∧ P d ⟨L, n'⟩) : callB fd ds ⟨L, n⟩ P := by unfold callB; rw [h]; exact q
theorem k_kF {is : List Nat} {L L' : List Sl} {ds ds' ds'' : List Da} (hl : ds.length = is.length) (h : (⟨L, n⟩ : Ds).fzs ds = (ds', ⟨L', m⟩)) (hp : pick is ds' = ds'') (q : fd ds'' n fun d n' => P d ⟨L', n'⟩) : kwF is fd ds ⟨L, n⟩ P := ⟨hl, by rw [h, hp]; exact q⟩
theorem k_kB {is : List Nat} {L : List Sl} {ds ds' ds'' : List Da} (hl : ds.length = is.length) (h : (⟨L, n⟩ : Ds).fzs ds = (ds', st')) (hp : pick is ds' = ds'') (q : fd ds'' n fun d n' => d.scl = true ∧ P d ⟨L, n'⟩) : kwB is fd ds ⟨L, n⟩ P := ⟨hl, by rw [h, hp]; exact q⟩
theorem k_tup (q : α st fun ds st1 => mkT ds st1 P) : eTup α st P := q
theorem k_lst (q : α st fun ds st1 => mkL ds st1 PA) : eLst α st PA := q
theorem k_mkT {ds ds' : List Da} (hl : Nat.ble ds.length 1000 = true) (h : st.fzs ds = (ds', st')) (q : P (.tup ds') st') : mkT ds st P := ⟨Nat.le_of_ble_eq_true hl, by rw [h]; exact q⟩
theorem k_mkL {ds ds' : List Da} (hl : Nat.ble ds.length 1000 = true) (h : st.fzs ds = (ds', st')) (q : PA ds' st') : mkL ds st PA := ⟨Nat.le_of_ble_eq_true hl, by rw [h]; exact q⟩
theorem k_bE (q : e st fun d st1 => onBl (st1.pk d) fun b => PB b st1) : bE e st PB := q
theorem k_bl {b : Bool} {T : Bool → Prop} (h : st.pk d = .bl b) (q : T b) : onBl (st.pk d) T := by rw [h]; exact q
theorem k_bl0 {b : Bool} {T : Bool → Prop} (q : T b) : onBl (.bl b) T := q
theorem k_and (q : c st fun b st1 => if b = true then u st1 PB else PB false st1) : bAnd c u st PB := q
theorem k_or (q : c st fun b st1 => if b = true then PB true st1 else u st1 PB) : bOr c u st PB := q
theorem k_not (q : c st fun b st1 => PB (!b) st1) : bNot c st PB := q
theorem k_yes (q : PB true st) : bYes st PB := q
theorem k_if (q : c st fun k st1 => if k = true then a st1 P else b st1 P) : eIf c a b st P := q
theorem k_andV (q : bE a st fun k st1 => if k = true then b st1 P else P (.bl false) st1) : eAndV a b st P := q
theorem k_orV (q : bE a st fun k st1 => if k = true then P (.bl true) st1 else b st1 P) : eOrV a b st P := q
theorem k_notV (q : bE a st fun k st1 => P (.bl (!k)) st1) : eNotV a st P := q
theorem k_chain {f g : F2} (q : a st fun x st1 => b st1 fun y st2 => f (st2.pk x) (st2.pk y) fun z => onBl z fun k => if k = true then e st2 fun w st3 => g (st3.pk y) (st3.pk w) fun d => P d st3 else P (.bl false) st2) : eChain f g a b e st P := q
/-- operators -/
theorem k_AddI (q : R (.int (m + n))) : fAddI (.int m) (.int n) R := q
theorem k_SubI (q : R (.int (m - n))) : fSubI (.int m) (.int n) R := q
theorem k_MulI (hc : CMul m n) (q : R (.int (m * n))) : fMulI (.int m) (.int n) R := ⟨hc, q⟩
theorem k_ModI (hc : 0 < n) (q : R (.int (m % n))) : fModI (.int m) (.int n) R := ⟨hc, q⟩
theorem k_DivI (hc : CDivW m n) (q : R (.int (m / n))) : fDivI (.int m) (.int n) R := ⟨hc, q⟩
theorem k_PowI (hc : CPow m n) (q : R (.int (m ^ n.toNat))) : fPowI (.int m) (.int n) R := ⟨hc, q⟩
theorem k_PowW (hc : CPowW m n) (q : R (.int (m ^ n.toNat))) : fPowW (.int m) (.int n) R := ⟨hc, q⟩
theorem k_MulW (hc : CMulW m n) (q : R (.int (m * n))) : fMulW (.int m) (.int n) R := ⟨hc, q⟩
theorem k_LtI (q : R (.bl (decide (m < n)))) : fLtI (.int m) (.int n) R := q
theorem k_LeI (q : R (.bl (decide (m ≤ n)))) : fLeI (.int m) (.int n) R := q
theorem k_GtI (q : R (.bl (decide (n < m)))) : fGtI (.int m) (.int n) R := q
theorem k_GeI (q : R (.bl (decide (n ≤ m)))) : fGeI (.int m) (.int n) R := q
theorem k_NegI (q : R (.int (-m))) : fNegI (.int m) R := q
theorem k_ip {g : Int → Int → Int} (q : R (.int (g m n))) : ipI' g (.int m) (.int n) R := q
theorem k_AddS (hl : z.length + w.length ≤ sizeLine) (q : R (.str (z ++ w))) : fAddS (.str z) (.str w) R := ⟨hl, q⟩
theorem k_Eq (hs : sclEq x y = some k) (q : R (.bl k)) : fEq x y R := by unfold fEq; rw [hs]; exact q
theorem k_Ne (hs : sclEq x y = some k) (q : R (.bl (!k))) : fNe x y R := by unfold fNe; rw [hs]; exact q
theorem k_InC {c : Nat} (q : R (.bl (decide (c ∈ TL.tl w)))) : fInC (.str ⟨#[c]⟩) (.str w) R := ⟨c, w, rfl, rfl, q⟩
theorem k_NotInC {c : Nat} (q : R (.bl (!decide (c ∈ TL.tl w)))) : fNotInC (.str ⟨#[c]⟩) (.str w) R := ⟨c, w, rfl, rfl, q⟩
theorem k_IsN (hs : isNon x = some k) (q : R (.bl k)) : fIsN x .non R := by unfold fIsN; rw [hs]; exact q
theorem k_NotN (hs : isNon x = some k) (q : R (.bl (!k))) : fNotN x .non R := by unfold fNotN; rw [hs]; exact q
theorem k_IxL (hs : x.asL = some ds) (e : atI ds m = some d) (q : R d) : fIxL x (.int m) R := by unfold fIxL; rw [hs]; exact ⟨d, e, q⟩
theorem k_IxT (hs : x.asT = some ds) (e : atI ds m = some d) (q : R d) : fIxT x (.int m) R := by unfold fIxT; rw [hs]; exact ⟨d, e, q⟩
theorem k_IxS {c : Nat} (hz : z.length ≤ sizeLine) (e : atI (TL.tl z) m = some c) (q : R (.str ⟨#[c]⟩)) : fIxS (.str z) (.int m) R := ⟨hz, c, e, q⟩
theorem k_Cat {l l' : List Da} {R : List Da → Prop} (hl : l.length + l'.length ≤ 100000) (q : R (l ++ l')) : fCat (.lst l) (.lst l') R := ⟨hl, q⟩
theorem k_Rep {l : List Da} {R : List Da → Prop} (h1 : -1000000000 ≤ m) (h2 : m ≤ 1000000000) (hl : l.length * m.toNat ≤ 100000) (q : R (repL m.toNat l)) : fRep (.lst l) (.int m) R := ⟨h1, h2, hl, q⟩
theorem k_In {neg : Bool} (hs : y.asS = some ds) (h1 : flatD x = true) (h2 : ds.all flatD = true) (q : R (.bl (if neg then !inF x ds else inF x ds))) : fIn neg x y R := by unfold fIn; rw [hs]; exact ⟨h1, h2, q⟩
theorem k_LenL (hs : x.asS = some ds) (q : R (.int ds.length)) : fLenL [x] R := by
  show (match x.asS with
    | some l => R (.int l.length)
    | none => False)
  rw [hs]; exact q
theorem k_LenS (hz : z.length ≤ sizeLine) (q : R (.int z.length)) : fLenS [.str z] R := ⟨hz, q⟩
theorem k_Max2 (q : R (.int (if n > m then n else m))) : fMax2 [.int m, .int n] R := q
theorem k_Min2 (q : R (.int (if n < m then n else m))) : fMin2 [.int m, .int n] R := q
theorem k_Int1b (q : R (.int (if k then 1 else 0))) : fInt1 [.bl k] R := q
theorem k_Int1i (q : R (.int m)) : fInt1 [.int m] R := q
theorem k_Abs (q : R (.int (if m < 0 then -m else m))) : fAbs [.int m] R := q
theorem k_ListS {R : List Da → Prop} (hz : z.length ≤ 16777216) (q : R (sgD z)) : fListS [.str z] R := ⟨hz, q⟩
theorem k_ListL {R : List Da → Prop} (hs : x.asS = some ds) (q : R ds) : fListL [x] R := by
  show (match x.asS with
    | some l => R l
    | none => False)
  rw [hs]; exact q
/-- parts of a slice -/
theorem k_oNo (q : PO none st) : oNo st PO := q
theorem k_oPart (q : e st fun d st1 => onInt (st1.pk d) fun i => PO (some i) st1) : oPart e st PO := q
theorem k_int {T : Int → Prop} (h : st.pk d = .int m) (q : T m) : onInt (st.pk d) T := by rw [h]; exact q
theorem k_slL (q : e st fun x st1 => o1 st1 fun lo st2 => o2 st2 fun hi st3 => onL (st3.pk x).asL fun ds => PA (cutG ds lo hi) st3) : eSlL e o1 o2 st PA := q
theorem k_asl {T : List Da → Prop} (h : st.pk d = d') (hs : d'.asL = some ds) (q : T ds) : onL (st.pk d).asL T := by rw [h, hs]; exact q
theorem k_slS (q : e st fun x st1 => o1 st1 fun lo st2 => o2 st2 fun hi st3 => onStr (st3.pk x) fun z => z.length ≤ sizeLine ∧ P (.str (cutS z lo hi)) st3) : eSlS e o1 o2 st P := q
theorem k_strP {T : Str → Prop} (h : st.pk d = .str z) (q : T z) : onStr (st.pk d) T := by rw [h]; exact q
theorem k_m1 {fm : FM} (q : a st fun x st1 => onStr (st1.pk x) fun z => b st1 fun y st2 => fm (.str z) (st2.pk y) fun d => P d st2) : eM1 fm a b st P := q
theorem k_pkM {fm : FM} (h1 : st.pk y = y') (q : fm (.str z) y' R) : fm (.str z) (st.pk y) R := by rw [h1]; exact q
theorem k_Count (q : R (.int (Txt.count z w))) : fCount (.str z) (.str w) R := q
theorem k_SIndex {i : Nat} {rest : List Nat} (h : Builtin.Str.occurrences z w 0 z.length 1 = i :: rest) (q : R (.int (i : Nat))) : fSIndex (.str z) (.str w) R := ⟨i, rest, h, q⟩
theorem k_Join {ys : List Str} (h : y.asS = some (ys.map Da.str)) (hz : (ys.map (·.length)).sum + ys.length * z.length ≤ 16777216) (q : R (.str (Txt.join z ys))) : fJoin (.str z) y R := ⟨ys, h, hz, q⟩
/-- lists of one owner -/
theorem k_mu {fm : FMu} (q : a st fun x st1 => onI x fun i => onO st1.δ[i]? fun _ => α st1 fun es st2 => muF fm i es st2 P) : eMu fm a α st P := q
theorem k_mu0 {T : Nat → Prop} (q : T i) : onI (.own i) T := q
theorem k_mu1 {T : List Da → Prop} {l : List Da} (h : st.δ[i]? = some (.own l)) (q : T l) : onO st.δ[i]? T := by rw [h]; exact q
theorem k_mu2 {fm : FMu} {L L' : List Sl} {es es' l : List Da} (h : (⟨L, n⟩ : Ds).fzs es = (es', ⟨L', m⟩)) (h2 : L'[i]? = some (.own l)) (q : fm l es' fun c' d => P d (Ds.put ⟨L', m⟩ i (.own c'))) : muF fm i es ⟨L, n⟩ P := by unfold muF; rw [h]; dsimp only; rw [h2]; exact q
theorem k_Append {l : List Da} {T : List Da → Da → Prop} (hl : l.length < 100000) (q : T (l ++ [d]) .non) : fAppend l [d] T := ⟨hl, q⟩
theorem k_PopAt {l : List Da} {T : List Da → Da → Prop} (h0 : 0 ≤ m) (h1 : m ≤ 100000) (hn : m.toNat < l.length) (hd : l[m.toNat]? = some d) (q : T (l.eraseIdx m.toNat) d) : fPopAt l [.int m] T := by
  refine ⟨by omega, by omega, m.toNat, d, ?_, hd, q⟩
  have e : (if m < 0 then m + (l.length : Int) else m) = m := if_neg (by omega)
  unfold seqIndex?
  simp only [e]
  rw [if_pos (by simp; omega)]
theorem k_Extend {l l' : List Da} {T : List Da → Da → Prop} (hl : l.length + l'.length ≤ 100000) (q : T (l ++ l') .non) : fExtend l [.lst l'] T := ⟨hl, q⟩
/-- statements -/
theorem s_seq (q : s { D with nx := r D } st) : cSeq s r D st := q
theorem s_next (q : D.nx st) : cNext D st := q
theorem s_drop (q : e st fun _ st1 => D.nx st1) : cDrop e D st := q
theorem s_ret (q : e st fun d st1 => fzT d st1 D.rt) : cRet e D st := q
theorem s_fz (h : st.fz d = (d', st')) (q : P d' st') : fzT d st P := by unfold fzT; rw [h]; exact q
theorem s_retN (q : D.rt .non st) : cRetN D st := q
theorem s_if (q : c st fun b st1 => if b = true then s D st1 else r D st1) : cIf c s r D st := q
/-- if: what both ways reach -/
theorem s_ifJ (J : Ds → Prop) (hJ : ∀ st, J st → D.nx st) (q : ∀ R : Ds → Prop, (∀ st, J st → R st) → c st fun b st1 => if b = true then s { D with nx := R } st1 else r { D with nx := R } st1) : cIf c s r D st := q D.nx hJ
theorem s_asg (q : e st fun d st1 => g d st1 D.nx) : cAsg e g D st := q
theorem s_asgN (q : α st fun ds st1 => D.nx (Ds.put st1 i (.own ds))) : cAsgN i α D st := q
theorem s_break (q : D.bk st) : cBreak D st := q
theorem s_cont (q : D.ct st) : cCont D st := q
theorem s_aug (q : eVar i st fun x st0 => e st0 fun y st1 => f (st1.pk x) (st1.pk y) fun d => D.nx (Ds.put st1 i (.dat d))) : cAug i e f D st := q
theorem s_par (q : α st fun ds st1 => on2 (st1.fzs ds).1 fun d1 d2 => D.nx (Ds.put (Ds.put (st1.fzs ds).2 i (.dat d1)) j (.dat d2))) : cPar i j α D st := q
theorem s_par2 {es : List Da} (h : st.fzs es = ([x, y], st')) (q : PS (Ds.put (Ds.put st' i (.dat x)) j (.dat y))) : on2 (st.fzs es).1 (fun d1 d2 => PS (Ds.put (Ds.put (st.fzs es).2 i (.dat d1)) j (.dat d2))) := by rw [h]; exact q
theorem s_for {di : DI} (q : di st fun items st1 => forGo g s D items st1) : cFor di g s D st := q
theorem s_lc {di : DI} {vs : List Nat} (q : di st fun items st1 => lcGo g c e vs PA items [] st1) : eLc di g c e vs st PA := q
theorem g_nm (h : st.fz d = (d', st')) (q : PS (Ds.put st' i (.dat d'))) : dName i d st PS := by unfold dName; rw [h]; exact q
theorem g_nl (q : PS st) : dNil [] st PS := q
theorem g_cn (q : g d st fun st1 => gs ds st1 PS) : dCons g gs (d :: ds) st PS := q
theorem g_tp {n : Nat} (h : st.fz d = (d', st')) (hs : d'.asT = some ds) (hn : ds.length = n) (q : gs ds st' PS) : dTup n gs d st PS := by unfold dTup; rw [h]; dsimp only; rw [hs]; exact ⟨hn, q⟩
theorem g_sl (h : st.fz d = (d', st')) (q : a st' fun x st1 => b st1 fun i st2 => onI x fun j => onInt (st2.pk i) fun k => onO st2.δ[j]? fun c => ∃ n, ixN c.length k = some n ∧ PS (Ds.put st2 j (.own (c.set n d')))) : dSetL a b d st PS := by
  unfold dSetL
  rw [h]
  have key : ∀ (x i : Da) (st2 : Ds), (onI x fun j => onInt (st2.pk i) fun k => onO st2.δ[j]? fun c => ∃ n, ixN c.length k = some n ∧ PS (Ds.put st2 j (.own (c.set n d')))) =
      (match x, st2.pk i with
      | .own j, .int i => (match st2.δ[j]? with
        | some (.own c) => ∃ n, ixN c.length i = some n ∧ PS { st2 with δ := st2.δ.set j (.own (c.set n d')) }
        | _ => False)
      | _, _ => False) := by
    intro x i st2
    cases x <;> try rfl
    generalize st2.pk i = y
    cases y <;> rfl
  have e : (fun x st1 => b st1 fun i st2 => onI x fun j => onInt (st2.pk i) fun k => onO st2.δ[j]? fun c => ∃ n, ixN c.length k = some n ∧ PS (Ds.put st2 j (.own (c.set n d')))) =
      (fun x st1 => b st1 fun i st2 => match x, st2.pk i with
      | .own j, .int i => (match st2.δ[j]? with
        | some (.own c) => ∃ n, ixN c.length i = some n ∧ PS { st2 with δ := st2.δ.set j (.own (c.set n d')) }
        | _ => False)
      | _, _ => False) := by
    funext x st1
    congr 1
    funext i st2
    exact key x i st2
  rw [e] at q
  exact q
theorem g_sl2 {l : List Da} {n : Nat} (h2 : st.δ[j]? = some (.own l)) (hn : ixN l.length m = some n) (q : PS (Ds.put st j (.own (l.set n d)))) : onO st.δ[j]? fun c => ∃ n, ixN c.length m = some n ∧ PS (Ds.put st j (.own (c.set n d))) := by rw [h2]; exact ⟨n, hn, q⟩
theorem ite_same {T : Type} {v : T} [Decidable (v = v)] {A B : Prop} (q : A) : if decide (v = v) = true then A else B := by rw [decide_eq_true (rfl : v = v)]; exact q
theorem ite_dT {p : Prop} [Decidable p] {A B : Prop} (h : p) (q : A) : if decide p = true then A else B := by rw [decide_eq_true h]; exact q
theorem ite_dF {p : Prop} [Decidable p] {A B : Prop} (h : ¬p) (q : B) : if decide p = true then A else B := by rw [decide_eq_false h]; exact q
/-- what is walked -/
theorem i_list (q : e st fun d st1 => fzL d st1 PA) : diL e st PA := q
theorem i_asl (h : st.fz d = (d', st')) (hs : d'.asL = some ds) (q : PA ds st') : fzL d st PA := by unfold fzL; rw [h]; dsimp only; rw [hs]; exact q
theorem i_tup (q : e st fun d st1 => fzU d st1 PA) : diT e st PA := q
theorem i_ast (h : st.fz d = (d', st')) (hs : d'.asT = some ds) (q : PA ds st') : fzU d st PA := by unfold fzU; rw [h]; dsimp only; rw [hs]; exact q
theorem i_str (q : e st fun d st1 => onStr (st1.pk d) fun z => PA (sgD z) st1) : diS e st PA := q
def onR1 (l : List Da) (Q : Int → Prop) : Prop := match l with
  | [.int j] => Q j
  | _ => False
def onR2 (l : List Da) (Q : Int → Int → Prop) : Prop := match l with
  | [.int i, .int j] => Q i j
  | _ => False
def onS1 (l : List Da) (Q : Str → Prop) : Prop := match l with
  | [.str j] => Q j
  | _ => False
theorem i_rng1 (q : α st fun ds st1 => onR1 (ds.map st1.pk) fun j => -(2 ^ 62) ≤ j ∧ j < 2 ^ 62 ∧ PA ((List.range j.toNat).map fun i => .int (i : Nat)) st1) : diR1 α st PA := q
theorem i_r1 (h : st.pk d = .int m) (h0 : -(2 ^ 62) ≤ m ∧ m < 2 ^ 62) (q : PA ((List.range m.toNat).map fun i => .int (i : Nat)) st) : onR1 ([d].map st.pk) (fun j => -(2 ^ 62) ≤ j ∧ j < 2 ^ 62 ∧ PA ((List.range j.toNat).map fun i => .int (i : Nat)) st) := by rw [List.map_cons, List.map_nil, h]; exact ⟨h0.1, h0.2, q⟩
theorem i_rng2 (q : α st fun ds st1 => onR2 (ds.map st1.pk) fun i j => -(2 ^ 62) ≤ i ∧ i < 2 ^ 62 ∧ -(2 ^ 62) ≤ j ∧ j < 2 ^ 62 ∧ PA ((List.range (j - i).toNat).map fun n => .int (i + (n : Nat))) st1) : diR2 α st PA := q
theorem i_r2 (h : st.pk d = .int m) (h' : st.pk x = .int n) (h0 : -(2 ^ 62) ≤ m ∧ m < 2 ^ 62 ∧ -(2 ^ 62) ≤ n ∧ n < 2 ^ 62) (q : PA ((List.range (n - m).toNat).map fun i => .int (m + (i : Nat))) st) : onR2 ([d, x].map st.pk) (fun i j => -(2 ^ 62) ≤ i ∧ i < 2 ^ 62 ∧ -(2 ^ 62) ≤ j ∧ j < 2 ^ 62 ∧ PA ((List.range (j - i).toNat).map fun n => .int (i + (n : Nat))) st) := by rw [List.map_cons, List.map_cons, List.map_nil, h, h']; exact ⟨h0.1, h0.2.1, h0.2.2.1, h0.2.2.2, q⟩
def enF (ds : List Da) (st1 : Ds) (PA : List Da → Ds → Prop) : Prop := match (st1.fzs ds).1 with
  | [d] => (match d.asL with
    | some l => PA (prD ((List.range l.length).map fun i => .int (i : Nat)) l) (st1.fzs ds).2
    | none => False)
  | _ => False
def zpF (ds : List Da) (st1 : Ds) (PA : List Da → Ds → Prop) : Prop := match (st1.fzs ds).1 with
  | [d, d'] => (match d.asL, d'.asL with
    | some l, some l' => PA (prD l l') (st1.fzs ds).2
    | _, _ => False)
  | _ => False
theorem i_enum (q : α st fun ds st1 => enF ds st1 PA) : diE α st PA := q
theorem i_zip (q : α st fun ds st1 => zpF ds st1 PA) : diZ α st PA := q
theorem i_en {es : List Da} (h : st.fzs es = ([d], st')) (hs : d.asL = some ds) (q : PA (prD ((List.range ds.length).map fun i => .int (i : Nat)) ds) st') : enF es st PA := by unfold enF; rw [h]; dsimp only; rw [hs]; exact q
theorem i_zp {es l l' : List Da} (h : st.fzs es = ([d, d'], st')) (hs : d.asL = some l) (hs' : d'.asL = some l') (q : PA (prD l l') st') : zpF es st PA := by unfold zpF; rw [h]; dsimp only; rw [hs, hs']; exact q
theorem i_onL {o : Option (List Da)} {T : List Da → Prop} (h : o = some ds) (q : T ds) : onL o T := by rw [h]; exact q
theorem i_enumS (q : α st fun ds st1 => onS1 (ds.map st1.pk) fun z => PA (prD ((List.range (sgD z).length).map fun i => .int (i : Nat)) (sgD z)) st1) : diES α st PA := q
theorem i_enS {T : Str → Prop} (h : st.pk d = .str z) (q : T z) : onS1 ([d].map st.pk) T := by rw [List.map_cons, List.map_nil, h]; exact q
end
end Q

set_option Elab.async false
set_option linter.all false
set_option maxRecDepth 100000
set_option maxHeartbeats 4000000
namespace Q
open PySem PySem.Spec PyProof.Rows L2
/-! ### dicts with int and text keys -/
abbrev Ky := L2.Key
def valG {β : Type} (kvs : List (Ky × β)) (k : Ky) : Option β := (kvs.find? fun kv => decide (kv.1 = k)).map (·.2)
def putG {β : Type} (kvs : List (Ky × β)) (k : Ky) (v : β) : List (Ky × β) :=
  if (kvs.any fun kv => decide (kv.1 = k)) = true then kvs.map (fun kv => if kv.1 = k then (kv.1, v) else kv) else kvs ++ [(k, v)]
def dropG {β : Type} (kvs : List (Ky × β)) (k : Ky) : List (Ky × β) := kvs.filter fun kv => decide (kv.1 ≠ k)
def Da.key : Da → Option Ky
  | .int i => some (.inl i)
  | .str z => some (.inr z)
  | _ => none
section
variable {K : PySem.W.Frag} {W : Wo} {S H : Hp} {v x y : V} {d dx dy : Da} {es : List (Ky × V)} {kvs : List (Ky × Da)} {k : Ky}
theorem DeKV.length : ∀ {es : List (Ky × V)} {kvs : List (Ky × Da)}, DeKV K S es kvs → es.length = kvs.length
  | _, _, .nil => rfl
  | _, _, .cons h a => congrArg Nat.succ (DeKV.length a)
theorem DeKV.val : ∀ {es : List (Ky × V)} {kvs : List (Ky × Da)}, DeKV K S es kvs → (∀ d, valG kvs k = some d → ∃ v, valV es k = some v ∧ De K S v d) ∧ (valG kvs k = none → valV es k = none)
  | _, _, .nil => by
    refine ⟨fun d h => ?_, fun _ => rfl⟩
    have h : (none : Option Da) = some d := h
    cases h
  | _, _, .cons (k := k0) (v := v) (d := d) h a => by
    have ih := DeKV.val a
    by_cases e : k0 = k
    · have g1 : ∀ r, valG ((k0, d) :: r) k = some d := fun r => by unfold valG; rw [List.find?_cons, decide_eq_true e]; rfl
      have g2 : ∀ r, valV ((k0, v) :: r) k = some v := fun r => by unfold valV; rw [List.find?_cons, decide_eq_true (show ((k0, v) : Ky × V).1 = k from e)]; rfl
      rw [g1, g2]
      exact ⟨fun d' hd => by cases hd; exact ⟨v, rfl, h⟩, fun hd => nomatch hd⟩
    · have e1 : ∀ r, valG ((k0, d) :: r) k = valG r k := fun r => by unfold valG; rw [List.find?_cons, decide_eq_false e]
      have e2 : ∀ r, valV ((k0, v) :: r) k = valV r k := fun r => by unfold valV; rw [List.find?_cons, decide_eq_false (show ¬ ((k0, v) : Ky × V).1 = k from e)]
      rw [e1, e2]
      exact ih
theorem DeKV.any : ∀ {es : List (Ky × V)} {kvs : List (Ky × Da)}, DeKV K S es kvs → (es.any fun kv => decide (kv.1 = k)) = (kvs.any fun kv => decide (kv.1 = k))
  | _, _, .nil => rfl
  | _, _, .cons h a => by rw [List.any_cons, List.any_cons, DeKV.any a]
theorem DeKV.append : ∀ {es es' : List (Ky × V)} {kvs kvs' : List (Ky × Da)}, DeKV K S es kvs → DeKV K S es' kvs' → DeKV K S (es ++ es') (kvs ++ kvs')
  | _, _, _, _, .nil, b => b
  | _, _, _, _, .cons h a, b => .cons h (DeKV.append a b)
theorem DeKV.repl (hv : De K S v d) : ∀ {es : List (Ky × V)} {kvs : List (Ky × Da)}, DeKV K S es kvs → DeKV K S (es.map fun kv => if kv.1 = k then (kv.1, v) else kv) (kvs.map fun kv => if kv.1 = k then (kv.1, d) else kv)
  | _, _, .nil => .nil
  | _, _, .cons (k := k0) h a => by
    rw [List.map_cons, List.map_cons]
    by_cases e : k0 = k
    · rw [if_pos e, if_pos e]; exact .cons hv (DeKV.repl hv a)
    · rw [if_neg e, if_neg e]; exact .cons h (DeKV.repl hv a)
theorem DeKV.put (h : DeKV K S es kvs) (hv : De K S v d) : DeKV K S (putK es k v) (putG kvs k d) := by
  unfold putK putG
  rw [h.any]
  split
  · exact h.repl hv
  · exact h.append (.cons hv .nil)
theorem DeKV.vals : ∀ {es : List (Ky × V)} {kvs : List (Ky × Da)}, DeKV K S es kvs → DeAll K S (es.map (·.2)) (kvs.map (·.2))
  | _, _, .nil => .nil
  | _, _, .cons h a => .cons h (DeKV.vals a)
def onK (d : Da) (Q : Ky → Prop) : Prop := match d.key with
  | some k => Q k
  | none => False
def onD (d : Da) (Q : List (Ky × Da) → Prop) : Prop := match d with
  | .dic kvs => Q kvs
  | _ => False
def onOD (o : Option Sl) (Q : List (Ky × Da) → Prop) : Prop := match o with
  | some (.ownD c) => Q c
  | _ => False
theorem key_v (h : DeH K S H v d) (e : d.key = some k) : v = kV k := by
  cases d <;> first | (cases e; done) | (cases e; first | exact De.int_of h | exact De.str_of h)
/-- d[k] -/
def eDGet (a b : DE) : DE := fun st P => a st fun x st1 => b st1 fun y st2 => onD (st2.pk x) fun kvs => onK (st2.pk y) fun k => ∃ d, valG kvs k = some d ∧ P d st2
theorem se_dget {ta tb : TE} {a b : DE} (ha : SE K W ta a) (hb : SE K W tb b) : SE K W (tDGet ta tb) (eDGet a b) := by
  intro S0 H0 S H σ st P Q I he k
  refine ha S0 H0 S H σ st _ _ I he fun x dx S1 H1 st1 I1 e1 r1 q1 => ?_
  refine hb S0 H0 S1 H1 σ st1 _ _ I1 q1 fun y dy S2 H2 st2 I2 e2 r2 q2 => ?_
  have hx := pk_ok I2 (r1.mono e2)
  have hy := pk_ok I2 r2
  cases hd : st2.pk dx with
  | dic kvs =>
    rw [hd] at q2 hx
    cases hk : (st2.pk dy).key with
    | none => unfold onD onK at q2; dsimp only at q2; rw [hk] at q2; exact q2.elim
    | some ky =>
      unfold onD onK at q2
      dsimp only at q2
      rw [hk] at q2
      obtain ⟨d, hv, q⟩ := q2
      obtain ⟨p, es, rfl, hr, hD⟩ := hx.dic I2.sub
      obtain ⟨v, h1, h2⟩ := (hD.val (k := ky)).1 d hv
      exact ⟨p, v, rfl, .inl ⟨es, ky, hr, key_v hy hk, h1.symm⟩, k v d S2 H2 st2 I2 (e1.trans e2) (.inr h2) q⟩
  | _ => rw [hd] at q2; exact q2.elim
/-- d[k] = v, d a dict of one owner -/
def dSetD (a b : DE) : DG := fun d st P => a (st.fz d).2 fun x st1 => b st1 fun i st2 => onI x fun j => onK (st2.pk i) fun k => onOD st2.δ[j]? fun c => c.length < 100000 ∧ P { st2 with δ := st2.δ.set j (.ownD (putG c k (st.fz d).1)) }
theorem put_core {S0 H0 : Hp} {σ : L2.St} {st3 : Ds} {j : Nat} {x v : V} {ky : Ky} {d : Da} {c : List (Ky × Da)} {yv : V} (I3 : Ok ⟨K, W, S0, H0⟩ S H σ st3) (r : RelD K S σ x (.own j)) (hj : st3.δ[j]? = some (.ownD c)) (hy : yv = kV ky) (hv : De K S v d) (hl : c.length < 100000) :
    ∃ p H', x = .ref p ∧ DPut H p yv v H' ∧ Ok ⟨K, W, S0, H0⟩ S H' σ { st3 with δ := st3.δ.set j (.ownD (putG c ky d)) } := by
  obtain ⟨p, es, rfl, hvj, hS, hH, hD⟩ := ownD_at I3 r hj
  have hlen : es.length < sizeLine := Nat.lt_of_lt_of_le (by rw [hD.length]; exact hl) (by decide)
  exact ⟨p, _, rfl, .inl ⟨es, ky, hH, hy, hlen, rfl⟩, I3.mut hj rfl hvj hS (s' := .ownD (putG c ky d)) ⟨p, _, rfl, hS, upd_same, hD.put hv⟩ rfl⟩
theorem onI_own {d : Da} {T : Nat → Prop} (h : onI d T) : ∃ j, d = .own j ∧ T j := by
  cases d <;> first | exact ⟨_, rfl, h⟩ | exact h.elim
theorem onK_key {d : Da} {T : Ky → Prop} (h : onK d T) : ∃ j, d.key = some j ∧ T j := by
  unfold onK at h
  cases hk : d.key with
  | none => rw [hk] at h; exact h.elim
  | some k => rw [hk] at h; exact ⟨k, rfl, h⟩
theorem onOD_own {o : Option Sl} {T : List (Ky × Da) → Prop} (h : onOD o T) : ∃ c, o = some (.ownD c) ∧ T c := by
  cases o with
  | none => exact h.elim
  | some s => cases s <;> first | exact ⟨_, rfl, h⟩ | exact h.elim
theorem sg_setD {ta tb : TE} {a b : DE} (ha : SE K W ta a) (hb : SE K W tb b) : SG K W [] (gSub ta tb rSetD) (dSetD a b) := by
  intro S0 H0 S H σ st v d P Q I r he k
  obtain ⟨S1, e1, I1, h1⟩ := fz_ok I r
  refine ha S0 H0 S1 H σ _ _ _ I1 he fun x dx S2 H2 st2 I2 e2 r2 q2 => ?_
  refine hb S0 H0 S2 H2 σ st2 _ _ I2 q2 fun y dy S3 H3 st3 I3 e3 r3 q3 => ?_
  obtain ⟨j, rfl, q3⟩ := onI_own q3
  obtain ⟨ky, hk, q3⟩ := onK_key q3
  obtain ⟨c, hj, hl, q3⟩ := onOD_own q3
  obtain ⟨p, H', rfl, hp, I'⟩ := put_core (v := v) I3 (r2.mono e3) hj (key_v (pk_ok I3 r3) hk) (h1.mono (e2.trans e3)) hl
  exact ⟨p, H', rfl, hp, k _ _ _ _ I' ((e1.trans e2).trans e3) ⟨rfl, fun _ _ => rfl⟩ q3⟩
def cDPut (a b e : DE) : DC := fun D st => e st fun d st1 => a (st1.fz d).2 fun x st2 => b st2 fun y st3 => onI x fun j => onK (st3.pk y) fun k => onOD st3.δ[j]? fun c => c.length < 100000 ∧ D.nx { st3 with δ := st3.δ.set j (.ownD (putG c k (st1.fz d).1)) }
theorem ss_dput {ta tb te : TE} {a b e : DE} (ha : SE K W ta a) (hb : SE K W tb b) (he : SE K W te e) : SS K W (sDPut ta tb te) (cDPut a b e) := by
  intro S0 H0 S H σ st D E I hh k
  refine he S0 H0 S H σ st _ _ I hh fun v d S1 H1 st1 I1 e1 r1 q1 => ?_
  obtain ⟨S2, e2, I2, h2⟩ := fz_ok I1 r1
  refine ha S0 H0 S2 H1 σ _ _ _ I2 q1 fun x dx S3 H3 st3 I3 e3 r3 q3 => ?_
  refine hb S0 H0 S3 H3 σ st3 _ _ I3 q3 fun y dy S4 H4 st4 I4 e4 r4 q4 => ?_
  obtain ⟨j, rfl, q4⟩ := onI_own q4
  obtain ⟨ky, hk, q4⟩ := onK_key q4
  obtain ⟨c, hj, hl, q4⟩ := onOD_own q4
  obtain ⟨p, H', rfl, hp, I'⟩ := put_core (v := v) I4 (r3.mono e4) hj (key_v (pk_ok I4 r4) hk) (h2.mono (e3.trans e4)) hl
  exact ⟨p, H', rfl, hp, k.nx _ _ _ _ I' q4⟩
/-- d[k] op= e, ints -/
def cDAug (a b e : DE) (g : Int → Int → Int) : DC := fun D st => a st fun x st1 => b st1 fun y st2 => onD (st2.pk x) fun kvs => onK (st2.pk y) fun k => ∃ m, valG kvs k = some (.int m) ∧ e st2 fun z st3 => onI x fun j => onInt (st3.pk z) fun n => onOD st3.δ[j]? fun c => c.length < 100000 ∧ D.nx { st3 with δ := st3.δ.set j (.ownD (putG c k (.int (g m n)))) }
theorem ss_daug {ta tb te : TE} {a b e : DE} {g : Int → Int → Int} {r : V → V → Hp → VK → Prop} (hr : r = fun x y H Q => ∃ i j, x = .int i ∧ y = .int j ∧ Q (.int (g i j)) H) (ha : SE K W ta a) (hb : SE K W tb b) (he : SE K W te e) : SS K W (sDAug ta tb te r) (cDAug a b e g) := by
  subst hr
  intro S0 H0 S H σ st D E I hh k
  refine ha S0 H0 S H σ st _ _ I hh fun x dx S1 H1 st1 I1 e1 r1 q1 => ?_
  refine hb S0 H0 S1 H1 σ st1 _ _ I1 q1 fun y dy S2 H2 st2 I2 e2 r2 q2 => ?_
  have hx := pk_ok I2 (r1.mono e2)
  have hy := pk_ok I2 r2
  cases hd : st2.pk dx with
  | dic kvs =>
    rw [hd] at q2 hx
    obtain ⟨ky, hk, m, hv, q2⟩ := onK_key q2
    obtain ⟨p, es, rfl, hr, hD⟩ := hx.dic I2.sub
    obtain ⟨v, h1, h2⟩ := (hD.val (k := ky)).1 _ hv
    refine ⟨p, v, rfl, .inl ⟨es, ky, hr, key_v hy hk, h1.symm⟩, ?_⟩
    refine he S0 H0 S2 H2 σ st2 _ _ I2 q2 fun z dz S3 H3 st3 I3 e3 r3 q3 => ?_
    obtain ⟨j, rfl, q3⟩ := onI_own q3
    have hz := pk_ok I3 r3
    cases hz2 : st3.pk dz with
    | int n =>
      rw [hz2] at q3 hz
      obtain ⟨c, hj, hl, q3⟩ := onOD_own q3
      obtain ⟨p', H', e, hp, I'⟩ := put_core (v := .int (g m n)) (d := .int (g m n)) (yv := y) I3 (r1.mono (e2.trans e3)) hj (key_v hy hk) (.int _) hl
      cases e
      exact ⟨m, n, h2.int_inv, De.int_of hz, H', hp, k.nx _ _ _ _ I' q3⟩
    | _ => rw [hz2] at q3; exact q3.elim
  | _ => rw [hd] at q2; exact q2.elim
theorem rAdd_eq : rAdd = fun x y H Q => ∃ i j, x = .int i ∧ y = .int j ∧ Q (.int (i + j)) H := rfl
theorem rSub_eq : rSub = fun x y H Q => ∃ i j, x = .int i ∧ y = .int j ∧ Q (.int (i - j)) H := rfl
/-- new dicts -/
abbrev DKV := Ds → (List (Ky × Da) → Ds → Prop) → Prop
def SD (K : PySem.W.Frag) (W : Wo) (t : TE) (e : DKV) : Prop := ∀ (S0 H0 S H : Hp) (σ : L2.St) (st : Ds) (P : List (Ky × Da) → Ds → Prop) (Q : VK), Ok ⟨K, W, S0, H0⟩ S H σ st → e st P →
  (∀ p es kvs S' H' st', Ok ⟨K, W, S0, H0⟩ S' H' σ st' → Same S S' → H' p = some (.dK es) → S' p = none → p ∉ W.M → H0 p = none → (∀ (i : Nat) (s : Sl), st'.δ[i]? = some s → s.isOwn = true → σ[i]? ≠ some (some (.ref p))) → DeKV K S' es kvs → P kvs st' → Q (.ref p) H') → t σ H Q
def eNewD (α : DKV) : DE := fun st P => α st fun ds st' => P (.dic ds) st'
theorem SD.se {t : TE} {α : DKV} (h : SD K W t α) : SE K W t (eNewD α) := by
  intro S0 H0 S H σ st P Q I he k
  refine h S0 H0 S H σ st _ Q I he fun p es kvs S' H' st' I' e hp hs hm h0 hn hd hP => ?_
  exact k _ _ _ _ _ (I'.put hp hs hm h0 hn) (e.trans (same_upd hs)) (.inr (.dic (.inl upd_same) (hd.mono (same_upd hs)))) hP
def cAsgD (i : Nat) (α : DKV) : DC := fun D st => α st fun ds st1 => D.nx { st1 with δ := st1.δ.set i (.ownD ds) }
theorem ss_asgD {i : Nat} {te : TE} {α : DKV} (h : SD K W te α) : SS K W (tAsg te (gName i)) (cAsgD i α) := fun S0 H0 S H σ st D E I he k =>
  h S0 H0 S H σ st _ _ I he fun p es kvs S' H' st' I' e hp hs hm h0 hn hd q => k.nx _ _ _ _ (I'.setOwn (s := .ownD kvs) ⟨p, es, rfl, hs, hp, hd⟩ hm h0 hn) q
def mergeG (kvs more : List (Ky × Da)) : List (Ky × Da) := more.foldl (fun acc kv => putG acc kv.1 kv.2) kvs
def zipG (z : Str) (ds : List Da) : List (Ky × Da) := ((TL.tl z).map fun c => (Sum.inr ⟨#[c]⟩ : Ky)).zip ds
theorem DeKV.merge : ∀ {more : List (Ky × V)} {more' : List (Ky × Da)} {es : List (Ky × V)} {kvs : List (Ky × Da)}, DeKV K S more more' → DeKV K S es kvs → DeKV K S (mergeK es more) (mergeG kvs more')
  | _, _, _, _, .nil, h => h
  | (k, v) :: more, (_, d) :: more', es, kvs, .cons h a, b => by
    show DeKV K S (mergeK (putK es k v) more) (mergeG (putG kvs k d) more')
    exact DeKV.merge a (b.put h)
theorem DeKV.zip : ∀ {ks : List Ky} {vs : List V} {ds : List Da}, DeAll K S vs ds → DeKV K S (ks.zip vs) (ks.zip ds)
  | [], _, _, _ => by rw [List.zip_nil_left, List.zip_nil_left]; exact .nil
  | _ :: _, _, _, .nil => by rw [List.zip_nil_right, List.zip_nil_right]; exact .nil
  | _ :: _, _, _, .cons h a => .cons h (DeKV.zip a)
def eDZipN (α : DA) : DKV := fun st P => α st fun ds st1 => on2 (ds.map st1.pk) fun a b => onStr a fun z => onL b.asL fun l => z.cps.all (· < 128) = true ∧ z.length = l.length ∧ P (mergeG [] (zipG z l)) st1
theorem on2_inv {l : List Da} {T : Da → Da → Prop} (h : on2 l T) : ∃ a b, l = [a, b] ∧ T a b := by
  match l, h with
  | [a, b], h => exact ⟨a, b, rfl, h⟩
theorem onStr_inv {d : Da} {T : Str → Prop} (h : onStr d T) : ∃ z, d = .str z ∧ T z := by
  cases d <;> first | exact ⟨_, rfl, h⟩ | exact h.elim
theorem onL_inv {o : Option (List Da)} {T : List Da → Prop} (h : onL o T) : ∃ l, o = some l ∧ T l := by
  cases o <;> first | exact ⟨_, rfl, h⟩ | exact h.elim
theorem sd_dzip {A : TA} {α : DA} (h : SA K W A α) : SD K W (tDZip K A) (eDZipN α) := by
  intro S0 H0 S H σ st P Q I he k
  refine h S0 H0 S H σ st _ _ I he fun vs ds S1 H1 st1 I1 e1 r1 q1 => ?_
  have hp := pks_ok I1 r1
  obtain ⟨a, b, hab, q1⟩ := on2_inv q1
  obtain ⟨z, rfl, q1⟩ := onStr_inv q1
  obtain ⟨l, hl, hz, hlen, q1⟩ := onL_inv q1
  rw [hab] at hp
  obtain ⟨v, w, rfl, hv, hw⟩ := deHs2 hp
  rw [De.str_of hv]
  obtain ⟨q, ys, rfl, h1, h2⟩ := hw.asL hl I1.sub
  refine ⟨z, q, ys, rfl, h1, hz, by rw [h2.length]; exact hlen, fun p hp0 => ?_⟩
  exact k p _ _ S1 _ st1 (I1.alloc hp0) e1 upd_same (I1.sn hp0) (I1.nm hp0) (I1.h0 hp0) (I1.nown hp0) (DeKV.merge (DeKV.zip h2) .nil) q1
def eDZip (α : DA) : DE := eNewD (eDZipN α)
theorem se_dzip {A : TA} {α : DA} (h : SA K W A α) : SE K W (tDZip K A) (eDZip α) := SD.se (sd_dzip h)
/-- list(d.values()), d a dict of one owner -/
def eListVals (e : DE) : DA := fun st P => e st fun x st1 => onI x fun j => onOD st1.δ[j]? fun c => P (c.map (·.2)) st1
theorem sn_listVals {te : TE} {e : DE} (h : SE K W te e) : SN K W (tListVals te) (eListVals e) := by
  intro S0 H0 S H σ st P Q I he k
  refine h S0 H0 S H σ st _ _ I he fun x dx S1 H1 st1 I1 e1 r1 q1 => ?_
  obtain ⟨j, rfl, q1⟩ := onI_own q1
  obtain ⟨c, hj, q1⟩ := onOD_own q1
  obtain ⟨p, es, rfl, hv, hS, hH, hD⟩ := ownD_at I1 r1 hj
  exact ⟨p, es, rfl, hH, fun q hq => k q _ _ S1 _ st1 (I1.alloc hq) e1 upd_same (I1.sn hq) (I1.nm hq) (I1.h0 hq) (I1.nown hq) hD.vals q1⟩
/-! isinstance -/
def Da.tyn : Da → Option String
  | .int _ => some "int"
  | .str _ => some "str"
  | .bl _ => some "bool"
  | .non => some "NoneType"
  | .lst _ => some "list"
  | _ => none
def fIsi : FC := fun ds P => ∃ d T t b, ds = [d, .ty T] ∧ d.tyn = some t ∧ kitB t T = some b ∧ P (.bl b)
end
/-! steps -/
section
variable {st st' : Ds} {P : Da → Ds → Prop} {PA : List Da → Ds → Prop} {PK : List (Ky × Da) → Ds → Prop} {PS : Ds → Prop} {D : DD} {i j : Nat} {d d' x y : Da} {a b e : DE} {α : DA} {κ : DKV} {m n : Int} {k : Ky} {z : Str} {c : List (Ky × Da)}
theorem k_dget (q : a st fun x st1 => b st1 fun y st2 => onD (st2.pk x) fun kvs => onK (st2.pk y) fun k => ∃ d, valG kvs k = some d ∧ P d st2) : eDGet a b st P := q
theorem k_onD {T : List (Ky × Da) → Prop} (h : st.pk d = .dic c) (q : T c) : onD (st.pk d) T := by rw [h]; exact q
theorem k_onK {T : Ky → Prop} (h : st.pk d = d') (h' : d'.key = some k) (q : T k) : onK (st.pk d) T := by rw [h]; unfold onK; rw [h']; exact q
theorem k_onOD {T : List (Ky × Da) → Prop} (h : st.δ[i]? = some (.ownD c)) (q : T c) : onOD st.δ[i]? T := by rw [h]; exact q
theorem k_onInt {T : Int → Prop} (h : st.pk d = .int m) (q : T m) : onInt (st.pk d) T := by rw [h]; exact q
theorem g_sd (h : st.fz d = (d', st')) (q : a st' fun x st1 => b st1 fun i st2 => onI x fun j => onK (st2.pk i) fun k => onOD st2.δ[j]? fun c => c.length < 100000 ∧ PS (Ds.put st2 j (.ownD (putG c k d')))) : dSetD a b d st PS := by unfold dSetD; rw [h]; exact q
theorem s_dput (q : e st fun d st1 => fzT d st1 fun d' st1' => a st1' fun x st2 => b st2 fun y st3 => onI x fun j => onK (st3.pk y) fun k => onOD st3.δ[j]? fun c => c.length < 100000 ∧ D.nx (Ds.put st3 j (.ownD (putG c k d')))) : cDPut a b e D st := q
theorem s_daug {g : Int → Int → Int} (q : a st fun x st1 => b st1 fun y st2 => onD (st2.pk x) fun kvs => onK (st2.pk y) fun k => ∃ m, valG kvs k = some (.int m) ∧ e st2 fun z st3 => onI x fun j => onInt (st3.pk z) fun n => onOD st3.δ[j]? fun c => c.length < 100000 ∧ D.nx (Ds.put st3 j (.ownD (putG c k (.int (g m n)))))) : cDAug a b e g D st := q
theorem k_newD (q : κ st fun ds st' => P (.dic ds) st') : eNewD κ st P := q
theorem s_asgD (q : κ st fun ds st1 => D.nx (Ds.put st1 i (.ownD ds))) : cAsgD i κ D st := q
theorem k_dzip (q : α st fun ds st1 => on2 (ds.map st1.pk) fun a b => onStr a fun z => onL b.asL fun l => z.cps.all (· < 128) = true ∧ z.length = l.length ∧ PK (mergeG [] (zipG z l)) st1) : eDZipN α st PK := q
theorem k_dz {l : List Da} (h1 : st.pk x = .str z) (h2 : st.pk y = d) (h3 : d.asL = some l) (hz : z.cps.all (· < 128) = true) (hl : z.length = l.length) (q : PK (mergeG [] (zipG z l)) st) : on2 ([x, y].map st.pk) (fun a b => onStr a fun z => onL b.asL fun l => z.cps.all (· < 128) = true ∧ z.length = l.length ∧ PK (mergeG [] (zipG z l)) st) := by
  rw [List.map_cons, List.map_cons, List.map_nil, h1, h2]
  show onL d.asL _
  rw [h3]
  exact ⟨hz, hl, q⟩
theorem n_wp1 {T : Ds → Prop} {L L2 : List Sl} (h : L.set i .un = L2) (q : T ⟨L2, n⟩) : T (Ds.wp ⟨L, n⟩ [i]) := by subst h; exact q
theorem n_wp1E {β : Type} {T : Ds → β → Prop} {b : β} {L L2 : List Sl} (h : L.set i .un = L2) (q : T ⟨L2, n⟩ b) : T (Ds.wp ⟨L, n⟩ [i]) b := by subst h; exact q
theorem n_wp2 {T : Ds → Prop} {L L2 L3 : List Sl} (h : L.set j .un = L2) (h' : L2.set i .un = L3) (q : T ⟨L3, n⟩) : T (Ds.wp ⟨L, n⟩ [i, j]) := by subst h; subst h'; exact q
theorem n_wp2E {β : Type} {T : Ds → β → Prop} {b : β} {L L2 L3 : List Sl} (h : L.set j .un = L2) (h' : L2.set i .un = L3) (q : T ⟨L3, n⟩ b) : T (Ds.wp ⟨L, n⟩ [i, j]) b := by subst h; subst h'; exact q
theorem n_wp3 {T : Ds → Prop} {l : Nat} {L L2 L3 L4 : List Sl} (h : L.set l .un = L2) (h' : L2.set j .un = L3) (h'' : L3.set i .un = L4) (q : T ⟨L4, n⟩) : T (Ds.wp ⟨L, n⟩ [i, j, l]) := by subst h; subst h'; subst h''; exact q
theorem n_wp3E {β : Type} {T : Ds → β → Prop} {b : β} {l : Nat} {L L2 L3 L4 : List Sl} (h : L.set l .un = L2) (h' : L2.set j .un = L3) (h'' : L3.set i .un = L4) (q : T ⟨L4, n⟩ b) : T (Ds.wp ⟨L, n⟩ [i, j, l]) b := by subst h; subst h'; subst h''; exact q
theorem k_on2 {T : Da → Da → Prop} (q : T x y) : on2 [x, y] T := q
theorem k_on1 {T : Da → Prop} (q : T x) : on1 [x] T := q
theorem k_onStr0 {T : Str → Prop} (q : T z) : onStr (.str z) T := q
theorem k_onInt0 {T : Int → Prop} (q : T m) : onInt (.int m) T := q
theorem k_lvals (q : e st fun x st1 => onI x fun j => onOD st1.δ[j]? fun c => PA (c.map (·.2)) st1) : eListVals e st PA := q
end
end Q

set_option Elab.async false
set_option linter.all false
set_option maxRecDepth 100000
set_option maxHeartbeats 4000000
namespace Q
open PySem PySem.Spec PyProof.Rows L2
/-! ### list.count of things that are no objects; repr of nested data -/
def rCntF (K : PySem.W.Frag) : V → List V → Hp → VK → Prop := fun x xs H Q => ∃ (p : Addr) (ys : List V) (y : V), x = .ref p ∧ xs = [y] ∧ SqL K H p ys ∧ flatV y = true ∧ ys.all flatV = true ∧ Q (.int (ys.countP (fun z => eqV z y) : Nat)) H
theorem count_eqU {x : V} : ∀ {xs : List V} {us : List Value}, Vals xs us → xs.all flatV = true → us.countP (eqU x) = xs.countP fun y => eqV y x
  | _, _, .nil, _ => rfl
  | y :: xs, u :: us, .cons r t, f => by
    rw [List.all_cons, Bool.and_eq_true] at f
    rw [List.countP_cons, List.countP_cons, eqU_of r f.1, count_eqU t f.2]
theorem mt_lcountF {X : Cx} : MtR X "list.count" (rCntF X.K) := by
  intro pins s σ H x xs v us Q I rx rxs h
  obtain ⟨p, ys, y, rfl, rfl, hs, fy, fys, q⟩ := h
  cases rx
  obtain ⟨u, rfl, ru⟩ := rxs.one
  obtain ⟨its, rv, ⟨⟨cls, dd, data, sl⟩, n, ho, hc, hdn, hd⟩, hlen⟩ := I.list hs
  simp only at hc hd
  subst hc hd
  refine call_meets PySem.F.slot_list_count ⟨_, ho, rfl⟩ PySem.F.entry_list_count (PySem.F.args_list_count_2 _ _)
    (SeqAt.list_countAt p its.toArray n dd sl u (eqU y)) ⟨ho, fun w hw => mem_eqAt ru fy rv fys w (by simpa using hw), ?_⟩
  have ec : its.toArray.toList.countP (eqU y) = ys.countP (fun z => eqV z y) := count_eqU rv fys
  refine ⟨.int (ys.countP (fun z => eqV z y) : Nat), H, I.tok _, ⟨s.toks, ?_⟩, q⟩
  show Value.int ((its.toArray.toList.countP (eqU y) : Nat) : Int) s.toks = _
  rw [ec]
def rReprD (K : PySem.W.Frag) : List V → Hp → VK → Prop := fun xs H Q => ∃ a d, xs = [.ref a] ∧ Dp K H (.ref a) d ∧ d.showable = true ∧ d.hasDict = false ∧ d.depth ≤ 9 ∧ d.shown.length ≤ sizeLine ∧ Q (.str d.shown) H
theorem cr_reprD {X : Cx} {k : Nat} (hr : Room k X.A) (hgd : X.A.guards = some []) : CallR X (.builtin "repr") (rReprD X.K) := by
  intro pins s σ H vs us Q I r h
  obtain ⟨a, d, rfl, hd, h1, h2, h3, h4, q⟩ := h
  rw [Vals.ref1 r]
  obtain ⟨as, hR⟩ := Dp.reads I d (.ref a) (.ref a) hd rfl
  refine repr_of_reads' hR h1 (PyData.noDict_hsm h2) hgd (by have := hr.un; omega) (fun _ _ e => e) (fun h' u tk hk => ⟨.str _, H, I.kept hk, ⟨_, rfl⟩, q⟩) h4
end Q

set_option Elab.async false
set_option linter.all false
set_option maxRecDepth 100000
set_option maxHeartbeats 4000000
namespace Q
open PySem PySem.Spec PyProof.Rows L2
section
variable {K : PySem.W.Frag} {W : Wo} {S H : Hp} {v x y : V} {d dx dy : Da} {ds : List Da}
/-! ### methods of lists that change nothing -/
abbrev FL := List Da → List Da → (Da → Prop) → Prop
def RLOk (K : PySem.W.Frag) (r : V → List V → Hp → VK → Prop) (f : FL) : Prop := ∀ (S H : Hp) (p : Addr) (xs as : List V) (ds es : List Da) (P : Da → Prop) (Q : VK), Same S H → SqL K H p xs → DeAll K S xs ds → DeHs K S H as es → f ds es P → (∀ v d S' H', Ext S H S' H' → De K S' v d → P d → Q v H') → r (.ref p) as H Q
def eML (f : FL) (a : DE) (α : DA) : DE := fun st P => a st fun x st1 => ∃ l, (st1.pk x).asL = some l ∧ α st1 fun es st2 => ∃ l2, (st2.pk x).asL = some l2 ∧ f l2 (es.map st2.pk) fun d => P d st2
theorem se_ml {r : V → List V → Hp → VK → Prop} {f : FL} {ta : TE} {A : TA} {a : DE} {α : DA} (h : RLOk K r f) (ha : SE K W ta a) (hA : SA K W A α) : SE K W (tBM K "list" r ta A) (eML f a α) := by
  intro S0 H0 S H σ st P Q I he k
  refine ha S0 H0 S H σ st _ _ I he fun x dx S1 H1 st1 I1 e1 r1 ⟨l, hl, q1⟩ => ?_
  obtain ⟨p, xs, rfl, hs, hD⟩ := (pk_ok I1 r1).asL hl I1.sub
  refine ⟨.inl ⟨rfl, xs, hs⟩, ?_⟩
  refine hA S0 H0 S1 H1 σ st1 _ _ I1 q1 fun as es S2 H2 st2 I2 e2 r2 ⟨l2, hl2, q2⟩ => ?_
  obtain ⟨p2, xs2, e, hs2, hD2⟩ := (pk_ok I2 (r1.mono e2)).asL hl2 I2.sub
  cases e
  exact h S2 H2 p xs2 as l2 _ _ _ I2.sub hs2 hD2 (pks_ok I2 r2) q2 fun v d S3 H3 ex hd hP => k v d S3 H3 st2 (I2.ext ex) ((e1.trans e2).trans ex.s) (.inr hd) hP
def fCntF : FL := fun l es P => ∃ d, es = [d] ∧ flatD d = true ∧ l.all flatD = true ∧ P (.int (l.countP (fun z => eqF z d) : Nat))
theorem count_eqF {xs : List V} (hx : De K S x dx) (e : flatD dx = true) (h : DeAll K S xs ds) (e' : ds.all flatD = true) : (xs.countP fun z => eqV z x) = ds.countP fun z => eqF z dx := by
  induction ds generalizing xs with
  | nil => cases h; rfl
  | cons d r ih =>
    cases h with
    | cons h1 h2 =>
      rw [List.all_cons, Bool.and_eq_true] at e'
      rw [List.countP_cons, List.countP_cons, eqF_v h1 hx e'.1 e, ih h2 e'.2]
theorem rl_CntF : RLOk K (rCntF K) fCntF := by
  rintro S H p xs as ds es P Q s hp hD hA ⟨d, rfl, h1, h2, f⟩ k
  obtain ⟨v, rfl, hv⟩ := deHs1 hA
  have hv := hv.scl (flat_scl h1)
  exact ⟨p, xs, v, rfl, rfl, hp, flat_v hv h1, flat_all hD h2, by rw [count_eqF hv h1 hD h2]; exact k _ _ S H (Ext.refl s) (.int _) f⟩
/-! repr -/
def Da.isObj : Da → Bool
  | .lst _ => true
  | .tup _ => true
  | .cal _ _ _ _ => true
  | _ => false
def fReprD : FC := fun ds P => ∃ d, ds = [d] ∧ d.isPy = true ∧ d.isObj = true ∧ d.py.showable = true ∧ d.py.hasDict = false ∧ d.py.depth ≤ 9 ∧ d.py.shown.length ≤ sizeLine ∧ P (.str d.py.shown)
theorem rc_ReprD : RCOk K (rReprD K) fReprD := by
  rintro S H xs ds P Q s hx ⟨d, rfl, h0, hs, h1, h2, h3, h4, f⟩ k
  obtain ⟨v, rfl, hv⟩ := deHs1 hx
  have hd := hv.dp s h0
  have hr : ∃ a, v = .ref a := by
    cases d with
    | lst l => obtain ⟨a, xs, rfl, _⟩ := hv.lst s; exact ⟨a, rfl⟩
    | tup l => obtain ⟨a, xs, rfl, _⟩ := hv.asT rfl s; exact ⟨a, rfl⟩
    | cal g k x y => obtain ⟨a, xs, rfl, _⟩ := hv.asT rfl s; exact ⟨a, rfl⟩
    | _ => cases hs
  obtain ⟨a, rfl⟩ := hr
  exact ⟨a, _, rfl, hd, h1, h2, h3, h4, k _ _ S H (Ext.refl s) (.str _) f⟩
end
section
variable {st : Ds} {P : Da → Ds → Prop} {R : Da → Prop} {x x' d : Da} {a : DE} {α : DA} {l es es' : List Da} {f : FL}
theorem k_pw {m n v : Int} (hc : CPow m n) (e : m ^ n.toNat = v) (q : R (.int v)) : fPowI (.int m) (.int n) R := ⟨hc, by show R (.int (m ^ n.toNat)); rw [e]; exact q⟩
theorem k_10_5 (q : R (.int 100000)) : fPowI (.int 10) (.int 5) R := k_pw (by unfold CPow; decide) (by decide +kernel) q
theorem k_10_6 (q : R (.int 1000000)) : fPowI (.int 10) (.int 6) R := k_pw (by unfold CPow; decide) (by decide +kernel) q
theorem k_10_9 (q : R (.int 1000000000)) : fPowI (.int 10) (.int 9) R := k_pw (by unfold CPow; decide) (by decide +kernel) q
theorem k_10_15 (q : R (.int 1000000000000000)) : fPowI (.int 10) (.int 15) R := k_pw (by unfold CPow; decide) (by decide +kernel) q
theorem k_10_18 (q : R (.int 1000000000000000000)) : fPowI (.int 10) (.int 18) R := k_pw (by unfold CPow; decide) (by decide +kernel) q
theorem k_10_29 (q : R (.int 100000000000000000000000000000)) : fPowI (.int 10) (.int 29) R := k_pw (by unfold CPow; decide) (by decide +kernel) q
theorem k_10_30 (q : R (.int 1000000000000000000000000000000)) : fPowI (.int 10) (.int 30) R := k_pw (by unfold CPow; decide) (by decide +kernel) q
theorem k_2_61 (q : R (.int 2305843009213693952)) : fPowI (.int 2) (.int 61) R := k_pw (by unfold CPow; decide) (by decide +kernel) q
theorem k_ml (q : a st fun x st1 => ∃ l, (st1.pk x).asL = some l ∧ α st1 fun es st2 => ∃ l2, (st2.pk x).asL = some l2 ∧ f l2 (es.map st2.pk) fun d => P d st2) : eML f a α st P := q
theorem k_ml1 {T : Prop} (h : st.pk x = x') (hl : x'.asL = some l) (q : T) : ∃ l, (st.pk x).asL = some l ∧ T := ⟨l, by rw [h]; exact hl, q⟩
theorem k_ml2 {st2 : Ds} (h : st2.pk x = x') (hl : x'.asL = some l) (q : f l (es.map st.pk) R) : ∃ l2, (st2.pk x).asL = some l2 ∧ f l2 (es.map st.pk) R := ⟨l, by rw [h]; exact hl, q⟩
theorem k_mpL (h : st.pk d = x') (q : f l [x'] R) : f l ([d].map st.pk) R := by rw [List.map_cons, List.map_nil, h]; exact q
theorem k_CntF (h1 : flatD d = true) (h2 : l.all flatD = true) (q : R (.int (l.countP (fun z => eqF z d) : Nat))) : fCntF l [d] R := ⟨d, rfl, h1, h2, q⟩
end
/-! ### the law behind its source -/
theorem law_tail {K : PySem.W.Frag} {W : Wo} {t : TS} {c : DC} {H H1 : Hp} {σ : L2.St} {st : Ds} {Q : VK} (hs : SS K W t c) (e : Same H H1) (off : ∀ b ∈ W.M, H b = none) (r : W.R st.n H1) (hl : σ.length = st.δ.length)
    (slot : ∀ (i : Nat) (x : Option V) (s : Sl), σ[i]? = some x → st.δ[i]? = some s → (s = .un ∨ ∃ v d, x = some v ∧ s = .dat d ∧ De K H v d)) (hc : c ⟨fun _ => False, fun d _ => d = .bl true, fun _ => False, fun _ => False⟩ st) (q : ∀ H', Q (.bl true) H') :
    t { nx := fun _ H' => Q .non H', rt := Q } σ H1 := by
  have no : ∀ (i : Nat) (s : Sl), st.δ[i]? = some s → s.isOwn = false := fun i s h => by
    have hi : i < σ.length := by rw [hl]; exact (List.getElem?_eq_some_iff.mp h).1
    rcases slot i _ s (List.getElem?_eq_getElem hi) h with rfl | ⟨v, d, _, rfl, _⟩ <;> rfl
  refine hs H H1 H H1 σ st _ _ ⟨Same.refl H, e, Fr.refl, off, fun b o e => .inl e, r, hl, fun i x s h1 h2 => ?_, fun i s p h1 h2 => ?_, fun i j s t p h1 h2 h3 => ?_⟩ hc ⟨fun _ _ _ _ _ h => h.elim, fun S H' σ st v d I hv h => ?_, fun _ _ _ _ _ h => h.elim, fun _ _ _ _ _ h => h.elim⟩
  · rcases slot i x s h1 h2 with rfl | ⟨v, d, rfl, rfl, hd⟩
    · exact True.intro
    · exact ⟨v, rfl, hd⟩
  · rw [no i s h1] at h2; cases h2
  · rw [no i s h1] at h3; cases h3
  · subst h
    rw [hv.bl_inv]
    exact q H'
end Q

set_option Elab.async false
set_option linter.all false
set_option maxRecDepth 100000
set_option maxHeartbeats 4000000
namespace Q
open PySem PySem.Spec PyProof.Rows L2
/-! ### repr: lengths -/
theorem pyL_map {α : Type} (f : α → Da) : ∀ l : List α, Da.pyL (l.map f) = l.map fun x => (f x).py
  | [] => rfl
  | a :: l => by
    show (f a).py :: Da.pyL (l.map f) = (f a).py :: l.map fun x => (f x).py
    rw [pyL_map f l]
theorem isPyL_map {α : Type} (f : α → Da) (h : ∀ x, (f x).isPy = true) : ∀ l : List α, Da.isPyL (l.map f) = true
  | [] => rfl
  | a :: l => by
    show ((f a).isPy && Da.isPyL (l.map f)) = true
    rw [h a, isPyL_map f h l]
    rfl
theorem textFrom_le : ∀ (ts : List Str) (k : Nat) (acc : Str) (b : Nat), (∀ t ∈ ts, t.length ≤ b) → (textFrom k acc ts).length ≤ acc.length + ts.length * (b + 2)
  | [], k, acc, b, _ => by show acc.length ≤ _; simp
  | t :: r, k, acc, b, h => by
    have ih := textFrom_le r (k + 1) (acc ++ (if k > 0 then ", " else "" : String) ++ t) b fun x m => h x (List.mem_cons_of_mem _ m)
    have ht := h t List.mem_cons_self
    have hs : (Str.ofString (if k > 0 then ", " else "" : String)).length ≤ 2 := by
      split
      · show (Str.ofString ", ").length ≤ 2; decide +kernel
      · show (Str.ofString "").length ≤ 2; decide +kernel
    have e : (acc ++ (if k > 0 then ", " else "" : String) ++ t : Str).length = acc.length + (Str.ofString (if k > 0 then ", " else "" : String)).length + t.length := by rw [strLen_append, strLen_append]
    show (textFrom (k + 1) (acc ++ (if k > 0 then ", " else "" : String) ++ t) r).length ≤ _
    rw [e] at ih
    rw [List.length_cons, Nat.add_mul]
    omega
theorem shownAll_map : ∀ xs : List PyData, PyData.shownAll xs = xs.map PyData.shown
  | [] => rfl
  | x :: r => by rw [PyData.shownAll, shownAll_map r]; rfl
theorem showableAll_iff : ∀ xs : List PyData, PyData.showableAll xs = true ↔ ∀ x ∈ xs, x.showable = true
  | [] => by simp [PyData.showableAll]
  | x :: r => by
    rw [PyData.showableAll, Bool.and_eq_true, showableAll_iff r]
    simp
theorem shown_list {xs : List PyData} {b : Nat} (h : ∀ x ∈ xs, x.shown.length ≤ b) : (PyData.shown (.list xs)).length ≤ 2 + xs.length * (b + 2) := by
  rw [PyData.shown, shownAll_map]
  unfold listText
  have := textFrom_le (xs.map PyData.shown) 0 "[" b fun t m => by
    obtain ⟨x, mx, rfl⟩ := List.mem_map.mp m
    exact h x mx
  rw [List.length_map] at this
  have e : (Str.ofString "[").length = 1 := by decide +kernel
  have e2 : (Str.ofString "]").length = 1 := by decide +kernel
  rw [strLen_append]
  rw [e] at this
  rw [e2]
  omega
theorem join_le : ∀ (ts : List Str) (b : Nat), (∀ t ∈ ts, t.length ≤ b) → (Str.join ", " ts).length ≤ ts.length * (b + 2)
  | [], b, _ => by simp [Str.join]; decide
  | [x], b, h => by
    have := h x List.mem_cons_self
    show x.length ≤ 1 * (b + 2)
    omega
  | x :: y :: r, b, h => by
    have ih := join_le (y :: r) b fun t m => h t (List.mem_cons_of_mem _ m)
    have hx := h x List.mem_cons_self
    have e : Str.join ", " (x :: y :: r) = x ++ ", " ++ Str.join ", " (y :: r) := rfl
    have e2 : (Str.ofString ", ").length = 2 := by decide +kernel
    rw [e, strLen_append, strLen_append, e2, List.length_cons, Nat.add_mul]
    omega
theorem shown_tuple {xs : List PyData} {b : Nat} (h : ∀ x ∈ xs, x.shown.length ≤ b) : (PyData.shown (.tuple xs)).length ≤ 3 + xs.length * (b + 2) := by
  rw [PyData.shown, shownAll_map]
  unfold tupleText
  have := join_le (xs.map PyData.shown) b fun t m => by
    obtain ⟨x, mx, rfl⟩ := List.mem_map.mp m
    exact h x mx
  rw [List.length_map] at this
  have e : (Str.ofString "(").length = 1 := by decide +kernel
  rw [strLen_append, strLen_append, e]
  have hs : ∀ c : Bool, (Str.ofString (if c = true then ",)" else ")" : String)).length ≤ 2 := by
    intro c
    cases c <;> decide +kernel
  have := hs ((xs.map PyData.shown).length == 1)
  omega
theorem shown_int {i : Int} (h : i.natAbs.log2 < 1920) : (PyData.shown (.int i)).length ≤ 1921 := int_text_len_1921 h
theorem log_of {i : Int} (h : i.natAbs < 2 ^ 1000) : i.natAbs.log2 < 1920 := by
  by_cases h0 : i.natAbs = 0
  · rw [h0]; decide
  · exact Nat.lt_trans ((Nat.log2_lt h0).mpr h) (by decide)
theorem shown_str {x : Str} (h : PyData.strOk x = true) : (PyData.shown (.str x)).length ≤ 10 * x.length + 2 := by
  rw [PyData.shown]
  refine StrLaws.reprText_len x fun c m => ?_
  have := strOk_iff.mp h c m
  omega
theorem k_Repr {d : Da} {R : Da → Prop} (h0 : d.isPy = true) (hk : d.isObj = true) (hs : Sh 9 d.py) (hsh : d.py.showable = true) (hl : d.py.shown.length ≤ sizeLine) (q : R (.str d.py.shown)) : fReprD [d] R :=
  ⟨d, rfl, h0, hk, hsh, PyData.hasDict_of_canLay _ hs.lay.1, hs.lay.2, hl, q⟩
theorem isPy_ints (ns : List Int) : (Da.lst (ns.map Da.int)).isPy = true := isPyL_map _ (fun _ => rfl) _
theorem py_ints (ns : List Int) : (Da.lst (ns.map Da.int)).py = .list (ns.map PyData.int) := by
  show PyData.list (Da.pyL (ns.map Da.int)) = _
  rw [pyL_map]
  rfl
theorem k_ReprInts {ns : List Int} {R : Da → Prop} (hl : ns.length ≤ 1000) (hb : ∀ x ∈ ns, x.natAbs < 2 ^ 1000) (q : R (.str (PyData.list (ns.map PyData.int)).shown)) : fReprD [.lst (ns.map Da.int)] R := by
  refine k_Repr (isPy_ints ns) rfl ?_ ?_ ?_ ?_
  · rw [py_ints]; exact Sh.ints (by omega)
  · rw [py_ints]
    show PyData.showableAll _ = true
    rw [showableAll_iff]
    intro x m
    obtain ⟨y, my, rfl⟩ := List.mem_map.mp m
    exact decide_eq_true (log_of (hb y my))
  · rw [py_ints]
    have := shown_list (xs := ns.map PyData.int) (b := 1921) fun x m => by
      obtain ⟨y, my, rfl⟩ := List.mem_map.mp m
      exact shown_int (log_of (hb y my))
    rw [List.length_map] at this
    have e : sizeLine = 16777216 := sizeLine_eq
    omega
  · rw [py_ints]; exact q
theorem eqv_ints (ns : List Int) (h : ns.length ≤ 100000) : PyData.eqv (.list (ns.map PyData.int)) (.list (ns.map PyData.int)) = true := (Sh.ints (n := 0) h).eqv
theorem k_NeInts {ns : List Int} {R : Da → Prop} (h : ns.length ≤ 100000) (q : R (.bl false)) : fNeD (.lst (ns.map Da.int)) (.lst (ns.map Da.int)) R := by
  refine ⟨isPy_ints ns, isPy_ints ns, ?_, ?_, ?_⟩
  · rw [py_ints]; exact shaped_ints ns
  · rw [py_ints]; exact shaped_ints ns
  · rw [py_ints, eqv_ints ns h]; exact q
theorem k_NeNil {R : Da → Prop} (q : R (.bl false)) : fNeD (.lst []) (.lst []) R := k_NeInts (ns := []) (by decide) q
theorem k_Sum {ns : List Int} {R : Da → Prop} (q : R (.int ns.sum)) : fSum [.lst (ns.map Da.int)] R := ⟨ns, rfl, q⟩
theorem ite_nsame {T : Type} {v : T} [Decidable (v = v)] {A B : Prop} (q : B) : if (!decide (v = v)) = true then A else B := by rw [decide_eq_true (rfl : v = v)]; exact q
/-! comprehensions over a mapped list -/
theorem lc_filtA {α : Type} {g : DG} {tt : DT} {te : DE} {vs : List Nat} {P : List Da → Ds → Prop} {st : Ds} (l : List α) (g0 f : α → Da) (p : α → Bool) (hz : l.length ≤ 100000)
    (step : ∀ (i : Nat) (x : α) (acc : List Da) (R : List Da → Ds → Prop), l[i]? = some x → acc.length < 100000 → (∀ st', st'.wp vs = st.wp vs → R (if p x = true then acc ++ [f x] else acc) st') →
      g (g0 x) (st.wp vs) fun st1 => tt st1 fun b st2 => if b = true then te st2 fun d st3 => acc.length < 100000 ∧ fzT d st3 (fun d' st' => R (acc ++ [d']) st') else R acc st2)
    (fin : P ((l.filter p).map f) (st.wp vs)) : lcGo g tt te vs P (l.map g0) [] st := by
  refine lc_inv (fun i acc st' => st'.wp vs = st.wp vs ∧ acc = ((l.take i).filter p).map f) ⟨rfl, rfl⟩ ?_ ?_
  · rintro i x acc st' R hx ⟨h1, h2⟩ hR
    rw [h1]
    rw [List.getElem?_map] at hx
    cases hy : l[i]? with
    | none => rw [hy] at hx; cases hx
    | some y =>
      rw [hy] at hx
      cases hx
      have hi : i < l.length := (List.getElem?_eq_some_iff.mp hy).1
      have hl : acc.length < 100000 := by
        rw [h2, List.length_map]
        have := List.length_filter_le p (l.take i)
        rw [List.length_take] at this
        omega
      refine step i y acc R hy hl fun st2 e => hR _ _ ⟨e, ?_⟩
      rw [h2, List.take_add_one, hy]
      by_cases hp : p y = true
      · simp [hp]
      · simp [hp]
  · rintro acc st' ⟨h1, h2⟩
    rw [List.length_map, List.take_length] at h2
    rw [h1, h2]
    exact fin
theorem lc_mapA {α : Type} {g : DG} {tt : DT} {te : DE} {vs : List Nat} {P : List Da → Ds → Prop} {st : Ds} (l : List α) (g0 f : α → Da) (hz : l.length ≤ 100000)
    (step : ∀ (i : Nat) (x : α) (acc : List Da) (R : List Da → Ds → Prop), l[i]? = some x → acc.length < 100000 → (∀ st', st'.wp vs = st.wp vs → R (acc ++ [f x]) st') →
      g (g0 x) (st.wp vs) fun st1 => tt st1 fun b st2 => if b = true then te st2 fun d st3 => acc.length < 100000 ∧ fzT d st3 (fun d' st' => R (acc ++ [d']) st') else R acc st2)
    (fin : P (l.map f) (st.wp vs)) : lcGo g tt te vs P (l.map g0) [] st := by
  refine lc_filtA l g0 f (fun _ => true) hz (fun i x acc R hx hl h => step i x acc R hx hl fun st' e => ?_) ?_
  · have := h st' e
    rwa [if_pos rfl] at this
  · rw [List.filter_eq_self.mpr (fun _ _ => rfl)]
    exact fin
theorem prD_map {α : Type} (f g : α → Da) : ∀ l : List α, prD (l.map f) (l.map g) = l.map fun x => .tup [f x, g x]
  | [] => rfl
  | a :: l => by
    show Da.tup [f a, g a] :: prD (l.map f) (l.map g) = _
    rw [prD_map f g l]
    rfl
theorem prD_zip {α β : Type} (f : α → Da) (g : β → Da) : ∀ (l : List α) (m : List β), prD (l.map f) (m.map g) = (l.zip m).map fun p => .tup [f p.1, g p.2]
  | [], _ => rfl
  | _ :: _, [] => rfl
  | a :: l, b :: m => by
    show Da.tup [f a, g b] :: prD (l.map f) (m.map g) = _
    rw [prD_zip f g l m]
    rfl
theorem cutG_map {α β : Type} (f : α → β) (l : List α) (lo hi : Option Int) : cutG (l.map f) lo hi = (cutG l lo hi).map f := by
  unfold cutG
  rw [List.length_map, ← List.map_drop, ← List.map_take]
theorem cutG_from {α : Type} (l : List α) {r : Int} (h0 : 0 ≤ r) (h1 : r ≤ l.length) : cutG l (some r) none = l.drop r.toNat := by
  obtain ⟨k, rfl⟩ : ∃ k : Nat, r = (k : Int) := ⟨r.toNat, by omega⟩
  unfold cutG
  rw [HT.sIx_nat, HT.sIx_none, Int.toNat_natCast, Nat.min_eq_left (by omega)]
  exact List.take_of_length_le (by rw [List.length_drop]; exact Nat.le_refl _)
theorem cutG_to {α : Type} (l : List α) {r : Int} (h0 : 0 ≤ r) (h1 : r ≤ l.length) : cutG l none (some r) = l.take r.toNat := by
  obtain ⟨k, rfl⟩ : ∃ k : Nat, r = (k : Int) := ⟨r.toNat, by omega⟩
  unfold cutG
  rw [HT.sIx_nat, HT.sIx_none, Int.toNat_natCast, Nat.min_eq_left (by omega)]
  simp
end Q

set_option Elab.async false
set_option linter.all false
set_option maxRecDepth 100000
set_option maxHeartbeats 4000000
namespace Q
open PySem PySem.Spec PyProof.Rows L2
theorem kb_bb : kitB "bool" "bool" = some true := by decide +kernel
theorem kb_ib : kitB "int" "bool" = some false := by decide +kernel
theorem kb_ii : kitB "int" "int" = some true := by decide +kernel
theorem kb_is : kitB "int" "str" = some false := by decide +kernel
theorem kb_sb : kitB "str" "bool" = some false := by decide +kernel
theorem kb_si : kitB "str" "int" = some false := by decide +kernel
theorem kb_ss : kitB "str" "str" = some true := by decide +kernel
theorem kb_lb : kitB "list" "bool" = some false := by decide +kernel
theorem kb_li : kitB "list" "int" = some false := by decide +kernel
theorem kb_ls : kitB "list" "str" = some false := by decide +kernel
theorem kb_ll : kitB "list" "list" = some true := by decide +kernel
theorem kb_lt : kitB "list" "tuple" = some false := by decide +kernel
theorem kb_tb : kitB "tuple" "bool" = some false := by decide +kernel
theorem kb_ti : kitB "tuple" "int" = some false := by decide +kernel
theorem kb_ts : kitB "tuple" "str" = some false := by decide +kernel
theorem kb_tl : kitB "tuple" "list" = some false := by decide +kernel
theorem kb_tt : kitB "tuple" "tuple" = some true := by decide +kernel
theorem str1 {z : Str} {c : Nat} (h : TL.tl z = [c]) : z = ⟨#[c]⟩ := TL.ext_tl (by rw [h])
theorem small5 {n : Nat} (h : n ≤ 100000) : n ≤ sizeLine := Nat.le_trans h (by decide)
theorem abc_len : ("abcdef" : Str).length = 6 := by decide +kernel
theorem dec_self {x : V} : decide (x = x) = true := decide_eq_true rfl
end Q

set_option Elab.async false
set_option linter.all false
set_option maxRecDepth 100000
set_option maxHeartbeats 4000000
namespace Q
open PySem PySem.Spec PyProof.Rows L2
/-! ### colours, calls -/
abbrev S1 (c : Nat) : Str := ⟨#[c]⟩
def isColN (c : Nat) : Bool := decide (c ∈ TL.tl ("abcdef" : Str))
theorem abc_tl : TL.tl ("abcdef" : Str) = [97, 98, 99, 100, 101, 102] := by decide +kernel
theorem isColN_iff {c : Nat} : isColN c = true ↔ 97 ≤ c ∧ c ≤ 102 := by
  unfold isColN
  rw [abc_tl, decide_eq_true_iff]
  simp only [List.mem_cons, List.not_mem_nil, or_false]
  omega
def isColS (z : Str) : Bool := match TL.tl z with
  | [c] => isColN c
  | _ => false
theorem isColS_one {c : Nat} : isColS (S1 c) = isColN c := rfl
theorem isColS_inv {z : Str} (h : isColS z = true) : ∃ c, z = S1 c ∧ 97 ≤ c ∧ c ≤ 102 := by
  unfold isColS at h
  split at h
  · rename_i c e
    exact ⟨c, str1 e, isColN_iff.mp h⟩
  · cases h
theorem isColS_len {z : Str} (h : z.length ≠ 1) : isColS z = false := by
  unfold isColS
  split
  · rename_i c e
    rw [TL.len_tl, e] at h
    exact absurd rfl h
  · rfl
def kdOk : Kd → Bool
  | .num i => decide (1 ≤ i)
  | .txt z => decide (z = ("all" : Str)) || decide (z = ("swap" : Str))
def isCall (c : Cal) : Bool := kdOk c.1 && (isColS c.2.1 && (isColS c.2.2 && !decide (c.2.1 = c.2.2)))
def kdLen : Kd → Nat
  | .num _ => 0
  | .txt z => z.length
def calLen (c : Cal) : Nat := kdLen c.1 + (c.2.1.length + c.2.2.length)
theorem in_all_swap (z : Str) : inV (.str z) [.str "all", .str "swap"] = (decide (z = ("all" : Str)) || decide (z = ("swap" : Str))) := by
  unfold inV
  rw [List.any_cons, List.any_cons, List.any_nil, Bool.or_false]
  have e : ∀ y : Str, eqV (.str y) (.str z) = decide (z = y) := fun y => by
    show (y == z) = decide (z = y)
    rw [Bool.eq_iff_iff, beq_iff_eq, decide_eq_true_iff]
    exact eq_comm
  rw [e, e]
theorem isCall_inv {c : Cal} (h : isCall c = true) : kdOk c.1 = true ∧ ∃ a b : Nat, c.2.1 = S1 a ∧ c.2.2 = S1 b ∧ isColN a = true ∧ isColN b = true ∧ a ≠ b := by
  unfold isCall at h
  simp only [Bool.and_eq_true, Bool.not_eq_true', decide_eq_false_iff_not] at h
  obtain ⟨h1, h2, h3, h4⟩ := h
  obtain ⟨a, ea, a1⟩ := isColS_inv h2
  obtain ⟨b, eb, b1⟩ := isColS_inv h3
  exact ⟨h1, a, b, ea, eb, isColN_iff.mpr a1, isColN_iff.mpr b1, fun e => h4 (by rw [ea, eb, e])⟩
theorem isCall_mk {k : Kd} {a b : Nat} (h1 : kdOk k = true) (h2 : isColN a = true) (h3 : isColN b = true) (h4 : a ≠ b) : isCall (k, S1 a, S1 b) = true := by
  unfold isCall
  simp only [Bool.and_eq_true, Bool.not_eq_true', decide_eq_false_iff_not]
  refine ⟨h1, h2, h3, fun e => h4 ?_⟩
  have := congrArg TL.tl e
  injection this
theorem kdOk_txt {z : Str} (h : kdOk (.txt z) = true) : z = ("all" : Str) ∨ z = ("swap" : Str) := by
  unfold kdOk at h
  simpa using h
theorem strOk_one {c : Nat} (h : isColN c = true) : PyData.strOk (S1 c) = true := by
  rw [strOk_iff]
  intro d m
  have := isColN_iff.mp h
  rw [show TL.tl (S1 c) = [c] from rfl, List.mem_singleton] at m
  omega
theorem okCal_of {c : Cal} (h : isCall c = true) : okCal c = true := by
  obtain ⟨h1, a, b, e1, e2, c1, c2, _⟩ := isCall_inv h
  unfold okCal
  rw [e1, e2, strOk_one c1, strOk_one c2]
  cases hk : c.1 with
  | num i => rfl
  | txt z =>
    rw [hk] at h1
    rcases kdOk_txt h1 with rfl | rfl <;> decide +kernel
/-! ### counts led -/
def gi (ns : List Int) (i : Nat) : Int := ns.getD i 0
def ci (z : Str) : Nat := (TL.tl z).headD 97 - 97
def moveC (m : Int) (i j : Nat) (ns : List Int) : List Int := (ns.set i (gi ns i - m)).set j (gi (ns.set i (gi ns i - m)) j + m)
def stepC (c : Cal) (ns : List Int) : List Int := match c.1 with
  | .txt z => if z = ("swap" : Str) then (ns.set (ci c.2.1) (gi ns (ci c.2.2))).set (ci c.2.2) (gi ns (ci c.2.1)) else moveC (gi ns (ci c.2.1)) (ci c.2.1) (ci c.2.2) ns
  | .num k => moveC (if k ≤ gi ns (ci c.2.1) then 1 else 0) (ci c.2.1) (ci c.2.2) ns
def leadC (cs : List Cal) (ns : List Int) : List Int := cs.foldl (fun ns c => stepC c ns) ns
theorem stepC_len (c : Cal) (ns : List Int) : (stepC c ns).length = ns.length := by
  unfold stepC moveC
  split
  · split <;> simp
  · simp
theorem six_of {ns : List Int} (h : ns.length = 6) : ∃ a b c d e f, ns = [a, b, c, d, e, f] := by
  match ns, h with
  | [a, b, c, d, e, f], _ => exact ⟨a, b, c, d, e, f, rfl⟩
theorem col6 {c : Nat} (h : isColN c = true) : c = 97 ∨ c = 98 ∨ c = 99 ∨ c = 100 ∨ c = 101 ∨ c = 102 := by
  have := isColN_iff.mp h
  omega
theorem leadC_take {cs : List Cal} {ns : List Int} {i : Nat} {c : Cal} (h : cs[i]? = some c) : leadC (cs.take (i + 1)) ns = stepC c (leadC (cs.take i) ns) := by
  unfold leadC
  rw [List.take_add_one, h, List.foldl_append]
  rfl
theorem leadC_len (cs : List Cal) (ns : List Int) : (leadC cs ns).length = ns.length := by
  unfold leadC
  induction cs generalizing ns with
  | nil => rfl
  | cons c r ih =>
    rw [List.foldl_cons, ih, stepC_len]
theorem ci_lt {c : Nat} (h : isColN c = true) : ci (S1 c) < 6 := by
  rcases col6 h with rfl | rfl | rfl | rfl | rfl | rfl <;> decide
theorem isCall_len {c : Cal} (h : isCall c = true) : calLen c ≤ 100000 := by
  obtain ⟨h1, a, b, e1, e2, _⟩ := isCall_inv h
  unfold calLen
  rw [e1, e2]
  have hk : kdLen c.1 ≤ 10 := by
    cases hc : c.1 with
    | num i => exact Nat.zero_le _
    | txt z =>
      rw [hc] at h1
      rcases kdOk_txt h1 with rfl | rfl <;> decide +kernel
  show kdLen c.1 + (1 + 1) ≤ 100000
  omega
theorem abc_ix {c : Nat} (h : isColN c = true) : Builtin.Str.occurrences ("abcdef" : Str) (S1 c) 0 ("abcdef" : Str).length 1 = [c - 97] := by
  have := isColN_iff.mp h
  have : c = 97 ∨ c = 98 ∨ c = 99 ∨ c = 100 ∨ c = 101 ∨ c = 102 := by omega
  rcases this with rfl | rfl | rfl | rfl | rfl | rfl <;> decide +kernel
def afterS (c : Cal) (ns : List Int) : List Int := match c.1 with
  | .txt z => if z = ("swap" : Str) then (ns.set (ci c.2.1) (gi ns (ci c.2.2))).set (ci c.2.2) (gi ns (ci c.2.1)) else (ns.set (ci c.2.2) (gi ns (ci c.2.2) + gi ns (ci c.2.1))).set (ci c.2.1) 0
  | .num k => if k ≤ gi ns (ci c.2.1) then (ns.set (ci c.2.1) (gi ns (ci c.2.1) - 1)).set (ci c.2.2) (gi (ns.set (ci c.2.1) (gi ns (ci c.2.1) - 1)) (ci c.2.2) + 1) else ns
def afterC (cs : List Cal) (ns : List Int) : List Int := cs.foldl (fun ns c => afterS c ns) ns
theorem afterS_len (c : Cal) (ns : List Int) : (afterS c ns).length = ns.length := by
  unfold afterS
  split
  · split <;> simp
  · split <;> simp
theorem afterC_len (cs : List Cal) (ns : List Int) : (afterC cs ns).length = ns.length := by
  unfold afterC
  induction cs generalizing ns with
  | nil => rfl
  | cons c r ih => rw [List.foldl_cons, ih, afterS_len]
theorem afterC_take {cs : List Cal} {ns : List Int} {i : Nat} {c : Cal} (h : cs[i]? = some c) : afterC (cs.take (i + 1)) ns = afterS c (afterC (cs.take i) ns) := by
  unfold afterC
  rw [List.take_add_one, h, List.foldl_append]
  rfl
theorem atI_int {ms : List Int} {j : Nat} (h : j < ms.length) : atI (ms.map Da.int) (j : Int) = some (.int (gi ms j)) := by
  refine atI_nat ?_
  rw [List.getElem?_map, List.getElem?_eq_getElem h]
  unfold gi
  rw [List.getD_eq_getElem?_getD, List.getElem?_eq_getElem h]
  rfl
theorem ixN_nat {n j : Nat} (h : j < n) : ixN n (j : Int) = some j := by
  unfold ixN
  rw [if_pos (Int.natCast_nonneg j), if_pos (by omega), Int.toNat_natCast]
theorem map_get {α : Type} {l : List α} {f : α → Da} {i : Nat} {x : Da} (h : (l.map f)[i]? = some x) : ∃ c, l[i]? = some c ∧ x = f c := by
  rw [List.getElem?_map] at h
  cases hc : l[i]? with
  | none => rw [hc] at h; cases h
  | some c => rw [hc] at h; exact ⟨c, rfl, (Option.some.inj h).symm⟩
theorem ci_S1 {c : Nat} (h : isColN c = true) : ci (S1 c) = c - 97 := by
  rcases col6 h with rfl | rfl | rfl | rfl | rfl | rfl <;> rfl
end Q

set_option Elab.async false
set_option linter.all false
set_option maxRecDepth 100000
set_option maxHeartbeats 4000000
namespace Q
open PySem PySem.Spec PyProof.Rows L2
/-! ### a loop over zip(text, list) -/
def ItzS (K : PySem.W.Frag) (z : Str) (b : Addr) : It :=
  ⟨fun i H => ∃ (c : Nat) (ys : List V) (y : V), z.cps[i]? = some c ∧ SqL K H b ys ∧ ys[i]? = some y,
    fun i H v H' => ∃ T c y, v = .ref T ∧ H T = none ∧ H' = upd H T (.tup [.str ⟨#[c]⟩, y]) ∧ z.cps[i]? = some c ∧ ∀ ys, SqL K H b ys → ys[i]? = some y,
    fun i H => z.cps.size ≤ i⟩
theorem turn_zipS {P : Program} {w : World} {K : PySem.W.Frag} {elts : List Expr} {kk : Nat} {tpos : Pos} {x : Str} {t : Tok} {b z TI TO i1 i2 : Addr} (D : ZipApart z TI TO i1 i2 b b) :
    Turn P w K (.Tuple elts kk tpos) (ItzS K x b) [z, TI, TO, i1, i2] z (fun i h => IsZip h z TI TO .none ∧ IsPair h TI (.ref i1) (.ref i2) ∧ (∃ x y, IsPair h TO x y) ∧ aIt h i1 x t i ∧ h.IsListIter i2 b i) where
  mem := by simp
  obj := fun i h st c hc => by
    obtain ⟨hz, hTI, ⟨x, y, hTO⟩, ⟨o1, e1, _, d1⟩, ⟨o2, e2, _, d2⟩⟩ := st
    have e' : c = z ∨ c = TI ∨ c = TO ∨ c = i1 ∨ c = i2 := by simpa using hc
    rcases e' with q | q | q | q | q
    · rw [q]; exact ⟨_, hz, fun v q => nomatch q⟩
    · rw [q]; exact ⟨_, hTI, fun v q => nomatch q⟩
    · rw [q]; exact ⟨_, hTO, fun v q => nomatch q⟩
    · rw [q]; exact ⟨o1, e1, fun v q => by rw [d1] at q; cases q⟩
    · rw [q]; exact ⟨o2, e2, fun v q => by rw [d2] at q; cases q⟩
  keep := fun i h h' st k => by
    obtain ⟨hz, hTI, ⟨x, y, hTO⟩, h1, h2⟩ := st
    exact ⟨k z (by simp) _ hz, k TI (by simp) _ hTI, ⟨x, y, k TO (by simp) _ hTO⟩, aIt_at h1 fun o q => k i1 (by simp) o q, h2.at fun o q => k i2 (by simp) o q⟩
  item := by
    intro X hP hw hK hc i pins s σ H E I hf st hg
    subst hP hw hK
    obtain ⟨hz, hTI, ⟨x0, y0, hTO⟩, h1, h2⟩ := st
    obtain ⟨ch, ys, y, hx, hqy, hy⟩ := hg
    obtain ⟨its2, rv2, p2, _⟩ := I.list hqy
    obtain ⟨u2, hu2, ru2⟩ := rv2.get hy
    have hzl : z < s.heap.objs.size := Heap.lt_size hz
    refine wpAny_pyNext_zipS_item D hz hTI hTO h1 h2 p2.isList hx (y := u2) (by simpa using hu2) fun h' z' TO' h1' h2' hT hsz hk => ?_
    refine ⟨_, rfl, wpAny_letOwnedTupleGo_zip (s := { s with heap := h', toks := s.toks + 1 }) z' fun h'' z'' sb => ?_⟩
    have hT2 : h''.get? s.heap.objs.size = some { cls := .type "tuple", data := .seq #[.str ⟨#[ch]⟩ s.toks, u2] } := (sb.2 _ (Nat.ne_of_gt hzl)).trans hT
    have new : ObjOk X.prog X.w (upd H s.heap.objs.size (.tup [.str ⟨#[ch]⟩, y])) h'' s.heap.objs.size (.tup [.str ⟨#[ch]⟩, y]) :=
      ⟨by show 2 ≤ sizeLine; decide, [.str ⟨#[ch]⟩ s.toks, u2], .cons ⟨_, rfl⟩ (.cons ru2 .nil), ⟨_, hT2, rfl, _, rfl⟩⟩
    have I1 : Inv X pins σ (upd H s.heap.objs.size (.tup [.str ⟨#[ch]⟩, y])) { s with heap := h'', toks := s.toks + 1 } :=
      I.turnedNew (t' := s.toks + 1) (ch := [z, TI, TO, i1, i2]) (fun c o hb q => (sb.2 c (fun q' => hb (by simp [q']))).trans (hk c o (fun q' => hb (by simp [q'])) (fun q' => hb (by simp [q'])) (fun q' => hb (by simp [q'])) (fun q' => hb (by simp [q'])) q)) hf (Nat.le_refl _) new
    refine ⟨.ref s.heap.objs.size, _, I1, rfl, ⟨_, ch, y, rfl, I.hok.fresh (Nat.le_refl _), rfl, hx, fun l hl => by rw [I.list_inj hl hqy]; exact hy⟩, ⟨z'', ?_, ⟨.str ⟨#[ch]⟩ s.toks, u2, ?_⟩, ?_, ?_⟩, fun c hcm => ?_⟩
    · exact (sb.2 _ D.TIz).trans (hk _ _ D.TIz D.TITO D.TIi1 D.TIi2 hTI)
    · exact (sb.2 _ D.TOz).trans TO'
    · exact aIt_at h1' fun o q => (sb.2 _ D.i1z).trans q
    · exact h2'.at fun o q => (sb.2 _ D.i2z).trans q
    · have hlt : c < s.heap.objs.size := by
        have e' : c = z ∨ c = TI ∨ c = TO ∨ c = i1 ∨ c = i2 := by simpa using hcm
        rcases e' with q | q | q | q | q
        · rw [q]; exact hzl
        · rw [q]; exact Heap.lt_size hTI
        · rw [q]; exact Heap.lt_size hTO
        · rw [q]; obtain ⟨_, e1, _⟩ := h1; exact Heap.lt_size e1
        · rw [q]; obtain ⟨_, e2, _⟩ := h2; exact Heap.lt_size e2
      rw [upd_ne (Nat.ne_of_lt hlt)]
      exact (hf c hcm).1
  done := by
    intro X hP hw hK hc i pins s σ H E I hf st hg
    subst hP hw hK
    obtain ⟨hz, hTI, ⟨x0, y0, hTO⟩, h1, h2⟩ := st
    exact wpAny_pyNext_zipS_end (I.ok.hd hc) D hz hTI h1 (Array.getElem?_eq_none hg) fun h' hk => ⟨rfl, I.turnedL (t' := s.toks) (ch := [z, TI, TO, i1, i2]) (fun c o hb q =>
      hk c o (fun q' => hb (by simp [q'])) (fun q' => hb (by simp [q'])) (fun q' => hb (by simp [q'])) (fun q' => hb (by simp [q'])) q) hf⟩
  self := fun A i s Q E st h => wpAny_pyIter_zip st.1 h
def iZipSL (K : PySem.W.Frag) (ta : TA) : TI := fun σ H R => ta σ H fun vs H1 => ∃ (x : Str) (b : Addr) (ys : List V), vs = [.str x, .ref b] ∧ x.cps.all (· < 128) = true ∧ SqL K H1 b ys ∧ R (ItzS K x b) H1
theorem pi_zipSL {X : Cx} {e e2 : Expr} {ta : TA} {p pos tpos : Pos} {elts : List Expr} {kk : Nat} (hg : Gl X "zip") (hm : X.mg "zip" = none) (ha : PA X [e, e2] ta)
    (hs : starEach [e, e2] X.env = (false, eval e X.env) :: starEach [e2] X.env := by rfl) (hpl : (backTo pos (starEach [e2] X.env)).any (·.1) = false := by rfl) :
    PI X (.Tuple elts kk tpos) (.Call (.Name "zip" p) [e, e2] [] pos) (iZipSL X.K ta) := by
  refine ⟨fun pins s σ H R I h => ?_⟩
  refine Call_ (ld_blt I hg hm PyProof.Rows.boot_zip (PyProof.Rows.callWith_type1 (thn (ha.run pos pins s σ H _ I h) fun us s1 ⟨vs, H1, I1, r1, q1⟩ => ?_) hs hpl))
  obtain ⟨x, b, ys, ex, hx, hqy, q⟩ := q1
  subst ex
  cases r1 with
  | cons r rr =>
    cases rr with
    | cons r' rr =>
      cases rr
      obtain ⟨t, rfl⟩ := r
      cases r'
      obtain ⟨its2, rv2, p2, _⟩ := I1.list hqy
      have lb : b < s1.heap.objs.size := p2.lt
      refine call_zipS hx p2.isList fun h' hz hTI hTO h1 h2 hsz hk => wpAny_pyIter_zip hz ?_
      have I2 : Inv X pins σ H1 { s1 with heap := h' } := I1.kept (t' := s1.toks) hk
      refine ⟨s1.heap.objs.size + 4, [s1.heap.objs.size + 4, s1.heap.objs.size + 2, s1.heap.objs.size + 3, s1.heap.objs.size, s1.heap.objs.size + 1], _, _, H1, rfl, I2, turn_zipS (PySem.W.ktu_apart s1.heap.objs.size b b lb lb), ⟨hz, hTI, ⟨_, _, hTO⟩, h1, h2⟩, fun c hcm => ?_, q⟩
      have e' : c = s1.heap.objs.size + 4 ∨ c = s1.heap.objs.size + 2 ∨ c = s1.heap.objs.size + 3 ∨ c = s1.heap.objs.size ∨ c = s1.heap.objs.size + 1 := by simpa using hcm
      have hle : s1.heap.objs.size ≤ c := by
        rcases e' with z | z | z | z | z
        · rw [z]; exact Nat.le_add_right _ _
        · rw [z]; exact Nat.le_add_right _ _
        · rw [z]; exact Nat.le_add_right _ _
        · rw [z]; exact Nat.le_refl _
        · rw [z]; exact Nat.le_add_right _ _
      exact I1.fpOk hle (I1.hok.fresh hle)
section
variable {K : PySem.W.Frag} {W : Wo}
def zpSF (ds : List Da) (st : Ds) (P : List Da → Ds → Prop) : Prop := match ds with
  | [.str z, d] => (match d.asL with
    | some l => z.cps.all (· < 128) = true ∧ z.cps.size ≤ l.length ∧ P (prD (sgD z) l) st
    | none => False)
  | _ => False
def diZS (α : DA) : DI := fun st P => α st fun ds st1 => zpSF (st1.fzs ds).1 (st1.fzs ds).2 P
theorem si_zipSL {A : TA} {α : DA} (h : SA K W A α) : SI K W (iZipSL K A) (diZS α) := by
  intro S0 H0 S H σ st P R I he k
  refine h S0 H0 S H σ st _ _ I he fun vs ds S1 H1 st1 I1 e1 r1 q1 => ?_
  obtain ⟨S2, e2, I2, h2⟩ := fzs_ok I1 r1
  revert q1
  generalize st1.fzs ds = z at h2 I2
  obtain ⟨zs, st2⟩ := z
  intro q1
  have h2 : DeAll K S2 vs zs := h2
  replace q1 : zpSF zs st2 _ := q1
  unfold zpSF at q1
  split at q1
  · rename_i z d h2
    obtain ⟨v, w, rfl, hv, hw⟩ := deAll2 h2
    have ev := De.str_of (.inl hv) (H := S2)
    subst ev
    cases hl : d.asL with
    | none => rw [hl] at q1; exact q1.elim
    | some l =>
      rw [hl] at q1
      obtain ⟨ha, hle, q1⟩ := q1
      obtain ⟨b, ys, rfl, hS', hD'⟩ := DeH.asL (H := S2) (.inl hw) hl (Same.refl S2)
      refine ⟨z, b, ys, rfl, ha, I2.sub.seq hS', k _ S2 H1 _ _ I2 (e1.trans e2) (fun i S H e s => ⟨fun hi => ?_, fun d hd => ?_⟩) q1⟩
      · have : (prD (sgD z) l).length = min (sgD z).length l.length := by simp [prD]
        show z.cps.size ≤ (prD (sgD z) l).length
        rw [this, sg_len]
        omega
      · obtain ⟨p, q, h3, h4, rfl⟩ := pr_get hd
        have hq' := s.seq (e.seq hS')
        obtain ⟨c, hc, rfl⟩ := sg_get h3
        obtain ⟨w2, hw2, hdw2⟩ := hD'.getD h4
        refine ⟨⟨c, ys, w2, hc, hq', hw2⟩, fun x H' ⟨T, c1, y2, hx, hT, hH, hc1, hy2⟩ => ?_⟩
        subst hx; subst hH
        rw [hc] at hc1; cases hc1
        have hy2 := hy2 ys hq'
        rw [hw2] at hy2; cases hy2
        exact pair_ext s hT (.str _) (hdw2.mono e)
  · exact q1.elim
end
end Q

set_option Elab.async false
set_option linter.all false
set_option maxRecDepth 100000
set_option maxHeartbeats 4000000
namespace Q
open PySem PySem.Spec PyProof.Rows L2
/-! ### counts: sums, large counts (plain) -/
theorem gi_set {ns : List Int} {i l : Nat} {v : Int} (h : i < ns.length) : gi (ns.set i v) l = if l = i then v else gi ns l := by
  unfold gi
  rw [List.getD_eq_getElem?_getD, List.getD_eq_getElem?_getD]
  by_cases e : l = i
  · subst e; rw [List.getElem?_set_self h, if_pos rfl]; rfl
  · rw [List.getElem?_set_ne (Ne.symm e), if_neg e]
theorem set_gi {ns : List Int} {i : Nat} (h : i < ns.length) : ns.set i (gi ns i) = ns := by
  refine List.ext_getElem? fun l => ?_
  by_cases e : l = i
  · subst e
    rw [List.getElem?_set_self h]
    unfold gi
    rw [List.getD_eq_getElem?_getD, List.getElem?_eq_getElem h]
    rfl
  · rw [List.getElem?_set_ne (Ne.symm e)]
theorem sum_set : ∀ {ns : List Int} {i : Nat} {v : Int}, i < ns.length → (ns.set i v).sum = ns.sum - gi ns i + v
  | [], i, v, h => by cases h
  | a :: r, 0, v, h => by
    show v + r.sum = a + r.sum - a + v
    omega
  | a :: r, i + 1, v, h => by
    show a + (r.set i v).sum = a + r.sum - gi r i + v
    rw [sum_set (Nat.lt_of_succ_lt_succ h)]
    omega
theorem gi_move {ns : List Int} {i j l : Nat} {m : Int} (hi : i < ns.length) (hj : j < ns.length) (h : i ≠ j) : gi (moveC m i j ns) l = if l = j then gi ns j + m else if l = i then gi ns i - m else gi ns l := by
  unfold moveC
  rw [gi_set (by rw [List.length_set]; exact hj), gi_set hi, gi_set hi, if_neg (Ne.symm h)]
theorem gi_ext {a b : List Int} (hl : a.length = b.length) (h : ∀ l, l < a.length → gi a l = gi b l) : a = b := by
  refine List.ext_getElem hl fun l h1 h2 => ?_
  have := h l h1
  unfold gi at this
  rw [List.getD_eq_getElem?_getD, List.getD_eq_getElem?_getD, List.getElem?_eq_getElem h1, List.getElem?_eq_getElem h2] at this
  exact this
/-- a valid call's places -/
theorem call_ix {c : Cal} (h : isCall c = true) : kdOk c.1 = true ∧ ci c.2.1 < 6 ∧ ci c.2.2 < 6 ∧ ci c.2.1 ≠ ci c.2.2 := by
  obtain ⟨k1, s, t, e1, e2, c1, c2, hst⟩ := isCall_inv h
  rw [e1, e2]
  refine ⟨k1, ci_lt c1, ci_lt c2, ?_⟩
  rw [ci_S1 c1, ci_S1 c2]
  have := isColN_iff.mp c1
  have := isColN_iff.mp c2
  omega
/-- what a call moves -/
def mvm (k : Kd) (x : Int) : Int := match k with
  | .txt _ => x
  | .num k => if k ≤ x then 1 else 0
theorem stepC_eq (c : Cal) (ns : List Int) : stepC c ns = if c.1 = .txt "swap" then (ns.set (ci c.2.1) (gi ns (ci c.2.2))).set (ci c.2.2) (gi ns (ci c.2.1)) else moveC (mvm c.1 (gi ns (ci c.2.1))) (ci c.2.1) (ci c.2.2) ns := by
  unfold stepC mvm
  cases h : c.1 with
  | num k => rfl
  | txt z =>
    by_cases e : z = ("swap" : Str)
    · rw [if_pos (by rw [e])]; dsimp only; rw [if_pos e]
    · rw [if_neg (by intro q; exact e (Kd.txt.inj q))]; dsimp only; rw [if_neg e]
theorem gi_step {c : Cal} {ns : List Int} (h : isCall c = true) (hl : ns.length = 6) (l : Nat) : gi (stepC c ns) l =
    if c.1 = .txt "swap" then (if l = ci c.2.2 then gi ns (ci c.2.1) else if l = ci c.2.1 then gi ns (ci c.2.2) else gi ns l)
    else (if l = ci c.2.2 then gi ns (ci c.2.2) + mvm c.1 (gi ns (ci c.2.1)) else if l = ci c.2.1 then gi ns (ci c.2.1) - mvm c.1 (gi ns (ci c.2.1)) else gi ns l) := by
  obtain ⟨_, h1, h2, h3⟩ := call_ix h
  rw [stepC_eq]
  by_cases e : c.1 = .txt "swap"
  · rw [if_pos e, if_pos e, gi_set (by rw [List.length_set, hl]; exact h2), gi_set (by rw [hl]; exact h1)]
  · rw [if_neg e, if_neg e, gi_move (by rw [hl]; exact h1) (by rw [hl]; exact h2) h3]
theorem stepC_sum {c : Cal} {ns : List Int} (h : isCall c = true) (hl : ns.length = 6) : (stepC c ns).sum = ns.sum := by
  obtain ⟨_, h1, h2, h3⟩ := call_ix h
  rw [stepC_eq]
  by_cases e : c.1 = .txt "swap"
  · rw [if_pos e, sum_set (by rw [List.length_set, hl]; exact h2), sum_set (by rw [hl]; exact h1), gi_set (by rw [hl]; exact h1), if_neg (Ne.symm h3)]
    omega
  · rw [if_neg e]
    unfold moveC
    rw [sum_set (by rw [List.length_set, hl]; exact h2), sum_set (by rw [hl]; exact h1)]
    omega
theorem leadC_sum {cs : List Cal} : ∀ {ns : List Int}, (∀ c ∈ cs, isCall c = true) → ns.length = 6 → (leadC cs ns).sum = ns.sum := by
  induction cs with
  | nil => intro ns _ _; rfl
  | cons c r ih =>
    intro ns h hl
    have h1 := h c List.mem_cons_self
    show (leadC r (stepC c ns)).sum = _
    rw [ih (fun x m => h x (List.mem_cons_of_mem _ m)) (by rw [stepC_len, hl]), stepC_sum h1 hl]
theorem nonneg_iff {ns : List Int} : (∀ x ∈ ns, 0 ≤ x) ↔ ∀ l, l < ns.length → 0 ≤ gi ns l := by
  constructor
  · intro h l hl
    unfold gi
    rw [List.getD_eq_getElem?_getD, List.getElem?_eq_getElem hl]
    exact h _ (List.getElem_mem hl)
  · intro h x m
    obtain ⟨l, hl, rfl⟩ := List.mem_iff_getElem.mp m
    have := h l hl
    unfold gi at this
    rw [List.getD_eq_getElem?_getD, List.getElem?_eq_getElem hl] at this
    exact this
theorem mvm_le {k : Kd} {x : Int} (hk : kdOk k = true) (hx : 0 ≤ x) : 0 ≤ mvm k x ∧ mvm k x ≤ x := by
  unfold mvm
  cases k with
  | txt z => exact ⟨hx, Int.le_refl _⟩
  | num k =>
    have : 1 ≤ k := by unfold kdOk at hk; exact of_decide_eq_true hk
    dsimp only
    split <;> omega
theorem stepC_nonneg {c : Cal} {ns : List Int} (h : isCall c = true) (hl : ns.length = 6) (hn : ∀ x ∈ ns, 0 ≤ x) : ∀ x ∈ stepC c ns, 0 ≤ x := by
  obtain ⟨hk, h1, h2, h3⟩ := call_ix h
  rw [nonneg_iff] at hn ⊢
  intro l hlt
  rw [stepC_len, hl] at hlt
  rw [hl] at hn
  have n1 := hn _ h1
  have n2 := hn _ h2
  have n3 := hn _ hlt
  have m := mvm_le hk n1
  rw [gi_step h hl]
  split <;> split <;> try split
  all_goals omega
theorem leadC_nonneg {cs : List Cal} : ∀ {ns : List Int}, (∀ c ∈ cs, isCall c = true) → ns.length = 6 → (∀ x ∈ ns, 0 ≤ x) → ∀ x ∈ leadC cs ns, 0 ≤ x := by
  induction cs with
  | nil => intro ns _ _ h; exact h
  | cons c r ih =>
    intro ns h hl hn
    have h1 := h c List.mem_cons_self
    exact ih (fun x m => h x (List.mem_cons_of_mem _ m)) (by rw [stepC_len, hl]) (stepC_nonneg h1 hl hn)
theorem after_step {c : Cal} {ns : List Int} (h : isCall c = true) (hl : ns.length = 6) : afterS c ns = stepC c ns := by
  obtain ⟨hk, h1, h2, h3⟩ := call_ix h
  refine gi_ext (by rw [afterS_len, stepC_len]) fun l hlt => ?_
  rw [gi_step h hl]
  unfold afterS mvm
  cases hc : c.1 with
  | txt z =>
    dsimp only
    by_cases e : z = ("swap" : Str)
    · rw [if_pos e, if_pos (by rw [e]), gi_set (by rw [List.length_set, hl]; exact h2), gi_set (by rw [hl]; exact h1)]
    · rw [if_neg e, if_neg (by intro q; exact e (Kd.txt.inj q)), gi_set (by rw [List.length_set, hl]; exact h1), gi_set (by rw [hl]; exact h2)]
      by_cases e1 : l = ci c.2.1
      · subst e1; rw [if_pos rfl, if_neg h3, if_pos rfl]; omega
      · rw [if_neg e1]
        by_cases e2 : l = ci c.2.2
        · rw [if_pos e2, if_pos e2]
        · rw [if_neg e2, if_neg e2, if_neg e1]
  | num k =>
    dsimp only
    rw [if_neg (show ¬ Kd.num k = Kd.txt "swap" from fun q => nomatch q)]
    by_cases hk : k ≤ gi ns (ci c.2.1)
    · rw [if_pos hk, if_pos hk, gi_set (by rw [List.length_set, hl]; exact h2), gi_set (by rw [hl]; exact h1), gi_set (by rw [hl]; exact h1), if_neg (Ne.symm h3)]
    · rw [if_neg hk, if_neg hk]
      by_cases e2 : l = ci c.2.2
      · rw [if_pos e2, e2]; omega
      · rw [if_neg e2]
        by_cases e1 : l = ci c.2.1
        · rw [if_pos e1, e1]; omega
        · rw [if_neg e1]
theorem after_lead {cs : List Cal} : ∀ {ns : List Int}, (∀ c ∈ cs, isCall c = true) → ns.length = 6 → afterC cs ns = leadC cs ns := by
  induction cs with
  | nil => intro ns _ _; rfl
  | cons c r ih =>
    intro ns h hl
    have h1 := h c List.mem_cons_self
    show afterC r (afterS c ns) = leadC r (stepC c ns)
    rw [after_step h1 hl]
    exact ih (fun x m => h x (List.mem_cons_of_mem _ m)) (by rw [stepC_len, hl])
theorem leadC_append (a b : List Cal) (ns : List Int) : leadC (a ++ b) ns = leadC b (leadC a ns) := by
  unfold leadC
  rw [List.foldl_append]
/-- counts above every m, reduced -/
def RelC (t x y : Int) : Prop := ∃ k : Int, 0 ≤ k ∧ x = y + 100000 * k ∧ 0 ≤ y ∧ (k = 0 ∨ 900000 - t ≤ y)
theorem RelC.step {t : Int} {c : Cal} {a b : List Int} (ht : 0 ≤ t) (ht2 : t ≤ 100) (h : isCall c = true) (hm : ∀ k, c.1 = .num k → k ≤ 1000) (ha : a.length = 6) (hb : b.length = 6) (hr : ∀ l, l < 6 → RelC t (gi a l) (gi b l)) :
    ∀ l, l < 6 → RelC (t + 1) (gi (stepC c a) l) (gi (stepC c b) l) := by
  intro l hl
  obtain ⟨hk, h1, h2, h3⟩ := call_ix h
  have r1 := hr _ h1
  have r2 := hr _ h2
  have r3 := hr _ hl
  obtain ⟨k1, p1, e1, n1, o1⟩ := r1
  obtain ⟨k2, p2, e2, n2, o2⟩ := r2
  obtain ⟨k3, p3, e3, n3, o3⟩ := r3
  rw [gi_step h ha, gi_step h hb]
  by_cases e : c.1 = .txt "swap"
  · rw [if_pos e, if_pos e]
    by_cases q2 : l = ci c.2.2
    · rw [if_pos q2, if_pos q2]; exact ⟨k1, p1, e1, n1, by omega⟩
    · rw [if_neg q2, if_neg q2]
      by_cases q1 : l = ci c.2.1
      · rw [if_pos q1, if_pos q1]; exact ⟨k2, p2, e2, n2, by omega⟩
      · rw [if_neg q1, if_neg q1]; exact ⟨k3, p3, e3, n3, by omega⟩
  · rw [if_neg e, if_neg e]
    cases hc : c.1 with
    | txt z =>
      unfold mvm
      dsimp only
      by_cases q2 : l = ci c.2.2
      · rw [if_pos q2, if_pos q2]; exact ⟨k1 + k2, by omega, by omega, by omega, by omega⟩
      · rw [if_neg q2, if_neg q2]
        by_cases q1 : l = ci c.2.1
        · rw [if_pos q1, if_pos q1]; exact ⟨0, by omega, by omega, by omega, by omega⟩
        · rw [if_neg q1, if_neg q1]; exact ⟨k3, p3, e3, n3, by omega⟩
    | num k =>
      have hk1 : 1 ≤ k := by rw [hc] at hk; unfold kdOk at hk; exact of_decide_eq_true hk
      have hk2 := hm k hc
      have same : mvm (.num k) (gi a (ci c.2.1)) = mvm (.num k) (gi b (ci c.2.1)) := by
        unfold mvm
        dsimp only
        split <;> split <;> first | rfl | (exfalso; omega)
      have mb := mvm_le (k := .num k) (by unfold kdOk; exact decide_eq_true hk1) n1
      have mb1 : mvm (.num k) (gi b (ci c.2.1)) ≤ 1 := by unfold mvm; dsimp only; split <;> omega
      rw [same]
      by_cases q2 : l = ci c.2.2
      · rw [if_pos q2, if_pos q2]; exact ⟨k2, p2, by omega, by omega, by omega⟩
      · rw [if_neg q2, if_neg q2]
        by_cases q1 : l = ci c.2.1
        · rw [if_pos q1, if_pos q1]; exact ⟨k1, p1, by omega, by omega, by omega⟩
        · rw [if_neg q1, if_neg q1]; exact ⟨k3, p3, e3, n3, by omega⟩
theorem RelC.lead : ∀ {cs : List Cal} {t : Int} {a b : List Int}, 0 ≤ t → t + cs.length ≤ 100 → (∀ c ∈ cs, isCall c = true ∧ ∀ k, c.1 = .num k → k ≤ 1000) → a.length = 6 → b.length = 6 → (∀ l, l < 6 → RelC t (gi a l) (gi b l)) →
    ∀ l, l < 6 → RelC (t + cs.length) (gi (leadC cs a) l) (gi (leadC cs b) l) := by
  intro cs
  induction cs with
  | nil => intro t a b _ _ _ _ _ h; simpa [leadC] using h
  | cons c r ih =>
    intro t a b ht ht2 h ha hb hr l hl
    have hc := h c List.mem_cons_self
    have hlen : ((c :: r).length : Int) = r.length + 1 := by rw [List.length_cons]; omega
    rw [hlen] at ht2 ⊢
    have := ih (t := t + 1) (by omega) (by omega) (fun x m => h x (List.mem_cons_of_mem _ m)) (by rw [stepC_len, ha]) (by rw [stepC_len, hb]) (RelC.step ht (by omega) hc.1 hc.2 ha hb hr) l hl
    rw [show t + (r.length + 1) = t + 1 + (r.length : Int) by omega]
    exact this
def redN (x : Int) : Int := x - 100000 * (if 1000000 < x then 1 else 0)
theorem red_sum : ∀ ns : List Int, (ns.map redN).sum = ns.sum - 100000 * (ns.countP (fun x => decide (1000000 < x)) : Nat)
  | [] => rfl
  | x :: r => by
    rw [List.map_cons, List.sum_cons, List.sum_cons, List.countP_cons, red_sum r]
    unfold redN
    by_cases h : 1000000 < x
    · rw [if_pos h, decide_eq_true h, if_pos rfl]; omega
    · rw [if_neg h, decide_eq_false h, if_neg Bool.false_ne_true]; omega
theorem red_rel {ns : List Int} (hl : ns.length = 6) (hn : ∀ x ∈ ns, 0 ≤ x) : ∀ l, l < 6 → RelC 0 (gi ns l) (gi (ns.map redN) l) := by
  intro l h
  have h' : l < ns.length := by omega
  have h0 := nonneg_iff.mp hn l h'
  have e : gi (ns.map redN) l = redN (gi ns l) := by
    unfold gi
    rw [List.getD_eq_getElem?_getD, List.getD_eq_getElem?_getD, List.getElem?_map, List.getElem?_eq_getElem h']
    rfl
  rw [e]
  unfold redN
  by_cases q : 1000000 < gi ns l
  · rw [if_pos q]; exact ⟨1, by omega, by omega, by omega, by omega⟩
  · rw [if_neg q]; exact ⟨0, by omega, by omega, by omega, by omega⟩
theorem red_nonneg {ns : List Int} (hn : ∀ x ∈ ns, 0 ≤ x) : ∀ x ∈ ns.map redN, 0 ≤ x := by
  intro x m
  obtain ⟨y, my, rfl⟩ := List.mem_map.mp m
  have := hn y my
  unfold redN
  split <;> omega
end Q

set_option Elab.async false
set_option linter.all false
set_option maxRecDepth 100000
set_option maxHeartbeats 4000000
namespace Q
open PySem PySem.Spec PyProof.Rows L2
/-! ### rows (plain): colours as numbers -/
abbrev sN (l : List Nat) : Str := ⟨l.toArray⟩
def ca (c : Cal) : Nat := (TL.tl c.2.1).headD 97
def cb (c : Cal) : Nat := (TL.tl c.2.2).headD 97
/-- a person's colour behind a call: k wear its first colour ahead -/
def nxt (c : Cal) (k : Int) (x : Nat) : Nat := match c.1 with
  | .txt z => if x = ca c then cb c else if z = ("swap" : Str) ∧ x = cb c then ca c else x
  | .num m => if x = ca c ∧ k + 1 = m then cb c else x
def addE (x : Nat) (ns : List Int) : List Int := ns.set (x - 97) (gi ns (x - 97) + 1)
/-- .. behind a drill, from the counts ahead -/
def endC : List Cal → List Int → Nat → Nat
  | [], _, x => x
  | c :: r, ns, x => endC r (stepC c ns) (nxt c (gi ns (ca c - 97)) x)
def runS (c : Cal) (l : List Nat) : List Nat := l.mapIdx fun i x => nxt c ((l.take i).count (ca c) : Nat) x
def runC (cs : List Cal) (l : List Nat) : List Nat := cs.foldl (fun l c => runS c l) l
def tal (l : List Nat) : List Int := [97, 98, 99, 100, 101, 102].map fun c => ((l.count c : Nat) : Int)
theorem call_ab {c : Cal} (h : isCall c = true) : kdOk c.1 = true ∧ c.2.1 = S1 (ca c) ∧ c.2.2 = S1 (cb c) ∧ isColN (ca c) = true ∧ isColN (cb c) = true ∧ ca c ≠ cb c ∧ ci c.2.1 = ca c - 97 ∧ ci c.2.2 = cb c - 97 := by
  obtain ⟨k1, s, t, e1, e2, c1, c2, hst⟩ := isCall_inv h
  have ha : ca c = s := by unfold ca; rw [e1]; rfl
  have hb : cb c = t := by unfold cb; rw [e2]; rfl
  rw [ha, hb]
  exact ⟨k1, e1, e2, c1, c2, hst, by rw [e1, ci_S1 c1], by rw [e2, ci_S1 c2]⟩
theorem nxt_col {c : Cal} {k : Int} {x : Nat} (h : isCall c = true) (hx : isColN x = true) : isColN (nxt c k x) = true := by
  obtain ⟨_, _, _, h1, h2, _⟩ := call_ab h
  unfold nxt
  split <;> repeat' split
  all_goals assumption
theorem addE_len (x : Nat) (ns : List Int) : (addE x ns).length = ns.length := List.length_set ..
theorem gi_add {x l : Nat} {ns : List Int} (hx : isColN x = true) (hl : ns.length = 6) : gi (addE x ns) l = gi ns l + if l = x - 97 then 1 else 0 := by
  have := isColN_iff.mp hx
  unfold addE
  rw [gi_set (by omega)]
  split
  · rename_i h; rw [h]
  · omega
theorem kd_swap {c : Cal} {z : Str} (h : c.1 = .txt z) : (c.1 = .txt "swap") ↔ z = ("swap" : Str) := by
  rw [h]
  exact ⟨fun e => Kd.txt.inj e, fun e => by rw [e]⟩
theorem step_add {c : Cal} {ns : List Int} {x : Nat} (h : isCall c = true) (hl : ns.length = 6) (hx : isColN x = true) : stepC c (addE x ns) = addE (nxt c (gi ns (ca c - 97)) x) (stepC c ns) := by
  obtain ⟨hk, _, _, h1, h2, h3, h4, h5⟩ := call_ab h
  have b1 := isColN_iff.mp h1
  have b2 := isColN_iff.mp h2
  have b3 := isColN_iff.mp hx
  refine gi_ext (by rw [stepC_len, addE_len, addE_len, stepC_len]) fun l hlt => ?_
  rw [stepC_len, addE_len, hl] at hlt
  rw [gi_add (nxt_col h hx) (by rw [stepC_len, hl]), gi_step h (by rw [addE_len, hl]), gi_step h hl, h4, h5]
  simp only [gi_add hx hl]
  unfold mvm nxt
  cases hc : c.1 with
  | txt z =>
    dsimp only
    have e : (Kd.txt z = Kd.txt "swap") ↔ z = ("swap" : Str) := ⟨fun e => Kd.txt.inj e, fun e => by rw [e]⟩
    by_cases hz : z = ("swap" : Str)
    · rw [if_pos (e.mpr hz), if_pos (e.mpr hz)]
      simp only [hz, true_and]
      by_cases x1 : x = ca c
      · rw [if_pos x1]
        repeat' split
        all_goals omega
      · rw [if_neg x1]
        by_cases x2 : x = cb c
        · rw [if_pos x2]
          repeat' split
          all_goals omega
        · rw [if_neg x2]
          repeat' split
          all_goals omega
    · rw [if_neg (fun q => hz (e.mp q)), if_neg (fun q => hz (e.mp q))]
      simp only [hz, false_and, if_false]
      by_cases x1 : x = ca c
      · rw [if_pos x1]
        repeat' split
        all_goals omega
      · rw [if_neg x1]
        repeat' split
        all_goals omega
  | num m =>
    dsimp only
    have hm : 1 ≤ m := by rw [hc] at hk; unfold kdOk at hk; exact of_decide_eq_true hk
    rw [if_neg (show ¬ Kd.num m = Kd.txt "swap" from by intro q; cases q), if_neg (show ¬ Kd.num m = Kd.txt "swap" from by intro q; cases q)]
    by_cases x1 : x = ca c ∧ gi ns (ca c - 97) + 1 = m
    · simp only [if_pos x1]
      repeat' split
      all_goals omega
    · simp only [if_neg x1]
      repeat' split
      all_goals omega
theorem endC_col {cs : List Cal} : ∀ {ns : List Int} {x : Nat}, (∀ c ∈ cs, isCall c = true) → isColN x = true → isColN (endC cs ns x) = true := by
  induction cs with
  | nil => intro ns x _ h; exact h
  | cons c r ih => intro ns x h hx; exact ih (fun y m => h y (List.mem_cons_of_mem _ m)) (nxt_col (h c List.mem_cons_self) hx)
theorem lead_add {cs : List Cal} : ∀ {ns : List Int} {x : Nat}, (∀ c ∈ cs, isCall c = true) → ns.length = 6 → isColN x = true → leadC cs (addE x ns) = addE (endC cs ns x) (leadC cs ns) := by
  induction cs with
  | nil => intro ns x _ _ _; rfl
  | cons c r ih =>
    intro ns x h hl hx
    have h1 := h c List.mem_cons_self
    show leadC r (stepC c (addE x ns)) = addE _ (leadC r (stepC c ns))
    rw [step_add h1 hl hx, ih (fun y m => h y (List.mem_cons_of_mem _ m)) (by rw [stepC_len, hl]) (nxt_col h1 hx)]
    rfl
/-! rows -/
theorem runS_len (c : Cal) (l : List Nat) : (runS c l).length = l.length := List.length_mapIdx
theorem runS_get (c : Cal) (l : List Nat) (i : Nat) : (runS c l)[i]? = l[i]?.map fun x => nxt c ((l.take i).count (ca c) : Nat) x := by
  unfold runS
  rw [List.getElem?_mapIdx]
theorem runS_take (c : Cal) (l : List Nat) (n : Nat) : (runS c l).take n = runS c (l.take n) := by
  refine List.ext_getElem? fun i => ?_
  rw [List.getElem?_take, runS_get, runS_get, List.getElem?_take]
  split
  · rename_i h
    rw [List.take_take, Nat.min_eq_left (by omega)]
  · rfl
theorem runS_col {c : Cal} {l : List Nat} (h : isCall c = true) (hl : ∀ x ∈ l, isColN x = true) : ∀ x ∈ runS c l, isColN x = true := by
  intro x m
  obtain ⟨i, hi⟩ := List.mem_iff_getElem?.mp m
  rw [runS_get] at hi
  cases hy : l[i]? with
  | none => rw [hy] at hi; cases hi
  | some y => rw [hy] at hi; cases hi; exact nxt_col h (hl y (List.mem_of_getElem? hy))
theorem gi_tal {l : List Nat} {x : Nat} (hx : isColN x = true) : gi (tal l) (x - 97) = (l.count x : Nat) := by
  rcases col6 hx with rfl | rfl | rfl | rfl | rfl | rfl <;> rfl
theorem tal_len (l : List Nat) : (tal l).length = 6 := rfl
theorem tal_snoc {l : List Nat} {x : Nat} (hx : isColN x = true) : tal (l ++ [x]) = addE x (tal l) := by
  unfold tal addE gi
  simp only [List.count_append, List.count_singleton]
  rcases col6 hx with rfl | rfl | rfl | rfl | rfl | rfl <;> simp
theorem runS_snoc (c : Cal) (l : List Nat) (x : Nat) : runS c (l ++ [x]) = runS c l ++ [nxt c (l.count (ca c) : Nat) x] := by
  refine List.ext_getElem? fun i => ?_
  rw [runS_get]
  by_cases hi : i < l.length
  · rw [List.getElem?_append_left hi, List.getElem?_append_left (by rw [runS_len]; exact hi), runS_get, List.take_append_of_le_length (by omega)]
  · rw [List.getElem?_append_right (by omega), List.getElem?_append_right (by rw [runS_len]; omega), runS_len]
    by_cases h0 : i = l.length
    · subst h0
      rw [Nat.sub_self]
      show (some _ : Option Nat) = some _
      rw [List.take_left' rfl]
    · rw [List.getElem?_eq_none (by rw [List.length_singleton]; omega), List.getElem?_eq_none (by rw [List.length_singleton]; omega)]
      rfl
theorem tal_run {c : Cal} (h : isCall c = true) : ∀ {l : List Nat}, (∀ x ∈ l, isColN x = true) → tal (runS c l) = stepC c (tal l) := by
  obtain ⟨_, _, _, h1, _, _, h4, h5⟩ := call_ab h
  have key : ∀ (n : Nat) (l : List Nat), l.length = n → (∀ x ∈ l, isColN x = true) → tal (runS c l) = stepC c (tal l) := by
    intro n
    induction n with
    | zero =>
      intro l hn _
      obtain rfl := List.length_eq_zero_iff.mp hn
      refine gi_ext (by rw [stepC_len]; rfl) fun j hj => ?_
      have hj : j < 6 := hj
      have z : ∀ k, gi (tal []) k = 0 := fun k => by
        unfold gi tal
        rw [List.getD_eq_getElem?_getD, List.getElem?_map]
        cases [97, 98, 99, 100, 101, 102][k]? <;> rfl
      rw [gi_step h rfl, h4]
      show gi (tal []) j = _
      simp only [z]
      have hm : mvm c.1 0 = 0 := by
        have := (call_ab h).1
        unfold mvm
        cases hc : c.1 with
        | txt _ => rfl
        | num m => rw [hc] at this; unfold kdOk at this; have := of_decide_eq_true this; exact if_neg (by omega)
      rw [hm]
      repeat' split
      all_goals rfl
    | succ n ih =>
      intro l hn hc
      have hne : l ≠ [] := fun e => by rw [e] at hn; cases hn
      obtain ⟨r, x, rfl⟩ : ∃ r x, l = r ++ [x] := ⟨l.dropLast, l.getLast hne, (List.dropLast_concat_getLast hne).symm⟩
      have hr : ∀ y ∈ r, isColN y = true := fun y m => hc y (List.mem_append_left _ m)
      have hx : isColN x = true := hc x (List.mem_append_right _ List.mem_cons_self)
      rw [runS_snoc, tal_snoc (nxt_col h hx), ih r (by simpa using hn) hr, tal_snoc hx, step_add h rfl hx, gi_tal h1]
  exact fun {l} => key l.length l rfl
theorem runC_len (cs : List Cal) : ∀ l : List Nat, (runC cs l).length = l.length := by
  induction cs with
  | nil => intro l; rfl
  | cons c r ih => intro l; show (runC r (runS c l)).length = _; rw [ih, runS_len]
theorem runC_take {cs : List Cal} {l : List Nat} {i : Nat} {c : Cal} (h : cs[i]? = some c) : runC (cs.take (i + 1)) l = runS c (runC (cs.take i) l) := by
  unfold runC
  rw [List.take_add_one, h, List.foldl_append]
  rfl
theorem runC_get {cs : List Cal} : ∀ {l : List Nat} {i x : Nat}, (∀ c ∈ cs, isCall c = true) → (∀ x ∈ l, isColN x = true) → l[i]? = some x → (runC cs l)[i]? = some (endC cs (tal (l.take i)) x) := by
  induction cs with
  | nil => intro l i x _ _ h; exact h
  | cons c r ih =>
    intro l i x h hl hx
    have h1 := h c List.mem_cons_self
    have hl' : ∀ y ∈ l.take i, isColN y = true := fun y m => hl y (List.mem_of_mem_take m)
    show (runC r (runS c l))[i]? = some (endC r (stepC c (tal (l.take i))) (nxt c (gi (tal (l.take i)) (ca c - 97)) x))
    rw [gi_tal (call_ab h1).2.2.2.1, ← tal_run h1 hl', ← runS_take]
    refine ih (fun y m => h y (List.mem_cons_of_mem _ m)) (runS_col h1 hl) ?_
    rw [runS_get, hx]
    rfl
theorem tal_runC {cs : List Cal} : ∀ {l : List Nat}, (∀ c ∈ cs, isCall c = true) → (∀ x ∈ l, isColN x = true) → tal (runC cs l) = leadC cs (tal l) := by
  induction cs with
  | nil => intro l _ _; rfl
  | cons c r ih =>
    intro l h hl
    have h1 := h c List.mem_cons_self
    show tal (runC r (runS c l)) = leadC r (stepC c (tal l))
    rw [ih (fun y m => h y (List.mem_cons_of_mem _ m)) (runS_col h1 hl), tal_run h1 hl]
theorem runC_col {cs : List Cal} : ∀ {l : List Nat}, (∀ c ∈ cs, isCall c = true) → (∀ x ∈ l, isColN x = true) → ∀ x ∈ runC cs l, isColN x = true := by
  induction cs with
  | nil => intro l _ h; exact h
  | cons c r ih =>
    intro l h hl
    exact ih (fun y m => h y (List.mem_cons_of_mem _ m)) (runS_col (h c List.mem_cons_self) hl)
/-! one that no call to a single person reaches -/
def crowdS (c : Cal) (x : Nat) : Nat := match c.1 with
  | .txt z => if x = ca c then cb c else if z = ("swap" : Str) ∧ x = cb c then ca c else x
  | .num _ => x
def crowdC (cs : List Cal) (x : Nat) : Nat := cs.foldl (fun x c => crowdS c x) x
theorem crowd_end {cs : List Cal} : ∀ {ns : List Int} {x : Nat} {t : Int}, (∀ c ∈ cs, isCall c = true ∧ ∀ k, c.1 = .num k → k ≤ 21) → ns.length = 6 → (∀ y ∈ ns, 0 ≤ y) → isColN x = true → 21 + t ≤ gi ns (x - 97) → cs.length ≤ t → endC cs ns x = crowdC cs x := by
  induction cs with
  | nil => intro ns x t _ _ _ _ _ _; rfl
  | cons c r ih =>
    intro ns x t h hl hn hx ht hlt
    obtain ⟨h1, h6⟩ := h c List.mem_cons_self
    obtain ⟨hk, _, _, c1, c2, h3, h4, h5⟩ := call_ab h1
    have b1 := isColN_iff.mp c1
    have b2 := isColN_iff.mp c2
    have b3 := isColN_iff.mp hx
    rw [List.length_cons] at hlt
    have hn' := nonneg_iff.mp hn
    rw [hl] at hn'
    have n1 := hn' (ca c - 97) (by omega)
    have n2 := hn' (cb c - 97) (by omega)
    show endC r (stepC c ns) (nxt c (gi ns (ca c - 97)) x) = crowdC r (crowdS c x)
    have e : nxt c (gi ns (ca c - 97)) x = crowdS c x := by
      unfold nxt crowdS
      cases hc : c.1 with
      | txt z => rfl
      | num m =>
        dsimp only
        have := h6 m hc
        refine if_neg fun q => ?_
        rw [q.1] at ht
        omega
    rw [e]
    have hcol : isColN (crowdS c x) = true := by rw [← e]; exact nxt_col h1 hx
    refine ih (t := t - 1) (fun y m => h y (List.mem_cons_of_mem _ m)) (by rw [stepC_len, hl]) (stepC_nonneg h1 hl hn) hcol ?_ (by omega)
    rw [gi_step h1 hl, h4, h5]
    unfold crowdS mvm
    cases hc : c.1 with
    | txt z =>
      dsimp only
      have e : (Kd.txt z = Kd.txt "swap") ↔ z = ("swap" : Str) := ⟨fun e => Kd.txt.inj e, fun e => by rw [e]⟩
      by_cases hz : z = ("swap" : Str)
      · rw [if_pos (e.mpr hz)]
        simp only [hz, true_and]
        by_cases x1 : x = ca c
        · rw [if_pos x1, if_pos rfl, ← x1]; omega
        · rw [if_neg x1]
          by_cases x2 : x = cb c
          · rw [if_pos x2, if_neg (by omega), if_pos rfl, ← x2]; omega
          · rw [if_neg x2, if_neg (by omega), if_neg (by omega)]; omega
      · rw [if_neg (fun q => hz (e.mp q))]
        simp only [hz, false_and, if_false]
        by_cases x1 : x = ca c
        · rw [if_pos x1, if_pos rfl, ← x1]; omega
        · rw [if_neg x1]
          by_cases x2 : x = cb c
          · rw [if_pos (by omega), ← x2]; omega
          · rw [if_neg (by omega), if_neg (by omega)]; omega
    | num m =>
      dsimp only
      rw [if_neg (show ¬ Kd.num m = Kd.txt "swap" from by intro q; cases q)]
      by_cases x1 : x = ca c
      · rw [if_neg (by omega), if_pos (by omega), ← x1]; split <;> omega
      · by_cases x2 : x = cb c
        · rw [if_pos (by omega), ← x2]; split <;> omega
        · rw [if_neg (by omega), if_neg (by omega)]; omega
/-! changes at places -/
def mset (p : Nat → Bool) (v : Nat) (l : List Nat) : List Nat := l.mapIdx fun j y => if p j = true then v else y
theorem mset_len (p : Nat → Bool) (v : Nat) (l : List Nat) : (mset p v l).length = l.length := List.length_mapIdx
theorem mset_get (p : Nat → Bool) (v : Nat) (l : List Nat) (i : Nat) : (mset p v l)[i]? = l[i]?.map fun y => if p i = true then v else y := by
  unfold mset
  rw [List.getElem?_mapIdx]
theorem mset_set {p q : Nat → Bool} {v i : Nat} {l : List Nat} (h : ∀ j, q j = (p j || decide (j = i))) : (mset p v l).set i v = mset q v l := by
  refine List.ext_getElem? fun j => ?_
  rw [mset_get, List.getElem?_set, mset_len, h j]
  by_cases e : i = j
  · subst e
    rw [if_pos rfl, decide_eq_true rfl, Bool.or_true]
    by_cases hl : i < l.length
    · rw [if_pos hl, List.getElem?_eq_getElem hl]; rfl
    · rw [if_neg hl, List.getElem?_eq_none (by omega)]; rfl
  · rw [if_neg e, mset_get, decide_eq_false (Ne.symm e), Bool.or_false]
theorem mset_no {p : Nat → Bool} {v : Nat} {l : List Nat} (h : ∀ j, j < l.length → p j = false) : mset p v l = l := by
  refine List.ext_getElem? fun j => ?_
  rw [mset_get]
  by_cases hl : j < l.length
  · rw [List.getElem?_eq_getElem hl, h j hl]; rfl
  · rw [List.getElem?_eq_none (by omega)]; rfl
theorem mset_congr {p q : Nat → Bool} {v : Nat} {l : List Nat} (h : ∀ j, j < l.length → p j = q j) : mset p v l = mset q v l := by
  refine List.ext_getElem? fun j => ?_
  rw [mset_get, mset_get]
  by_cases hl : j < l.length
  · rw [h j hl]
  · rw [List.getElem?_eq_none (by omega)]; rfl
/-- who wears a colour -/
def chs (a : Nat) (l : List Nat) : List Nat := (List.range l.length).filter fun i => decide (l[i]? = some a)
theorem chs_snoc (a : Nat) (l : List Nat) (x : Nat) : chs a (l ++ [x]) = chs a l ++ if x = a then [l.length] else [] := by
  unfold chs
  rw [List.length_append, List.length_singleton, List.range_succ, List.filter_append]
  congr 1
  · refine List.filter_congr fun i hi => ?_
    rw [List.mem_range] at hi
    rw [List.getElem?_append_left hi]
  · rw [List.filter_cons, List.filter_nil, List.getElem?_append_right (Nat.le_refl _), Nat.sub_self]
    by_cases h : x = a
    · subst h; simp
    · simp [h]
theorem chs_len (a : Nat) (l : List Nat) : (chs a l).length = l.count a := by
  have key : ∀ (n : Nat) (l : List Nat), l.length = n → (chs a l).length = l.count a := by
    intro n
    induction n with
    | zero => intro l h; obtain rfl := List.length_eq_zero_iff.mp h; rfl
    | succ n ih =>
      intro l hn
      have hne : l ≠ [] := fun e => by rw [e] at hn; cases hn
      obtain ⟨r, x, rfl⟩ : ∃ r x, l = r ++ [x] := ⟨l.dropLast, l.getLast hne, (List.dropLast_concat_getLast hne).symm⟩
      rw [chs_snoc, List.length_append, ih r (by simpa using hn), List.count_append, List.count_singleton]
      by_cases h : x = a
      · rw [if_pos h]; simp [h]
      · rw [if_neg h]; simp [h]
  exact key l.length l rfl
theorem chs_get (a : Nat) (l : List Nat) (k j : Nat) : (chs a l)[k]? = some j ↔ l[j]? = some a ∧ (l.take j).count a = k := by
  have key : ∀ (n : Nat) (l : List Nat), l.length = n → ∀ k j, (chs a l)[k]? = some j ↔ l[j]? = some a ∧ (l.take j).count a = k := by
    intro n
    induction n with
    | zero => intro l h k j; obtain rfl := List.length_eq_zero_iff.mp h; simp [chs]
    | succ n ih =>
      intro l hn k j
      have hne : l ≠ [] := fun e => by rw [e] at hn; cases hn
      obtain ⟨r, x, rfl⟩ : ∃ r x, l = r ++ [x] := ⟨l.dropLast, l.getLast hne, (List.dropLast_concat_getLast hne).symm⟩
      have hr : r.length = n := by simpa using hn
      have hlen := chs_len a r
      rw [chs_snoc]
      by_cases hj : j < r.length
      · rw [List.getElem?_append_left hj, List.take_append_of_le_length (by omega), ← ih r hr]
        by_cases hk : k < (chs a r).length
        · rw [List.getElem?_append_left hk]
        · rw [List.getElem?_append_right (by omega), List.getElem?_eq_none (l := chs a r) (by omega)]
          constructor
          · intro h
            split at h
            · have h := List.mem_of_getElem? h
              rw [List.mem_singleton] at h
              omega
            · cases h
          · intro h; cases h
      · by_cases hj2 : j = r.length
        · subst hj2
          rw [List.getElem?_append_right (Nat.le_refl _), Nat.sub_self, List.take_left' rfl]
          by_cases hk : k < (chs a r).length
          · rw [List.getElem?_append_left hk]
            constructor
            · intro h
              have := ((ih r hr k r.length).mp h).1
              rw [List.getElem?_eq_none (Nat.le_refl _)] at this
              cases this
            · rintro ⟨_, h⟩; omega
          · rw [List.getElem?_append_right (by omega)]
            by_cases h : x = a
            · rw [if_pos h]
              constructor
              · intro e
                have : k - (chs a r).length = 0 := by
                  have := (List.getElem?_eq_some_iff.mp e).1
                  rw [List.length_singleton] at this
                  omega
                exact ⟨by rw [h]; rfl, by omega⟩
              · rintro ⟨_, e⟩
                rw [show k - (chs a r).length = 0 by omega]
                rfl
            · rw [if_neg h]
              constructor
              · intro e; cases e
              · rintro ⟨e, _⟩
                cases e
                exact absurd rfl h
        · constructor
          · intro h
            have : j ∈ chs a r ++ if x = a then [r.length] else [] := List.mem_of_getElem? h
            rw [← chs_snoc] at this
            unfold chs at this
            have := List.mem_range.mp (List.mem_filter.mp this).1
            rw [List.length_append, List.length_singleton] at this
            omega
          · rintro ⟨h, _⟩
            rw [List.getElem?_eq_none (by rw [List.length_append, List.length_singleton]; omega)] at h
            cases h
  exact key l.length l rfl k j
theorem chs_mem (a : Nat) (l : List Nat) (j : Nat) : j ∈ chs a l ↔ l[j]? = some a := by
  rw [List.mem_iff_getElem?]
  constructor
  · rintro ⟨k, h⟩; exact ((chs_get a l k j).mp h).1
  · intro h; exact ⟨_, (chs_get a l _ j).mpr ⟨h, rfl⟩⟩
theorem cut_one {xs : List Nat} {m : Int} (h : 1 ≤ m) : cutG xs (some (m - 1)) (some m) = match xs[(m - 1).toNat]? with | some j => [j] | none => [] := by
  obtain ⟨k, rfl⟩ : ∃ k : Nat, m = (k : Int) + 1 := ⟨(m - 1).toNat, by omega⟩
  rw [show ((k : Int) + 1 - 1) = (k : Int) by omega, Int.toNat_natCast, show ((k : Int) + 1) = ((k + 1 : Nat) : Int) by omega]
  unfold cutG
  rw [HT.sIx_nat, HT.sIx_nat]
  by_cases hk : k < xs.length
  · rw [Nat.min_eq_left (by omega), Nat.min_eq_left (by omega), List.getElem?_eq_getElem hk, show k + 1 - k = 1 by omega, List.drop_eq_getElem_cons hk]
    rfl
  · rw [List.getElem?_eq_none (by omega), Nat.min_eq_right (by omega), Nat.min_eq_right (by omega), Nat.sub_self]
    rfl
/-- the places that a call changes to its second colour -/
def hit (c : Cal) (l : List Nat) : List Nat := match c.1 with
  | .txt _ => chs (ca c) l
  | .num m => cutG (chs (ca c) l) (some (m - 1)) (some m)
theorem run_txt {c : Cal} {l : List Nat} {z : Str} (hc : c.1 = .txt z) (hz : ¬ z = ("swap" : Str)) : mset (fun j => decide (j ∈ chs (ca c) l)) (cb c) l = runS c l := by
  refine List.ext_getElem? fun i => ?_
  rw [mset_get, runS_get]
  cases hy : l[i]? with
  | none => rfl
  | some y =>
    show some _ = some _
    unfold nxt
    rw [hc]
    dsimp only
    have : (i ∈ chs (ca c) l) ↔ y = ca c := by rw [chs_mem, hy]; exact ⟨fun e => Option.some.inj e, fun e => by rw [e]⟩
    by_cases e : y = ca c
    · rw [if_pos (decide_eq_true (this.mpr e)), if_pos e]
    · rw [if_neg (by rw [decide_eq_true_iff]; exact fun q => e (this.mp q)), if_neg e, if_neg (fun q => hz q.1)]
theorem run_num {c : Cal} {l : List Nat} {m : Int} (hc : c.1 = .num m) (hm : 1 ≤ m) : mset (fun j => decide (j ∈ cutG (chs (ca c) l) (some (m - 1)) (some m))) (cb c) l = runS c l := by
  refine List.ext_getElem? fun i => ?_
  rw [mset_get, runS_get]
  cases hy : l[i]? with
  | none => rfl
  | some y =>
    show some _ = some _
    unfold nxt
    rw [hc]
    dsimp only
    have : (i ∈ cutG (chs (ca c) l) (some (m - 1)) (some m)) ↔ (y = ca c ∧ (((l.take i).count (ca c) : Nat) : Int) + 1 = m) := by
      have hg := chs_get (ca c) l (m - 1).toNat i
      rw [hy] at hg
      rw [cut_one hm]
      constructor
      · intro h
        have : (chs (ca c) l)[(m - 1).toNat]? = some i := by
          revert h
          cases (chs (ca c) l)[(m - 1).toNat]? with
          | none => intro h; cases h
          | some j => intro h; rw [List.mem_singleton.mp h]
        obtain ⟨h1, h2⟩ := hg.mp this
        exact ⟨Option.some.inj h1, by omega⟩
      · rintro ⟨h1, h2⟩
        rw [hg.mpr ⟨by rw [h1], by omega⟩]
        exact List.mem_singleton.mpr rfl
    by_cases e : y = ca c ∧ (((l.take i).count (ca c) : Nat) : Int) + 1 = m
    · rw [if_pos (decide_eq_true (this.mpr e)), if_pos e]
    · rw [if_neg (by rw [decide_eq_true_iff]; exact fun q => e (this.mp q)), if_neg e]
theorem run_swap {c : Cal} {l : List Nat} (hc : c.1 = .txt "swap") : mset (fun j => decide (j ∈ chs (ca c) l)) (cb c) (mset (fun j => decide (l[j]? = some (cb c))) (ca c) l) = runS c l := by
  refine List.ext_getElem? fun i => ?_
  rw [mset_get, mset_get, runS_get]
  cases hy : l[i]? with
  | none => rfl
  | some y =>
    show some _ = some _
    unfold nxt
    rw [hc]
    dsimp only
    have : (i ∈ chs (ca c) l) ↔ y = ca c := by rw [chs_mem, hy]; exact ⟨fun e => Option.some.inj e, fun e => by rw [e]⟩
    by_cases e : y = ca c
    · rw [if_pos (decide_eq_true (this.mpr e)), if_pos e]
    · rw [if_neg (by rw [decide_eq_true_iff]; exact fun q => e (this.mp q)), if_neg e]
      by_cases e2 : y = cb c
      · rw [if_pos (by rw [e2]; exact decide_eq_true rfl), if_pos ⟨rfl, e2⟩]
      · rw [if_neg (by rw [decide_eq_true_iff]; exact fun q => e2 (Option.some.inj q)), if_neg (fun q => e2 q.2)]
/-! rows as texts -/
theorem tl_sN (l : List Nat) : TL.tl (sN l) = l := rfl
theorem len_sN (l : List Nat) : (sN l).length = l.length := TL.len_tl _
theorem cnt_sN (l : List Nat) (c : Nat) : Txt.count (sN l) (S1 c) = l.count c := by
  rw [count_cnt]
  show cnt c l = l.count c
  induction l with
  | nil => rfl
  | cons a r ih =>
    rw [cnt_cons, ih, List.count_cons]
    by_cases h : a = c
    · rw [if_pos h, if_pos (by rw [h]; exact beq_self_eq_true _)]; omega
    · rw [if_neg h, if_neg (by rw [beq_iff_eq]; exact h)]; omega
theorem join_sN (l : List Nat) : Txt.join ("" : Str) (l.map S1) = sN l := by
  have e : l.map S1 = (l.map fun c => [c]).map SX.S := by rw [List.map_map]; rfl
  have h := SX.join_S [] (l.map fun c => [c])
  rw [e]
  refine Eq.trans h ?_
  have : ∀ l : List Nat, TL.joinL [] (l.map fun c => [c]) = l := by
    intro l
    induction l with
    | nil => rfl
    | cons a r ih =>
      cases r with
      | nil => rfl
      | cons b r => exact congrArg (a :: ·) ih
  rw [this]
theorem cutS_to (l : List Nat) (i : Nat) (h : i ≤ l.length) : cutS (sN l) none (some (i : Int)) = sN (l.take i) := by
  unfold cutS
  rw [HT.sIx_none, HT.sIx_nat, len_sN, Nat.min_eq_left h]
  show (⟨((l.drop 0).take (i - 0)).toArray⟩ : Str) = _
  rw [List.drop_zero, Nat.sub_zero]
end Q

set_option Elab.async false
set_option linter.all false
set_option maxRecDepth 100000
set_option maxHeartbeats 4000000
namespace Q
open PySem PySem.Spec PyProof.Rows L2
section
variable {α : DA} {st st' : Ds} {PA : List Da → Ds → Prop}
theorem i_zipS (q : α st fun ds st1 => zpSF (st1.fzs ds).1 (st1.fzs ds).2 PA) : diZS α st PA := q
theorem i_zpS {es l : List Da} {z : Str} {d : Da} (h : st.fzs es = ([.str z, d], st')) (hl : d.asL = some l) (q : z.cps.all (· < 128) = true ∧ z.cps.size ≤ l.length ∧ PA (prD (sgD z) l) st') : zpSF (st.fzs es).1 (st.fzs es).2 PA := by
  unfold zpSF
  rw [h]
  dsimp only
  rw [hl]
  exact q
end
theorem prE_ints (ns : List Int) : prD ((List.range (ns.map Da.int).length).map fun i => .int (i : Nat)) (ns.map Da.int) = (List.range ns.length).map fun i => .tup [.int (i : Nat), .int (gi ns i)] := by
  refine List.ext_getElem? fun i => ?_
  unfold prD
  rw [List.getElem?_zipWith, List.getElem?_map, List.getElem?_map, List.getElem?_map, List.length_map]
  by_cases h : i < ns.length
  · rw [List.getElem?_range h, List.getElem?_eq_getElem h]
    show some (Da.tup [.int (i : Nat), .int ns[i]]) = some (Da.tup [.int (i : Nat), .int (ns.getD i 0)])
    rw [List.getD_eq_getElem?_getD, List.getElem?_eq_getElem h]
    rfl
  · rw [List.getElem?_eq_none (by rw [List.length_range]; omega)]
    rfl
/-- lists of texts -/
theorem py_strs : ∀ zs : List Str, (Da.lst (zs.map Da.str)).py = .list (zs.map PyData.str) := fun zs => by
  show PyData.list (Da.pyL (zs.map Da.str)) = _
  rw [pyL_map]
  rfl
theorem k_NeSame {d : Da} {R : Da → Prop} (h0 : d.isPy = true) (hs : Sh 9 d.py) (q : R (.bl false)) : fNeD d d R :=
  ⟨h0, h0, hs.shaped (by decide), hs.shaped (by decide), by rw [hs.eqv]; exact q⟩
theorem k_EqSame {d : Da} {R : Da → Prop} (h0 : d.isPy = true) (hs : Sh 9 d.py) (q : R (.bl true)) : fEqD d d R :=
  ⟨h0, h0, hs.shaped (by decide), hs.shaped (by decide), by rw [hs.eqv]; exact q⟩
theorem k_NeStrs {zs : List Str} {R : Da → Prop} (h : zs.length ≤ 100000) (ho : ∀ z ∈ zs, PyData.strOk z = true) (q : R (.bl false)) : fNeD (.lst (zs.map Da.str)) (.lst (zs.map Da.str)) R := by
  refine k_NeSame (isPyL_map _ (fun _ => rfl) _) ?_ q
  rw [py_strs]
  refine Sh.list (by rw [List.length_map]; exact h) fun d m => ?_
  obtain ⟨z, mz, rfl⟩ := List.mem_map.mp m
  exact Sh.str (ho z mz)
/-! a drill -/
def calPy (c : Cal) : PyData := .tuple [c.1.py, .str c.2.1, .str c.2.2]
theorem py_cal (c : Cal) : (calDa false c).py = calPy c := by
  obtain ⟨k, s, t⟩ := c
  cases k <;> rfl
theorem isPy_cal (c : Cal) : (calDa false c).isPy = true := by
  obtain ⟨k, s, t⟩ := c
  cases k <;> rfl
theorem py_drill (cs : List Cal) : (drDa false cs).py = .list (cs.map calPy) := by
  show PyData.list (Da.pyL (cs.map (calDa false))) = _
  rw [pyL_map]
  congr 1
  exact List.map_congr_left fun c _ => py_cal c
theorem sh_cal {c : Cal} (h : isCall c = true) : Sh 2 (calPy c) := by
  obtain ⟨hk, a, b, e1, e2, c1, c2, _⟩ := isCall_inv h
  refine Sh.tuple (show 3 ≤ 100000 by decide) fun d m => ?_
  simp only [List.mem_cons, List.not_mem_nil, or_false] at m
  rcases m with rfl | rfl | rfl
  · cases hc : c.1 with
    | num i => exact Sh.int i
    | txt z =>
      rw [hc] at hk
      refine Sh.str ?_
      rcases kdOk_txt hk with rfl | rfl <;> decide +kernel
  · rw [e1]; exact Sh.str (strOk_one c1)
  · rw [e2]; exact Sh.str (strOk_one c2)
theorem sh_drill {cs : List Cal} (h : ∀ c ∈ cs, isCall c = true) (hl : cs.length ≤ 100000) : Sh 9 (drDa false cs).py := by
  rw [py_drill]
  refine Sh.list (by rw [List.length_map]; exact hl) fun d m => ?_
  obtain ⟨c, mc, rfl⟩ := List.mem_map.mp m
  exact (sh_cal (h c mc)).mono (by decide)
/-- what repr of a drill gives -/
def drTxt (cs : List Cal) : Str := (PyData.list (cs.map calPy)).shown
theorem shown_cal {c : Cal} (h : isCall c = true) (hk : ∀ k, c.1 = .num k → k.natAbs < 2 ^ 1000) : (calPy c).showable = true ∧ (calPy c).shown.length ≤ 6000 := by
  obtain ⟨hkd, a, b, e1, e2, c1, c2, _⟩ := isCall_inv h
  have s1 : ∀ a : Nat, isColN a = true → (PyData.str (S1 a)).shown.length ≤ 1921 := fun a ha => Nat.le_trans (shown_str (strOk_one ha)) (by show 10 * 1 + 2 ≤ 1921; decide)
  have k1 : c.1.py.showable = true ∧ c.1.py.shown.length ≤ 1921 := by
    cases hc : c.1 with
    | num i => exact ⟨decide_eq_true (log_of (hk i hc)), shown_int (log_of (hk i hc))⟩
    | txt z =>
      rw [hc] at hkd
      rcases kdOk_txt hkd with rfl | rfl
      · exact ⟨rfl, by decide +kernel⟩
      · exact ⟨rfl, by decide +kernel⟩
  constructor
  · show PyData.showableAll _ = true
    rw [showableAll_iff]
    intro x m
    simp only [List.mem_cons, List.not_mem_nil, or_false] at m
    rcases m with rfl | rfl | rfl
    · exact k1.1
    · rfl
    · rfl
  · have := shown_tuple (xs := [c.1.py, .str c.2.1, .str c.2.2]) (b := 1921) fun x m => by
      simp only [List.mem_cons, List.not_mem_nil, or_false] at m
      rcases m with rfl | rfl | rfl
      · exact k1.2
      · rw [e1]; exact s1 a c1
      · rw [e2]; exact s1 b c2
    have e : [c.1.py, PyData.str c.2.1, PyData.str c.2.2].length = 3 := rfl
    rw [e] at this
    exact Nat.le_trans this (by decide)
theorem k_ReprDrill {cs : List Cal} {R : Da → Prop} (h : ∀ c ∈ cs, isCall c = true ∧ ∀ k, c.1 = .num k → k.natAbs < 2 ^ 1000) (hl : cs.length ≤ 1000) (q : R (.str (drTxt cs))) : fReprD [drDa false cs] R := by
  refine k_Repr (isPyL_map _ isPy_cal _) rfl (sh_drill (fun c m => (h c m).1) (by omega)) ?_ ?_ ?_
  · rw [py_drill]
    show PyData.showableAll _ = true
    rw [showableAll_iff]
    intro x m
    obtain ⟨c, mc, rfl⟩ := List.mem_map.mp m
    exact (shown_cal (h c mc).1 (h c mc).2).1
  · rw [py_drill]
    have := shown_list (xs := cs.map calPy) (b := 6000) fun x m => by
      obtain ⟨c, mc, rfl⟩ := List.mem_map.mp m
      exact (shown_cal (h c mc).1 (h c mc).2).2
    rw [List.length_map] at this
    have e : sizeLine = 16777216 := sizeLine_eq
    omega
  · rw [py_drill]; exact q
theorem ite_nd {p : Prop} [Decidable p] {A B : Prop} (h : p) (q : B) : if (!decide p) = true then A else B := by rw [decide_eq_true h]; exact q
theorem ite_nnd {p : Prop} [Decidable p] {A B : Prop} (h : ¬p) (q : A) : if (!decide p) = true then A else B := by rw [decide_eq_false h]; exact q
/-! comprehension results -/
theorem atI_neg1 {α : Type} {l : List α} {x : α} (h : l.getLast? = some x) : atI l (-1) = some x := by
  have hne : l ≠ [] := fun e => by rw [e] at h; cases h
  have hp := List.length_pos_iff.mpr hne
  rw [List.getLast?_eq_getElem?] at h
  have e : ixN l.length (-1) = some (l.length - 1) := by
    unfold ixN
    rw [if_neg (by decide), if_pos (by omega)]
    congr 1
    omega
  unfold atI
  rw [e]
  exact h
end Q

set_option Elab.async false
set_option linter.all false
set_option maxRecDepth 100000
set_option maxHeartbeats 4000000
namespace Q
open PySem PySem.Spec PyProof.Rows L2
/-! ### promises of a new list -/
section
variable {K : PySem.W.Frag} {W : Wo} {f : FP} {C : Cg} {S H : Hp} {σ : L2.St} {st : Ds}
def spN (K : PySem.W.Frag) (f : FP) : Sp := fun vs H Q _ => ∃ (S : Hp) (ds : List Da) (P : Da → Prop), Same S H ∧ DeAll K S vs ds ∧ f ds P ∧
  ∀ p xs ds' S' H', P (.lst ds') → Ext S H S' H' → S' p = none → H p = none → H' p = some (.lst xs) → DeAll K S' xs ds' → Q (.ref p) H'
theorem spN_of {k : Nat} {vs : List V} {Q : VK} {E : XK} (h : spP K f vs H Q E) : spN K f vs H Q E := by
  obtain ⟨S, ds, P, s, hd, hf, q⟩ := h
  refine ⟨S, ds, P, s, hd, hf, fun p xs ds' S' H' hP ex hs hp hp' hD => ?_⟩
  refine q (.ref p) (.lst ds') (upd S' p (.lst xs)) H' hP ⟨ex.s.trans (same_upd hs), fun b u e => ?_, ex.h, fun b u e => ?_⟩ (.lst upd_same (hD.mono (same_upd hs)))
  · by_cases hb : b = p
    · subst hb; rw [upd_same] at e; rw [← e]; exact hp'
    · rw [upd_ne hb] at e; exact ex.sub _ _ e
  · by_cases hb : b = p
    · subst hb; exact .inr (.inl hp)
    · rw [upd_ne hb] at e; exact ex.new _ _ e
theorem call_pN {k : Nat} {E : XK} (hl : ∀ ds P, f ds P → ds.length = k) : CallOk K W (fun vs H Q E => vs.length = k ∧ spN K f vs H Q E) [] E f.d := by
  intro vs H Q h
  obtain ⟨h1, h2⟩ := call_pn (K := K) (W := W) (E := E) hl vs H Q h
  exact ⟨h1, spN_of (k := k) h2⟩
theorem fn_pureN {N : List Str} {vs : List V} {Q : VK} {E : XK} {t1 : TS} {te : TE} {c1 : DC} {α : DA} (hs : SS K W0 t1 c1) (hn : SN K W0 te α)
    (h : ∀ ds P, f ds P → c1 ⟨fun st => α st fun xs st' => P (.lst xs), fun _ _ => False, fun _ => False, fun _ => False⟩ ⟨δ0 N.length ds, 0⟩)
    (hp : spN K f vs H Q E) : tSeq t1 (tRet te) { nx := fun _ H' => Q .non H', rt := Q } (L2.start N vs) H := by
  obtain ⟨S, ds, P, s, hd, hf, k⟩ := hp
  refine hs S H S H _ _ _ _ (ok_start s (fun b m => nomatch m) True.intro hd) (h ds P hf) ⟨fun S' H' σ st I q => ?_, fun S' H' σ st v d I hv q => q.elim, fun _ _ _ _ _ q => q.elim, fun _ _ _ _ _ q => q.elim⟩
  exact hn S H S' H' σ st _ Q I q fun p xs ds' S2 H2 st2 I2 e hp' hs' hm h0 hno hD hP => k p xs ds' S2 H2 hP ⟨I2.le, I2.sub, I2.fr.same, fun b o e => I2.new b o e⟩ hs' h0 hp' hD
/-- a call that gives a new list -/
def eCallN (f : FP) (α : DA) : DA := fun st PA => α st fun ds st1 => f (st1.fzs ds).1 fun d => ∃ xs, d = .lst xs ∧ PA xs (st1.fzs ds).2
theorem sn_callN {k : Nat} {E : XK} {A : TA} {α : DA} (hl : ∀ ds P, f ds P → ds.length = k) (hA : SA K W A α) : SN K W (tCall (fun vs H Q E => vs.length = k ∧ spN K f vs H Q E) [] E A) (eCallN f α) := by
  intro S0 H0 S H σ st P Q I he q
  refine hA S0 H0 S H σ st _ _ I he fun xs ds S1 H1 st1 I1 e1 r1 q1 => ?_
  obtain ⟨S2, e2, I2, hd⟩ := fzs_ok I1 r1
  rw [List.append_nil]
  refine ⟨by rw [hd.length]; exact hl _ _ q1, S2, _, _, I2.sub, hd, q1, fun p ys ds' S' H' hP ex hs hp hp' hD => ?_⟩
  obtain ⟨xs', e, hP⟩ := hP
  cases e
  exact q p ys ds' S' H' _ (I2.ext ex) ((e1.trans e2).trans ex.s) hp' hs (I2.nm hp) (I2.h0 hp) (I2.nown hp) hD hP
theorem Ok.heap {H' : Hp} (I : Ok C S H σ st) (hno : ∀ (i : Nat) (s : Sl), st.δ[i]? = some s → s.isOwn = false) (hs : Same S H') (hf : Fr C.W.M C.H0 H') (hr : C.W.R st.n H') : Ok C S H' σ st := by
  refine ⟨I.le, hs, hf, I.off, I.new, hr, I.len, fun i x s h1 h2 => ?_, I.priv, I.dis⟩
  have h := I.slot i x s h1 h2
  have hn := hno i s h2
  cases s with
  | un => exact True.intro
  | dat d => exact h
  | own ds => cases hn
  | ownD kvs => cases hn
  | ownT kvs => cases hn
end
end Q

set_option Elab.async false
set_option linter.all false
set_option maxRecDepth 100000
set_option maxHeartbeats 4000000
namespace Q
open PySem PySem.Spec PyProof.Rows L2
/-! the steps' tactic on data -/
local macro_rules | `(tactic| walk_at "fi") => `(tactic| (simp only [List.set_cons_zero, List.set_cons_succ]; rfl))
local macro_rules | `(tactic| walk_at "f1") => `(tactic| first | exact fz_kd | exact pk_kd | exact fz_stl (by first | assumption | with_unfolding_all exact rfl | exact calDa_stl) | exact pk_stl (by first | assumption | with_unfolding_all exact rfl | exact calDa_stl) | exact pk_own (by with_unfolding_all exact rfl) | exact pk_ownD (by with_unfolding_all exact rfl) | (apply fz_own; (with_unfolding_all exact rfl); (walk_at "fi")) | (apply fz_ownD; (with_unfolding_all exact rfl); (walk_at "fi")))
local macro_rules | `(tactic| walk_at "f") => `(tactic| first | walk_at "f1" | exact fzs_nil | exact fzs_stl (by with_unfolding_all exact rfl) | (apply fzs_cons; (walk_at "f1"); (walk_at "f")))
local macro_rules | `(tactic| walk_at "d1") => `(tactic| (with_reducible first
  | (apply n_put; (simp only [List.set_cons_zero, List.set_cons_succ]; rfl))
  | (apply n_putE; (simp only [List.set_cons_zero, List.set_cons_succ]; rfl))
  | (apply n_put2; (simp only [List.set_cons_zero, List.set_cons_succ]; rfl); (simp only [List.set_cons_zero, List.set_cons_succ]; rfl))
  | (apply n_wp1; (simp only [List.set_cons_zero, List.set_cons_succ]; rfl))
  | (apply n_wp1E; (simp only [List.set_cons_zero, List.set_cons_succ]; rfl))
  | (apply n_wp2; (simp only [List.set_cons_zero, List.set_cons_succ]; rfl); (simp only [List.set_cons_zero, List.set_cons_succ]; rfl))
  | (apply n_wp2E; (simp only [List.set_cons_zero, List.set_cons_succ]; rfl); (simp only [List.set_cons_zero, List.set_cons_succ]; rfl))
  | (apply n_wp3; (simp only [List.set_cons_zero, List.set_cons_succ]; rfl); (simp only [List.set_cons_zero, List.set_cons_succ]; rfl); (simp only [List.set_cons_zero, List.set_cons_succ]; rfl))
  | (apply n_wp3E; (simp only [List.set_cons_zero, List.set_cons_succ]; rfl); (simp only [List.set_cons_zero, List.set_cons_succ]; rfl); (simp only [List.set_cons_zero, List.set_cons_succ]; rfl))
  | refine n_tick ?_
  | refine n_tickE ?_
  | refine s_seq ?_
  | refine k_op ?_
  | (apply k_var; (with_unfolding_all exact rfl))
  | (apply k_varO; (with_unfolding_all exact rfl))
  | (apply k_varD; (with_unfolding_all exact rfl))
  | refine k_c ?_
  | refine k_AddI ?_
  | refine k_SubI ?_
  | refine k_LtI ?_
  | refine k_LeI ?_
  | refine k_GtI ?_
  | refine k_GeI ?_
  | refine k_NegI ?_
  | refine k_ip ?_
  | (apply k_Eq; (with_unfolding_all exact rfl))
  | (apply k_Ne; (with_unfolding_all exact rfl))
  | refine k_InC ?_
  | refine k_NotInC ?_
  | (apply k_IsN; (with_unfolding_all exact rfl))
  | (apply k_NotN; (with_unfolding_all exact rfl))
  | refine k_Max2 ?_
  | refine k_Min2 ?_
  | refine k_Int1b ?_
  | refine k_Int1i ?_
  | refine k_Abs ?_
  | refine k_Count ?_
  | (apply k_LenL; (with_unfolding_all exact rfl))
  | (apply k_ListL; (with_unfolding_all exact rfl))
  | (apply k_pk2; (walk_at "f"); (walk_at "f"))
  | (apply k_pk1; (walk_at "f"))
  | (apply k_pk2N; (walk_at "f"); (walk_at "f"))
  | (apply k_pkM; (walk_at "f"))
  | (apply k_mp1; (walk_at "f"))
  | (apply k_mp2; (walk_at "f"); (walk_at "f"))
  | (apply k_mp1N; (walk_at "f"))
  | refine k_un ?_
  | refine k_new ?_
  | refine k_opN ?_
  | refine k_nil ?_
  | refine k_cons ?_
  | refine k_cb ?_
  | refine k_cbN ?_
  | refine k_call ?_
  | refine k_callB ?_
  | refine k_kw ?_
  | refine k_kwB ?_
  | (apply k_cF; (walk_at "f"))
  | (apply k_cB; (walk_at "f"))
  | (apply k_kF; (with_unfolding_all exact rfl); (walk_at "f"); (with_unfolding_all exact rfl))
  | (apply k_kB; (with_unfolding_all exact rfl); (walk_at "f"); (with_unfolding_all exact rfl))
  | refine k_tup ?_
  | refine k_lst ?_
  | (apply k_mkT; (with_unfolding_all exact rfl); (walk_at "f"))
  | (apply k_mkL; (with_unfolding_all exact rfl); (walk_at "f"))
  | refine k_bE ?_
  | (apply k_bl; (with_unfolding_all exact rfl))
  | refine k_and ?_
  | refine k_or ?_
  | refine k_not ?_
  | refine k_yes ?_
  | refine k_if ?_
  | refine k_andV ?_
  | refine k_orV ?_
  | refine k_notV ?_
  | refine k_chain ?_
  | refine k_oNo ?_
  | refine k_oPart ?_
  | (apply k_int; (walk_at "f"))
  | refine k_slL ?_
  | (apply k_asl; (walk_at "f"); (with_unfolding_all exact rfl))
  | refine k_slS ?_
  | (apply k_strP; (walk_at "f"))
  | refine k_m1 ?_
  | refine k_mu ?_
  | refine k_bl0 ?_
  | refine k_mu0 ?_
  | (apply k_mu1; (with_unfolding_all exact rfl))
  | (apply k_mu2; (walk_at "f"); (with_unfolding_all exact rfl))
  | refine s_next ?_
  | refine s_drop ?_
  | refine s_ret ?_
  | (apply s_fz; (walk_at "f"))
  | refine s_retN ?_
  | refine s_asg ?_
  | refine s_asgN ?_
  | refine s_break ?_
  | refine s_cont ?_
  | refine s_aug ?_
  | refine s_par ?_
  | (apply s_par2; (walk_at "f"))
  | refine s_for ?_
  | refine s_lc ?_
  | (apply g_nm; (walk_at "f"))
  | refine g_nl ?_
  | refine g_cn ?_
  | (apply g_tp; (walk_at "f"); (first | exact calDa_asT | with_unfolding_all exact rfl); (with_unfolding_all exact rfl))
  | (apply g_sl; (walk_at "f"))
  | refine i_list ?_
  | (apply i_asl; (walk_at "f"); (with_unfolding_all exact rfl))
  | refine i_tup ?_
  | (apply i_ast; (walk_at "f"); (with_unfolding_all exact rfl))
  | refine i_str ?_
  | refine i_rng1 ?_
  | refine i_rng2 ?_
  | refine i_rng3 ?_
  | (apply i_r3; (walk_at "f"); (walk_at "f"); (walk_at "f"))
  | refine i_enum ?_
  | (apply i_en; (walk_at "f"); (with_unfolding_all exact rfl))
  | (apply i_zp; (walk_at "f"); (with_unfolding_all exact rfl); (with_unfolding_all exact rfl))
  | refine i_enumS ?_
  | (apply i_enS; (walk_at "f"))
  | refine i_zip ?_
  | refine i_zipS ?_
  | (apply i_zpS; (walk_at "f"); (with_unfolding_all exact rfl))
  | refine k_dget ?_
  | (apply k_onD; (walk_at "f"))
  | (apply k_onK; (walk_at "f"); (with_unfolding_all exact rfl))
  | (apply k_onOD; (with_unfolding_all exact rfl))
  | (apply g_sd; (walk_at "f"))
  | refine s_dput ?_
  | refine s_daug ?_
  | refine k_newD ?_
  | refine s_asgD ?_
  | refine k_dzip ?_
  | refine k_lvals ?_
  | refine k_on2 ?_
  | refine k_on1 ?_
  | refine k_onStr0 ?_
  | refine k_onInt0 ?_
  | (apply i_onL; (with_unfolding_all exact rfl))
  | refine k_10_5 ?_
  | refine k_10_6 ?_
  | refine k_10_9 ?_
  | refine k_10_15 ?_
  | refine k_10_18 ?_
  | refine k_10_29 ?_
  | refine k_10_30 ?_
  | refine k_2_61 ?_
  | refine k_ml ?_
  | (apply k_ml1; (walk_at "f"); (with_unfolding_all exact rfl))
  | (apply k_ml2; (walk_at "f"); (with_unfolding_all exact rfl))
  | (apply k_mpL; (walk_at "f"))
  | refine k_Sum ?_
  | refine k_lenSet ?_
  | refine i_sl ?_
  | (apply i_slF; (walk_at "f"); (with_unfolding_all exact rfl))
  | refine k_dget2 ?_
  | refine k_newK ?_
  | refine k_disp2 ?_
  | refine s_raise ?_
  | refine s_dropX ?_
  | refine s_retX ?_
  | refine k_lenSetL ?_
  | refine k_revL ?_
  | (apply k_pkL; (walk_at "f"); (with_unfolding_all exact rfl))
  | refine s_asgD ?_
  | (apply k_varT; (with_unfolding_all exact rfl))
  | refine k_slT ?_
  | (apply k_onT; (walk_at "f"))
  | refine k_dget2T ?_
  | refine k_dgetT ?_
  | refine k_sumVals ?_
  | refine k_newT ?_
  | refine k_disp1T ?_
  | (apply k_onOT; (with_unfolding_all exact rfl))
  | (apply k_onOwn; (with_unfolding_all exact rfl); (with_unfolding_all exact rfl))
  | (apply k_TupL; (with_unfolding_all exact rfl))
  | refine s_asgT ?_
  | refine s_dputT ?_
  | refine s_move ?_
  | refine s_forT ?_
  | refine ite_nsame ?_
  | refine ite_same ?_
  | (refine ite_dF ?_ ?_; (with_unfolding_all decide +kernel))
  | (refine ite_dT ?_ ?_; (with_unfolding_all decide +kernel))
  | refine iteT ?_
  | refine iteF ?_
  | refine ite_nt ?_
  | refine ite_nf ?_))
local macro_rules | `(tactic| walk_at "d") => `(tactic| (repeat (first | walk_at "d1" | with_reducible refine s_if ?_)))
local macro_rules | `(tactic| walk_at "di") => `(tactic| (repeat walk_at "d1"))
local macro_rules | `(tactic| walk_at "s") => `(tactic| (simp only [δ0, List.map_cons, List.map_nil, List.length_cons, List.length_nil, List.replicate, List.cons_append, List.nil_append, Nat.reduceAdd, Nat.reduceSub]; walk_at "d"))

/-! ### the program's calls and counts, on data -/
theorem rc_Isi {K : PySem.W.Frag} : RCOk K (rIsi K) fIsi := by
  rintro S H xs ds P Q s hx ⟨d, T, t, b, rfl, h1, h2, f⟩ k
  obtain ⟨v, w, rfl, hv, hw⟩ := deHs2 hx
  have hT : w = .ty T := by
    rcases hw with h | ⟨p, vs, ds, _, e, _⟩ | ⟨p, vs, ds, _, e, _⟩
    · exact h.ty_inv
    · cases e
    · cases e
  subst hT
  have ty : TyX K H v (.type t) := by
    cases d with
    | int i => cases h1; rw [De.int_of hv]; exact .base (.int _)
    | str i => cases h1; rw [De.str_of hv]; exact .base (.str _)
    | bl i => cases h1; rw [De.bl_of hv]; exact .base (.bl _)
    | non => cases h1; rw [De.non_of hv]; exact .base .non
    | lst l =>
      cases h1
      obtain ⟨a, xs, rfl, ha, _⟩ := hv.lst s
      exact .base (.lst ha)
    | _ => cases h1
  exact o_isi ty h2 (k _ _ S H (Ext.refl s) (.bl b) f)
theorem k_Isi {d : Da} {T t : String} {b : Bool} {R : Da → Prop} (h1 : d.tyn = some t) (h2 : kitB t T = some b) (q : R (.bl b)) : fIsi [d, .ty T] R := ⟨d, T, t, b, rfl, h1, h2, q⟩
theorem int_one {n : Nat} : decide ((n : Int) = 1) = decide (n = 1) := by
  by_cases h : n = 1
  · rw [decide_eq_true h, decide_eq_true (by omega)]
  · rw [decide_eq_false h, decide_eq_false (by omega)]
def t_is_colour (K : PySem.W.Frag) : TS := (tRet (tAndV (tOp rEq (tCB rLenS (tCons (tVar 0) tNil)) (tC (.int 1))) (tOp rInC (tVar 0) (tC (.str "abcdef")))))
def c_is_colour : DC := (cRet (eAndV (eOp fEq (eCB fLenS (aCons (eVar 0) aNil)) (eC (.int 1))) (eOp fInC (eVar 0) (eC (.str "abcdef")))))
theorem ss_is_colour {K : PySem.W.Frag} {W : Wo} : SS K W (t_is_colour K) (c_is_colour) :=
  (ss_ret (se_andV (se_op r2_Eq (se_cb rc_LenS (sa_cons se_var sa_nil)) (se_c (fun _ => (.int _)))) (se_op r2_InC se_var (se_c (fun _ => (.str _))))))

def f_is_colour : FP := fun ds P => ∃ z : Str, ds = [.str z] ∧ z.length ≤ 100000 ∧ P (.bl (isColS z))
theorem len_is_colour : ∀ ds P, f_is_colour ds P → ds.length = 1 := by
  rintro ds P ⟨z, rfl, _⟩
  rfl
theorem d_is_colour : ∀ ds P, f_is_colour ds P → c_is_colour ⟨fun st => P .non, fun d st => P d, fun _ => False, fun _ => False⟩ ⟨δ0 1 ds, 0⟩ := by
  rintro ds P ⟨z, rfl, hz, k⟩
  unfold c_is_colour
  walk_at "s"
  refine k_LenS (small5 hz) ?_
  walk_at "d"
  rw [int_one]
  by_cases h1 : z.length = 1
  · obtain ⟨c, hc⟩ : ∃ c, TL.tl z = [c] := by
      rw [TL.len_tl] at h1
      exact List.length_eq_one_iff.mp h1
    obtain rfl := str1 hc
    refine ite_dT h1 ?_
    walk_at "d"
    exact k
  · refine ite_dF h1 ?_
    walk_at "d"
    rw [isColS_len h1] at k
    exact k
def sp_is_colour (K : PySem.W.Frag) : Sp := fun vs H Q E => vs.length = 1 ∧ spP K f_is_colour vs H Q E
theorem co_is_colour {K : PySem.W.Frag} {W : Wo} {E : XK} : CallOk K W (sp_is_colour K) [] E (FP.d f_is_colour) := call_pn len_is_colour
theorem pure_is_colour {K : PySem.W.Frag} {vs : List V} {H : Hp} {Q : VK} {E : XK} (h : sp_is_colour K vs H Q E) : t_is_colour K { nx := fun _ H' => Q .non H', rt := Q } (L2.start ["text"] vs) H := fn_pure ss_is_colour d_is_colour h.2

def t_is_call (K : PySem.W.Frag) : TS := (tSeq (tAsg (tVar 0) (gTup K 3 (gCons (gName 1) (gCons (gName 2) (gCons (gName 3) gNil)))))
    (tSeq (tIfS (tB (tCB (rIsi K) (tCons (tVar 1) (tCons (tC (.ty "str")) tNil)))) (tIfS (tTest (tOp (rIn K true) (tVar 1) (tTup (tCons (tC (.str "all")) (tCons (tC (.str "swap")) tNil))))) (tRet (tC (.bl false))) tNext) (tIfS (tTest (tOp rLtI (tVar 1) (tC (.int 1)))) (tRet (tC (.bl false))) tNext))
    (tRet (tAndV (tCall (sp_is_colour K) [] E0 (tCons (tVar 2) tNil)) (tAndV (tCall (sp_is_colour K) [] E0 (tCons (tVar 3) tNil)) (tOp rNe (tVar 2) (tVar 3)))))))
def c_is_call : DC := (cSeq (cAsg (eVar 0) (dTup 3 (dCons (dName 1) (dCons (dName 2) (dCons (dName 3) dNil)))))
    (cSeq (cIf (bE (eCB fIsi (aCons (eVar 1) (aCons (eC (.ty "str")) aNil)))) (cIf (bE (eOp (fIn true) (eVar 1) (eTup (aCons (eC (.str "all")) (aCons (eC (.str "swap")) aNil))))) (cRet (eC (.bl false))) cNext) (cIf (bE (eOp fLtI (eVar 1) (eC (.int 1)))) (cRet (eC (.bl false))) cNext))
    (cRet (eAndV (eCallB (FP.d f_is_colour) (aCons (eVar 2) aNil)) (eAndV (eCallB (FP.d f_is_colour) (aCons (eVar 3) aNil)) (eOp fNe (eVar 2) (eVar 3)))))))
theorem ss_is_call {K : PySem.W.Frag} {W : Wo} : SS K W (t_is_call K) (c_is_call) :=
  (ss_seq (ss_asg se_var (sg_tup (sg_cons sg_name (sg_cons sg_name (sg_cons sg_name sg_nil)))))
    (ss_seq (ss_if (st_b (se_cb rc_Isi (sa_cons se_var (sa_cons (se_c (fun _ => (.ty _))) sa_nil)))) (ss_if (st_test (se_op r2_In se_var (se_tup (sa_cons (se_c (fun _ => (.str _))) (sa_cons (se_c (fun _ => (.str _))) sa_nil))))) (ss_ret (se_c (fun _ => (.bl _)))) ss_next) (ss_if (st_test (se_op r2_LtI se_var (se_c (fun _ => (.int _))))) (ss_ret (se_c (fun _ => (.bl _)))) ss_next))
    (ss_ret (se_andV (se_callB co_is_colour (sa_cons se_var sa_nil)) (se_andV (se_callB co_is_colour (sa_cons se_var sa_nil)) (se_op r2_Ne se_var se_var))))))

def f_is_call : FP := fun ds P => ∃ (d : Da) (c : Cal), ds = [d] ∧ d.stl = true ∧ d.asT = some [c.1.a, .str c.2.1, .str c.2.2] ∧ calLen c ≤ 100000 ∧ P (.bl (isCall c))
theorem len_is_call : ∀ ds P, f_is_call ds P → ds.length = 1 := by
  rintro ds P ⟨z, c, rfl, _⟩
  rfl
theorem inF_all (z : Str) : inF (.str z) [.str "all", .str "swap"] = (decide (z = ("all" : Str)) || decide (z = ("swap" : Str))) := by
  have h := in_all_swap z
  rw [inF_v (K := default) (S := fun _ => none) (De.str z) rfl (.cons (.str _) (.cons (.str _) .nil)) rfl] at h
  exact h
theorem d_is_call : ∀ ds P, f_is_call ds P → c_is_call ⟨fun st => P .non, fun d st => P d, fun _ => False, fun _ => False⟩ ⟨δ0 4 ds, 0⟩ := by
  rintro ds P ⟨d, ⟨kd, s, t⟩, rfl, hd, ha, hl, k⟩
  unfold c_is_call
  walk_at "s"
  have hls : s.length ≤ 100000 := by unfold calLen at hl; dsimp only at hl; omega
  have hlt : t.length ≤ 100000 := by unfold calLen at hl; dsimp only at hl; omega
  walk_at "d"
  refine g_tp (fz_stl hd) ha rfl ?_
  walk_at "d"
  -- what follows the tests of the kind
  have tail : ∀ (x : Sl), kdOk kd = true → cRet (eAndV (eCallB f_is_colour.d (aCons (eVar 2) aNil)) (eAndV (eCallB f_is_colour.d (aCons (eVar 3) aNil)) (eOp fNe (eVar 2) (eVar 3))))
      { nx := fun st => P Da.non, rt := fun d st => P d } { δ := [x, Sl.dat kd.a, Sl.dat (Da.str s), Sl.dat (Da.str t)], n := 0 } := by
    intro x hk
    walk_at "d"
    refine ⟨s, rfl, hls, rfl, ?_⟩
    walk_at "d"
    unfold isCall at k
    dsimp only at k
    rw [hk, Bool.true_and] at k
    cases h2 : isColS s with
    | false =>
      rw [h2] at k
      walk_at "d"
      exact k
    | true =>
      rw [h2, Bool.true_and] at k
      walk_at "d"
      refine ⟨t, rfl, hlt, rfl, ?_⟩
      walk_at "d"
      cases h3 : isColS t with
      | false =>
        rw [h3] at k
        walk_at "d"
        exact k
      | true =>
        rw [h3, Bool.true_and] at k
        walk_at "d"
        exact k
  cases kd with
  | num i =>
    walk_at "d"
    refine k_Isi rfl kb_is ?_
    walk_at "d"
    refine ite2 (fun h => ?_) (fun h => ?_)
    · have h := of_decide_eq_true h
      walk_at "d"
      have : isCall (.num i, s, t) = false := by
        show (decide (1 ≤ i) && _) = false
        rw [decide_eq_false (show ¬ 1 ≤ i by omega)]
        rfl
      rw [this] at k
      exact k
    · walk_at "d"
      exact tail _ (by unfold kdOk; rw [decide_eq_true_iff]; have := of_decide_eq_false (Bool.eq_false_iff.mpr h); omega)
  | txt z =>
    walk_at "d"
    refine k_Isi rfl kb_ss ?_
    walk_at "d"
    refine k_In rfl rfl rfl ?_
    rw [if_pos rfl, show inF (Kd.txt z).a [Da.str "all", Da.str "swap"] = _ from inF_all z]
    walk_at "d"
    cases h : (decide (z = ("all" : Str)) || decide (z = ("swap" : Str))) with
    | true =>
      walk_at "d"
      exact tail _ h
    | false =>
      walk_at "d"
      have : isCall (.txt z, s, t) = false := by
        show ((decide (z = ("all" : Str)) || decide (z = ("swap" : Str))) && _) = false
        rw [h]
        rfl
      rw [this] at k
      exact k
def sp_is_call (K : PySem.W.Frag) : Sp := fun vs H Q E => vs.length = 1 ∧ spP K f_is_call vs H Q E
theorem co_is_call {K : PySem.W.Frag} {W : Wo} {E : XK} : CallOk K W (sp_is_call K) [] E (FP.d f_is_call) := call_pn len_is_call
theorem pure_is_call {K : PySem.W.Frag} {vs : List V} {H : Hp} {Q : VK} {E : XK} (h : sp_is_call K vs H Q E) : t_is_call K { nx := fun _ H' => Q .non H', rt := Q } (L2.start ["call", "kind", "source", "target"] vs) H := fn_pure ss_is_call d_is_call h.2

theorem pr_getE {l : List Da} {i : Nat} {d : Da} (h : (prD ((List.range l.length).map fun i => .int (i : Nat)) l)[i]? = some d) : ∃ b, l[i]? = some b ∧ d = .tup [.int (i : Nat), b] := by
  obtain ⟨a, b, h1, h2, rfl⟩ := pr_get h
  obtain ⟨rfl, _⟩ := rng_get h1
  exact ⟨b, h2, rfl⟩
def t_lead_counts (K : PySem.W.Frag) : TS := (tSeq (tAsg (tDZip K (tCons (tC (.str "abcdef")) (tCons (tVar 1) tNil))) (gName 2))
    (tSeq (tFor (iList K (tVar 0)) (gTup K 3 (gCons (gName 3) (gCons (gName 4) (gCons (gName 5) gNil)))) (tIfS (tTest (tOp rEq (tVar 3) (tC (.str "swap")))) (tAsg (tTup (tCons (tDGet (tVar 2) (tVar 5)) (tCons (tDGet (tVar 2) (tVar 4)) tNil))) (gTup K 2 (gCons (gSub (tVar 2) (tVar 4) rSetD) (gCons (gSub (tVar 2) (tVar 5) rSetD) gNil)))) (tSeq (tAsg (tIf (tTest (tOp rEq (tVar 3) (tC (.str "all")))) (tDGet (tVar 2) (tVar 4)) (tCB rInt1 (tCons (tOp rGeI (tDGet (tVar 2) (tVar 4)) (tVar 3)) tNil))) (gName 6))
    (tSeq (sDAug (tVar 2) (tVar 4) (tVar 6) rSub)
    (sDAug (tVar 2) (tVar 5) (tVar 6) rAdd)))))
    (tRet (tListVals (tVar 2)))))
def c_lead_counts : DC := (cSeq (cAsgD 2 (eDZipN (aCons (eC (.str "abcdef")) (aCons (eVar 1) aNil))))
    (cSeq (cFor (diL (eVar 0)) (dTup 3 (dCons (dName 3) (dCons (dName 4) (dCons (dName 5) dNil)))) (cIf (bE (eOp fEq (eVar 3) (eC (.str "swap")))) (cAsg (eTup (aCons (eDGet (eVar 2) (eVar 5)) (aCons (eDGet (eVar 2) (eVar 4)) aNil))) (dTup 2 (dCons (dSetD (eVar 2) (eVar 4)) (dCons (dSetD (eVar 2) (eVar 5)) dNil)))) (cSeq (cAsg (eIf (bE (eOp fEq (eVar 3) (eC (.str "all")))) (eDGet (eVar 2) (eVar 4)) (eCB fInt1 (aCons (eOp fGeI (eDGet (eVar 2) (eVar 4)) (eVar 3)) aNil))) (dName 6))
    (cSeq (cDAug (eVar 2) (eVar 4) (eVar 6) (fun i j => i - j))
    (cDAug (eVar 2) (eVar 5) (eVar 6) (fun i j => i + j))))))
    (cRet (eNew (eListVals (eVar 2))))))
theorem ss_lead_counts {K : PySem.W.Frag} {W : Wo} : SS K W (t_lead_counts K) (c_lead_counts) :=
  (ss_seq (ss_asgD (sd_dzip (sa_cons (se_c (fun _ => (.str _))) (sa_cons se_var sa_nil))))
    (ss_seq (ss_for (si_list se_var) (sg_tup (sg_cons sg_name (sg_cons sg_name (sg_cons sg_name sg_nil)))) (ss_if (st_test (se_op r2_Eq se_var (se_c (fun _ => (.str _))))) (ss_asg (se_tup (sa_cons (se_dget se_var se_var) (sa_cons (se_dget se_var se_var) sa_nil))) (sg_tup (sg_cons (sg_setD se_var se_var) (sg_cons (sg_setD se_var se_var) sg_nil)))) (ss_seq (ss_asg (se_if (st_test (se_op r2_Eq se_var (se_c (fun _ => (.str _))))) (se_dget se_var se_var) (se_cb rc_Int1 (sa_cons (se_op r2_GeI (se_dget se_var se_var) se_var) sa_nil))) sg_name)
    (ss_seq (ss_daug rSub_eq se_var se_var se_var)
    (ss_daug rAdd_eq se_var se_var se_var)))))
    (ss_ret (SN.se (sn_listVals se_var)))))

def dkD (ns : List Int) : List (Ky × Da) := [(.inr (S1 97), .int (gi ns 0)), (.inr (S1 98), .int (gi ns 1)), (.inr (S1 99), .int (gi ns 2)), (.inr (S1 100), .int (gi ns 3)), (.inr (S1 101), .int (gi ns 4)), (.inr (S1 102), .int (gi ns 5))]
theorem dkD_vals {ns : List Int} (h : ns.length = 6) : (dkD ns).map (·.2) = ns.map Da.int := by
  obtain ⟨a, b, c, d, e, f, rfl⟩ := six_of h
  rfl
theorem dkD_zip {ns : List Int} (h : ns.length = 6) : mergeG [] (zipG ("abcdef" : Str) (ns.map Da.int)) = dkD ns := by
  obtain ⟨a, b, c, d, e, f, rfl⟩ := six_of h
  unfold zipG
  rw [abc_tl]
  with_unfolding_all rfl
theorem dkD_get {ns : List Int} {c : Nat} (h : ns.length = 6) (hc : isColN c = true) : valG (dkD ns) (.inr (S1 c)) = some (.int (gi ns (ci (S1 c)))) := by
  obtain ⟨a, b, c, d, e, f, rfl⟩ := six_of h
  rcases col6 hc with rfl | rfl | rfl | rfl | rfl | rfl <;> with_unfolding_all rfl
theorem dkD_put {ns : List Int} {c : Nat} {v : Int} (h : ns.length = 6) (hc : isColN c = true) : putG (dkD ns) (.inr (S1 c)) (.int v) = dkD (ns.set (ci (S1 c)) v) := by
  obtain ⟨a, b, c, d, e, f, rfl⟩ := six_of h
  rcases col6 hc with rfl | rfl | rfl | rfl | rfl | rfl <;> with_unfolding_all rfl
theorem dkD_len (ns : List Int) : (dkD ns).length < 100000 := by
  show 6 < 100000
  decide
def f_lead_counts : FP := fun ds P => ∃ (g : Bool) (cs : List Cal) (ns : List Int), ds = [drDa g cs, .lst (ns.map Da.int)] ∧ (∀ c ∈ cs, isCall c = true) ∧ ns.length = 6 ∧ P (.lst ((leadC cs ns).map Da.int))
theorem len_lead_counts : ∀ ds P, f_lead_counts ds P → ds.length = 2 := by
  rintro ds P ⟨g, cs, ns, rfl, _⟩
  rfl
def c1_lead_counts : DC := (cSeq (cAsgD 2 (eDZipN (aCons (eC (.str "abcdef")) (aCons (eVar 1) aNil)))) (cFor (diL (eVar 0)) (dTup 3 (dCons (dName 3) (dCons (dName 4) (dCons (dName 5) dNil)))) (cIf (bE (eOp fEq (eVar 3) (eC (.str "swap")))) (cAsg (eTup (aCons (eDGet (eVar 2) (eVar 5)) (aCons (eDGet (eVar 2) (eVar 4)) aNil))) (dTup 2 (dCons (dSetD (eVar 2) (eVar 4)) (dCons (dSetD (eVar 2) (eVar 5)) dNil)))) (cSeq (cAsg (eIf (bE (eOp fEq (eVar 3) (eC (.str "all")))) (eDGet (eVar 2) (eVar 4)) (eCB fInt1 (aCons (eOp fGeI (eDGet (eVar 2) (eVar 4)) (eVar 3)) aNil))) (dName 6))
    (cSeq (cDAug (eVar 2) (eVar 4) (eVar 6) (fun i j => i - j))
    (cDAug (eVar 2) (eVar 5) (eVar 6) (fun i j => i + j)))))))
theorem d_lead_counts : ∀ ds P, f_lead_counts ds P → c1_lead_counts ⟨fun st => eListVals (eVar 2) st fun xs _ => P (.lst xs), fun _ _ => False, fun _ => False, fun _ => False⟩ ⟨δ0 7 ds, 0⟩ := by
  rintro ds P ⟨g, cs, ns, rfl, hg, hl, k⟩
  unfold c1_lead_counts drDa
  walk_at "s"
  refine ⟨by decide +kernel, by rw [abc_len, List.length_map, hl], ?_⟩
  rw [dkD_zip hl]
  walk_at "d"
  refine for_inv (fun i st => ∃ x3 x4 x5 x6 : Sl, st = ⟨[Sl.dat (Da.lst (List.map (calDa g) cs)), Sl.dat (Da.lst (List.map Da.int ns)), Sl.ownD (dkD (leadC (cs.take i) ns)), x3, x4, x5, x6], 0⟩) ⟨_, _, _, _, rfl⟩ ?_ ?_
  · rintro i x st R hx ⟨x3, x4, x5, x6, rfl⟩ hR
    obtain ⟨c, hc, rfl⟩ := map_get hx
    have hgc := hg c (List.mem_of_getElem? hc)
    obtain ⟨k1, s, t, e1, e2, c1, c2, hst⟩ := isCall_inv hgc
    obtain ⟨kd, s', t'⟩ := c
    cases e1
    cases e2
    have hL : (leadC (cs.take i) ns).length = 6 := by rw [leadC_len, hl]
    have hstep := leadC_take (ns := ns) hc
    revert hR hL hstep
    generalize leadC (cs.take i) ns = ms
    intro hR hL hstep
    have s6 : ∀ (j : Nat) (m : Int), (ms.set j m).length = 6 := fun j m => by rw [List.length_set]; exact hL
    walk_at "d"
    unfold stepC at hstep
    dsimp only at hstep
    have mv : ∀ (m : Int) (x3 : Sl), leadC (cs.take (i + 1)) ns = moveC m (ci (S1 s)) (ci (S1 t)) ms → R ⟨[Sl.dat (Da.lst (List.map (calDa g) cs)), Sl.dat (Da.lst (List.map Da.int ns)), Sl.ownD (dkD (moveC m (ci (S1 s)) (ci (S1 t)) ms)), x3, Sl.dat (Da.str (S1 s)), Sl.dat (Da.str (S1 t)), Sl.dat (Da.int m)], 0⟩ := fun m x3 e => hR _ ⟨_, _, _, _, by rw [e]⟩
    have mv2 : ∀ m : Int, putG (putG (dkD ms) (.inr (S1 s)) (.int (gi ms (ci (S1 s)) - m))) (.inr (S1 t)) (.int (gi (ms.set (ci (S1 s)) (gi ms (ci (S1 s)) - m)) (ci (S1 t)) + m)) = dkD (moveC m (ci (S1 s)) (ci (S1 t)) ms) := fun m => by
      rw [dkD_put hL c1, dkD_put (s6 _ _) c2]
      rfl
    have mv1 : ∀ m : Int, valG (putG (dkD ms) (.inr (S1 s)) (.int (gi ms (ci (S1 s)) - m))) (.inr (S1 t)) = some (.int (gi (ms.set (ci (S1 s)) (gi ms (ci (S1 s)) - m)) (ci (S1 t)))) := fun m => by
      rw [dkD_put hL c1, dkD_get (s6 _ _) c2]
    have mvl : ∀ m : Int, (putG (dkD ms) (.inr (S1 s)) (.int (gi ms (ci (S1 s)) - m))).length < 100000 := fun m => by
      rw [dkD_put hL c1]
      exact dkD_len _
    cases kd with
    | num m =>
      dsimp only at hstep
      walk_at "d"
      refine ⟨_, dkD_get hL c1, ?_⟩
      walk_at "d"
      refine ⟨_, dkD_get hL c1, ?_⟩
      walk_at "d"
      refine ⟨dkD_len _, ?_⟩
      walk_at "d"
      refine ⟨_, mv1 _, ?_⟩
      walk_at "d"
      refine ⟨mvl _, ?_⟩
      walk_at "d"
      rw [mv2]
      refine mv _ _ ?_
      rw [hstep]
      by_cases h : m ≤ gi ms (ci (S1 s))
      · rw [if_pos h, decide_eq_true h]; rfl
      · rw [if_neg h, decide_eq_false h]; rfl
    | txt z =>
      rcases kdOk_txt k1 with rfl | rfl
      · dsimp only at hstep
        rw [if_neg (show ¬ ("all" : Str) = "swap" by decide +kernel)] at hstep
        walk_at "d"
        refine ⟨_, dkD_get hL c1, ?_⟩
        walk_at "d"
        refine ⟨_, dkD_get hL c1, ?_⟩
        walk_at "d"
        refine ⟨dkD_len _, ?_⟩
        walk_at "d"
        refine ⟨_, mv1 _, ?_⟩
        walk_at "d"
        refine ⟨mvl _, ?_⟩
        walk_at "d"
        rw [mv2]
        exact mv _ _ hstep
      · dsimp only at hstep
        rw [if_pos rfl] at hstep
        walk_at "d"
        refine ⟨_, dkD_get hL c2, ?_⟩
        walk_at "d"
        refine ⟨_, dkD_get hL c1, ?_⟩
        walk_at "d"
        refine ⟨dkD_len _, ?_⟩
        rw [dkD_put hL c1]
        walk_at "d"
        refine ⟨dkD_len _, ?_⟩
        rw [dkD_put (s6 _ _) c2]
        walk_at "d"
        exact hR _ ⟨_, _, _, _, by rw [hstep]⟩
  · rintro st ⟨x3, x4, x5, x6, rfl⟩
    rw [List.length_map, List.take_length]
    walk_at "d"
    rw [dkD_vals (by rw [leadC_len, hl])]
    exact k
def sp_lead_counts (K : PySem.W.Frag) : Sp := fun vs H Q E => vs.length = 2 ∧ spN K f_lead_counts vs H Q E
theorem co_lead_counts {K : PySem.W.Frag} {W : Wo} {E : XK} : CallOk K W (sp_lead_counts K) [] E (FP.d f_lead_counts) := call_pN len_lead_counts
theorem pure_lead_counts {K : PySem.W.Frag} {vs : List V} {H : Hp} {Q : VK} {E : XK} (h : sp_lead_counts K vs H Q E) : t_lead_counts K { nx := fun _ H' => Q .non H', rt := Q } (L2.start ["drill", "counts", "found", "kind", "source", "target", "moved"] vs) H := fn_pureN (E := E) (N := ["drill", "counts", "found", "kind", "source", "target", "moved"]) (c1 := c1_lead_counts) (ss_seq (ss_asgD (sd_dzip (sa_cons (se_c (fun _ => (.str _))) (sa_cons se_var sa_nil)))) (ss_for (si_list se_var) (sg_tup (sg_cons sg_name (sg_cons sg_name (sg_cons sg_name sg_nil)))) (ss_if (st_test (se_op r2_Eq se_var (se_c (fun _ => (.str _))))) (ss_asg (se_tup (sa_cons (se_dget se_var se_var) (sa_cons (se_dget se_var se_var) sa_nil))) (sg_tup (sg_cons (sg_setD se_var se_var) (sg_cons (sg_setD se_var se_var) sg_nil)))) (ss_seq (ss_asg (se_if (st_test (se_op r2_Eq se_var (se_c (fun _ => (.str _))))) (se_dget se_var se_var) (se_cb rc_Int1 (sa_cons (se_op r2_GeI (se_dget se_var se_var) se_var) sa_nil))) sg_name)
    (ss_seq (ss_daug rSub_eq se_var se_var se_var)
    (ss_daug rAdd_eq se_var se_var se_var)))))) (sn_listVals se_var) d_lead_counts h.2
end Q

set_option Elab.async false
set_option linter.all false
set_option maxRecDepth 100000
set_option maxHeartbeats 4000000
namespace Q
open PySem PySem.Spec PyProof.Rows L2
/-! ### range of three, on data (while: D3 has cWhile, ss_while) -/
section
variable {K : PySem.W.Frag} {W : Wo}
/-- while, by an invariant and a measure -/
theorem while_inv {ec : DT} {c : DC} {D : DD} {st : Ds} (J : Nat → Ds → Prop) (m : Nat) (h0 : J m st)
    (step : ∀ m st (R : Ds → Prop), J m st → (∀ m' st', m' < m → J m' st' → R st') → ec st fun k st1 => if k = true then c { nx := R, ct := R, bk := D.nx, rt := D.rt } st1 else D.nx st1) : cWhile ec c D st :=
  ⟨J, ⟨m, h0⟩, fun m st hj => step m st _ hj fun m' st' hm hj' => ⟨m', hm, hj'⟩⟩
def diR3 (α : DA) : DI := fun st P => α st fun ds st1 => match ds.map st1.pk with
  | [.int i, .int j, .int c] => ∃ n, RgC i j c n ∧ P ((List.range n).map fun t => .int (i + (t : Nat) * c)) st1
  | _ => False
theorem deHs3 {S H : Hp} {xs : List V} {d e f : Da} (h : DeHs K S H xs [d, e, f]) : ∃ x y z, xs = [x, y, z] ∧ DeH K S H x d ∧ DeH K S H y e ∧ DeH K S H z f := by
  match xs, h with
  | [x, y, z], h => exact ⟨x, y, z, rfl, h.1, h.2.1, h.2.2.1⟩
theorem si_rng3 {A : TA} {α : DA} (h : SA K W A α) : SI K W (iRng3 A) (diR3 α) := by
  intro S0 H0 S H σ st P R I he k
  refine h S0 H0 S H σ st _ _ I he fun vs ds S1 H1 st1 I1 e1 r1 q1 => ?_
  have hp := pks_ok I1 r1
  split at q1
  · rename_i lo j c hj
    rw [hj] at hp
    obtain ⟨v, w, u, rfl, hv, hw, hu⟩ := deHs3 hp
    obtain ⟨n, hr, q1⟩ := q1
    refine ⟨lo, j, c, n, by rw [De.int_of hv, De.int_of hw, De.int_of hu], hr, k _ S1 H1 st1 _ I1 e1 (fun i S H e s => ⟨fun hi => ?_, fun d hd => ?_⟩) q1⟩
    · show n ≤ ((List.range n).map fun t => Da.int (lo + (t : Nat) * c)).length
      simp
    · have hi : i < n := by
        have := (List.getElem?_eq_some_iff.mp hd).1
        simpa using this
      have hd' : d = .int (lo + (i : Nat) * c) := by
        have := hd
        rw [List.getElem?_map, List.getElem?_range hi] at this
        exact (Option.some.inj this).symm
      subst hd'
      refine ⟨hi, fun x H' ⟨hH, hx⟩ => ?_⟩
      subst hH
      rw [hx]
      exact ⟨S, Ext.refl s, .int _⟩
  · exact q1.elim
end
end Q

set_option Elab.async false
set_option linter.all false
set_option maxRecDepth 100000
set_option maxHeartbeats 4000000
namespace Q
open PySem PySem.Spec PyProof.Rows L2
/-! ### len(set(text)) -/
/-- how many different ones -/
def dct {α : Type} [DecidableEq α] : List α → Nat
  | [] => 0
  | x :: r => if x ∈ r then dct r else dct r + 1
theorem dct_le {α : Type} [DecidableEq α] : ∀ l : List α, dct l ≤ l.length
  | [] => Nat.le_refl _
  | x :: r => by
    have := dct_le r
    unfold dct
    rw [List.length_cons]
    split <;> omega
theorem dct_app {α : Type} [DecidableEq α] (x : α) : ∀ l : List α, dct (l ++ [x]) = if x ∈ l then dct l else dct l + 1
  | [] => by
    show (if x ∈ ([] : List α) then dct ([] : List α) else dct ([] : List α) + 1) = _
    rfl
  | y :: r => by
    show (if y ∈ r ++ [x] then dct (r ++ [x]) else dct (r ++ [x]) + 1) = _
    rw [dct_app x r]
    show _ = if x ∈ y :: r then (if y ∈ r then dct r else dct r + 1) else (if y ∈ r then dct r else dct r + 1) + 1
    by_cases h1 : y = x
    · subst h1
      rw [if_pos (List.mem_append_right _ List.mem_cons_self), if_pos List.mem_cons_self]
    · have e1 : (y ∈ r ++ [x]) ↔ y ∈ r := by
        rw [List.mem_append, List.mem_singleton]
        exact ⟨fun h => h.resolve_right h1, .inl⟩
      have e2 : (x ∈ y :: r) ↔ x ∈ r := by
        rw [List.mem_cons]
        exact ⟨fun h => h.resolve_left fun z => h1 z.symm, .inr⟩
      by_cases h2 : y ∈ r
      · by_cases h3 : x ∈ r
        · rw [if_pos (e1.mpr h2), if_pos (e2.mpr h3), if_pos h2, if_pos h3]
        · rw [if_pos (e1.mpr h2), if_neg (fun z => h3 (e2.mp z)), if_pos h2, if_neg h3]
      · by_cases h3 : x ∈ r
        · rw [if_neg (fun z => h2 (e1.mp z)), if_pos (e2.mpr h3), if_neg h2, if_pos h3]
        · rw [if_neg (fun z => h2 (e1.mp z)), if_neg (fun z => h3 (e2.mp z)), if_neg h2, if_neg h3]
def sgO (c : Nat) : Str := ⟨#[c]⟩
theorem sgO_inj {a b : Nat} (h : sgO a = sgO b) : a = b := by
  have h2 : [a] = [b] := congrArg (fun y : Str => y.cps.toList) h
  exact (List.cons.inj h2).1
/-- the set of the signs l -/
def stOf (l : List Nat) (k : Str) : Bool := l.any fun c => decide (k = sgO c)
theorem stOf_at (l : List Nat) (c : Nat) : stOf l (sgO c) = decide (c ∈ l) := by
  unfold stOf
  induction l with
  | nil => rfl
  | cons a r ih =>
    rw [List.any_cons, ih]
    by_cases h : c = a
    · subst h
      rw [decide_eq_true (rfl : sgO c = sgO c), decide_eq_true (List.mem_cons_self)]
      rfl
    · rw [decide_eq_false (fun z => h (sgO_inj z)), Bool.false_or]
      by_cases h2 : c ∈ r
      · rw [decide_eq_true h2, decide_eq_true (List.mem_cons_of_mem _ h2)]
      · rw [decide_eq_false h2, decide_eq_false]
        intro z
        rcases List.mem_cons.mp z with z | z
        · exact h z
        · exact h2 z
theorem stOf_app (l : List Nat) (c : Nat) (k : Str) : stOf (l ++ [c]) k = (stOf l k || decide (k = sgO c)) := by
  unfold stOf
  rw [List.any_append, List.any_cons, List.any_nil, Bool.or_false]
section
variable {prog : Program} {w : World} {A : Around} {R : Result → Shared → Prop}
theorem set_fill {I : Addr} {fp wr : List Addr} {G : Array GenState → Array GenState → Prop} {n : Nat} {St : Nat → Shared → Prop} {x : Str} (W : WalksS prog w A.in1 I fp wr G n (SignAt x) St) (S : Addr) (hSf : S ∉ fp) (hn : n = x.cps.size) (hb : n + 1 < scanBound) :
    ∀ (k i : Nat) (s : Shared), n - i = k → i ≤ n → St i s → s.heap.SetOf (PySem.strKind prog w) S (stOf (x.cps.toList.take i)) (dct (x.cps.toList.take i)) →
      (∀ s', Moved (S :: wr) G s s' → s'.heap.SetOf (PySem.strKind prog w) S (stOf x.cps.toList) (dct x.cps.toList) → R (.ok (.ret .none)) s') →
      codeAny (model prog w) A (.builtin "set.update.loop" ⟨[.ref S, .ref I], []⟩) R s := by
  have hSw : S ∉ wr := fun h => hSf (W.sub _ h)
  have more : ∀ b ∈ wr, b ∈ S :: wr := fun b hb => List.mem_cons_of_mem _ hb
  have tl : x.cps.toList.length = n := by rw [Array.length_toList, hn]
  intro k
  induction k with
  | zero =>
    intro i s hk hi st hS q
    obtain rfl : i = n := by omega
    refine codeAny_builtin PyProof.Rows.F.entry_set_update_loop ?_
    rw [Around.under_plainId PyProof.Rows.F.plain_set_update_loop _]
    show wpAny _ A.in1 (pyNext (.ref I) >>= _) _ _ s
    refine wpAny_bind (W.done s _ _ st fun s1 m => ?_)
    show wpAny _ A.in1 (ret Value.none) _ _ s1
    refine wpAny_pure (q s1 (m.mono more) ?_)
    rw [List.take_of_length_le (by omega)] at hS
    obtain ⟨o, es, ep, t, ho, z⟩ := hS
    exact ⟨o, es, ep, t, m.heap S _ hSw ho, z⟩
  | succ k ih =>
    intro i s hk hi st hS q
    have hlt : i < n := by omega
    refine codeAny_builtin PyProof.Rows.F.entry_set_update_loop ?_
    rw [Around.under_plainId PyProof.Rows.F.plain_set_update_loop _]
    show wpAny _ A.in1 (pyNext (.ref I) >>= _) _ _ s
    refine wpAny_bind (W.item i s _ _ hlt st fun v s1 hP st1 m => ?_)
    obtain ⟨c, u, hc, rfl⟩ := hP
    have hx : x.cps.toList[i]? = some c := by rw [Array.getElem?_toList]; exact hc
    have e1 : x.cps.toList.take (i + 1) = x.cps.toList.take i ++ [c] := by rw [List.take_add_one, hx]; rfl
    have hS1 : s1.heap.SetOf (PySem.strKind prog w) S (stOf (x.cps.toList.take i)) (dct (x.cps.toList.take i)) := by
      obtain ⟨o, es, ep, t, ho, z⟩ := hS
      exact ⟨o, es, ep, t, m.heap S _ hSw ho, z⟩
    have hle := dct_le (x.cps.toList.take i)
    rw [List.length_take] at hle
    show wpAny _ A.in1 (holding [Value.str (sgO c) u] (setAdd S (.str (sgO c) u)) >>= _) _ _ s1
    refine wpAny_bind (wpAny_holding ?_)
    unfold setAdd
    refine wpAny_holding (wpAny_bind ((PySem.strKind prog w).pyHash (k := sgO c) (strKind_is _ _ _ _) ?_))
    refine wpAny_setAddHashed_of (knd := PySem.strKind prog w) (s := { s1 with toks := s1.toks + 1 }) (strKind_is _ _ _ _) rfl hS1 (by omega) fun h' sb hS2 => ?_
    have hSi : h'.SetOf (PySem.strKind prog w) S (stOf (x.cps.toList.take (i + 1))) (dct (x.cps.toList.take (i + 1))) := by
      refine SetOf_congr hS2 (fun k' => ?_) ?_
      · rw [e1, stOf_app]
      · rw [e1, dct_app, stOf_at]
        by_cases h : c ∈ x.cps.toList.take i
        · rw [if_pos h, decide_eq_true h]; rfl
        · rw [if_neg h, decide_eq_false h]; rfl
    refine wpAny_pure ⟨plainId_quiet PyProof.Rows.F.plain_set_update_loop _, ih (i + 1) _ (by omega) hlt (W.frame _ s1 _ _ st1 (Nat.le_succ _) fun b hb o e => ?_) hSi fun s2 m2 hS3 => ?_⟩
    · exact (sb.2 b fun z => hSf (z ▸ hb)).trans e
    · refine q s2 (Moved.trans W.gtrans ((m.mono more).then_heap (Nat.le_succ _) fun b o hb e => ?_) m2) hS3
      exact (sb.2 b fun z => hb (z ▸ List.mem_cons_self)).trans e
end
section
variable {prog : Program} {w : World} {A : Around} {E : Value → Shared → Prop} {s : Shared}
set_option maxHeartbeats 6400000 in
theorem call_set_text {x : Str} {t : Tok} {Q : Value → Shared → Prop} (hh : A.handled = none) (hb : x.cps.size + 1 < scanBound)
    (h : ∀ (h' : Heap) (tk : Nat), h'.SetOf (PySem.strKind prog w) s.heap.objs.size (stOf x.cps.toList) (dct x.cps.toList) → (∀ b o, b < s.heap.objs.size → s.heap.get? b = some o → h'.get? b = some o) → Q (.ref s.heap.objs.size) { s with heap := h', toks := tk }) :
    wpAny (model prog w) A (call (.type "set") [.str x t]) Q E s := by
  obtain ⟨c, tl, hmro⟩ := PySem.F.called_set.mro
  have hmade := PySem.F.called_set.made
  have hsub := PySem.F.called_set.sub
  refine wpAny_call (codeAny_of_tree ?_)
  show wpAny _ _ (callAny (.type "set") _) _ _ _
  refine wpAny_pure ⟨Code.quiet_builtin _ (by decide +kernel), codeAny_builtin PySem.F.entry_type_call ?_⟩
  rw [Around.under_plain (weight_type_call_type "set" [.str x t] []) rfl]
  have h1 := PySem.F.called_set.notType
  have h2 := PySem.F.called_set.canCreate
  have h3 := PySem.F.typeCall_set_1 (.str x t)
  repeat (any_goals (first | assumption | wp_step))
  refine codeAny_mono (code_set_new_1 (.str x t) (E := E) (Q₁ := fun obj s₁ => ∃ led : Bool, obj = .ref s.heap.objs.size ∧ s₁ = { s with heap := s.heap.push { cls := .type "set", dict := none, data := .set #[] 0 (.fresh 0 0 led) } }) fun led => ⟨led, rfl, rfl⟩) fun r s₁ hr => ?_
  cases r with
  | error e => exact hr
  | ok fl =>
    cases fl with
    | ret obj =>
      obtain ⟨led, rfl, rfl⟩ := hr
      generalize hP : s.heap.push { cls := .type "set", dict := none, data := .set #[] 0 (.fresh 0 0 led) } = hp
      have hS : hp.get? s.heap.objs.size = some { cls := .type "set", dict := none, data := .set #[] 0 (.fresh 0 0 led) } := by rw [← hP]; exact Heap.get?_push_size _ rfl
      have kp : ∀ b o, s.heap.get? b = some o → hp.get? b = some o := fun b o e => by rw [← hP]; exact Heap.get?_push_of_some _ e
      have sz : hp.objs.size = s.heap.objs.size + 1 := by rw [← hP, Heap.size_push]
      have hT : Shared.TypeIs { s with heap := hp } (.ref s.heap.objs.size) "set" := ⟨_, hS, rfl⟩
      have h4 := PySem.F.called_set.init.lookup
      have h5 := PySem.F.called_set.init.bind (.ref s.heap.objs.size)
      repeat (any_goals (first | assumption | wp_step))
      refine codeAny_mono (codeAny_call_builtin (R := wants (fun r s₂ => r = .none ∧ ∃ h' tk, s₂ = { s with heap := h', toks := tk } ∧ h'.SetOf (PySem.strKind prog w) s.heap.objs.size (stOf x.cps.toList) (dct x.cps.toList) ∧
          (∀ b o, b < s.heap.objs.size → s.heap.get? b = some o → h'.get? b = some o)) E) PySem.F.called_set.init.plain PySem.F.entry_set_init (check_set_init_1 hT ?_)) fun r₂ s₂ hr₂ => ?_
      · have hne : (Value.type "str" == Value.type "dict") = false := by decide
        have h6 := PySem.F.sub_str_set
        have h7 := PySem.F.sub_str_frozenset
        unfold Builtin.«set.__init__» noKeywords Builtin.Frozenset.updateFrom
        generalize hPI : pyIter = PI
        wp_walk
        subst hPI
        refine wpAny_pyIter_str fun o St WK st0 => ?_
        refine wpAny_bind (wpAny_runValue ?_)
        have hh3 : A.in1.in1.in1.handled = none := by simp [hh]
        have hSf : s.heap.objs.size ∉ [hp.objs.size] := by
          rw [sz, List.mem_singleton]
          exact Nat.ne_of_lt (Nat.lt_succ_self _)
        have W := (WK _ hh3).toS
        refine set_fill (x := x) W s.heap.objs.size hSf rfl hb (x.cps.size - 0) 0 _ rfl (Nat.zero_le _) st0 ?hS0 ?hR
        case hS0 =>
          have e0 : (hp.push o).get? s.heap.objs.size = some { cls := .type "set", dict := none, data := .set #[] 0 (.fresh 0 0 led) } := Heap.get?_push_of_some _ hS
          exact PyProof.Rows.SetOf_congr ((PyProof.Rows.setObjOf_fresh (knd := PySem.strKind prog w) led).setOf e0 (by unfold scanBound; omega)) (fun _ => rfl) rfl
        case hR =>
          intro s' hm hS'
          obtain ⟨h', g', d', tk', os'⟩ := s'
          have e1 : g' = s.gens := hm.gens
          have e2 : d' = s.drawn := hm.drawn
          have e3 : os' = s.os := hm.os
          subst e1; subst e2; subst e3
          show wpAny _ _ _ _ _ _
          refine wpAny_pure ?_
          show wpAny _ _ (ret Value.none) _ _ _
          refine wpAny_pure ⟨rfl, h', tk', rfl, hS', fun b ob hb' e => ?_⟩
          refine hm.heap b ob ?_ (Heap.get?_push_of_some _ (kp _ _ e))
          simp only [List.mem_cons, List.not_mem_nil, or_false, not_or]
          refine ⟨Nat.ne_of_lt hb', ?_⟩
          rw [sz]
          exact Nat.ne_of_lt (Nat.lt_succ_of_lt hb')
      · cases r₂ with
        | error e => exact hr₂
        | ok fl₂ =>
          cases fl₂ with
          | ret r =>
            obtain ⟨rfl, h', tk, rfl, hS', hk'⟩ := hr₂
            repeat (any_goals (first | assumption | wp_step))
            exact h _ _ hS' hk'
          | _ => exact hr₂.elim
    | _ => exact hr.elim
end
theorem boot_setT : bootBuiltins "set" = some (.type "set") := by decide +kernel
/-- len(set(e)), e a text -/
def tLenSet (te : TE) : TE := fun σ H Q => te σ H fun v H1 => ∃ x : Str, v = .str x ∧ x.length ≤ 4000 ∧ Q (.int (dct x.cps.toList : Nat)) H1
theorem pe_lenSet {X : Cx} {e : Expr} {te : TE} {p p2 pos pos2 : Pos} (hg : Gl X "len") (hm : X.mg "len" = none) (hg2 : Gl X "set") (hm2 : X.mg "set" = none) (hc : X.calm = true) (he : PE X e te)
    (hs : starEach [e] X.env = [(false, eval e X.env)] := by rfl)
    (hs2 : starEach [.Call (.Name "set" p2) [e] [] pos2] X.env = [(false, eval (.Call (.Name "set" p2) [e] [] pos2) X.env)] := by rfl) :
    PE X (.Call (.Name "len" p) [.Call (.Name "set" p2) [e] [] pos2] [] pos) (tLenSet te) := by
  refine ⟨fun pins s σ H Q I h => ?_⟩
  refine Call_ (ld_blt I hg hm boot_len (PyProof.Rows.callWith_builtin1 ?_ hs2 rfl))
  show wpAny _ _ (spliced ((false, eval (.Call (.Name "set" p2) [e] [] pos2) X.env) :: [])) _ _ s
  refine Calls.spliced_cons (Call_ (ld_blt I hg2 hm2 boot_setT (PyProof.Rows.callWith_type1 ?_ hs rfl)))
  rw [hs]
  show wpAny _ _ (spliced ((false, eval e X.env) :: [])) _ _ s
  refine Calls.spliced_cons (thn (he.run pins s σ H _ I h) fun u s1 ⟨v, H1, I1, r1, x, ev, hl, q⟩ => Calls.spliced_nil ?_)
  subst ev
  obtain ⟨t, rfl⟩ := r1
  have hsb : x.cps.size + 1 < scanBound := by
    have e0 : x.length = x.cps.size := rfl
    unfold scanBound
    omega
  refine call_set_text (I1.ok.hd hc) hsb fun h' tk hS hk => ?_
  refine Calls.spliced_nil ?_
  obtain ⟨o, es, ep, t2, ho, hex, hd, hel, hmem, hb, hf, hn⟩ := hS
  refine call_len_set ho hex hd hf ?_ ?_
  · have := dct_le x.cps.toList
    rw [Array.length_toList] at this
    have e0 : x.length = x.cps.size := rfl
    omega
  · have I2 : Inv X pins σ H1 { s1 with heap := h', toks := tk } := I1.kept (t' := tk) fun b u e => hk b u (Heap.lt_size e) e
    rw [hn]
    exact ⟨.int _, H1, I2.tok _, ⟨_, rfl⟩, q⟩
end Q

set_option Elab.async false
set_option linter.all false
set_option maxRecDepth 100000
set_option maxHeartbeats 4000000
namespace Q
open PySem PySem.Spec PyProof.Rows L2
/-! ### len(set(text)), on data -/
section
variable {K : PySem.W.Frag} {W : Wo}
def eLenSet (a : DE) : DE := fun st P => a st fun x st1 => onStr (st1.pk x) fun z => z.length ≤ 4000 ∧ P (.int (dct z.cps.toList : Nat)) st1
theorem se_lenSet {t : TE} {a : DE} (h : SE K W t a) : SE K W (tLenSet t) (eLenSet a) := by
  intro S0 H0 S H σ st P Q I he k
  refine h S0 H0 S H σ st _ _ I he fun v d S1 H1 st1 I1 e1 r1 q1 => ?_
  have hp := pk_ok I1 r1
  cases hd : st1.pk d with
  | str z =>
    rw [hd] at q1 hp
    exact ⟨z, De.str_of hp, q1.1, k _ _ S1 H1 st1 I1 e1 (.inr (.int _)) q1.2⟩
  | _ => rw [hd] at q1; exact q1.elim
theorem k_lenSet {st : Ds} {P : Da → Ds → Prop} {a : DE} (q : a st fun x st1 => onStr (st1.pk x) fun z => z.length ≤ 4000 ∧ P (.int (dct z.cps.toList : Nat)) st1) : eLenSet a st P := q
def onR3 (l : List Da) (Q : Int → Int → Int → Prop) : Prop := match l with
  | [.int i, .int j, .int c] => Q i j c
  | _ => False
theorem i_rng3 {st : Ds} {PA : List Da → Ds → Prop} {α : DA} (q : α st fun ds st1 => onR3 (ds.map st1.pk) fun i j c => ∃ n, RgC i j c n ∧ PA ((List.range n).map fun t => .int (i + (t : Nat) * c)) st1) : diR3 α st PA := q
theorem i_r3 {st : Ds} {x y z : Da} {i j c : Int} {T : Int → Int → Int → Prop} (h1 : st.pk x = .int i) (h2 : st.pk y = .int j) (h3 : st.pk z = .int c) (q : T i j c) : onR3 ([x, y, z].map st.pk) T := by
  rw [List.map_cons, List.map_cons, List.map_cons, List.map_nil, h1, h2, h3]; exact q
end
end Q

set_option Elab.async false
set_option linter.all false
set_option maxRecDepth 100000
set_option maxHeartbeats 4000000
namespace Q
open PySem PySem.Spec PyProof.Rows L2
/-! ### dicts whose keys are tuples -/
section
variable {X : Cx} {pins : List (Addr × Obj)} {σ : L2.St} {H : Hp} {s : Shared} {d : Addr} {o : Obj}
/-- the entries of such a dict, the keys' tuples and the values -/
theorem ents_of {kvs : List (List Key × V)} (hk : HOk X.prog X.w H s.heap) (x : ObjOk X.prog X.w H s.heap d (.dT kvs)) :
    (d == sysModules) = false ∧ ∃ (o : Obj) (es : Array DictEntry) (ep : Nat), s.heap.get? d = some o ∧ o.ExactDict ∧ o.data = .dict es ep ∧ es.size = kvs.length ∧ kvs.length ≤ sizeLine ∧
      ∀ (i : Nat) (k : List Key) (v : V), kvs[i]? = some (k, v) → ∃ (en : DictEntry) (q : Addr), es[i]? = some en ∧ en.key = .ref q ∧ H q = some (.tup (k.map kV)) ∧ RelV v en.val := by
  obtain ⟨z, hs, xs, pr, o', es, ep, ho, hx, hdt, he, _⟩ := x
  have l1 : es.size = xs.length := size_of_entries he
  have l2 : kvs.length = xs.length := Paired.length pr
  refine ⟨hs, o', es, ep, ho, hx, hdt, by omega, z, fun i k v e => ?_⟩
  obtain ⟨b, hb, e1, e2, e3⟩ := paired_get pr e
  have q := entry_at he i
  rw [hb] at q
  exact ⟨_, b.2.1, q, rfl, e2, e3⟩
theorem frzT2 {kvs : List (List Key × V)} (I : Inv X pins σ H s) (h : H d = some (.frz o (.dT kvs))) :
    (d == sysModules) = false ∧ s.heap.get? d = some o ∧ o.ExactDict ∧ ∃ (es : Array DictEntry) (ep : Nat), o.data = .dict es ep ∧ es.size = kvs.length ∧
      ∀ (i : Nat) (k : List Key) (v : V), kvs[i]? = some (k, v) → ∃ (en : DictEntry) (q : Addr), es[i]? = some en ∧ en.key = .ref q ∧ H q = some (.tup (k.map kV)) ∧ RelV v en.val := by
  obtain ⟨hd, x⟩ := I.hok d _ h
  obtain ⟨hs, o', es, ep, ho, hx, hdt, hz, _, he⟩ := ents_of I.hok x
  rw [hd] at ho
  cases ho
  exact ⟨hs, hd, hx, es, ep, hdt, hz, he⟩
end
/-- the pairs of the locked dict at d, each a new tuple -/
def ItiT (d : Addr) (o : Obj) (kvs : List (List Key × V)) : It :=
  ⟨fun i H => H d = some (.frz o (.dT kvs)) ∧ i < kvs.length, fun i H x H' => ∃ (T q : Addr) (k : List Key) (v : V), kvs[i]? = some (k, v) ∧ H q = some (.tup (k.map kV)) ∧ x = .ref T ∧ H T = none ∧ H' = upd H T (.tup [.ref q, v]), fun i H => H d = some (.frz o (.dT kvs)) ∧ kvs.length ≤ i⟩
section
variable {P : Program} {w : World} {K : PySem.W.Frag} {d : Addr} {o : Obj} {es : Array DictEntry} {ep : Nat}
theorem same_dict {o : Obj} {es es' : Array DictEntry} {ep ep' : Nat} (h : o.data = .dict es ep) (h' : o.data = .dict es' ep') : es' = es ∧ ep' = ep := by
  rw [h] at h'
  cases h'
  exact ⟨rfl, rfl⟩
theorem turn_itemsT {kvs : List (List Key × V)} {elts : List Expr} {kk : Nat} {tpos : Pos} (it : Addr) (hod : o.data = .dict es ep) :
    Turn P w K (.Tuple elts kk tpos) (ItiT d o kvs) [it] it (fun i h => ∃ ok ov, IsItemIter h it d i kvs.length ep ok ov) where
  mem := List.mem_singleton.mpr rfl
  obj := fun i h st b hb => by
    obtain rfl : b = it := List.mem_singleton.mp hb
    obtain ⟨ok, ov, e⟩ := st
    exact ⟨_, e, fun v z => nomatch z⟩
  keep := fun i h h' st k => let ⟨ok, ov, e⟩ := st; ⟨ok, ov, k it (List.mem_singleton.mpr rfl) _ e⟩
  item := by
    intro X hP hw hK hc i pins s σ H E I hf st hg
    subst hP hw hK
    obtain ⟨hd, hi⟩ := hg
    obtain ⟨hs, hgd, hx, es', ep', hdt, hsz, ent⟩ := frzT2 I hd
    obtain ⟨rfl, rfl⟩ := same_dict hod hdt
    obtain ⟨⟨k, v⟩, hkv⟩ : ∃ p, kvs[i]? = some p := ⟨kvs[i], List.getElem?_eq_getElem hi⟩
    obtain ⟨en, q, hen, hkey, hq, rv⟩ := ent i k v hkv
    obtain ⟨ok, ov, he⟩ := st
    rw [← hsz] at he
    have hlt : it < s.heap.objs.size := Heap.lt_size he
    have hi2 : i < es'.size := by rw [hsz]; exact hi
    have een : es'[i] = en := Option.some.inj ((Array.getElem?_eq_getElem hi2).symm.trans hen)
    refine wpAny_pyNext_items_item_raw he ⟨_, hgd, hx, hdt⟩ hi2 fun h' ho hT hz hk => ?_
    rw [een] at ho hT
    refine ⟨_, rfl, wpAny_letOwnedTupleGo_items (s := { s with heap := h' }) ho fun h'' he' sb => ?_⟩
    have hT2 : h''.get? s.heap.objs.size = some { cls := .type "tuple", data := .seq #[en.key, en.val] } := (sb.2 _ (Nat.ne_of_gt hlt)).trans hT
    rw [hkey] at hT2
    have new : ObjOk X.prog X.w (upd H s.heap.objs.size (.tup [.ref q, v])) h'' s.heap.objs.size (.tup [.ref q, v]) := ⟨by show 2 ≤ sizeLine; decide, [.ref q, en.val], .cons rfl (.cons rv .nil), ⟨_, hT2, rfl, _, rfl⟩⟩
    have I1 : Inv X pins σ (upd H s.heap.objs.size (.tup [.ref q, v])) { s with heap := h'' } :=
      I.turnedNew (t' := s.toks) (ch := [it]) (fun b ob hb e => (sb.2 b (fun z => hb (List.mem_singleton.mpr z))).trans (hk b ob (fun z => hb (List.mem_singleton.mpr z)) e)) hf (Nat.le_refl _) new
    refine ⟨.ref s.heap.objs.size, _, I1, rfl, ⟨_, q, k, v, hkv, hq, rfl, I.hok.fresh (Nat.le_refl _), rfl⟩, ⟨en.key, en.val, ?_⟩, fun b hb => ?_⟩
    · rw [← hsz]; exact he'
    · obtain rfl : b = it := List.mem_singleton.mp hb
      rw [upd_ne (Nat.ne_of_lt hlt)]
      exact (hf b (List.mem_singleton.mpr rfl)).1
  done := by
    intro X hP hw hK hc i pins s σ H E I hf st hg
    subst hP hw hK
    obtain ⟨hd, hi⟩ := hg
    obtain ⟨f0, f1, f2, f3, f4, f5⟩ := hf it (List.mem_singleton.mpr rfl)
    obtain ⟨hs, hgd, hx, es', ep', hdt, hsz, ent⟩ := frzT2 I hd
    obtain ⟨rfl, rfl⟩ := same_dict hod hdt
    obtain ⟨ok, ov, he⟩ := st
    rw [← hsz] at he hi
    exact wpAny_pyNext_items_end_raw (I.ok.hd hc) he ⟨_, hgd, hx, hdt⟩ hi fun h' eb => ⟨rfl, I.turned (t' := s.toks) (fun b ob hb e => eb b ob hb e) f0 f1 f3 f4 f5⟩
  self := fun A i s Q E st h => let ⟨_, _, e⟩ := st; PySem.W.kcp_self e h
end
/-- .. in e.items(), e a locked dict of tuple keys -/
def iItemsT (td : TE) : TI := fun σ H R => td σ H fun x H1 => ∃ d o kvs, x = .ref d ∧ H1 d = some (.frz o (.dT kvs)) ∧ R (ItiT d o kvs) H1
section
variable {X : Cx} {tg e : Expr} {td : TE} {apos cpos : Pos}
theorem pi_itemsT {elts : List Expr} {kk : Nat} {tpos : Pos} (he : PE X e td) (hbase : attributeBase e "items" X.env (eval e X.env) = eval e X.env := by rfl) (hline : (apos.endLine == cpos.line) = true := by rfl) :
    PI X (.Tuple elts kk tpos) (.Call (.Attribute e "items" apos) [] [] cpos) (iItemsT td) := by
  refine ⟨fun pins s σ H R I h => ?_⟩
  refine wpAny_Call_method (T := "dict") (id := "dict.items") hbase rfl hline PySem.F.plainAttrs_dict PySem.F.slot_dict_items PySem.F.type_dict_items (thn (he.run pins s σ H _ I h) fun u s1 ⟨x, H1, I1, rx, d, o, kvs, ex, hd, q⟩ => ?_)
  subst ex
  obtain rfl : u = Value.ref d := rx
  obtain ⟨hs, hgd, hx, es, ep, hdt, hsz, ent⟩ := frzT2 I1 hd
  have hm : s1.heap.DictRaw d es ep := ⟨_, hgd, hx, hdt⟩
  refine ⟨hm.typeIs, fun a ha => by cases ha; exact ⟨_, hgd, hx.2.1⟩, ?_⟩
  have I2 : Inv X pins σ H1 { s1 with heap := s1.heap.push { cls := .type "dict_items", data := .fields #[.ref d] } } := I1.kept (t' := s1.toks) fun b ob q => Heap.get?_push_of_some _ q
  have fin : wpAny (model X.prog X.w) X.A (pyIter (.ref s1.heap.objs.size)) (PIE X pins σ (.Tuple elts kk tpos) R) X.xe { s1 with heap := s1.heap.push { cls := .type "dict_items", data := .fields #[.ref d] } } := by
    refine wpAny_pyIter_items_raw (d := d) ⟨_, Heap.get?_push_size _ rfl, rfl, rfl⟩ (hm.at fun _ e => Heap.get?_push_of_some _ e) (pi_one (tk := s1.toks) I2 _ (turn_itemsT _ hdt) ⟨.none, .none, ?_⟩ q)
    rw [← hsz]
    exact Heap.get?_push_size _ rfl
  show wpAny _ _ (callWith cpos (.builtin "dict.items") [.ref d] [] []) _ X.xe s1
  exact method_meetsIn PySem.F.slot_dict_items PySem.F.entry_dict_items rfl (PySem.evalArgs_none ⟨rfl, hm.typeIs, PySem.F.args_dict_items_1 _, _, meets_dict_items_raw d hs, ⟨es, ep, hm⟩, fin⟩)
/-- {k: v}, the key a tuple -/
def tDisp1T (tk tv : TE) : TE := fun σ H Q => ∀ p, H p = none → tk σ (upd H p (.dT [])) fun x H1 => tv σ H1 fun y H2 => H2 p = some (.dT []) ∧ ∃ (b : Addr) (k : List Key), x = .ref b ∧ H2 b = some (.tup (k.map kV)) ∧ Q (.ref p) (upd H2 p (.dT [(k, y)]))
theorem pe_disp1T {k v : Expr} {tk tv : TE} {pos : Pos} (hu : X.A.units < cLine) (hk : PE X k tk) (hv : PE X v tv) : PE X (.Dict [some k] [v] pos) (tDisp1T tk tv) := by
  refine ⟨fun pins s σ H Q I q => ?_⟩
  have hn := I.hok.fresh (Nat.le_refl s.heap.objs.size)
  have I1 := I.laid (a := s.heap.objs.size) (o := .dT []) (h' := s.heap.push { cls := .type "dict", data := .dict #[] }) (t' := s.toks) (fun _ _ q => Heap.get?_push_of_some _ q) (Nat.le_refl _) (dt_empty s.heap I.big)
  have hz : (evalEachOpt [some k] X.env).zip ((evalEach [v] X.env).map fun v => do let x ← v; standAt pos; pure x) = [((eval k X.env : Sem Value), (do let x ← eval v X.env; standAt pos; pure x : Sem Value))].map fun p => (some p.1, p.2) := rfl
  rw [arm_eval_Dict, hz, dictDisplay_pairs _ (List.cons_ne_nil _ _) (by show 1 < 17; omega)]
  refine wpAny_bind (wpAny_standAt (wpAny_bind (wpAny_subDictH (knd := tupleKind (mixKind X.prog X.w)) (Q := fun d s' => wpAny (model X.prog X.w) X.A (pure (Value.ref d)) (EP X pins σ Q) X.xe s') hu (by show 1 ≤ 15; omega) ?_)))
  refine PySem.evalPairs_cons (thn (hk.run pins _ σ _ _ I1 (q _ hn)) fun u s1 ⟨x, H1, I2, rx, q1⟩ => wpAny_bind (thn (hv.run pins s1 σ H1 _ I2 q1) fun w2 s2 ⟨y, H2, I3, ry, q2⟩ => wpAny_bind (wpAny_standAt (wpAny_pure (PySem.evalPairs_nil ?_)))))
  obtain ⟨hp, b, kk, rfl, hb, q2⟩ := q2
  obtain rfl : u = Value.ref b := rx
  obtain ⟨z, hd, xs, rel, dd⟩ := dt_of I3.hok hp
  cases rel
  have hne : b ≠ s.heap.objs.size := ne_of hb hp (fun z => nomatch z)
  refine ⟨[(kk, b, w2)], ⟨rfl, rfl, key_of I3.hok hb, True.intro⟩, dd, fun h' tk dd' hs => wpAny_pure ?_⟩
  obtain ⟨qo, es, ep, hq, h2, h3, h4, _, h5⟩ := dd'
  refine ⟨.ref s.heap.objs.size, _, I3.write (t' := tk) (o := .dT [(kk, y)]) (by rw [hp]; exact True.intro) (.inl rfl) (fun c o hc e => (hs.2 c hc).trans e) ⟨qo, hq⟩ ⟨by show 1 ≤ sizeLine; decide, hd, _, .cons ⟨rfl, ?_, ry⟩ .nil, qo, es, ep, hq, h2, h3, h4, h5⟩, rfl, q2⟩
  rw [upd_ne hne]
  exact hb
/-- sum(d.values()), d of tuple keys, its values ints -/
def tSumVals (td : TE) : TE := fun σ H Q => td σ H fun x H1 => ∃ (d : Addr) (kvs : List (List Key × V)) (ns : List Int), x = .ref d ∧ H1 d = some (.dT kvs) ∧ kvs.map (·.2) = ns.map V.int ∧ Q (.int ns.sum) H1
theorem pre_sum (ns : List Int) : ∀ n, n ≤ ns.length → preSum (fun i => ns.getD i 0) n = (ns.take n).sum
  | 0, _ => rfl
  | n + 1, h => by
    have e : ns[n]? = some ns[n] := List.getElem?_eq_getElem (by omega)
    show preSum (fun i => ns.getD i 0) n + ns.getD n 0 = _
    rw [pre_sum ns n (by omega), List.take_add_one, e, List.sum_append, List.getD_eq_getElem?_getD, e]
    simp
theorem pe_sumVals {p pos : Pos} (hc : X.calm = true) (hg : Gl X "sum") (hm : X.mg "sum" = none) (he : PE X e td) (hbase : attributeBase e "values" X.env (eval e X.env) = eval e X.env := by rfl) (hline : (apos.endLine == cpos.line) = true := by rfl)
    (hs2 : starEach [.Call (.Attribute e "values" apos) [] [] cpos] X.env = [(false, eval (.Call (.Attribute e "values" apos) [] [] cpos) X.env)] := by rfl) :
    PE X (.Call (.Name "sum" p) [.Call (.Attribute e "values" apos) [] [] cpos] [] pos) (tSumVals td) := by
  refine ⟨fun pins s σ H Q I h => ?_⟩
  refine Call_ (ld_blt I hg hm PyProof.Rows.boot_sum (PyProof.Rows.callWith_builtin1 ?_ hs2 rfl))
  show wpAny _ _ (spliced ((false, eval (.Call (.Attribute e "values" apos) [] [] cpos) X.env) :: [])) _ _ s
  refine Calls.spliced_cons (wpAny_Call_method (T := "dict") (id := "dict.values") hbase rfl hline PySem.F.plainAttrs_dict PySem.F.slot_dict_values PySem.F.type_dict_values (thn (he.run pins s σ H _ I h) fun u s1 ⟨x, H1, I1, rx, d, kvs, ns, ex, hd, hv, q⟩ => ?_))
  subst ex
  obtain rfl : u = Value.ref d := rx
  obtain ⟨hs, o, es, ep, hgd, hx, hdt, hsz, hle, ent⟩ := ents_of I1.hok (I1.hok d _ hd)
  have hm : s1.heap.DictRaw d es ep := ⟨_, hgd, hx, hdt⟩
  refine ⟨hm.typeIs, fun a ha => by cases ha; exact ⟨_, hgd, hx.2.1⟩, ?_⟩
  have I2 : Inv X pins σ H1 { s1 with heap := s1.heap.push { cls := .type "dict_values", data := .fields #[.ref d] } } := I1.kept (t' := s1.toks) fun b ob q => Heap.get?_push_of_some _ q
  have hlen : kvs.length = ns.length := by have := congrArg List.length hv; simpa using this
  have val : ∀ i v, (∃ hi : i < es.size, v = es[i].val) → ∃ t, v = Value.int (ns.getD i 0) t := by
    rintro i v ⟨hi, rfl⟩
    have hk : kvs[i]? = some kvs[i] := List.getElem?_eq_getElem (by omega)
    obtain ⟨en, qq, e1, _, _, rv⟩ := ent i kvs[i].1 kvs[i].2 hk
    have e2 : es[i] = en := Option.some.inj ((Array.getElem?_eq_getElem hi).symm.trans e1)
    have e3 : kvs[i].2 = V.int (ns.getD i 0) := by
      have h1 : (kvs.map (·.2))[i]? = (ns.map V.int)[i]? := by rw [hv]
      rw [List.getElem?_map, List.getElem?_map, hk] at h1
      have h2 : ns[i]? = some ns[i] := List.getElem?_eq_getElem (by omega)
      rw [h2] at h1
      rw [List.getD_eq_getElem?_getD, h2]
      exact Option.some.inj h1
    rw [e3] at rv
    obtain ⟨t, ht⟩ := rv
    exact ⟨t, by rw [e2, ht]⟩
  have fin : wpAny (model X.prog X.w) X.A (call (.builtin "sum") [.ref s1.heap.objs.size]) (EP X pins σ Q) X.xe { s1 with heap := s1.heap.push { cls := .type "dict_values", data := .fields #[.ref d] } } := by
    refine call_sum_walkG (wpAny_pyIter_values_raw (d := d) ⟨_, Heap.get?_push_size _ rfl, rfl, rfl⟩ (hm.at fun _ e => Heap.get?_push_of_some _ e) ?_)
    have hlt : d < s1.heap.objs.size := Heap.lt_size hgd
    refine ⟨_, _, _, _, _, _, (fun i => ns.getD i 0), rfl, Walks.rawValues (by show X.A.handled = none; exact I1.ok.hd hc) _ d (by rw [Heap.size_push]; exact Nat.ne_of_lt (Nat.lt_succ_of_lt hlt)) es ep, ⟨⟨_, Heap.get?_push_size _ rfl, rfl, rfl⟩, (hm.at fun _ e => Heap.get?_push_of_some _ (Heap.get?_push_of_some _ e))⟩, ?_, val, ?_⟩
    · intro b hb
      rw [Heap.size_push, Heap.size_push]
      simp only [List.mem_cons, List.not_mem_nil, or_false] at hb
      rcases hb with rfl | rfl
      · rw [Heap.size_push]; exact Nat.lt_succ_self _
      · exact Nat.lt_succ_of_lt (Nat.lt_succ_of_lt hlt)
    · intro h' tk t' hk
      rw [pre_sum ns es.size (by omega), List.take_of_length_le (by omega)]
      refine ⟨.int ns.sum, H1, I1.kept (t' := tk) fun b ob e => hk b ob ?_ (Heap.get?_push_of_some _ (Heap.get?_push_of_some _ e)), ⟨_, rfl⟩, q⟩
      rw [List.mem_singleton, Heap.size_push]
      exact Nat.ne_of_lt (Nat.lt_succ_of_lt (Heap.lt_size e))
  show wpAny _ _ (callWith cpos (.builtin "dict.values") [.ref d] [] []) _ X.xe s1
  refine method_meetsIn PySem.F.slot_dict_values PySem.F.entry_dict_values rfl (PySem.evalArgs_none ⟨rfl, hm.typeIs, PySem.F.args_dict_values_1 _, _, meets_dict_values_raw d hs, ⟨es, ep, hm⟩, ?_⟩)
  exact Calls.spliced_nil fin
end
end Q

set_option Elab.async false
set_option linter.all false
set_option maxRecDepth 100000
set_option maxHeartbeats 4000000
namespace Q
open PySem PySem.Spec PyProof.Rows L2
/-! ### tuples made of tuples, on data -/
abbrev rTupL (K : PySem.W.Frag) : List V → Hp → VK → Prop := fun xs H Q => ∃ p ys, xs = [.ref p] ∧ ((SqL K H p ys ∧ ∀ l, H l = none → Q (.ref l) (upd H l (.tup ys))) ∨ (SqT K H p ys ∧ Q (.ref p) H))
def fCatA : F2 := fun x y P => match x, y with
  | .tup a, .tup b => a.length + b.length ≤ 100000 ∧ P (.tup (a ++ b))
  | _, _ => False
section
variable {K : PySem.W.Frag} {W : Wo} {S H : Hp} {v x y : V} {d dx dy : Da} {ds : List Da} {C : Cg} {σ : L2.St} {st : Ds}
theorem DeH.tup (h : DeH K S H v (.tup ds)) : De K S v (.tup ds) := by
  rcases h with h | ⟨p, vs, ds', _, e, _⟩ | ⟨p, vs, ds', _, e, _⟩
  · exact h
  · cases e
  · cases e
theorem r2_CatA : R2Ok K (rCatA K) fCatA := by
  intro S H x y dx dy P Q s hx hy f k
  unfold fCatA at f
  split at f
  · rename_i a b
    obtain ⟨hl, f⟩ := f
    have hx := hx.tup
    have hy := hy.tup
    obtain ⟨p, xs, rfl, hp, hD⟩ := hx.tup_str
    obtain ⟨q, ys, rfl, hq, hE⟩ := hy.tup_str
    refine ⟨p, q, xs, ys, rfl, rfl, SqT.of (s _ _ hp), SqT.of (s _ _ hq), by rw [hD.length, hE.length]; exact Nat.le_trans hl (by decide), fun e => ?_, fun _ e => ?_, fun _ _ r hr => ?_⟩
    · subst e
      cases hD
      exact k _ _ S H (Ext.refl s) hy f
    · subst e
      cases hE
      refine k _ _ S H (Ext.refl s) hx ?_
      rw [List.append_nil] at f; exact f
    · have sm := same_upd (o := .tup (xs ++ ys)) (s.free hr)
      exact k _ _ _ _ (Ext.mk1 s hr) (.tup upd_same ((hD.append hE).mono sm)) f
  · exact f.elim
def onT (d : Da) (Q : List Da → Prop) : Prop := match d with
  | .tup ds => Q ds
  | _ => False
def eSlT (e : DE) (o1 o2 : DO) : DE := fun st P => e st fun x st1 => o1 st1 fun lo st2 => o2 st2 fun hi st3 => onT (st3.pk x) fun ds => P (.tup (cutG ds lo hi)) st3
theorem se_slT {te : TE} {e : DE} {t1 t2 : TO} {o1 o2 : DO} (h : SE K W te e) (h1 : SO K W t1 o1) (h2 : SO K W t2 o2) : SE K W (tSl (rSlA K) te t1 t2) (eSlT e o1 o2) := by
  intro S0 H0 S H σ st P Q I he k
  refine h S0 H0 S H σ st _ _ I he fun x dx S1 H1 st1 I1 e1 r1 q1 => ?_
  refine h1 S0 H0 S1 H1 σ st1 _ _ I1 q1 fun lo S2 H2 st2 I2 e2 q2 => ?_
  refine h2 S0 H0 S2 H2 σ st2 _ _ I2 q2 fun hi S3 H3 st3 I3 e3 q3 => ?_
  have hp := pk_ok I3 (r1.mono (e2.trans e3))
  cases hl : st3.pk dx with
  | tup ds =>
    rw [hl] at q3 hp
    have q3 : P (.tup (cutG ds lo hi)) st3 := q3
    have hp := hp.tup
    obtain ⟨p, xs, rfl, hS, hD⟩ := hp.tup_str
    refine ⟨p, xs, rfl, SqT.of (I3.sub _ _ hS), fun e => ?_, fun _ r hr => ?_⟩
    · have ec : cutG ds lo hi = ds := by
        unfold cutG
        rw [← hD.length, e.1, e.2, List.drop_zero, Nat.sub_zero, hD.length, List.take_length]
      rw [ec] at q3
      exact k _ _ S3 H3 st3 I3 ((e1.trans e2).trans e3) (.inr hp) q3
    · have sm := same_upd (o := .tup (cutV xs lo hi)) (I3.sub.free hr)
      exact k _ _ _ _ st3 (I3.newS hr) (((e1.trans e2).trans e3).trans sm) (.inr (.tup upd_same ((hD.cut lo hi).mono sm))) q3
  | _ => rw [hl] at q3; exact q3.elim
def fTupL : FC := fun ds P => match ds with
  | [x] => onL x.asL fun l => P (.tup l)
  | _ => False
theorem rc_TupL : RCOk K (rTupL K) fTupL := by
  intro S H xs ds P Q s hx f k
  match ds, f with
  | [x], f =>
    obtain ⟨v, rfl, hv⟩ := deHs1 hx
    obtain ⟨l, hl, f⟩ := onL_inv f
    obtain ⟨a, ys, rfl, h1, h2⟩ := hv.asL hl s
    refine ⟨a, ys, rfl, .inl ⟨h1, fun r hr => ?_⟩⟩
    have sm := same_upd (o := .tup ys) (s.free hr)
    exact k _ _ _ _ (Ext.mk1 s hr) (.tup upd_same (h2.mono sm)) f
/-! ### dicts of tuple keys -/
def keysOf : List Da → Option (List Ky)
  | [] => some []
  | d :: r => match d.key, keysOf r with
    | some k, some l => some (k :: l)
    | _, _ => none
def Da.keyT : Da → Option (List Ky)
  | .tup ds => keysOf ds
  | _ => none
def kyDa : Ky → Da
  | .inl i => .int i
  | .inr x => .str x
theorem De.kyDa (k : Ky) : De K S (kV k) (kyDa k) := by cases k <;> constructor
theorem DeAll.kys : ∀ k : List Ky, DeAll K S (k.map kV) (k.map kyDa)
  | [] => .nil
  | k :: r => .cons (De.kyDa k) (DeAll.kys r)
theorem keysOf_kyDa : ∀ k : List Ky, keysOf (k.map kyDa) = some k
  | [] => rfl
  | k :: r => by
    show (match (kyDa k).key, keysOf (r.map kyDa) with
      | some k, some l => some (k :: l)
      | _, _ => none) = some (k :: r)
    rw [keysOf_kyDa r]
    cases k <;> rfl
theorem keysOf_ok : ∀ {ds : List Da} {vs : List V} {k : List Ky}, DeAll K S vs ds → keysOf ds = some k → vs = k.map kV
  | [], vs, k, h, e => by cases h; cases e; rfl
  | d :: r, vs, k, h, e => by
    cases h with
    | cons h1 h2 =>
      have e : (match d.key, keysOf r with
        | some k, some l => some (k :: l)
        | _, _ => none) = some k := e
      cases hd : d.key with
      | none => rw [hd] at e; cases e
      | some k0 =>
        cases hr : keysOf r with
        | none => rw [hd, hr] at e; cases e
        | some l =>
          rw [hd, hr] at e
          cases e
          rw [key_v (H := S) (.inl h1) hd, keysOf_ok h2 hr]
          rfl
theorem keyT_ok {k : List Ky} (h : DeH K S H v d) (e : d.keyT = some k) : ∃ b, v = .ref b ∧ S b = some (.tup (k.map kV)) := by
  cases d with
  | tup ds =>
    obtain ⟨b, xs, rfl, hb, hD⟩ := h.tup.tup_str
    exact ⟨b, rfl, by rw [hb, keysOf_ok hD e]⟩
  | _ => cases e
def onKT (d : Da) (Q : List Ky → Prop) : Prop := match d.keyT with
  | some k => Q k
  | none => False
def onOT (o : Option Sl) (Q : List (List Ky × Da) → Prop) : Prop := match o with
  | some (.ownT c) => Q c
  | _ => False
theorem onKT_inv {d : Da} {T : List Ky → Prop} (h : onKT d T) : ∃ j, d.keyT = some j ∧ T j := by
  unfold onKT at h
  cases hk : d.keyT with
  | none => rw [hk] at h; exact h.elim
  | some k => rw [hk] at h; exact ⟨k, rfl, h⟩
theorem onOT_inv {o : Option Sl} {T : List (List Ky × Da) → Prop} (h : onOT o T) : ∃ c, o = some (.ownT c) ∧ T c := by
  cases o with
  | none => exact h.elim
  | some s => cases s <;> first | exact ⟨_, rfl, h⟩ | exact h.elim
def valT {β : Type} (kvs : List (List Ky × β)) (k : List Ky) : Option β := (kvs.find? fun kv => decide (kv.1 = k)).map (·.2)
def putT {β : Type} (kvs : List (List Ky × β)) (k : List Ky) (v : β) : List (List Ky × β) :=
  if (kvs.any fun kv => decide (kv.1 = k)) = true then kvs.map (fun kv => if kv.1 = k then (kv.1, v) else kv) else kvs ++ [(k, v)]
section
variable {k : List Ky}
theorem DeKT.length : ∀ {es : List (List Ky × V)} {kvs : List (List Ky × Da)}, DeKT K S es kvs → es.length = kvs.length
  | _, _, .nil => rfl
  | _, _, .cons h a => congrArg Nat.succ (DeKT.length a)
theorem DeKT.val : ∀ {es : List (List Ky × V)} {kvs : List (List Ky × Da)}, DeKT K S es kvs → (∀ d, valT kvs k = some d → ∃ v, valV es k = some v ∧ De K S v d) ∧ (valT kvs k = none → valV es k = none)
  | _, _, .nil => by
    refine ⟨fun d h => ?_, fun _ => rfl⟩
    have h : (none : Option Da) = some d := h
    cases h
  | _, _, .cons (k := k0) (v := v) (d := d) h a => by
    have ih := DeKT.val a
    by_cases e : k0 = k
    · have g1 : ∀ r, valT ((k0, d) :: r) k = some d := fun r => by unfold valT; rw [List.find?_cons, decide_eq_true e]; rfl
      rw [g1, valV_pos (p := (k0, v)) e]
      exact ⟨fun d' hd => by cases hd; exact ⟨v, rfl, h⟩, fun hd => nomatch hd⟩
    · have e1 : ∀ r, valT ((k0, d) :: r) k = valT r k := fun r => by unfold valT; rw [List.find?_cons, decide_eq_false e]
      rw [e1, valV_neg (p := (k0, v)) e]
      exact ih
theorem DeKT.any : ∀ {es : List (List Ky × V)} {kvs : List (List Ky × Da)}, DeKT K S es kvs → (es.any fun kv => decide (kv.1 = k)) = (kvs.any fun kv => decide (kv.1 = k))
  | _, _, .nil => rfl
  | _, _, .cons h a => by rw [List.any_cons, List.any_cons, DeKT.any a]
theorem DeKT.append : ∀ {es es' : List (List Ky × V)} {kvs kvs' : List (List Ky × Da)}, DeKT K S es kvs → DeKT K S es' kvs' → DeKT K S (es ++ es') (kvs ++ kvs')
  | _, _, _, _, .nil, b => b
  | _, _, _, _, .cons h a, b => .cons h (DeKT.append a b)
theorem DeKT.repl (hv : De K S v d) : ∀ {es : List (List Ky × V)} {kvs : List (List Ky × Da)}, DeKT K S es kvs → DeKT K S (es.map fun kv => if kv.1 = k then (kv.1, v) else kv) (kvs.map fun kv => if kv.1 = k then (kv.1, d) else kv)
  | _, _, .nil => .nil
  | _, _, .cons (k := k0) h a => by
    rw [List.map_cons, List.map_cons]
    by_cases e : k0 = k
    · rw [if_pos e, if_pos e]; exact .cons hv (DeKT.repl hv a)
    · rw [if_neg e, if_neg e]; exact .cons h (DeKT.repl hv a)
theorem DeKT.put {es : List (List Ky × V)} {kvs : List (List Ky × Da)} (h : DeKT K S es kvs) (hv : De K S v d) : DeKT K S (putK es k v) (putT kvs k d) := by
  unfold putK putT
  rw [h.any]
  split
  · exact h.repl hv
  · exact h.append (.cons hv .nil)
theorem DeKT.vals : ∀ {es : List (List Ky × V)} {kvs : List (List Ky × Da)}, DeKT K S es kvs → DeAll K S (es.map (·.2)) (kvs.map (·.2))
  | _, _, .nil => .nil
  | _, _, .cons h a => .cons h (DeKT.vals a)
theorem DeKT.get : ∀ {es : List (List Ky × V)} {kvs : List (List Ky × Da)} {i : Nat} {p : List Ky × V}, DeKT K S es kvs → es[i]? = some p → ∃ d, kvs[i]? = some (p.1, d) ∧ De K S p.2 d
  | _, _, _, _, .nil, e => by simp at e
  | _, _, 0, p, .cons h a, e => by
    simp only [List.getElem?_cons_zero, Option.some.injEq] at e
    subst e
    exact ⟨_, by simp, h⟩
  | _, _, i + 1, p, .cons h a, e => by
    simp only [List.getElem?_cons_succ] at e
    obtain ⟨v, h1, h2⟩ := DeKT.get a e
    exact ⟨v, by simpa using h1, h2⟩
end
theorem ownT_at {j : Nat} {kvs : List (List Ky × Da)} (I : Ok C S H σ st) (r : RelD C.K S σ v (.own j)) (h : st.δ[j]? = some (.ownT kvs)) : ∃ p es, v = .ref p ∧ σ[j]? = some (some (.ref p)) ∧ S p = none ∧ H p = some (.dT es) ∧ DeKT C.K S es kvs := by
  rcases r with ⟨i, e, hv⟩ | h
  · cases e
    obtain ⟨p, vs, e1, e2, e3, e4⟩ := I.slot j _ _ hv h
    cases e1
    exact ⟨p, vs, rfl, hv, e2, e3, e4⟩
  · cases h
/-- d.get(k, z), d of one owner -/
def eDGet2T (a b c : DE) : DE := fun st P => a st fun x st1 => onI x fun j => onOT st1.δ[j]? fun _ => b st1 fun y st2 => c st2 fun z st3 => onKT (st3.pk y) fun k => onOT st3.δ[j]? fun kvs => P ((valT kvs k).getD z) st3
theorem se_dget2T {ta tb tc : TE} {a b c : DE} (ha : SE K W ta a) (hb : SE K W tb b) (hc : SE K W tc c) : SE K W (tDGet2 ta tb tc) (eDGet2T a b c) := by
  intro S0 H0 S H σ st P Q I he k
  refine ha S0 H0 S H σ st _ _ I he fun x dx S1 H1 st1 I1 e1 r1 q1 => ?_
  obtain ⟨j, rfl, q1⟩ := onI_own q1
  obtain ⟨c0, hj, q1⟩ := onOT_inv q1
  obtain ⟨p, es, rfl, hv, hS, hH, hD⟩ := ownT_at I1 r1 hj
  refine ⟨p, rfl, .inr ⟨es, .inl hH⟩, ?_⟩
  refine hb S0 H0 S1 H1 σ st1 _ _ I1 q1 fun y dy S2 H2 st2 I2 e2 r2 q2 => ?_
  refine hc S0 H0 S2 H2 σ st2 _ _ I2 q2 fun z dz S3 H3 st3 I3 e3 r3 q3 => ?_
  obtain ⟨kk, hk, q3⟩ := onKT_inv q3
  obtain ⟨kvs, hj3, q3⟩ := onOT_inv q3
  obtain ⟨p', es', ep, hv', hS', hH', hD'⟩ := ownT_at I3 ((r1.mono e2).mono e3) hj3
  cases ep
  obtain ⟨b, rfl, hb⟩ := keyT_ok (pk_ok I3 (r2.mono e3)) hk
  refine ⟨valV es' kk, DGet.t hH' (I3.sub _ _ hb), ?_⟩
  have hval := hD'.val (k := kk)
  cases hd : valT kvs kk with
  | none =>
    rw [hval.2 hd]
    rw [hd] at q3
    exact k _ _ S3 H3 st3 I3 ((e1.trans e2).trans e3) r3 q3
  | some d =>
    obtain ⟨v, h1, h2⟩ := hval.1 d hd
    rw [h1]
    rw [hd] at q3
    exact k _ _ S3 H3 st3 I3 ((e1.trans e2).trans e3) (.inr h2) q3
/-- d[k], d of one owner -/
def eDGetT (a b : DE) : DE := fun st P => a st fun x st1 => b st1 fun y st2 => onI x fun j => onKT (st2.pk y) fun k => onOT st2.δ[j]? fun kvs => ∃ d, valT kvs k = some d ∧ P d st2
theorem se_dgetT {ta tb : TE} {a b : DE} (ha : SE K W ta a) (hb : SE K W tb b) : SE K W (tDGet ta tb) (eDGetT a b) := by
  intro S0 H0 S H σ st P Q I he k
  refine ha S0 H0 S H σ st _ _ I he fun x dx S1 H1 st1 I1 e1 r1 q1 => ?_
  refine hb S0 H0 S1 H1 σ st1 _ _ I1 q1 fun y dy S2 H2 st2 I2 e2 r2 q2 => ?_
  obtain ⟨j, rfl, q2⟩ := onI_own q2
  obtain ⟨kk, hk, q2⟩ := onKT_inv q2
  obtain ⟨kvs, hj, d, hd, q2⟩ := onOT_inv q2
  obtain ⟨p, es, rfl, hv, hS, hH, hD⟩ := ownT_at I2 (r1.mono e2) hj
  obtain ⟨b, rfl, hb⟩ := keyT_ok (pk_ok I2 r2) hk
  obtain ⟨v, h1, h2⟩ := (hD.val (k := kk)).1 d hd
  have g := DGet.t hH (I2.sub _ _ hb)
  rw [h1] at g
  exact ⟨p, v, rfl, g, k v d S2 H2 st2 I2 (e1.trans e2) (.inr h2) q2⟩
theorem putT_core {S0 H0 : Hp} {st3 : Ds} {j : Nat} {ky : List Ky} {c : List (List Ky × Da)} {b : Addr} (I3 : Ok ⟨K, W, S0, H0⟩ S H σ st3) (r : RelD K S σ x (.own j)) (hj : st3.δ[j]? = some (.ownT c)) (hb : S b = some (.tup (ky.map kV))) (hv : De K S v d) (hl : c.length < 16000000) :
    ∃ p H', x = .ref p ∧ DPut H p (.ref b) v H' ∧ Ok ⟨K, W, S0, H0⟩ S H' σ { st3 with δ := st3.δ.set j (.ownT (putT c ky d)) } := by
  obtain ⟨p, es, rfl, hvj, hS, hH, hD⟩ := ownT_at I3 r hj
  have hlen : es.length < sizeLine := Nat.lt_of_lt_of_le (by rw [hD.length]; exact hl) (by decide)
  exact ⟨p, _, rfl, DPut.t hH (I3.sub _ _ hb) hlen, I3.mut hj rfl hvj hS (s' := .ownT (putT c ky d)) ⟨p, _, rfl, hS, upd_same, hD.put hv⟩ rfl⟩
def cDPutT (a b e : DE) : DC := fun D st => e st fun d st1 => fzT d st1 fun d' st1' => a st1' fun x st2 => b st2 fun y st3 => onI x fun j => onKT (st3.pk y) fun k => onOT st3.δ[j]? fun c => c.length < 16000000 ∧ D.nx (Ds.put st3 j (.ownT (putT c k d')))
theorem ss_dputT {ta tb te : TE} {a b e : DE} (ha : SE K W ta a) (hb : SE K W tb b) (he : SE K W te e) : SS K W (sDPut ta tb te) (cDPutT a b e) := by
  intro S0 H0 S H σ st D E I hh k
  refine he S0 H0 S H σ st _ _ I hh fun v d S1 H1 st1 I1 e1 r1 q1 => ?_
  obtain ⟨S2, e2, I2, h2⟩ := fz_ok I1 r1
  refine ha S0 H0 S2 H1 σ _ _ _ I2 q1 fun x dx S3 H3 st3 I3 e3 r3 q3 => ?_
  refine hb S0 H0 S3 H3 σ st3 _ _ I3 q3 fun y dy S4 H4 st4 I4 e4 r4 q4 => ?_
  obtain ⟨j, rfl, q4⟩ := onI_own q4
  obtain ⟨ky, hk, q4⟩ := onKT_inv q4
  obtain ⟨c, hj, hl, q4⟩ := onOT_inv q4
  obtain ⟨b, rfl, hb⟩ := keyT_ok (pk_ok I4 r4) hk
  obtain ⟨p, H', rfl, hp, I'⟩ := putT_core (v := v) I4 (r3.mono e4) hj hb (h2.mono (e3.trans e4)) hl
  exact ⟨p, H', rfl, hp, k.nx _ _ _ _ I' q4⟩
/-- sum(d.values()) -/
def eSumVals (a : DE) : DE := fun st P => a st fun x st1 => onI x fun j => onOT st1.δ[j]? fun kvs => ∃ ns : List Int, kvs.map (·.2) = ns.map Da.int ∧ P (.int ns.sum) st1
theorem se_sumVals {t : TE} {a : DE} (ha : SE K W t a) : SE K W (tSumVals t) (eSumVals a) := by
  intro S0 H0 S H σ st P Q I he k
  refine ha S0 H0 S H σ st _ _ I he fun x dx S1 H1 st1 I1 e1 r1 q1 => ?_
  obtain ⟨j, rfl, q1⟩ := onI_own q1
  obtain ⟨kvs, hj, ns, hn, q1⟩ := onOT_inv q1
  obtain ⟨p, es, rfl, hv, hS, hH, hD⟩ := ownT_at I1 r1 hj
  refine ⟨p, es, ns, rfl, hH, ?_, k _ _ S1 H1 st1 I1 e1 (.inr (.int _)) q1⟩
  have := hD.vals
  rw [hn] at this
  exact this.ints
/-! new dicts of tuple keys -/
abbrev DKT := Ds → (List (List Ky × Da) → Ds → Prop) → Prop
def SDT (K : PySem.W.Frag) (W : Wo) (t : TE) (e : DKT) : Prop := ∀ (S0 H0 S H : Hp) (σ : L2.St) (st : Ds) (P : List (List Ky × Da) → Ds → Prop) (Q : VK), Ok ⟨K, W, S0, H0⟩ S H σ st → e st P →
  (∀ p es kvs S' H' st', Ok ⟨K, W, S0, H0⟩ S' H' σ st' → Same S S' → H' p = some (.dT es) → S' p = none → p ∉ W.M → H0 p = none → (∀ (i : Nat) (s : Sl), st'.δ[i]? = some s → s.isOwn = true → σ[i]? ≠ some (some (.ref p))) → DeKT K S' es kvs → P kvs st' → Q (.ref p) H') → t σ H Q
def kNewT : DKT := fun st P => P [] st
theorem sd_newT : SDT K W tDNewT kNewT := fun S0 H0 S H σ st P Q I he k p hp => k p [] [] S _ st (I.alloc hp) (Same.refl S) upd_same (I.sn hp) (I.nm hp) (I.h0 hp) (I.nown hp) .nil he
def kDisp1T (ek ev : DE) : DKT := fun st P => ek st fun x st1 => ev st1 fun y st2 => onKT (st2.pk x) fun k => fzT y st2 fun d st3 => P [(k, d)] st3
theorem sd_disp1T {tk tv : TE} {ek ev : DE} (hk : SE K W tk ek) (hv : SE K W tv ev) : SDT K W (tDisp1T tk tv) (kDisp1T ek ev) := by
  intro S0 H0 S H σ st P Q I he k p hp
  have hpm := I.nm hp
  have hp0 := I.h0 hp
  have hpS := I.sn hp
  have hS0 : S0 p = none := I.le.free hpS
  have I0 := (I.alloc (o := .dT []) hp).hold upd_same hpS hpm (I.nown hp)
  refine hk S0 _ S _ σ st _ _ I0 he fun x dx S1 H1 st1 I1 e1 r1 q1 => ?_
  refine hv S0 _ S1 H1 σ st1 _ _ I1 q1 fun y dy S2 H2 st2 I2 e2 r2 q2 => ?_
  obtain ⟨kk, hk, q2⟩ := onKT_inv q2
  obtain ⟨b, rfl, hb⟩ := keyT_ok (pk_ok I2 (r1.mono e2)) hk
  obtain ⟨S3, e3, I3, h3⟩ := fz_ok I2 r2
  have hb3 : S3 b = some (.tup (kk.map kV)) := e3 _ _ hb
  refine ⟨I2.held (C := ⟨K, W, S0, H0⟩) hpm, b, kk, rfl, I2.sub _ _ hb, ?_⟩
  have hS3 : S3 p = none := I3.heldS (C := ⟨K, W, S0, H0⟩) hS0 (fun _ z => nomatch z)
  have I4 := I3.reput (C := ⟨K, W, S0, H0⟩) (u := .dT [(kk, y)]) hpm hS3
  refine k p [(kk, y)] _ S3 _ _ (I4.drop (C := ⟨K, W, S0, H0⟩) hp0) ((e1.trans e2).trans e3) upd_same hS3 hpm hp0 (fun i s h1 h2 h3 => ?_) (.cons h3 .nil) q2
  have := (I4.priv i s p h1 h2 h3).2
  have this : upd H0 p (.dT [(kk, y)]) p = none := this
  rw [upd_same] at this
  cases this
def cAsgT (i : Nat) (α : DKT) : DC := fun D st => α st fun ds st1 => D.nx (Ds.put st1 i (.ownT ds))
theorem ss_asgT {i : Nat} {te : TE} {α : DKT} (h : SDT K W te α) : SS K W (tAsg te (gName i)) (cAsgT i α) := fun S0 H0 S H σ st D E I he k =>
  h S0 H0 S H σ st _ _ I he fun p es kvs S' H' st' I' e' hp hs hm h0 hn hd q => k.nx _ _ _ _ (I'.setOwn (s := .ownT kvs) ⟨p, es, rfl, hs, hp, hd⟩ hm h0 hn) q
/-- x = y, y of one owner, which then is no more -/
def onOwn (o : Option Sl) (Q : Sl → Prop) : Prop := match o with
  | some s => s.isOwn = true ∧ Q s
  | none => False
def cMove (i j : Nat) : DC := fun D st => onOwn st.δ[j]? fun s => D.nx (Ds.put (Ds.put st j .un) i s)
theorem ss_move {i j : Nat} : SS K W (tAsg (tVar j) (gName i)) (cMove i j) := by
  intro S0 H0 S H σ st D E I he k
  unfold cMove at he
  cases hs : st.δ[j]? with
  | none => rw [hs] at he; exact he.elim
  | some s =>
    rw [hs] at he
    obtain ⟨ho, he⟩ := he
    obtain ⟨p, o, h1, h2, h3⟩ := I.ownp hs ho
    refine ⟨.ref p, h1, ?_⟩
    have hpr := I.priv j s p hs ho h1
    have sl := I.slot j _ s h1 hs
    have I1 : Ok ⟨K, W, S0, H0⟩ S H σ (st.wp [j]) := I.wp rfl fun _ _ => rfl
    refine k.nx _ _ _ _ (I1.setOwn (i := i) (s := s) sl hpr.1 hpr.2 fun a t ha hto hσ => ?_) he
    have hj : (st.δ.set j .un)[a]? = some t := ha
    rcases get_set hj with ⟨rfl, rfl⟩ | ⟨n1, ha⟩
    · cases hto
    · exact n1 (I.dis a j t s p ha hs hto ho hσ h1)
/-! for .. in d.items(), d of one owner, locked -/
def itemsT (kvs : List (List Ky × Da)) : List Da := kvs.map fun p => .tup [.tup (p.1.map kyDa), p.2]
def cForT (j : Nat) (g : DG) (b : DC) : DC := fun D st => onOT st.δ[j]? fun kvs => ∀ p : Addr, forGo g b { nx := fun st' => st'.δ[j]? = some (.dat (.ref p)) ∧ D.nx (Ds.put st' j (.ownT kvs)), rt := fun _ _ => False } (itemsT kvs) (Ds.put st j (.dat (.ref p)))
theorem ss_forT {j : Nat} {js : List Nat} {g : TG} {dg : DG} {t : TS} {c : DC} (hg : SG K W js g dg) (h : SS K W t c) : SS K W (tLock (tFor (iItemsT (tVar j)) g t)) (cForT j dg c) := by
  intro S0 H0 S H σ st D E I he k
  obtain ⟨kvs, hj, he⟩ := onOT_inv he
  have hi : j < σ.length := by rw [I.len]; exact (List.getElem?_eq_some_iff.mp hj).1
  obtain ⟨p, es, e1, hS, hH, hD⟩ := I.slot j _ _ (List.getElem?_eq_getElem hi) hj
  have hv : σ[j]? = some (some (.ref p)) := by rw [List.getElem?_eq_getElem hi, e1]
  obtain ⟨pm, p0⟩ := I.priv j _ p hj rfl hv
  have hS0 : S0 p = none := I.le.free hS
  refine ⟨p, .dT es, hH, True.intro, fun od => ?_⟩
  have J0 : Ok ⟨K, W, S0, H0⟩ S H σ (Ds.put st j (.dat (.ref p))) := by
    have := I.set (v := .ref p) (d := .ref p) (.ref p) j
    have e : σ.set j (some (.ref p)) = σ := by
      refine List.ext_getElem? fun i => ?_
      by_cases h : i = j
      · subst h; rw [List.getElem?_set_self hi, hv]
      · rw [List.getElem?_set_ne (Ne.symm h)]
    rw [e] at this
    exact this
  have nown : ∀ (i : Nat) (s : Sl), (Ds.put st j (.dat (.ref p))).δ[i]? = some s → s.isOwn = true → σ[i]? ≠ some (some (.ref p)) := fun i s h1 h2 h3 => by
    rcases get_set h1 with ⟨rfl, rfl⟩ | ⟨n1, h1⟩
    · cases h2
    · exact n1 (I.dis i j s _ p h1 hj h2 rfl h3 hv)
  have J1 := (J0.hold hH hS pm nown).reput (C := ⟨K, W, S0, H0⟩) (u := .frz od (.dT es)) pm hS
  have held : ∀ {S H σ st}, Ok ⟨K, W, S0, upd H0 p (.frz od (.dT es))⟩ S H σ st → H p = some (.frz od (.dT es)) := fun I => I.held (C := ⟨K, W, S0, H0⟩) pm
  refine ⟨.ref p, hv, p, od, es, rfl, upd_same, ?_⟩
  -- the end of the loop
  have fin : ∀ {S H σ st}, Ok ⟨K, W, S0, upd H0 p (.frz od (.dT es))⟩ S H σ st → DeKT K S es kvs → st.δ[j]? = some (.dat (.ref p)) → Ok ⟨K, W, S0, H0⟩ S (upd H p (.dT es)) σ (Ds.put st j (.ownT kvs)) := fun {S H σ st} I hd hs => by
    have hSp : S p = none := I.heldS (C := ⟨K, W, S0, H0⟩) hS0 (fun _ z => nomatch z)
    have I2 := I.reput (C := ⟨K, W, S0, H0⟩) (u := .dT es) pm hSp
    have np : ∀ (i : Nat) (s : Sl), st.δ[i]? = some s → s.isOwn = true → σ[i]? ≠ some (some (.ref p)) := fun i s h1 h2 h3 => by
      have this : upd H0 p (.dT es) p = none := (I2.priv i s p h1 h2 h3).2
      rw [upd_same] at this
      cases this
    have I3 := I2.drop (C := ⟨K, W, S0, H0⟩) p0
    have hjl : j < σ.length := by rw [I3.len]; exact (List.getElem?_eq_some_iff.mp hs).1
    have hvj : σ[j]? = some (some (.ref p)) := by
      obtain ⟨w, e1, e2⟩ := I3.slot j _ _ (List.getElem?_eq_getElem hjl) hs
      rw [e2.ref_inv] at e1
      rw [List.getElem?_eq_getElem hjl, e1]
    have I4 := I3.setOwn (i := j) (s := .ownT kvs) ⟨p, es, rfl, hSp, upd_same, hd⟩ pm p0 np
    have e : σ.set j (some (.ref p)) = σ := by
      refine List.ext_getElem? fun i => ?_
      by_cases h : i = j
      · subst h; rw [List.getElem?_set_self hjl, hvj]
      · rw [List.getElem?_set_ne (Ne.symm h)]
    rw [e] at I4
    exact I4
  refine ⟨fun i m σ H => ∃ S1 st1, Ok ⟨K, W, S0, upd H0 p (.frz od (.dT es))⟩ S1 H σ st1 ∧ Same S S1 ∧ i ≤ kvs.length ∧ m = kvs.length - i ∧ forGo dg c { nx := fun st' => st'.δ[j]? = some (.dat (.ref p)) ∧ D.nx (Ds.put st' j (.ownT kvs)), rt := fun _ _ => False } ((itemsT kvs).drop i) st1, ⟨_, S, _, J1, Same.refl S, Nat.zero_le _, rfl, he p⟩, ?_⟩
  rintro i m σ H ⟨S1, st1, I1, ee, hi, rfl, q⟩
  have hp := held I1
  have hlen : es.length = kvs.length := hD.length
  by_cases hl : i < kvs.length
  · right
    have hx : kvs[i]? = some kvs[i] := List.getElem?_eq_getElem hl
    rw [List.drop_eq_getElem_cons (show i < (itemsT kvs).length by unfold itemsT; rw [List.length_map]; exact hl)] at q
    refine ⟨⟨hp, by rw [hlen]; exact hl⟩, fun σ' H' => ∃ S' st', Ok ⟨K, W, S0, upd H0 p (.frz od (.dT es))⟩ S' H' σ' st' ∧ Same S S' ∧ forGo dg c { nx := fun st' => st'.δ[j]? = some (.dat (.ref p)) ∧ D.nx (Ds.put st' j (.ownT kvs)), rt := fun _ _ => False } ((itemsT kvs).drop (i + 1)) st', ?_, fun x H' hyl => ?_⟩
    · rintro σ' H' ⟨S', st', I', e', q'⟩
      exact ⟨_, by omega, S', st', I', e', by omega, rfl, q'⟩
    · obtain ⟨T, q0, kk, v, hkv, hq, rfl, hT, rfl⟩ := hyl
      obtain ⟨d, hd1, hd2⟩ := hD.get hkv
      have eit : (itemsT kvs)[i]'(by unfold itemsT; rw [List.length_map]; exact hl) = .tup [.tup (kk.map kyDa), d] := by
        unfold itemsT
        rw [List.getElem_map]
        have : kvs[i] = (kk, d) := by rw [hx] at hd1; exact Option.some.inj hd1
        rw [this]
      rw [eit] at q
      have hqT : q0 ≠ T := fun e => by rw [e, hT] at hq; cases hq
      have hST : S1 T = none := I1.sub.free hT
      -- the key's tuple is a value
      have ex : Ext S1 H (upd (upd S1 q0 (.tup (kk.map kV))) T (.tup [.ref q0, v])) (upd H T (.tup [.ref q0, v])) := by
        refine ⟨fun b o e => ?_, fun b o e => ?_, same_upd hT, fun b o e => ?_⟩
        · have hbT : b ≠ T := fun z => by rw [z, hST] at e; cases e
          rw [upd_ne hbT]
          by_cases hb : b = q0
          · subst hb; rw [upd_same]; have := I1.sub _ _ e; rw [hq] at this; exact this
          · rw [upd_ne hb]; exact e
        · by_cases hbT : b = T
          · subst hbT; rw [upd_same] at e ⊢; exact e
          · rw [upd_ne hbT] at e ⊢
            by_cases hb : b = q0
            · subst hb; rw [upd_same] at e; rw [← e]; exact hq
            · rw [upd_ne hb] at e; exact I1.sub _ _ e
        · by_cases hbT : b = T
          · subst hbT; exact .inr (.inl hT)
          · rw [upd_ne hbT] at e
            by_cases hb : b = q0
            · subst hb; rw [upd_same] at e; cases e; exact .inr (.inr ⟨⟨_, rfl⟩, hq⟩)
            · rw [upd_ne hb] at e; exact .inl e
      have I2 := I1.ext ex
      have hdx : De K (upd (upd S1 q0 (.tup (kk.map kV))) T (.tup [.ref q0, v])) (.ref T) (.tup [.tup (kk.map kyDa), d]) := .tup upd_same (.cons (.tup (by rw [upd_ne hqT]; exact upd_same) (DeAll.kys kk)) (.cons (hd2.mono (ee.trans ex.s)) .nil))
      refine hg S0 _ _ _ σ st1 _ _ _ _ I2 (.inr hdx) q fun S3 H3 σ3 st3 I3 e3 k3 q3 => ?_
      have h13 : Same S S3 := (ee.trans ex.s).trans e3
      have h01 : Same S0 S := I.le
      have up : ∀ {S' H σ st}, Ok ⟨K, W, S, upd H0 p (.frz od (.dT es))⟩ S' H σ st → Ok ⟨K, W, S0, upd H0 p (.frz od (.dT es))⟩ S' H σ st := fun I' => I'.down h01 J1.new
      refine h S (upd H0 p (.frz od (.dT es))) S3 H3 σ3 st3 _ _ (I3.up h01 h13) q3 ⟨fun S' H' σ' st' I' q' => ⟨S', st', up I', I'.le, q'⟩, fun S' H' σ' st' v d I' hv q' => q'.elim, fun S' H' σ' st' I' q' => ?_, fun S' H' σ' st' I' q' => ⟨S', st', up I', I'.le, q'⟩⟩
      exact ⟨held (up I'), k.nx _ _ _ _ (fin (up I') (hD.mono I'.le) q'.1) q'.2⟩
  · left
    have hi' : i = kvs.length := by omega
    rw [List.drop_eq_nil_of_le (by unfold itemsT; rw [List.length_map]; omega)] at q
    refine ⟨⟨hp, by omega⟩, hp, ?_⟩
    exact k.nx _ _ _ _ (fin I1 (hD.mono ee) q.1) q.2
end
/-! steps -/
section
variable {st st' : Ds} {P : Da → Ds → Prop} {PT : List (List Ky × Da) → Ds → Prop} {R : Da → Prop} {D : DD} {i j : Nat} {d d' x y : Da} {a b c e : DE} {o1 o2 : DO} {κ : DKT} {m n : Int} {k : List Ky} {ds l l' : List Da} {kvs : List (List Ky × Da)} {g : DG} {r : DC}
theorem k_CatA (hl : l.length + l'.length ≤ 100000) (q : R (.tup (l ++ l'))) : fCatA (.tup l) (.tup l') R := ⟨hl, q⟩
theorem k_slT (q : e st fun x st1 => o1 st1 fun lo st2 => o2 st2 fun hi st3 => onT (st3.pk x) fun ds => P (.tup (cutG ds lo hi)) st3) : eSlT e o1 o2 st P := q
theorem k_onT {T : List Da → Prop} (h : st.pk d = .tup ds) (q : T ds) : onT (st.pk d) T := by rw [h]; exact q
theorem k_onKT {T : List Ky → Prop} (h : st.pk d = d') (h' : d'.keyT = some k) (q : T k) : onKT (st.pk d) T := by rw [h]; unfold onKT; rw [h']; exact q
theorem k_onOT {T : List (List Ky × Da) → Prop} (h : st.δ[i]? = some (.ownT kvs)) (q : T kvs) : onOT st.δ[i]? T := by rw [h]; exact q
theorem k_onOwn {s : Sl} {T : Sl → Prop} (h : st.δ[i]? = some s) (ho : s.isOwn = true) (q : T s) : onOwn st.δ[i]? T := by rw [h]; exact ⟨ho, q⟩
theorem k_varT (hd : st.δ[i]? = some (.ownT kvs)) (q : P (.own i) st) : eVar i st P := by unfold eVar; rw [hd]; exact q
theorem k_dget2T (q : a st fun x st1 => onI x fun j => onOT st1.δ[j]? fun _ => b st1 fun y st2 => c st2 fun z st3 => onKT (st3.pk y) fun k => onOT st3.δ[j]? fun kvs => P ((valT kvs k).getD z) st3) : eDGet2T a b c st P := q
theorem k_dgetT (q : a st fun x st1 => b st1 fun y st2 => onI x fun j => onKT (st2.pk y) fun k => onOT st2.δ[j]? fun kvs => ∃ d, valT kvs k = some d ∧ P d st2) : eDGetT a b st P := q
theorem k_sumVals (q : a st fun x st1 => onI x fun j => onOT st1.δ[j]? fun kvs => ∃ ns : List Int, kvs.map (·.2) = ns.map Da.int ∧ P (.int ns.sum) st1) : eSumVals a st P := q
theorem k_newT (q : PT [] st) : kNewT st PT := q
theorem k_disp1T (q : a st fun x st1 => b st1 fun y st2 => onKT (st2.pk x) fun k => fzT y st2 fun d st3 => PT [(k, d)] st3) : kDisp1T a b st PT := q
theorem s_asgT (q : κ st fun ds st1 => D.nx (Ds.put st1 i (.ownT ds))) : cAsgT i κ D st := q
theorem s_dputT (q : e st fun d st1 => fzT d st1 fun d' st1' => a st1' fun x st2 => b st2 fun y st3 => onI x fun j => onKT (st3.pk y) fun k => onOT st3.δ[j]? fun c => c.length < 16000000 ∧ D.nx (Ds.put st3 j (.ownT (putT c k d')))) : cDPutT a b e D st := q
theorem s_move (q : onOwn st.δ[j]? fun s => D.nx (Ds.put (Ds.put st j .un) i s)) : cMove i j D st := q
theorem s_forT (q : onOT st.δ[j]? fun kvs => ∀ p : Addr, forGo g r { nx := fun st' => st'.δ[j]? = some (.dat (.ref p)) ∧ D.nx (Ds.put st' j (.ownT kvs)), rt := fun _ _ => False } (itemsT kvs) (Ds.put st j (.dat (.ref p)))) : cForT j g r D st := q
theorem k_TupL (hs : x.asL = some ds) (q : R (.tup ds)) : fTupL [x] R := by
  show onL x.asL _
  rw [hs]; exact q
end
end Q

set_option Elab.async false
set_option linter.all false
set_option maxRecDepth 100000
set_option maxHeartbeats 4000000
namespace Q
open PySem PySem.Spec PyProof.Rows L2
/-! ### walked: a text or a list -/
def iSL (K : PySem.W.Frag) (te : TE) : TI := fun σ H R => te σ H fun v H1 => (∃ x, v = .str x ∧ R (Its x) H1) ∨ ∃ a, v = .ref a ∧ (∃ xs, SqL K H1 a xs) ∧ R (Itl K a) H1
theorem pi_sl {X : Cx} {tg e : Expr} {te : TE} (he : PE X e te) : PI X tg e (iSL X.K te) := by
  refine ⟨fun pins s σ H R I h => thn (he.run pins s σ H _ I h) fun v s1 ⟨y, H1, I1, r1, q1⟩ => ?_⟩
  rcases q1 with ⟨x, ey, q⟩ | ⟨a, ey, ⟨xs, hq⟩, q⟩
  · subst ey
    obtain ⟨t, rfl⟩ := r1
    cases hx : x.cps.all (· < 128)
    · exact PySem.wpAny_pyIter_wide hx (pi_one (tk := s1.toks) I1 _ (turn_str _ x t "str_iterator" (.inr rfl)) ⟨_, Heap.get?_push_size _ rfl, rfl, rfl⟩ q)
    · exact PySem.wpAny_pyIter_ascii hx (pi_one (tk := s1.toks) I1 _ (turn_str _ x t "str_ascii_iterator" (.inl rfl)) ⟨_, Heap.get?_push_size _ rfl, rfl, rfl⟩ q)
  · subst ey
    cases r1
    obtain ⟨its, rv, p, hz⟩ := I1.list hq
    exact wpAny_pyIter_list p.isList (pi_one (tk := s1.toks) I1 _ (turn_list a _) ⟨_, Heap.get?_push_size _ rfl, rfl, rfl⟩ q)
end Q

set_option Elab.async false
set_option linter.all false
set_option maxRecDepth 100000
set_option maxHeartbeats 4000000
namespace Q
open PySem PySem.Spec PyProof.Rows L2
section
variable {K : PySem.W.Frag} {W : Wo} {S H : Hp} {v x y : V} {d dx dy : Da} {ds : List Da} {C : Cg} {σ : L2.St} {st : Ds}
/-! ### walked: a text or a list -/
def Da.asSL : Da → Option (List Da)
  | .str z => some (sgD z)
  | d => d.asL
def diSL (e : DE) : DI := fun st P => e st fun d st1 => onL (st1.fz d).1.asSL fun ds => P ds (st1.fz d).2
theorem si_sl {te : TE} {e : DE} (h : SE K W te e) : SI K W (iSL K te) (diSL e) := by
  intro S0 H0 S H σ st P R I he k
  refine h S0 H0 S H σ st _ _ I he fun x dx S1 H1 st1 I1 e1 r1 q1 => ?_
  obtain ⟨S2, e2, I2, h2⟩ := fz_ok I1 r1
  obtain ⟨ds, hl, q1⟩ := onL_inv q1
  by_cases hs : ∃ z, (st1.fz dx).1 = .str z
  · obtain ⟨z, hz⟩ := hs
    rw [hz] at hl h2
    cases hl
    refine .inl ⟨z, h2.str_inv, k _ S2 H1 _ _ I2 (e1.trans e2) (fun i S H e s => ⟨fun hi => ?_, fun d hd => ?_⟩) q1⟩
    · show z.cps.size ≤ (sgD z).length
      rw [sg_len]; exact Nat.le_refl _
    · obtain ⟨c, hc, rfl⟩ := sg_get hd
      refine ⟨(Array.getElem?_eq_some_iff.mp hc).1, fun x H' ⟨hH, c', hc', hx⟩ => ?_⟩
      subst hH
      rw [hc] at hc'; cases hc'
      rw [hx]
      exact ⟨S, Ext.refl s, .str _⟩
  · have hl : (st1.fz dx).1.asL = some ds := by
      cases hd : (st1.fz dx).1 with
      | str z => exact absurd ⟨z, hd⟩ hs
      | _ => rw [hd] at hl; exact hl
    obtain ⟨a, xs, rfl, hS, hD⟩ := DeH.asL (H := S2) (.inl h2) hl (Same.refl S2)
    refine .inr ⟨a, rfl, ⟨xs, I2.sub.seq hS⟩, k _ S2 H1 _ ds I2 (e1.trans e2) (fun i S H e s => ⟨fun hi => ⟨xs, s.seq (e.seq hS), by rw [hD.length]; exact Nat.le_refl _⟩, fun d hd => ?_⟩) q1⟩
    have hq := s.seq (e.seq hS)
    obtain ⟨v, hv, hdv⟩ := hD.getD hd
    refine ⟨⟨xs, v, hq, hv⟩, fun x H' ⟨hH, hx⟩ => ?_⟩
    subst hH
    have hx := hx xs hq
    rw [hv] at hx; cases hx
    exact ⟨S, Ext.refl s, hdv.mono e⟩
/-! ### d.get(k, z), {} (int and text keys) -/
def eDGet2 (a b c : DE) : DE := fun st P => a st fun x st1 => onD (st1.pk x) fun _ => b st1 fun y st2 => c st2 fun z st3 => onD (st3.pk x) fun kvs => onK (st3.pk y) fun k => P ((valG kvs k).getD z) st3
theorem onD_inv {d : Da} {T : List (Ky × Da) → Prop} (h : onD d T) : ∃ l, d = .dic l ∧ T l := by
  cases d <;> first | exact ⟨_, rfl, h⟩ | exact h.elim
theorem se_dget2 {ta tb tc : TE} {a b c : DE} (ha : SE K W ta a) (hb : SE K W tb b) (hc : SE K W tc c) : SE K W (tDGet2 ta tb tc) (eDGet2 a b c) := by
  intro S0 H0 S H σ st P Q I he k
  refine ha S0 H0 S H σ st _ _ I he fun x dx S1 H1 st1 I1 e1 r1 q1 => ?_
  obtain ⟨l1, hd1, q1⟩ := onD_inv q1
  have hx1 := pk_ok I1 r1
  rw [hd1] at hx1
  obtain ⟨p, es1, rfl, hr1, hD1⟩ := hx1.dic I1.sub
  refine ⟨p, rfl, .inl ⟨es1, hr1⟩, ?_⟩
  refine hb S0 H0 S1 H1 σ st1 _ _ I1 q1 fun y dy S2 H2 st2 I2 e2 r2 q2 => ?_
  refine hc S0 H0 S2 H2 σ st2 _ _ I2 q2 fun z dz S3 H3 st3 I3 e3 r3 q3 => ?_
  obtain ⟨kvs, hd3, q3⟩ := onD_inv q3
  obtain ⟨ky, hk, q3⟩ := onK_key q3
  have hx3 := pk_ok I3 (r1.mono (e2.trans e3))
  rw [hd3] at hx3
  obtain ⟨p', es, ep, hr, hD⟩ := hx3.dic I3.sub
  cases ep
  have hy := pk_ok I3 (r2.mono e3)
  refine ⟨valV es ky, .inl ⟨es, ky, hr, key_v hy hk, rfl⟩, ?_⟩
  have hval := hD.val (k := ky)
  cases hd : valG kvs ky with
  | none =>
    rw [hval.2 hd]
    rw [hd] at q3
    exact k _ _ S3 H3 st3 I3 ((e1.trans e2).trans e3) r3 q3
  | some d =>
    obtain ⟨v, h1, h2⟩ := hval.1 d hd
    rw [h1]
    rw [hd] at q3
    exact k _ _ S3 H3 st3 I3 ((e1.trans e2).trans e3) (.inr h2) q3
def kNewK : DKV := fun st P => P [] st
theorem sd_newK : SD K W tDNewK kNewK := fun S0 H0 S H σ st P Q I he k p hp => k p [] [] S _ st (I.alloc hp) (Same.refl S) upd_same (I.sn hp) (I.nm hp) (I.h0 hp) (I.nown hp) .nil he
end
section
variable {st st' : Ds} {P : Da → Ds → Prop} {PA : List Da → Ds → Prop} {PK : List (Ky × Da) → Ds → Prop} {R : Da → Prop} {d d' : Da} {a b c e : DE} {ds : List Da} {n : Int}
theorem i_sl (q : e st fun d st1 => onL (st1.fz d).1.asSL fun ds => PA ds (st1.fz d).2) : diSL e st PA := q
theorem i_slF (h : st.fz d = (d', st')) (hs : d'.asSL = some ds) (q : PA ds st') : onL (st.fz d).1.asSL fun ds => PA ds (st.fz d).2 := by rw [h]; dsimp only; rw [hs]; exact q
theorem k_dget2 (q : a st fun x st1 => onD (st1.pk x) fun _ => b st1 fun y st2 => c st2 fun z st3 => onD (st3.pk x) fun kvs => onK (st3.pk y) fun k => P ((valG kvs k).getD z) st3) : eDGet2 a b c st P := q
theorem k_newK (q : PK [] st) : kNewK st PK := q
/-- str, repr of an int -/
theorem k_StrI (hn : n.natAbs.log2 < 1920) (q : R (.str (toString n))) : fStrI [.int n] R := ⟨hn, q⟩
end
end Q

set_option Elab.async false
set_option linter.all false
set_option maxRecDepth 100000
set_option maxHeartbeats 4000000
namespace Q
open PySem PySem.Spec PyProof.Rows L2
section
variable {K : PySem.W.Frag} {W : Wo}
/-! ### {a: b, c: d} -/
def kDisp2 (ek ev ek2 ev2 : DE) : DKV := fun st P => ek st fun x st1 => ev st1 fun y st2 => onK (st2.pk x) fun k => fzT y st2 fun d st3 => ek2 st3 fun x2 st4 => ev2 st4 fun y2 st5 => onK (st5.pk x2) fun k2 => fzT y2 st5 fun d2 st6 => P (mergeG [] [(k, d), (k2, d2)]) st6
theorem sd_disp2 {tk tv tk2 tv2 : TE} {ek ev ek2 ev2 : DE} (hk : SE K W tk ek) (hv : SE K W tv ev) (hk2 : SE K W tk2 ek2) (hv2 : SE K W tv2 ev2) : SD K W (tDisp [(tk, tv), (tk2, tv2)]) (kDisp2 ek ev ek2 ev2) := by
  intro S0 H0 S H σ st P Q I he k p hp
  have hpm := I.nm hp
  have hp0 := I.h0 hp
  have hpS := I.sn hp
  have hS0 : S0 p = none := I.le.free hpS
  have I0 := (I.alloc (o := .dK []) hp).hold upd_same hpS hpm (I.nown hp)
  refine hk S0 _ S _ σ st _ _ I0 he fun x dx S1 H1 st1 I1 e1 r1 q1 => ?_
  refine hv S0 _ S1 H1 σ st1 _ _ I1 q1 fun y dy S2 H2 st2 I2 e2 r2 q2 => ?_
  obtain ⟨kk, hkk, q2⟩ := onK_key q2
  have ex := key_v (pk_ok I2 (r1.mono e2)) hkk
  obtain ⟨S3, e3, I3, h3⟩ := fz_ok I2 r2
  refine hk2 S0 _ S3 H2 σ _ _ _ I3 q2 fun x2 dx2 S4 H4 st4 I4 e4 r4 q4 => ?_
  refine hv2 S0 _ S4 H4 σ st4 _ _ I4 q4 fun y2 dy2 S5 H5 st5 I5 e5 r5 q5 => ?_
  obtain ⟨kk2, hkk2, q5⟩ := onK_key q5
  have ex2 := key_v (pk_ok I5 (r4.mono e5)) hkk2
  obtain ⟨S6, e6, I6, h6⟩ := fz_ok I5 r5
  refine ⟨I5.held (C := ⟨K, W, S0, H0⟩) hpm, [(kk, y), (kk2, y2)], by rw [ex, ex2]; rfl, by show 2 ≤ 15; omega, ?_⟩
  have hS6 : S6 p = none := I6.heldS (C := ⟨K, W, S0, H0⟩) hS0 (fun _ z => nomatch z)
  have I7 := I6.reput (C := ⟨K, W, S0, H0⟩) (u := .dK (mergeK [] [(kk, y), (kk2, y2)])) hpm hS6
  refine k p (mergeK [] [(kk, y), (kk2, y2)]) _ S6 _ _ (I7.drop (C := ⟨K, W, S0, H0⟩) hp0) (((((e1.trans e2).trans e3).trans e4).trans e5).trans e6) upd_same hS6 hpm hp0 (fun i s h1 h2 h3 => ?_) (DeKV.merge (.cons (h3.mono ((e4.trans e5).trans e6)) (.cons h6 .nil)) .nil) q5
  have := (I7.priv i s p h1 h2 h3).2
  have this : upd H0 p (.dK (mergeK [] [(kk, y), (kk2, y2)])) p = none := this
  rw [upd_same] at this
  cases this
theorem r2_NotInD : R2Ok K (rNotInD K) fNotInD := by
  rintro S H x y dx dy P Q s hx hy ⟨ds, e, h1, h2, h3, h4, f⟩ k
  have := hy.dp s h2
  rw [e] at this h4
  exact ⟨_, _, hx.dp s h1, this, h3, h4, k _ _ S H (Ext.refl s) (.bl _) f⟩
end
section
variable {st : Ds} {PK : List (Ky × Da) → Ds → Prop} {a b c e : DE}
theorem k_disp2 (q : a st fun x st1 => b st1 fun y st2 => onK (st2.pk x) fun k => fzT y st2 fun d st3 => c st3 fun x2 st4 => e st4 fun y2 st5 => onK (st5.pk x2) fun k2 => fzT y2 st5 fun d2 st6 => PK (mergeG [] [(k, d), (k2, d2)]) st6) : kDisp2 a b c e st PK := q
end
end Q

set_option Elab.async false
set_option linter.all false
set_option maxRecDepth 100000
set_option maxHeartbeats 4000000
namespace Q
open PySem PySem.Spec PyProof.Rows L2
/-! ### len(set(xs)), xs a list of texts -/
def stS (l : List Str) (k : Str) : Bool := l.any fun c => decide (k = c)
theorem stS_at (l : List Str) (c : Str) : stS l c = decide (c ∈ l) := by
  unfold stS
  induction l with
  | nil => rfl
  | cons a r ih =>
    rw [List.any_cons, ih]
    by_cases h : c = a
    · subst h
      rw [decide_eq_true (rfl : c = c), decide_eq_true (List.mem_cons_self)]
      rfl
    · rw [decide_eq_false h, Bool.false_or]
      by_cases h2 : c ∈ r
      · rw [decide_eq_true h2, decide_eq_true (List.mem_cons_of_mem _ h2)]
      · rw [decide_eq_false h2, decide_eq_false]
        intro z
        rcases List.mem_cons.mp z with z | z
        · exact h z
        · exact h2 z
theorem stS_app (l : List Str) (c : Str) (k : Str) : stS (l ++ [c]) k = (stS l k || decide (k = c)) := by
  unfold stS
  rw [List.any_append, List.any_cons, List.any_nil, Bool.or_false]
section
variable {prog : Program} {w : World} {A : Around} {R : Result → Shared → Prop}
theorem set_fillS {I : Addr} {fp wr : List Addr} {G : Array GenState → Array GenState → Prop} {n : Nat} {Pv : Nat → Value → Prop} {St : Nat → Shared → Prop} (xs : List Str) (W : WalksS prog w A.in1 I fp wr G n Pv St) (S : Addr) (hSf : S ∉ fp) (hn : n = xs.length) (hval : ∀ i v, Pv i v → ∃ t, v = .str (xs.getD i Str.empty) t) (hb : n + 1 < scanBound) :
    ∀ (k i : Nat) (s : Shared), n - i = k → i ≤ n → St i s → s.heap.SetOf (PySem.strKind prog w) S (stS (xs.take i)) (dct (xs.take i)) →
      (∀ s', Moved (S :: wr) G s s' → s'.heap.SetOf (PySem.strKind prog w) S (stS xs) (dct xs) → R (.ok (.ret .none)) s') →
      codeAny (model prog w) A (.builtin "set.update.loop" ⟨[.ref S, .ref I], []⟩) R s := by
  have hSw : S ∉ wr := fun h => hSf (W.sub _ h)
  have more : ∀ b ∈ wr, b ∈ S :: wr := fun b hb => List.mem_cons_of_mem _ hb
  have tl : xs.length = n := hn.symm
  intro k
  induction k with
  | zero =>
    intro i s hk hi st hS q
    obtain rfl : i = n := by omega
    refine codeAny_builtin PyProof.Rows.F.entry_set_update_loop ?_
    rw [Around.under_plainId PyProof.Rows.F.plain_set_update_loop _]
    show wpAny _ A.in1 (pyNext (.ref I) >>= _) _ _ s
    refine wpAny_bind (W.done s _ _ st fun s1 m => ?_)
    show wpAny _ A.in1 (ret Value.none) _ _ s1
    refine wpAny_pure (q s1 (m.mono more) ?_)
    rw [List.take_of_length_le (by omega)] at hS
    obtain ⟨o, es, ep, t, ho, z⟩ := hS
    exact ⟨o, es, ep, t, m.heap S _ hSw ho, z⟩
  | succ k ih =>
    intro i s hk hi st hS q
    have hlt : i < n := by omega
    refine codeAny_builtin PyProof.Rows.F.entry_set_update_loop ?_
    rw [Around.under_plainId PyProof.Rows.F.plain_set_update_loop _]
    show wpAny _ A.in1 (pyNext (.ref I) >>= _) _ _ s
    refine wpAny_bind (W.item i s _ _ hlt st fun v s1 hP st1 m => ?_)
    obtain ⟨u, rfl⟩ := hval i v hP
    have hx : xs[i]? = some (xs.getD i Str.empty) := by rw [List.getD_eq_getElem?_getD, List.getElem?_eq_getElem (by omega)]; rfl
    generalize xs.getD i Str.empty = c at *
    have e1 : xs.take (i + 1) = xs.take i ++ [c] := by rw [List.take_add_one, hx]; rfl
    have hS1 : s1.heap.SetOf (PySem.strKind prog w) S (stS (xs.take i)) (dct (xs.take i)) := by
      obtain ⟨o, es, ep, t, ho, z⟩ := hS
      exact ⟨o, es, ep, t, m.heap S _ hSw ho, z⟩
    have hle := dct_le (xs.take i)
    rw [List.length_take] at hle
    show wpAny _ A.in1 (holding [Value.str c u] (setAdd S (.str c u)) >>= _) _ _ s1
    refine wpAny_bind (wpAny_holding ?_)
    unfold setAdd
    refine wpAny_holding (wpAny_bind ((PySem.strKind prog w).pyHash (k := c) (strKind_is _ _ _ _) ?_))
    refine wpAny_setAddHashed_of (knd := PySem.strKind prog w) (s := { s1 with toks := s1.toks + 1 }) (strKind_is _ _ _ _) rfl hS1 (by omega) fun h' sb hS2 => ?_
    have hSi : h'.SetOf (PySem.strKind prog w) S (stS (xs.take (i + 1))) (dct (xs.take (i + 1))) := by
      refine SetOf_congr hS2 (fun k' => ?_) ?_
      · rw [e1, stS_app]
      · rw [e1, dct_app, stS_at]
        by_cases h : c ∈ xs.take i
        · rw [if_pos h, decide_eq_true h]; rfl
        · rw [if_neg h, decide_eq_false h]; rfl
    refine wpAny_pure ⟨plainId_quiet PyProof.Rows.F.plain_set_update_loop _, ih (i + 1) _ (by omega) hlt (W.frame _ s1 _ _ st1 (Nat.le_succ _) fun b hb o e => ?_) hSi fun s2 m2 hS3 => ?_⟩
    · exact (sb.2 b fun z => hSf (z ▸ hb)).trans e
    · refine q s2 (Moved.trans W.gtrans ((m.mono more).then_heap (Nat.le_succ _) fun b o hb e => ?_) m2) hS3
      exact (sb.2 b fun z => hb (z ▸ List.mem_cons_self)).trans e
end
section
variable {prog : Program} {w : World} {A : Around} {E : Value → Shared → Prop} {s : Shared}
set_option maxHeartbeats 6400000 in
theorem call_set_strs {l : Addr} {items : Array Value} {xs : List Str} {Q : Value → Shared → Prop} (hh : A.handled = none) (hl : s.heap.IsList l items) (hi : PyProof.Rows.StrsAre items.toList xs) (hb : xs.length + 1 < scanBound)
    (h : ∀ (h' : Heap) (tk : Nat), h'.SetOf (PySem.strKind prog w) s.heap.objs.size (stS xs) (dct xs) → (∀ b o, b < s.heap.objs.size → s.heap.get? b = some o → h'.get? b = some o) → Q (.ref s.heap.objs.size) { s with heap := h', toks := tk }) :
    wpAny (model prog w) A (call (.type "set") [.ref l]) Q E s := by
  obtain ⟨c, tl, hmro⟩ := PySem.F.called_set.mro
  have hmade := PySem.F.called_set.made
  have hsub := PySem.F.called_set.sub
  refine wpAny_call (codeAny_of_tree ?_)
  show wpAny _ _ (callAny (.type "set") _) _ _ _
  refine wpAny_pure ⟨Code.quiet_builtin _ (by decide +kernel), codeAny_builtin PySem.F.entry_type_call ?_⟩
  rw [Around.under_plain (weight_type_call_type "set" [.ref l] []) rfl]
  have h1 := PySem.F.called_set.notType
  have h2 := PySem.F.called_set.canCreate
  have h3 := PySem.F.typeCall_set_1 (.ref l)
  repeat (any_goals (first | assumption | wp_step))
  refine codeAny_mono (code_set_new_1 (.ref l) (E := E) (Q₁ := fun obj s₁ => ∃ led : Bool, obj = .ref s.heap.objs.size ∧ s₁ = { s with heap := s.heap.push { cls := .type "set", dict := none, data := .set #[] 0 (.fresh 0 0 led) } }) fun led => ⟨led, rfl, rfl⟩) fun r s₁ hr => ?_
  cases r with
  | error e => exact hr
  | ok fl =>
    cases fl with
    | ret obj =>
      obtain ⟨led, rfl, rfl⟩ := hr
      generalize hP : s.heap.push { cls := .type "set", dict := none, data := .set #[] 0 (.fresh 0 0 led) } = hp
      have hS : hp.get? s.heap.objs.size = some { cls := .type "set", dict := none, data := .set #[] 0 (.fresh 0 0 led) } := by rw [← hP]; exact Heap.get?_push_size _ rfl
      have kp : ∀ b o, s.heap.get? b = some o → hp.get? b = some o := fun b o e => by rw [← hP]; exact Heap.get?_push_of_some _ e
      have sz : hp.objs.size = s.heap.objs.size + 1 := by rw [← hP, Heap.size_push]
      have hT : Shared.TypeIs { s with heap := hp } (.ref s.heap.objs.size) "set" := ⟨_, hS, rfl⟩
      have h4 := PySem.F.called_set.init.lookup
      have h5 := PySem.F.called_set.init.bind (.ref s.heap.objs.size)
      repeat (any_goals (first | assumption | wp_step))
      refine codeAny_mono (codeAny_call_builtin (R := wants (fun r s₂ => r = .none ∧ ∃ h' tk, s₂ = { s with heap := h', toks := tk } ∧ h'.SetOf (PySem.strKind prog w) s.heap.objs.size (stS xs) (dct xs) ∧
          (∀ b o, b < s.heap.objs.size → s.heap.get? b = some o → h'.get? b = some o)) E) PySem.F.called_set.init.plain PySem.F.entry_set_init (check_set_init_1 hT ?_)) fun r₂ s₂ hr₂ => ?_
      · obtain ⟨ol, hol, hcl, nl, hdl⟩ := hl
        obtain ⟨ocls, odict, odata, oslots⟩ := ol
        simp only at hcl hdl
        subst hcl; subst hdl
        have hol' : hp.get? l = some { cls := .type "list", dict := odict, data := .seq items nl, slots := oslots } := kp _ _ hol
        have h6 := PySem.F.sub_list_set
        have h7 := PySem.F.sub_list_frozenset
        have hne : (Value.type "list" == Value.type "dict") = false := by decide
        have hl1 : hp.IsList l items := ⟨_, hol', rfl, nl, rfl⟩
        unfold Builtin.«set.__init__» noKeywords Builtin.Frozenset.updateFrom
        generalize hPI : pyIter = PI
        wp_walk
        subst hPI
        refine wpAny_pyIter_list hl1 ?_
        refine wpAny_bind (wpAny_runValue ?_)
        have hlS : l < s.heap.objs.size := Heap.lt_size hol
        have hh3 : A.in1.in1.in1.handled = none := by simp [hh]
        have hneI : l ≠ hp.objs.size := by rw [sz]; exact Nat.ne_of_lt (Nat.lt_succ_of_lt hlS)
        have hSf : s.heap.objs.size ∉ [hp.objs.size, l] := by
          rw [sz]; simp only [List.mem_cons, List.mem_singleton, List.not_mem_nil, or_false, not_or]
          exact ⟨Nat.ne_of_lt (Nat.lt_succ_self _), Nat.ne_of_gt hlS⟩
        have hsz : items.size = xs.length := by rw [← StrsAre.len_eq hi, Array.length_toList]
        have hval : ∀ (i : Nat) (v : Value), items[i]? = some v → ∃ t, v = .str (xs.getD i Str.empty) t := fun i v hv => SS.strs_at hi i v (by rw [Array.getElem?_toList]; exact hv)
        refine set_fillS xs ((Walks.list hh3 _ l hneI items).toS) s.heap.objs.size hSf hsz hval (by rw [hsz]; exact hb) (items.size - 0) 0 _ rfl (Nat.zero_le _)
          ⟨⟨_, Heap.get?_push_size _ rfl, rfl, rfl⟩, (hl1.push _)⟩ ?hS0 ?hR
        case hS0 =>
          have e0 : (hp.push { cls := .type "list_iterator", data := .fields #[.ref l, .int 0 0] }).get? s.heap.objs.size = some { cls := .type "set", dict := none, data := .set #[] 0 (.fresh 0 0 led) } := Heap.get?_push_of_some _ hS
          exact PyProof.Rows.SetOf_congr ((PyProof.Rows.setObjOf_fresh (knd := PySem.strKind prog w) led).setOf e0 (by unfold scanBound; omega)) (fun _ => rfl) rfl
        case hR =>
          intro s' hm hS'
          obtain ⟨h', g', d', tk', os'⟩ := s'
          have e1 : g' = s.gens := hm.gens
          have e2 : d' = s.drawn := hm.drawn
          have e3 : os' = s.os := hm.os
          subst e1; subst e2; subst e3
          show wpAny _ _ _ _ _ _
          refine wpAny_pure ?_
          show wpAny _ _ (ret Value.none) _ _ _
          refine wpAny_pure ⟨rfl, h', tk', rfl, hS', fun b ob hb' e => ?_⟩
          refine hm.heap b ob ?_ (Heap.get?_push_of_some _ (kp _ _ e))
          simp only [List.mem_cons, List.not_mem_nil, or_false, not_or]
          refine ⟨Nat.ne_of_lt hb', ?_⟩
          rw [sz]
          exact Nat.ne_of_lt (Nat.lt_succ_of_lt hb')
      · cases r₂ with
        | error e => exact hr₂
        | ok fl₂ =>
          cases fl₂ with
          | ret r =>
            obtain ⟨rfl, h', tk, rfl, hS', hk'⟩ := hr₂
            repeat (any_goals (first | assumption | wp_step))
            exact h _ _ hS' hk'
          | _ => exact hr₂.elim
    | _ => exact hr.elim
end
/-- len(set(e)), e a list of texts -/
def tLenSetL (K : PySem.W.Frag) (te : TE) : TE := fun σ H Q => te σ H fun v H1 => ∃ (l : Addr) (xs : List Str), v = .ref l ∧ SqL K H1 l (xs.map V.str) ∧ xs.length ≤ 4000 ∧ Q (.int (dct xs : Nat)) H1
theorem pe_lenSetL {X : Cx} {e : Expr} {te : TE} {p p2 pos pos2 : Pos} (hg : Gl X "len") (hm : X.mg "len" = none) (hg2 : Gl X "set") (hm2 : X.mg "set" = none) (hc : X.calm = true) (he : PE X e te)
    (hs : starEach [e] X.env = [(false, eval e X.env)] := by rfl)
    (hs2 : starEach [.Call (.Name "set" p2) [e] [] pos2] X.env = [(false, eval (.Call (.Name "set" p2) [e] [] pos2) X.env)] := by rfl) :
    PE X (.Call (.Name "len" p) [.Call (.Name "set" p2) [e] [] pos2] [] pos) (tLenSetL X.K te) := by
  refine ⟨fun pins s σ H Q I h => ?_⟩
  refine Call_ (ld_blt I hg hm boot_len (PyProof.Rows.callWith_builtin1 ?_ hs2 rfl))
  show wpAny _ _ (spliced ((false, eval (.Call (.Name "set" p2) [e] [] pos2) X.env) :: [])) _ _ s
  refine Calls.spliced_cons (Call_ (ld_blt I hg2 hm2 boot_setT (PyProof.Rows.callWith_type1 ?_ hs rfl)))
  rw [hs]
  show wpAny _ _ (spliced ((false, eval e X.env) :: [])) _ _ s
  refine Calls.spliced_cons (thn (he.run pins s σ H _ I h) fun u s1 ⟨v, H1, I1, r1, l, xs, ev, hq, hl, q⟩ => Calls.spliced_nil ?_)
  subst ev
  cases r1
  obtain ⟨its, r, pl, hz⟩ := I1.list hq
  have hsb : xs.length + 1 < scanBound := by unfold scanBound; omega
  refine call_set_strs (I1.ok.hd hc) pl.isList (by simpa using strsAre_of r) hsb fun h' tk hS hk => ?_
  refine Calls.spliced_nil ?_
  obtain ⟨o, es, ep, t2, ho, hex, hd, hel, hmem, hb, hf, hn⟩ := hS
  refine call_len_set ho hex hd hf ?_ ?_
  · have := dct_le xs
    omega
  · have I2 : Inv X pins σ H1 { s1 with heap := h', toks := tk } := I1.kept (t' := tk) fun b u e => hk b u (Heap.lt_size e) e
    rw [hn]
    exact ⟨.int _, H1, I2.tok _, ⟨_, rfl⟩, q⟩
end Q

set_option Elab.async false
set_option linter.all false
set_option maxRecDepth 100000
set_option maxHeartbeats 4000000
namespace Q
open PySem PySem.Spec PyProof.Rows L2
section
variable {K : PySem.W.Frag} {W : Wo}
/-! ### len(set(xs)) of texts, xs[::-1] -/
def eLenSetL (a : DE) : DE := fun st P => a st fun x st1 => onL (st1.pk x).asL fun ds => ∃ zs : List Str, ds = zs.map Da.str ∧ zs.length ≤ 4000 ∧ P (.int (dct zs : Nat)) st1
theorem se_lenSetL {t : TE} {a : DE} (h : SE K W t a) : SE K W (tLenSetL K t) (eLenSetL a) := by
  intro S0 H0 S H σ st P Q I he k
  refine h S0 H0 S H σ st _ _ I he fun v d S1 H1 st1 I1 e1 r1 q1 => ?_
  have hp := pk_ok I1 r1
  obtain ⟨ds, hl, zs, rfl, hz, q1⟩ := onL_inv q1
  obtain ⟨l, xs, rfl, z1, z2⟩ := hp.asL hl I1.sub
  rw [z2.strs] at z1
  exact ⟨l, zs, rfl, z1, hz, k _ _ S1 H1 st1 I1 e1 (.inr (.int _)) q1⟩
def eRevL (e : DE) : DA := fun st P => e st fun x st1 => onL (st1.pk x).asL fun ds => P ds.reverse st1
theorem sn_revL {te : TE} {e : DE} (h : SE K W te e) : SN K W (tRevL K te) (eRevL e) := by
  intro S0 H0 S H σ st P Q I he k
  refine h S0 H0 S H σ st _ _ I he fun x dx S1 H1 st1 I1 e1 r1 q1 => ?_
  have hp := pk_ok I1 r1
  obtain ⟨ds, hl, q1⟩ := onL_inv q1
  obtain ⟨a, xs, rfl, z1, z2⟩ := hp.asL hl I1.sub
  exact ⟨a, xs, rfl, z1, fun p hp => k p _ _ S1 _ st1 (I1.alloc hp) e1 upd_same (I1.sn hp) (I1.nm hp) (I1.h0 hp) (I1.nown hp) z2.reverse q1⟩
end
section
variable {st : Ds} {P : Da → Ds → Prop} {PA : List Da → Ds → Prop} {a e : DE} {d d' : Da} {ds : List Da}
theorem k_lenSetL (q : a st fun x st1 => onL (st1.pk x).asL fun ds => ∃ zs : List Str, ds = zs.map Da.str ∧ zs.length ≤ 4000 ∧ P (.int (dct zs : Nat)) st1) : eLenSetL a st P := q
theorem k_revL (q : e st fun x st1 => onL (st1.pk x).asL fun ds => PA ds.reverse st1) : eRevL e st PA := q
theorem k_pkL {T : List Da → Prop} (h : st.pk d = d') (hs : d'.asL = some ds) (q : T ds) : onL (st.pk d).asL T := by rw [h, hs]; exact q
end
end Q

set_option Elab.async false
set_option linter.all false
set_option maxRecDepth 100000
set_option maxHeartbeats 4000000
namespace Q
open PySem PySem.Spec PyProof.Rows L2
/-! ### exceptions: X nm d, what is raised (a class's name, its value) -/
abbrev XD := Str → Da → Prop
abbrev FX := List Da → (Da → Prop) → XD → Prop
/-- a promise with exceptions -/
def spX (K : PySem.W.Frag) (f : FX) : Sp := fun vs H Q E => ∃ (S : Hp) (ds : List Da) (P : Da → Prop) (X : XD), Same S H ∧ DeAll K S vs ds ∧ f ds P X ∧ (∀ v d S' H', P d → Ext S H S' H' → De K S' v d → Q v H') ∧
  ∀ (nm : Str) v d q S' H', X nm d → Ext S H S' H' → De K S' v d → H' q = none → E (.ref (He.ga K nm)) (some q) (upd H' q (.xd [("value", v)]))
def XOk (K : PySem.W.Frag) (W : Wo) (S0 H0 : Hp) (E : XK) (X : XD) : Prop := ∀ S H σ st nm v d q, Ok ⟨K, W, S0, H0⟩ S H σ st → De K S v d → X nm d → H q = none → E (.ref (He.ga K nm)) (some q) (upd H q (.xd [("value", v)]))
def SSX (K : PySem.W.Frag) (W : Wo) (E : XK) (X : XD) (t : TS) (c : DC) : Prop := ∀ (S0 H0 S H : Hp) (σ : L2.St) (st : Ds) (D : DD) (Ee : Ends), Ok ⟨K, W, S0, H0⟩ S H σ st → c D st → EndOk K W S0 H0 D Ee → XOk K W S0 H0 E X → t Ee σ H
section
variable {K : PySem.W.Frag} {W : Wo} {E : XK} {X : XD} {t u : TS} {c cu : DC}
theorem ssx_of (h : SS K W t c) : SSX K W E X t c := fun S0 H0 S H σ st D Ee I he k _ => h S0 H0 S H σ st D Ee I he k
theorem ssx_seq (h : SSX K W E X t c) (hu : SSX K W E X u cu) : SSX K W E X (tSeq t u) (cSeq c cu) := fun S0 H0 S H σ st D Ee I he k x =>
  h S0 H0 S H σ st _ _ I he ⟨fun S H σ st I q => hu S0 H0 S H σ st D Ee I q k x, k.rt, k.bk, k.ct⟩ x
theorem ssx_if {tc : TT} {ec : DT} (hc : ST K W tc ec) (h : SSX K W E X t c) (hu : SSX K W E X u cu) : SSX K W E X (tIfS tc t u) (cIf ec c cu) := by
  intro S0 H0 S H σ st D Ee I he k x
  refine hc S0 H0 S H σ st _ _ I he fun b S1 H1 st1 I1 e1 q1 => ?_
  cases b
  · exact hu S0 H0 S1 H1 σ st1 D Ee I1 q1 k x
  · exact h S0 H0 S1 H1 σ st1 D Ee I1 q1 k x
theorem ssx_for {js : List Nat} {wi : TI} {di : DI} {g : TG} {dg : DG} (hi : SI K W wi di) (hg : SG K W js g dg) (h : SSX K W E X t c) : SSX K W E X (tFor wi g t) (cFor di dg c) := by
  intro S0 H0 S H σ st D Ee I he k x
  refine hi S0 H0 S H σ st _ _ I he fun J S1 H1 st1 items I1 e1 hJ q1 => ?_
  refine ⟨fun i m σ H => ∃ S st, Ok ⟨K, W, S0, H0⟩ S H σ st ∧ Same S1 S ∧ i ≤ items.length ∧ m = items.length - i ∧ forGo dg c D (items.drop i) st, ⟨_, S1, st1, I1, Same.refl S1, Nat.zero_le _, rfl, q1⟩, ?_⟩
  rintro i m σ H ⟨S, st, I, e, hi, rfl, q⟩
  obtain ⟨hs, hgo⟩ := hJ i S H e I.sub
  by_cases hl : i < items.length
  · right
    have hx : items[i]? = some items[i] := List.getElem?_eq_getElem hl
    obtain ⟨hg1, hy⟩ := hgo _ hx
    rw [List.drop_eq_getElem_cons hl] at q
    refine ⟨hg1, fun σ' H' => ∃ S' st', Ok ⟨K, W, S0, H0⟩ S' H' σ' st' ∧ Same S1 S' ∧ forGo dg c D (items.drop (i + 1)) st', ?_, fun x' H' hyl => ?_⟩
    · rintro σ' H' ⟨S', st', I', e', q'⟩
      exact ⟨_, by omega, S', st', I', e', by omega, rfl, q'⟩
    · obtain ⟨S2, ex, hd⟩ := hy x' H' hyl
      have I2 := I.ext ex
      refine hg S0 H0 S2 H' σ st x' _ _ _ I2 (.inr hd) q fun S3 H3 σ3 st3 I3 e3 k3 q3 => ?_
      have h13 : Same S1 S3 := (e.trans ex.s).trans e3
      have h01 : Same S0 S1 := I1.le
      have up : ∀ {S H σ st}, Ok ⟨K, W, S1, H0⟩ S H σ st → Ok ⟨K, W, S0, H0⟩ S H σ st := fun I => I.down h01 I1.new
      refine h S1 H0 S3 H3 σ3 st3 _ _ (I3.up h01 h13) q3 ⟨fun S H σ st I q => ⟨S, st, up I, I.le, q⟩, fun S H σ st v d I => k.rt _ _ _ _ _ _ (up I), fun S H σ st I => k.nx _ _ _ _ (up I), fun S H σ st I q => ⟨S, st, up I, I.le, q⟩⟩ fun S H σ st nm v d q I => x S H σ st nm v d q (up I)
  · left
    have hi' : i = items.length := by omega
    rw [List.drop_eq_nil_of_le (by omega)] at q
    refine ⟨?_, k.nx _ _ _ _ I q⟩
    rw [hi']
    exact hs (by omega)
/-- raise BadX(e) -/
def cRaise (X : XD) (nm : Str) (e : DE) : DC := fun D st => e st fun d st1 => fzT d st1 fun d' _ => X nm d'
theorem ssx_raise {nm : Str} {te : TE} {e : DE} (h : SE K W te e) : SSX K W E X (tRaise (He.ga K nm) te (XW E)) (cRaise X nm e) := by
  intro S0 H0 S H σ st D Ee I he k x
  show te σ H fun v H1 => tMkO (He.ga K nm) (spI (He.ga K nm)) [] (tCons (fun _ H Q => Q v H) tNil) σ H1 fun cls d H' => XW E cls d σ H'
  refine h S0 H0 S H σ st _ _ I he fun v d S1 H1 st1 I1 e1 r1 q1 => ?_
  obtain ⟨S2, e2, I2, h2⟩ := fz_ok I1 r1
  exact w_bad (fun Q q => q) fun dx hdx => x _ _ _ _ nm v _ dx I2 h2 q1 hdx
/-- a call that may raise, as a statement -/
def CallX (K : PySem.W.Frag) (sp : Sp) (f : FX) : Prop := ∀ vs H Q E, spX K f vs H Q E → sp vs H Q E
theorem callX_n {f : FX} {n : Nat} (hl : ∀ ds P X, f ds P X → ds.length = n) : CallX K (fun vs H Q E => vs.length = n ∧ spX K f vs H Q E) f := by
  intro vs H Q E h
  refine ⟨?_, h⟩
  obtain ⟨S, ds, P, X, s, hd, hf, _⟩ := h
  rw [hd.length]
  exact hl _ _ _ hf
def FX.ok (f : FX) : FP := fun ds P => f ds P fun _ _ => False
theorem callOk_x {sp : Sp} {f : FX} (h : CallX K sp f) : CallOk K W sp [] E (FP.d (FX.ok f)) := by
  rintro vs H Q ⟨S, ds, n, P, s, hm, hr, hd, hf, k⟩
  rw [List.append_nil]
  refine h _ _ _ _ ⟨S, ds, fun d => P d n, fun _ _ => False, s, hd, hf, fun v d S' H' hP ex hv => ?_, fun nm v d q S' H' hX => hX.elim⟩
  refine k v d n S' H' hP (ExtM.of ex) (W.keep _ _ _ hr fun b m => ?_) hv
  obtain ⟨o, ho⟩ := W.trk _ _ hr b m
  rw [ho, ex.h _ _ ho]
def cDropX (X : XD) (f : FX) (α : DA) : DC := fun D st => α st fun ds st1 => f (st1.fzs ds).1 (fun _ => D.nx (st1.fzs ds).2) X
theorem ssx_dropX {sp : Sp} {f : FX} {A : TA} {α : DA} (h : CallX K sp f) (hA : SA K W A α) : SSX K W E X (tDrop (tCall sp [] E A)) (cDropX X f α) := by
  intro S0 H0 S H σ st D Ee I he k x
  refine hA S0 H0 S H σ st _ _ I he fun xs ds S1 H1 st1 I1 e1 r1 q1 => ?_
  obtain ⟨S2, e2, I2, hd⟩ := fzs_ok I1 r1
  show sp (xs ++ []) H1 _ E
  rw [List.append_nil]
  exact h _ _ _ _ ⟨S2, _, _, _, I2.sub, hd, q1, fun v d S' H' hP ex hv => k.nx _ _ _ _ (I2.ext ex) hP, fun nm v d q S' H' hX ex hv hq => x _ _ _ _ nm v d q (I2.ext ex) hv hX hq⟩
def cRetX (X : XD) (f : FX) (α : DA) : DC := fun D st => α st fun ds st1 => f (st1.fzs ds).1 (fun d => D.rt d (st1.fzs ds).2) X
theorem ssx_retX {sp : Sp} {f : FX} {A : TA} {α : DA} (h : CallX K sp f) (hA : SA K W A α) : SSX K W E X (tRet (tCall sp [] E A)) (cRetX X f α) := by
  intro S0 H0 S H σ st D Ee I he k x
  refine hA S0 H0 S H σ st _ _ I he fun xs ds S1 H1 st1 I1 e1 r1 q1 => ?_
  obtain ⟨S2, e2, I2, hd⟩ := fzs_ok I1 r1
  show sp (xs ++ []) H1 _ E
  rw [List.append_nil]
  exact h _ _ _ _ ⟨S2, _, _, _, I2.sub, hd, q1, fun v d S' H' hP ex hv => k.rt _ _ _ _ _ _ (I2.ext ex) hv hP, fun nm v d q S' H' hX ex hv hq => x _ _ _ _ nm v d q (I2.ext ex) hv hX hq⟩
/-- a def's walk -/
theorem fn_pureX {f : FX} {N : List Str} {vs : List V} {H : Hp} {Q : VK} {t : TS} {c : XD → DC} (hs : ∀ X, SSX K W0 E X t (c X)) (h : ∀ ds P X, f ds P X → c X ⟨fun st => P .non, fun d st => P d, fun _ => False, fun _ => False⟩ ⟨δ0 N.length ds, 0⟩) (hp : spX K f vs H Q E) : t { nx := fun _ H' => Q .non H', rt := Q } (L2.start N vs) H := by
  obtain ⟨S, ds, P, X, s, hd, hf, k, kx⟩ := hp
  have ex : ∀ {S' H' σ st}, Ok ⟨K, W0, S, H⟩ S' H' σ st → Ext S H S' H' := fun I => ⟨I.le, I.sub, I.fr.same, fun b o e => I.new b o e⟩
  exact hs X S H S H _ _ _ _ (ok_start s (fun b m => nomatch m) True.intro hd) (h ds P X hf) ⟨fun S' H' σ st I q => k _ _ S' H' q (ex I) .non, fun S' H' σ st v d I hv q => k _ _ S' H' q (ex I) hv, fun _ _ _ _ _ q => q.elim, fun _ _ _ _ _ q => q.elim⟩ fun S' H' σ st nm v d q I hv hX hq => kx nm v d q S' H' hX (ex I) hv hq
end
section
variable {st : Ds} {D : DD} {X : XD} {nm : Str} {e : DE} {f : FX} {α : DA}
theorem s_raise (q : e st fun d st1 => fzT d st1 fun d' _ => X nm d') : cRaise X nm e D st := q
theorem s_dropX (q : α st fun ds st1 => f (st1.fzs ds).1 (fun _ => D.nx (st1.fzs ds).2) X) : cDropX X f α D st := q
theorem s_retX (q : α st fun ds st1 => f (st1.fzs ds).1 (fun d => D.rt d (st1.fzs ds).2) X) : cRetX X f α D st := q
end
end Q

set_option Elab.async false
set_option linter.all false
set_option maxRecDepth 100000
set_option maxHeartbeats 4000000
namespace Q
open PySem PySem.Spec PyProof.Rows L2
/-! ### what E3 and E7 hold of texts of one sign (for laws of the other draws; never beside E3) -/
/-- one of a list's items -/
theorem at_one {l : List Da} {r : Int} (h0 : 0 ≤ r) (h1 : r < l.length) : ∃ d, atI l r = some d ∧ l[r.toNat]? = some d := by
  obtain ⟨j, rfl⟩ : ∃ j : Nat, r = (j : Int) := ⟨r.toNat, by omega⟩
  have hl : j < l.length := by omega
  exact ⟨l[j], atI_nat (List.getElem?_eq_getElem hl), List.getElem?_eq_getElem hl⟩
/-- texts of one sign -/
def chD (ys : List Nat) : List Da := ys.map fun c => .str (S1 c)
theorem chD_len (ys : List Nat) : (chD ys).length = ys.length := List.length_map _
theorem chD_get {ys : List Nat} {i : Nat} {c : Nat} (h : ys[i]? = some c) : (chD ys)[i]? = some (.str (S1 c)) := by unfold chD; rw [List.getElem?_map, h]; rfl
theorem sgD_abc : sgD ("abcdef" : Str) = chD [97, 98, 99, 100, 101, 102] := by
  unfold sgD
  rw [abc_tl]
  rfl
theorem perm_erase {α : Type} : ∀ {l : List α} {i : Nat} (h : i < l.length), (l[i] :: l.eraseIdx i).Perm l
  | a :: l, 0, _ => List.Perm.refl _
  | a :: l, i + 1, h => by
    show (l[i]'(Nat.lt_of_succ_lt_succ h) :: a :: l.eraseIdx i).Perm (a :: l)
    exact (List.Perm.swap _ _ _).trans ((perm_erase _).cons a)
theorem map_erase {α β : Type} {f : α → β} : ∀ (l : List α) (n : Nat), (l.map f).eraseIdx n = (l.eraseIdx n).map f
  | [], _ => rfl
  | _ :: _, 0 => rfl
  | a :: l, n + 1 => by
    show f a :: (l.map f).eraseIdx n = f a :: (l.eraseIdx n).map f
    rw [map_erase l n]
/-- another colour -/
def oth (a : Nat) : Da → Bool := fun d => match d with
  | .str z => !decide (z = S1 a)
  | _ => false
theorem S1_inj {a b : Nat} : (S1 a = S1 b) ↔ a = b := ⟨fun e => by have := congrArg TL.tl e; injection this, fun e => by rw [e]⟩
theorem oth_S1 {a b : Nat} : oth a (.str (S1 b)) = (b != a) := by
  show (!decide (S1 b = S1 a)) = (b != a)
  by_cases h : b = a
  · rw [decide_eq_true (S1_inj.mpr h), h]; simp
  · rw [decide_eq_false (fun e => h (S1_inj.mp e))]; simp [h]
theorem oth_filter {ys : List Nat} {a : Nat} : ((chD ys).filter (oth a)).map (fun d => d) = chD (ys.filter (· != a)) := by
  rw [List.map_id']
  unfold chD
  rw [List.filter_map]
  congr 1
  refine List.filter_congr fun b _ => ?_
  exact oth_S1
theorem oth_len {ys : List Nat} {a : Nat} (h : ys.Nodup) (ha : a ∈ ys) : (ys.filter (· != a)).length + 1 = ys.length := by
  rw [← h.erase_eq_filter, List.length_erase_of_mem ha]
  have := List.length_pos_of_mem ha
  omega
theorem ch_at {ys : List Nat} {r : Int} (h0 : 0 ≤ r) (h1 : r < ys.length) : ∃ c, atI (chD ys) r = some (.str (S1 c)) ∧ c ∈ ys := by
  obtain ⟨d, e1, e2⟩ := at_one (l := chD ys) h0 (by rw [chD_len]; exact h1)
  have hl : r.toNat < ys.length := by omega
  rw [chD_get (List.getElem?_eq_getElem hl)] at e2
  cases e2
  exact ⟨_, e1, List.getElem_mem hl⟩
theorem lc_oth {i j : Nat} {st : Ds} {a : Nat} {l : List Nat} {P : List Da → Ds → Prop} (hij : i ≠ j) (hj : j < st.δ.length) (hi : st.δ[i]? = some (.dat (.str (S1 a)))) (hl : l.length ≤ 1000) (q : P (chD (l.filter (· != a))) (st.wp [j])) :
    lcGo (dName j) (bE (eOp fNe (eVar j) (eVar i))) (eVar j) [j] P (chD l) [] st := by
  refine lc_map (oth a) (fun d => d) (by rw [chD_len]; omega) (fun n x acc R hx hacc hR => ?_) (by rw [oth_filter]; exact q)
  obtain ⟨c, hc, rfl⟩ := map_get (f := fun c => Da.str (S1 c)) hx
  refine g_nm (fz_stl rfl) ?_
  have gj : (Ds.put (st.wp [j]) j (.dat (.str (S1 c)))).δ[j]? = some (.dat (.str (S1 c))) := List.getElem?_set_self (by rw [wp_len]; exact hj)
  have gi : (Ds.put (st.wp [j]) j (.dat (.str (S1 c)))).δ[i]? = some (.dat (.str (S1 a))) := by
    show ((st.δ.set j .un).set j _)[i]? = _
    rw [List.getElem?_set_ne (Ne.symm hij), List.getElem?_set_ne (Ne.symm hij)]
    exact hi
  refine k_bE (k_op (k_var gj (k_var gi (k_pk2 (pk_stl rfl) (pk_stl rfl) (k_Ne rfl (k_bl rfl ?_))))))
  have hw : (Ds.put (st.wp [j]) j (.dat (.str (S1 c)))).wp [j] = st.wp [j] := by
    show (⟨((st.δ.set j .un).set j _).set j .un, st.n⟩ : Ds) = ⟨st.δ.set j .un, st.n⟩
    rw [List.set_set, List.set_set]
  have hR := hR _ hw
  have ho : oth a (.str (S1 c)) = !decide (S1 c = S1 a) := rfl
  rw [ho] at hR
  cases hd : (!decide (S1 c = S1 a)) with
  | false =>
    rw [hd, if_neg Bool.false_ne_true] at hR
    rw [if_neg Bool.false_ne_true]
    exact hR
  | true =>
    rw [hd, if_pos rfl] at hR
    rw [if_pos rfl]
    exact k_var gj ⟨hacc, s_fz (fz_stl rfl) hR⟩
theorem abc_oth {a : Nat} (h : isColN a = true) : ([97, 98, 99, 100, 101, 102].filter (· != a)).length = 5 := by
  rcases col6 h with rfl | rfl | rfl | rfl | rfl | rfl <;> rfl
theorem abc_in {c : Nat} (h : c ∈ [97, 98, 99, 100, 101, 102]) : isColN c = true := by
  rw [isColN_iff]
  simp only [List.mem_cons, List.not_mem_nil, or_false] at h
  omega
theorem sgD_sN (l : List Nat) : sgD (sN l) = chD l := rfl
theorem at_ch {l : List Nat} {i x : Nat} (h : l[i]? = some x) : atI (chD l) ((i : Nat) : Int) = some (.str (S1 x)) := atI_nat (chD_get h)
theorem chD_set (l : List Nat) (i x : Nat) : (chD l).set i (.str (S1 x)) = chD (l.set i x) := by
  unfold chD
  rw [List.map_set]
theorem sumS1 : ∀ l : List Nat, ((l.map S1).map (·.length)).sum = l.length
  | [] => rfl
  | a :: l => by
    show 1 + ((l.map S1).map (·.length)).sum = l.length + 1
    rw [sumS1 l]
    omega
end Q

set_option Elab.async false
set_option linter.all false
set_option maxRecDepth 100000
set_option maxHeartbeats 4000000
namespace Q
open PySem PySem.Spec PyProof.Rows L2
/-! ### plans of calls to the foremost person (plain) -/
def one (o c : Nat) : Cal := (.num 1, S1 o, S1 c)
/-- the foremost o becomes c -/
def chg (o c : Nat) : List Nat → List Nat
  | [] => []
  | x :: r => if x = o then c :: r else x :: chg o c r
theorem chg_get {o c : Nat} : ∀ (l : List Nat) (i : Nat), (chg o c l)[i]? = l[i]?.map fun x => if x = o ∧ (l.take i).count o = 0 then c else x
  | [], i => rfl
  | x :: r, 0 => by
    show (if x = o then c :: r else x :: chg o c r)[0]? = some (if x = o ∧ ((x :: r).take 0).count o = 0 then c else x)
    by_cases h : x = o
    · rw [if_pos h, if_pos (show x = o ∧ ((x :: r).take 0).count o = 0 from ⟨h, rfl⟩)]; rfl
    · rw [if_neg h, if_neg (show ¬ (x = o ∧ ((x :: r).take 0).count o = 0) from fun q => h q.1)]; rfl
  | x :: r, i + 1 => by
    show (if x = o then c :: r else x :: chg o c r)[i + 1]? = r[i]?.map fun y => if y = o ∧ ((x :: r).take (i + 1)).count o = 0 then c else y
    rw [List.take_succ_cons]
    by_cases h : x = o
    · rw [if_pos h]
      show r[i]? = _
      cases hy : r[i]? with
      | none => rfl
      | some y =>
        show some y = some (if y = o ∧ (x :: r.take i).count o = 0 then c else y)
        rw [if_neg]
        rintro ⟨_, q⟩
        rw [h, List.count_cons_self] at q
        omega
    · rw [if_neg h]
      show (chg o c r)[i]? = _
      rw [chg_get r i, List.count_cons_of_ne h]
theorem nxt_one {o c : Nat} {k x : Nat} : nxt (one o c) (k : Nat) x = if x = o ∧ k = 0 then c else x := by
  show (if x = o ∧ ((k : Nat) : Int) + 1 = 1 then c else x) = _
  by_cases h : x = o ∧ k = 0
  · rw [if_pos h, if_pos ⟨h.1, by omega⟩]
  · rw [if_neg h, if_neg (fun q => h ⟨q.1, by omega⟩)]
theorem runS_one (o c : Nat) (l : List Nat) : runS (one o c) l = chg o c l := by
  refine List.ext_getElem? fun i => ?_
  rw [runS_get, chg_get]
  cases l[i]? with
  | none => rfl
  | some x =>
    show some (nxt (one o c) ((l.take i).count o : Nat) x) = some (if x = o ∧ (l.take i).count o = 0 then c else x)
    rw [nxt_one]
def rc (o c : Nat) (u : List Nat) : List Nat := u.map fun x => if x = o then c else x
theorem chg_append {o c : Nat} : ∀ {u : List Nat} (v : List Nat), o ∈ u → chg o c (u ++ v) = chg o c u ++ v
  | [], v, h => nomatch h
  | x :: r, v, h => by
    show (if x = o then c :: (r ++ v) else x :: chg o c (r ++ v)) = (if x = o then c :: r else x :: chg o c r) ++ v
    by_cases e : x = o
    · rw [if_pos e, if_pos e]; rfl
    · rw [if_neg e, if_neg e, chg_append v (by
        rcases List.mem_cons.mp h with h | h
        · exact absurd h.symm e
        · exact h)]
      rfl
theorem chg_count {o c : Nat} (hoc : o ≠ c) : ∀ {u : List Nat}, o ∈ u → (chg o c u).count o + 1 = u.count o
  | [], h => nomatch h
  | x :: r, h => by
    show (if x = o then c :: r else x :: chg o c r).count o + 1 = _
    by_cases e : x = o
    · rw [if_pos e, List.count_cons_of_ne (Ne.symm hoc), e, List.count_cons_self]
    · rw [if_neg e, List.count_cons_of_ne e, List.count_cons_of_ne e, chg_count hoc (by
        rcases List.mem_cons.mp h with h | h
        · exact absurd h.symm e
        · exact h)]
theorem rc_chg {o c : Nat} (hoc : o ≠ c) : ∀ u : List Nat, rc o c (chg o c u) = rc o c u
  | [] => rfl
  | x :: r => by
    show rc o c (if x = o then c :: r else x :: chg o c r) = (if x = o then c else x) :: rc o c r
    by_cases e : x = o
    · rw [if_pos e, if_pos e]
      show (if c = o then c else c) :: rc o c r = _
      rw [if_neg (Ne.symm hoc)]
    · rw [if_neg e, if_neg e]
      show (if x = o then c else x) :: rc o c (chg o c r) = _
      rw [if_neg e, rc_chg hoc r]
theorem rc_none {o c : Nat} {u : List Nat} (h : u.count o = 0) : rc o c u = u := by
  have hn := List.count_eq_zero.mp h
  unfold rc
  rw [List.map_congr_left (g := fun x => x) (fun x m => if_neg (fun e => hn (by rw [← e]; exact m)))]
  exact List.map_id' u
/-- so many calls recolour all of a first part -/
theorem run_ones {o c : Nat} (hoc : o ≠ c) (v : List Nat) : ∀ (k : Nat) (u : List Nat), u.count o = k → runC (List.replicate k (one o c)) (u ++ v) = rc o c u ++ v
  | 0, u, h => by rw [rc_none h]; rfl
  | k + 1, u, h => by
    have hm : o ∈ u := List.count_pos_iff.mp (by omega)
    show runC (List.replicate k (one o c)) (runS (one o c) (u ++ v)) = _
    rw [runS_one, chg_append v hm, run_ones hoc v k (chg o c u) (by have := chg_count hoc hm; omega), rc_chg hoc]
theorem runC_append (a b : List Cal) (l : List Nat) : runC (a ++ b) l = runC b (runC a l) := by
  unfold runC
  rw [List.foldl_append]
/-- from the back, each change of colour recolours all people ahead -/
def planT (w : List Nat) : Nat → Nat → Nat → List Cal
  | 0, _, _ => []
  | p + 1, c, o => if w[p]? = w[p + 1]? then planT w p c o else List.replicate (p + 1) (one c o) ++ planT w p o c
theorem rc_rep {o c : Nat} (k : Nat) : rc o c (List.replicate k o) = List.replicate k c := by
  unfold rc
  rw [List.map_replicate, if_pos rfl]
theorem planT_run {w : List Nat} : ∀ (p : Nat) (c o : Nat), c ≠ o → (∀ x ∈ w, x = c ∨ x = o) → w[p]? = some c → runC (planT w p c o) (List.replicate (p + 1) c ++ w.drop (p + 1)) = w
  | 0, c, o, hco, hw, hp => by
    show [c] ++ w.drop 1 = w
    cases w with
    | nil => cases hp
    | cons x r => cases hp; rfl
  | p + 1, c, o, hco, hw, hp => by
    have hl := (List.getElem?_eq_some_iff.mp hp).1
    have ed : c :: w.drop (p + 2) = w.drop (p + 1) := by
      rw [List.drop_eq_getElem_cons hl]
      congr 1
      exact ((List.getElem?_eq_some_iff.mp hp).2).symm
    have er : List.replicate (p + 2) c ++ w.drop (p + 2) = List.replicate (p + 1) c ++ w.drop (p + 1) := by
      rw [List.replicate_succ', List.append_assoc, List.singleton_append, ed]
    have hlp : p < w.length := by omega
    have hwp : w[p]? = some w[p] := List.getElem?_eq_getElem hlp
    unfold planT
    rw [er]
    by_cases h : w[p]? = w[p + 1]?
    · rw [if_pos h]
      exact planT_run p c o hco hw (by rw [h, hp])
    · rw [if_neg h, runC_append, run_ones hco (w.drop (p + 1)) (p + 1) (List.replicate (p + 1) c) (by rw [List.count_replicate_self]), rc_rep]
      refine planT_run p o c (Ne.symm hco) (fun x m => (hw x m).symm) ?_
      rcases hw w[p] (List.getElem_mem hlp) with e | e
      · exact absurd (by rw [hwp, hp, e]) h
      · rw [hwp, e]
/-- the sum of the positions at which the goal changes colour -/
def posSum (w : List Nat) : Nat → Nat
  | 0 => 0
  | p + 1 => (if w[p]? = w[p + 1]? then 0 else p + 1) + posSum w p
theorem planT_len {w : List Nat} : ∀ (p c o : Nat), (planT w p c o).length = posSum w p
  | 0, c, o => rfl
  | p + 1, c, o => by
    unfold planT posSum
    by_cases h : w[p]? = w[p + 1]?
    · rw [if_pos h, if_pos h, planT_len p c o, Nat.zero_add]
    · rw [if_neg h, if_neg h, List.length_append, List.length_replicate, planT_len p o c]
theorem posSum_le {w : List Nat} : ∀ p : Nat, 2 * posSum w p ≤ p * (p + 1)
  | 0 => Nat.le_refl _
  | p + 1 => by
    have ih := posSum_le (w := w) p
    unfold posSum
    have e : (p + 1) * (p + 1 + 1) = p * (p + 1) + 2 * (p + 1) := by
      rw [Nat.mul_comm (p + 1) (p + 1 + 1), Nat.add_mul (p + 1) 1 (p + 1), Nat.add_mul p 1 (p + 1)]
      omega
    rw [e]
    split <;> omega
theorem rc_all {o c : Nat} : ∀ {u : List Nat}, (∀ x ∈ u, x = c ∨ x = o) → rc o c u = List.replicate u.length c
  | [], _ => rfl
  | x :: r, h => by
    show (if x = o then c else x) :: rc o c r = c :: List.replicate r.length c
    rw [rc_all fun y m => h y (List.mem_cons_of_mem _ m)]
    congr 1
    rcases h x List.mem_cons_self with e | e
    · by_cases e2 : x = o
      · rw [if_pos e2]
      · rw [if_neg e2, e]
    · rw [if_pos e]
/-- the plan leads to the goal: L the last place at which they differ, c the goal's colour there, o the other one -/
theorem plan_run {l w : List Nat} {L c o : Nat} (hl : l.length = w.length) (hd : l.drop (L + 1) = w.drop (L + 1)) (hL : L < w.length) (hlc : ∀ x ∈ l, x = c ∨ x = o) (hwc : ∀ x ∈ w, x = c ∨ x = o) (hco : c ≠ o) (hc : w[L]? = some c) :
    runC (List.replicate ((l.take (L + 1)).count o) (one o c) ++ planT w L c o) l = w := by
  rw [runC_append]
  have e : runC (List.replicate ((l.take (L + 1)).count o) (one o c)) l = List.replicate (L + 1) c ++ w.drop (L + 1) := by
    have h := run_ones (Ne.symm hco) (l.drop (L + 1)) _ (l.take (L + 1)) rfl
    rw [List.take_append_drop] at h
    rw [h, rc_all (fun x m => hlc x (List.mem_of_mem_take m)), hd, List.length_take, Nat.min_eq_left (by omega)]
  rw [e]
  exact planT_run L c o hco hwc hc
theorem plan_len {l w : List Nat} {L c o : Nat} : (List.replicate ((l.take (L + 1)).count o) (one o c) ++ planT w L c o).length = (l.take (L + 1)).count o + posSum w L := by
  rw [List.length_append, List.length_replicate, planT_len]
theorem plan_le {l w : List Nat} {L o : Nat} (hL : L < l.length) : 2 * ((l.take (L + 1)).count o + posSum w L) ≤ l.length * (l.length + 1) := by
  have h1 : (l.take (L + 1)).count o ≤ L + 1 := by
    have := List.count_le_length (a := o) (l := l.take (L + 1))
    rw [List.length_take] at this
    omega
  have h2 := posSum_le (w := w) L
  have h3 : (L + 1) * (L + 1 + 1) ≤ l.length * (l.length + 1) := Nat.mul_le_mul (by omega) (by omega)
  have e : (L + 1) * (L + 1 + 1) = L * (L + 1) + 2 * (L + 1) := by
    rw [Nat.mul_comm (L + 1) (L + 1 + 1), Nat.add_mul (L + 1) 1 (L + 1), Nat.add_mul L 1 (L + 1)]
    omega
  omega
/-- the length behind which two rows are equal -/
def dl (l w : List Nat) : Nat → Nat
  | 0 => 0
  | n + 1 => if l[n]? = w[n]? then dl l w n else n + 1
theorem dl_zero {l w : List Nat} : ∀ n : Nat, dl l w n = 0 → ∀ i, i < n → l[i]? = w[i]?
  | 0, _, i, h => absurd h (Nat.not_lt_zero _)
  | n + 1, e, i, h => by
    unfold dl at e
    by_cases hn : l[n]? = w[n]?
    · rw [if_pos hn] at e
      by_cases hi : i = n
      · rw [hi]; exact hn
      · exact dl_zero n e i (by omega)
    · rw [if_neg hn] at e; cases e
theorem dl_pos {l w : List Nat} : ∀ (n L : Nat), dl l w n = L + 1 → L < n ∧ l[L]? ≠ w[L]? ∧ ∀ i, L < i → i < n → l[i]? = w[i]?
  | 0, L, e => nomatch e
  | n + 1, L, e => by
    unfold dl at e
    by_cases hn : l[n]? = w[n]?
    · rw [if_pos hn] at e
      obtain ⟨h1, h2, h3⟩ := dl_pos n L e
      refine ⟨by omega, h2, fun i a b => ?_⟩
      by_cases hi : i = n
      · rw [hi]; exact hn
      · exact h3 i a (by omega)
    · rw [if_neg hn] at e
      obtain rfl : n = L := by omega
      exact ⟨by omega, hn, fun i a b => by omega⟩
theorem dl_drop {l w : List Nat} {L : Nat} (hl : l.length = w.length) (h : ∀ i, L < i → i < l.length → l[i]? = w[i]?) : l.drop (L + 1) = w.drop (L + 1) := by
  refine List.ext_getElem? fun i => ?_
  rw [List.getElem?_drop, List.getElem?_drop]
  by_cases hi : L + 1 + i < l.length
  · exact h _ (by omega) hi
  · rw [List.getElem?_eq_none (by omega), List.getElem?_eq_none (by omega)]
theorem filt_count {c o : Nat} (hco : c ≠ o) : ∀ {u : List Nat}, (∀ x ∈ u, x = c ∨ x = o) → (u.filter fun x => !decide (some x = some c)).length = u.count o
  | [], _ => rfl
  | x :: r, h => by
    have ih := filt_count hco (u := r) fun y m => h y (List.mem_cons_of_mem _ m)
    rw [List.filter_cons]
    by_cases e : x = c
    · rw [e, decide_eq_true rfl, if_neg (by decide), List.count_cons_of_ne hco]
      exact ih
    · have eo : x = o := (h x List.mem_cons_self).resolve_left e
      rw [decide_eq_false (fun q => e (Option.some.inj q)), if_pos (by decide), eo, List.count_cons_self, List.length_cons, ih]
end Q

set_option Elab.async false
set_option linter.all false
set_option maxRecDepth 100000
set_option maxHeartbeats 4000000
namespace Q
open PySem PySem.Spec PyProof.Rows L2
/-! the steps' tactic on data -/
local macro_rules | `(tactic| walk_at "fi") => `(tactic| (simp only [List.set_cons_zero, List.set_cons_succ]; rfl))
local macro_rules | `(tactic| walk_at "f1") => `(tactic| first | exact fz_kd | exact pk_kd | exact fz_stl (by first | assumption | with_unfolding_all exact rfl | exact calDa_stl) | exact pk_stl (by first | assumption | with_unfolding_all exact rfl | exact calDa_stl) | exact pk_own (by with_unfolding_all exact rfl) | exact pk_ownD (by with_unfolding_all exact rfl) | (apply fz_own; (with_unfolding_all exact rfl); (walk_at "fi")) | (apply fz_ownD; (with_unfolding_all exact rfl); (walk_at "fi")))
local macro_rules | `(tactic| walk_at "f") => `(tactic| first | walk_at "f1" | exact fzs_nil | exact fzs_stl (by with_unfolding_all exact rfl) | (apply fzs_cons; (walk_at "f1"); (walk_at "f")))
local macro_rules | `(tactic| walk_at "d1") => `(tactic| (with_reducible first
  | (apply n_put; (simp only [List.set_cons_zero, List.set_cons_succ]; rfl))
  | (apply n_putE; (simp only [List.set_cons_zero, List.set_cons_succ]; rfl))
  | (apply n_put2; (simp only [List.set_cons_zero, List.set_cons_succ]; rfl); (simp only [List.set_cons_zero, List.set_cons_succ]; rfl))
  | (apply n_wp1; (simp only [List.set_cons_zero, List.set_cons_succ]; rfl))
  | (apply n_wp1E; (simp only [List.set_cons_zero, List.set_cons_succ]; rfl))
  | (apply n_wp2; (simp only [List.set_cons_zero, List.set_cons_succ]; rfl); (simp only [List.set_cons_zero, List.set_cons_succ]; rfl))
  | (apply n_wp2E; (simp only [List.set_cons_zero, List.set_cons_succ]; rfl); (simp only [List.set_cons_zero, List.set_cons_succ]; rfl))
  | (apply n_wp3; (simp only [List.set_cons_zero, List.set_cons_succ]; rfl); (simp only [List.set_cons_zero, List.set_cons_succ]; rfl); (simp only [List.set_cons_zero, List.set_cons_succ]; rfl))
  | (apply n_wp3E; (simp only [List.set_cons_zero, List.set_cons_succ]; rfl); (simp only [List.set_cons_zero, List.set_cons_succ]; rfl); (simp only [List.set_cons_zero, List.set_cons_succ]; rfl))
  | refine n_tick ?_
  | refine n_tickE ?_
  | refine s_seq ?_
  | refine k_op ?_
  | (apply k_var; (with_unfolding_all exact rfl))
  | (apply k_varO; (with_unfolding_all exact rfl))
  | (apply k_varD; (with_unfolding_all exact rfl))
  | refine k_c ?_
  | refine k_AddI ?_
  | refine k_SubI ?_
  | refine k_LtI ?_
  | refine k_LeI ?_
  | refine k_GtI ?_
  | refine k_GeI ?_
  | refine k_NegI ?_
  | refine k_ip ?_
  | (apply k_Eq; (with_unfolding_all exact rfl))
  | (apply k_Ne; (with_unfolding_all exact rfl))
  | refine k_InC ?_
  | refine k_NotInC ?_
  | (apply k_IsN; (with_unfolding_all exact rfl))
  | (apply k_NotN; (with_unfolding_all exact rfl))
  | refine k_Max2 ?_
  | refine k_Min2 ?_
  | refine k_Int1b ?_
  | refine k_Int1i ?_
  | refine k_Abs ?_
  | refine k_Count ?_
  | (apply k_LenL; (with_unfolding_all exact rfl))
  | (apply k_ListL; (with_unfolding_all exact rfl))
  | (apply k_pk2; (walk_at "f"); (walk_at "f"))
  | (apply k_pk1; (walk_at "f"))
  | (apply k_pk2N; (walk_at "f"); (walk_at "f"))
  | (apply k_pkM; (walk_at "f"))
  | (apply k_mp1; (walk_at "f"))
  | (apply k_mp2; (walk_at "f"); (walk_at "f"))
  | (apply k_mp1N; (walk_at "f"))
  | refine k_un ?_
  | refine k_new ?_
  | refine k_opN ?_
  | refine k_nil ?_
  | refine k_cons ?_
  | refine k_cb ?_
  | refine k_cbN ?_
  | refine k_call ?_
  | refine k_callB ?_
  | refine k_kw ?_
  | refine k_kwB ?_
  | (apply k_cF; (walk_at "f"))
  | (apply k_cB; (walk_at "f"))
  | (apply k_kF; (with_unfolding_all exact rfl); (walk_at "f"); (with_unfolding_all exact rfl))
  | (apply k_kB; (with_unfolding_all exact rfl); (walk_at "f"); (with_unfolding_all exact rfl))
  | refine k_tup ?_
  | refine k_lst ?_
  | (apply k_mkT; (with_unfolding_all exact rfl); (walk_at "f"))
  | (apply k_mkL; (with_unfolding_all exact rfl); (walk_at "f"))
  | refine k_bE ?_
  | (apply k_bl; (with_unfolding_all exact rfl))
  | refine k_and ?_
  | refine k_or ?_
  | refine k_not ?_
  | refine k_yes ?_
  | refine k_if ?_
  | refine k_andV ?_
  | refine k_orV ?_
  | refine k_notV ?_
  | refine k_chain ?_
  | refine k_oNo ?_
  | refine k_oPart ?_
  | (apply k_int; (walk_at "f"))
  | refine k_slL ?_
  | (apply k_asl; (walk_at "f"); (with_unfolding_all exact rfl))
  | refine k_slS ?_
  | (apply k_strP; (walk_at "f"))
  | refine k_m1 ?_
  | refine k_mu ?_
  | refine k_bl0 ?_
  | refine k_mu0 ?_
  | (apply k_mu1; (with_unfolding_all exact rfl))
  | (apply k_mu2; (walk_at "f"); (with_unfolding_all exact rfl))
  | refine s_next ?_
  | refine s_drop ?_
  | refine s_ret ?_
  | (apply s_fz; (walk_at "f"))
  | refine s_retN ?_
  | refine s_asg ?_
  | refine s_asgN ?_
  | refine s_break ?_
  | refine s_cont ?_
  | refine s_aug ?_
  | refine s_par ?_
  | (apply s_par2; (walk_at "f"))
  | refine s_for ?_
  | refine s_lc ?_
  | (apply g_nm; (walk_at "f"))
  | refine g_nl ?_
  | refine g_cn ?_
  | (apply g_tp; (walk_at "f"); (first | exact calDa_asT | with_unfolding_all exact rfl); (with_unfolding_all exact rfl))
  | (apply g_sl; (walk_at "f"))
  | refine i_list ?_
  | (apply i_asl; (walk_at "f"); (with_unfolding_all exact rfl))
  | refine i_tup ?_
  | (apply i_ast; (walk_at "f"); (with_unfolding_all exact rfl))
  | refine i_str ?_
  | refine i_rng1 ?_
  | refine i_rng2 ?_
  | refine i_rng3 ?_
  | (apply i_r3; (walk_at "f"); (walk_at "f"); (walk_at "f"))
  | refine i_enum ?_
  | (apply i_en; (walk_at "f"); (with_unfolding_all exact rfl))
  | (apply i_zp; (walk_at "f"); (with_unfolding_all exact rfl); (with_unfolding_all exact rfl))
  | refine i_enumS ?_
  | (apply i_enS; (walk_at "f"))
  | refine i_zip ?_
  | refine i_zipS ?_
  | (apply i_zpS; (walk_at "f"); (with_unfolding_all exact rfl))
  | refine k_dget ?_
  | (apply k_onD; (walk_at "f"))
  | (apply k_onK; (walk_at "f"); (with_unfolding_all exact rfl))
  | (apply k_onOD; (with_unfolding_all exact rfl))
  | (apply g_sd; (walk_at "f"))
  | refine s_dput ?_
  | refine s_daug ?_
  | refine k_newD ?_
  | refine s_asgD ?_
  | refine k_dzip ?_
  | refine k_lvals ?_
  | refine k_on2 ?_
  | refine k_on1 ?_
  | refine k_onStr0 ?_
  | refine k_onInt0 ?_
  | (apply i_onL; (with_unfolding_all exact rfl))
  | refine k_10_5 ?_
  | refine k_10_6 ?_
  | refine k_10_9 ?_
  | refine k_10_15 ?_
  | refine k_10_18 ?_
  | refine k_10_29 ?_
  | refine k_10_30 ?_
  | refine k_2_61 ?_
  | refine k_ml ?_
  | (apply k_ml1; (walk_at "f"); (with_unfolding_all exact rfl))
  | (apply k_ml2; (walk_at "f"); (with_unfolding_all exact rfl))
  | (apply k_mpL; (walk_at "f"))
  | refine k_Sum ?_
  | refine k_lenSet ?_
  | refine i_sl ?_
  | (apply i_slF; (walk_at "f"); (with_unfolding_all exact rfl))
  | refine k_dget2 ?_
  | refine k_newK ?_
  | refine k_disp2 ?_
  | refine s_raise ?_
  | refine s_dropX ?_
  | refine s_retX ?_
  | refine k_lenSetL ?_
  | refine k_revL ?_
  | (apply k_pkL; (walk_at "f"); (with_unfolding_all exact rfl))
  | refine s_asgD ?_
  | (apply k_varT; (with_unfolding_all exact rfl))
  | refine k_slT ?_
  | (apply k_onT; (walk_at "f"))
  | refine k_dget2T ?_
  | refine k_dgetT ?_
  | refine k_sumVals ?_
  | refine k_newT ?_
  | refine k_disp1T ?_
  | (apply k_onOT; (with_unfolding_all exact rfl))
  | (apply k_onOwn; (with_unfolding_all exact rfl); (with_unfolding_all exact rfl))
  | (apply k_TupL; (with_unfolding_all exact rfl))
  | refine s_asgT ?_
  | refine s_dputT ?_
  | refine s_move ?_
  | refine s_forT ?_
  | refine ite_nsame ?_
  | refine ite_same ?_
  | (refine ite_dF ?_ ?_; (with_unfolding_all decide +kernel))
  | (refine ite_dT ?_ ?_; (with_unfolding_all decide +kernel))
  | refine iteT ?_
  | refine iteF ?_
  | refine ite_nt ?_
  | refine ite_nf ?_))
local macro_rules | `(tactic| walk_at "d") => `(tactic| (repeat (first | walk_at "d1" | with_reducible refine s_if ?_)))
local macro_rules | `(tactic| walk_at "di") => `(tactic| (repeat walk_at "d1"))
local macro_rules | `(tactic| walk_at "s") => `(tactic| (simp only [δ0, List.map_cons, List.map_nil, List.length_cons, List.length_nil, List.replicate, List.cons_append, List.nil_append, Nat.reduceAdd, Nat.reduceSub]; walk_at "d"))

/-! ### what is wrong first -/
def badC (cs : List Cal) : Option Nat := cs.findIdx? fun c => !isCall c
def badR (l : List Nat) : Option Nat := l.findIdx? fun c => !isColN c
theorem find_at {α : Type} {p : α → Bool} {l : List α} {i : Nat} {x : α} (h : l[i]? = some x) (hx : p x = true) (hb : ∀ j y, j < i → l[j]? = some y → p y = false) : l.findIdx? p = some i := by
  obtain ⟨hi, e⟩ := List.getElem?_eq_some_iff.mp h
  rw [List.findIdx?_eq_some_iff_getElem]
  refine ⟨hi, by rw [e]; exact hx, fun j hj => ?_⟩
  rw [hb j _ hj (List.getElem?_eq_getElem (by omega))]
  exact Bool.false_ne_true
theorem find_no {α : Type} {p : α → Bool} {l : List α} (hb : ∀ j y, j < l.length → l[j]? = some y → p y = false) : l.findIdx? p = none := by
  rw [List.findIdx?_eq_none_iff]
  intro x hx
  obtain ⟨j, hj⟩ := List.mem_iff_getElem?.mp hx
  exact hb j x (List.getElem?_eq_some_iff.mp hj).1 hj
theorem prD_min : ∀ a b : List Da, (prD a b).length = min a.length b.length
  | [], b => by cases b <;> simp [prD]
  | a :: r, [] => by simp [prD]
  | a :: r, b :: t => by
    show (prD r t).length + 1 = _
    rw [prD_min r t, List.length_cons, List.length_cons]; omega
theorem prD_len (l : List Da) (f : Nat → Da) : (prD ((List.range l.length).map f) l).length = l.length := by
  rw [prD_min, List.length_map, List.length_range, Nat.min_self]
def orX (o : Option Nat) (nm : Str) (P : Prop) (X : XD) : Prop := match o with
  | none => P
  | some i => X nm (.int (i : Nat))
theorem orX_n {nm : Str} {P : Prop} {X : XD} (h : P) : orX none nm P X := h
def t_check_drill (E : XK) (K : PySem.W.Frag) : TS := (tFor (iEnum K (tCons (tVar 0) tNil)) (gTup K 2 (gCons (gName 1) (gCons (gName 2) gNil))) (tIfS (tNot (tB (tCall (sp_is_call K) [] E0 (tCons (tVar 2) tNil)))) (tRaise (He.ga K "BadCall") (tVar 1) (XW E)) tNext))
def c_check_drill (X : XD) : DC := (cFor (diE (aCons (eVar 0) aNil)) (dTup 2 (dCons (dName 1) (dCons (dName 2) dNil))) (cIf (bNot (bE (eCallB (FP.d f_is_call) (aCons (eVar 2) aNil)))) (cRaise X "BadCall" (eVar 1)) cNext))
theorem ss_check_drill {K : PySem.W.Frag} {W : Wo} {E : XK} {X : XD} : SSX K W E X (t_check_drill E K) (c_check_drill X) :=
  (ssx_for (si_enum (sa_cons se_var sa_nil)) (sg_tup (sg_cons sg_name (sg_cons sg_name sg_nil))) (ssx_if (st_not (st_b (se_callB co_is_call (sa_cons se_var sa_nil)))) (ssx_raise se_var) (ssx_of ss_next)))

def f_check_drill : FX := fun ds P X => ∃ (g : Bool) (cs : List Cal), ds = [drDa g cs] ∧ (∀ c ∈ cs, calLen c ≤ 100000) ∧ orX (badC cs) "BadCall" (P .non) X
theorem len_check_drill : ∀ ds P X, f_check_drill ds P X → ds.length = 1 := by
  rintro ds P X ⟨g, cs, rfl, _⟩
  rfl
theorem d_check_drill : ∀ ds P X, f_check_drill ds P X → c_check_drill X ⟨fun st => P .non, fun d st => P d, fun _ => False, fun _ => False⟩ ⟨δ0 3 ds, 0⟩ := by
  rintro ds P X ⟨g, cs, rfl, hc, k⟩
  unfold c_check_drill drDa
  walk_at "s"
  refine for_inv (fun i st => (∀ j y, j < i → cs[j]? = some y → (!isCall y) = false) ∧ ∃ x1 x2 : Sl, st = ⟨[Sl.dat (Da.lst (List.map (calDa g) cs)), x1, x2], 0⟩) ⟨fun j y h => absurd h (Nat.not_lt_zero j), _, _, rfl⟩ ?_ ?_
  · rintro i x st R hx ⟨hb, x1, x2, rfl⟩ hR
    obtain ⟨b, hb1, rfl⟩ := pr_getE hx
    obtain ⟨c, hcm, rfl⟩ := map_get hb1
    walk_at "d"
    refine ⟨calDa g c, c, rfl, calDa_stl, calDa_asT, hc c (List.mem_of_getElem? hcm), rfl, ?_⟩
    cases hic : isCall c with
    | true =>
      walk_at "d"
      refine hR _ ⟨fun j y hj hy => ?_, _, _, rfl⟩
      by_cases hji : j < i
      · exact hb j y hji hy
      · obtain rfl : j = i := by omega
        rw [hcm] at hy; cases hy
        rw [hic]; rfl
    | false =>
      walk_at "d"
      have : badC cs = some i := find_at hcm (by rw [hic]; rfl) hb
      rw [this] at k
      exact k
  · rintro st ⟨hb, x1, x2, rfl⟩
    have e1 : (List.map (calDa g) cs).length = cs.length := List.length_map ..
    have : badC cs = none := find_no fun j y hj hy => hb j y (by rw [prD_len, List.length_map]; exact hj) hy
    rw [this] at k
    exact k
def sp_check_drill (K : PySem.W.Frag) : Sp := fun vs H Q E => vs.length = 1 ∧ spX K f_check_drill vs H Q E
theorem cx_check_drill {K : PySem.W.Frag} : CallX K (sp_check_drill K) f_check_drill := callX_n len_check_drill
theorem co_check_drill {K : PySem.W.Frag} {W : Wo} {E : XK} : CallOk K W (sp_check_drill K) [] E (FP.d (FX.ok f_check_drill)) := callOk_x cx_check_drill
theorem pure_check_drill {K : PySem.W.Frag} {vs : List V} {H : Hp} {Q : VK} {E : XK} (h : sp_check_drill K vs H Q E) : t_check_drill E K { nx := fun _ H' => Q .non H', rt := Q } (L2.start ["drill", "index", "call"] vs) H := fn_pureX (t := t_check_drill E K) (fun X => ss_check_drill) d_check_drill h.2

def t_check_row (E : XK) (K : PySem.W.Frag) : TS := (tFor (iEnumS (tCons (tVar 0) tNil)) (gTup K 2 (gCons (gName 1) (gCons (gName 2) gNil))) (tIfS (tNot (tB (tCall (sp_is_colour K) [] E0 (tCons (tVar 2) tNil)))) (tRaise (He.ga K "BadRow") (tVar 1) (XW E)) tNext))
def c_check_row (X : XD) : DC := (cFor (diES (aCons (eVar 0) aNil)) (dTup 2 (dCons (dName 1) (dCons (dName 2) dNil))) (cIf (bNot (bE (eCallB (FP.d f_is_colour) (aCons (eVar 2) aNil)))) (cRaise X "BadRow" (eVar 1)) cNext))
theorem ss_check_row {K : PySem.W.Frag} {W : Wo} {E : XK} {X : XD} : SSX K W E X (t_check_row E K) (c_check_row X) :=
  (ssx_for (si_enumS (sa_cons se_var sa_nil)) (sg_tup (sg_cons sg_name (sg_cons sg_name sg_nil))) (ssx_if (st_not (st_b (se_callB co_is_colour (sa_cons se_var sa_nil)))) (ssx_raise se_var) (ssx_of ss_next)))

def f_check_row : FX := fun ds P X => ∃ l : List Nat, ds = [.str (sN l)] ∧ orX (badR l) "BadRow" (P .non) X
theorem len_check_row : ∀ ds P X, f_check_row ds P X → ds.length = 1 := by
  rintro ds P X ⟨l, rfl, _⟩
  rfl
theorem d_check_row : ∀ ds P X, f_check_row ds P X → c_check_row X ⟨fun st => P .non, fun d st => P d, fun _ => False, fun _ => False⟩ ⟨δ0 3 ds, 0⟩ := by
  rintro ds P X ⟨l, rfl, k⟩
  unfold c_check_row
  walk_at "s"
  rw [sgD_sN]
  refine for_inv (fun i st => (∀ j y, j < i → l[j]? = some y → (!isColN y) = false) ∧ ∃ x1 x2 : Sl, st = ⟨[Sl.dat (Da.str (sN l)), x1, x2], 0⟩) ⟨fun j y h => absurd h (Nat.not_lt_zero j), _, _, rfl⟩ ?_ ?_
  · rintro i x st R hx ⟨hb, x1, x2, rfl⟩ hR
    obtain ⟨b, hb1, rfl⟩ := pr_getE hx
    obtain ⟨c, hcm, rfl⟩ := map_get (f := fun c => Da.str (S1 c)) hb1
    walk_at "d"
    refine ⟨S1 c, rfl, by show 1 ≤ 100000; decide, rfl, ?_⟩
    rw [isColS_one]
    cases hic : isColN c with
    | true =>
      walk_at "d"
      refine hR _ ⟨fun j y hj hy => ?_, _, _, rfl⟩
      by_cases hji : j < i
      · exact hb j y hji hy
      · obtain rfl : j = i := by omega
        rw [hcm] at hy; cases hy
        rw [hic]; rfl
    | false =>
      walk_at "d"
      have : badR l = some i := find_at hcm (by rw [hic]; rfl) hb
      rw [this] at k
      exact k
  · rintro st ⟨hb, x1, x2, rfl⟩
    have : badR l = none := find_no fun j y hj hy => hb j y (by rw [prD_len, chD_len]; exact hj) hy
    rw [this] at k
    exact k
def sp_check_row (K : PySem.W.Frag) : Sp := fun vs H Q E => vs.length = 1 ∧ spX K f_check_row vs H Q E
theorem cx_check_row {K : PySem.W.Frag} : CallX K (sp_check_row K) f_check_row := callX_n len_check_row
theorem co_check_row {K : PySem.W.Frag} {W : Wo} {E : XK} : CallOk K W (sp_check_row K) [] E (FP.d (FX.ok f_check_row)) := callOk_x cx_check_row
theorem pure_check_row {K : PySem.W.Frag} {vs : List V} {H : Hp} {Q : VK} {E : XK} (h : sp_check_row K vs H Q E) : t_check_row E K { nx := fun _ H' => Q .non H', rt := Q } (L2.start ["row", "index", "letter"] vs) H := fn_pureX (t := t_check_row E K) (fun X => ss_check_row) d_check_row h.2

end Q

set_option Elab.async false
set_option linter.all false
set_option maxRecDepth 100000
set_option maxHeartbeats 4000000
namespace Q
open PySem PySem.Spec PyProof.Rows L2
/-! the steps' tactic: runs a reading up to a choice, a call, a loop, a store -/
local macro_rules | `(tactic| walk_at "w1") => `(tactic| (with_reducible first
  | refine w_var (by with_unfolding_all exact rfl) ?_
  | refine w_c ?_
  | refine w_op ?_
  | refine w_test ?_
  | refine w_tb ?_
  | refine w_cons ?_
  | refine w_nil ?_
  | refine w_cb ?_
  | refine w_call ?_
  | refine w_kw ?_
  | refine z_asg ?_
  | refine z_ret ?_
  | refine z_if ?_
  | refine z_drop ?_
  | refine g_name ?_
  | refine g_sub ?_
  | refine w_bm ?_
  | refine w_bm0 ?_
  | refine w_m1 ?_
  | refine w_m0 ?_
  | refine w_and ?_
  | refine w_or ?_
  | refine w_not ?_
  | refine w_chain ?_
  | refine w_andV ?_
  | refine w_orV ?_
  | refine w_notV ?_
  | refine w_if ?_
  | refine w_un ?_
  | refine w_sl ?_
  | refine w_part ?_
  | refine w_nopart ?_
  | refine w_tup ?_
  | refine w_lst ?_
  | refine w_yes ?_
  | refine z_for ?_
  | refine z_for1 ?_
  | refine w_ilist ?_
  | refine w_irng1 ?_
  | refine w_irng2 ?_
  | refine w_istr ?_
  | refine w_itup ?_
  | refine w_lc ?_
  | refine z_asg1 ?_
  | refine z_if1 ?_
  | refine z_drop1 ?_
  | refine z_next ?_
  | refine o_add ?_
  | refine o_sub ?_
  | refine o_lt ?_
  | refine o_le ?_
  | refine o_gt ?_
  | refine o_ge ?_
  | refine o_neg ?_
  | refine o_max2 ?_
  | refine o_min2 ?_
  | refine o_intB ?_
  | refine o_isn ?_
  | refine o_notn ?_
  | refine o_inc ?_
  | refine o_notinc ?_
  | refine o_eq (by with_unfolding_all exact rfl) ?_
  | refine o_ne (by with_unfolding_all exact rfl) ?_
  | refine o_ixLn (by first | assumption | exact upd_same) (by decide) (by with_unfolding_all exact rfl) ?_
  | refine o_ixTn (by first | assumption | exact upd_same) (by decide) (by with_unfolding_all exact rfl) ?_
  | refine g_tup (by first | assumption | exact upd_same) (by with_unfolding_all exact rfl) ?_
  | refine g_cons ?_
  | refine g_nil ?_
  | refine g_setLn (by first | assumption | exact upd_same) (by decide) (by with_unfolding_all exact rfl) ?_
  | refine p_2_61 ?_
  | refine p_10_18 ?_
  | refine p_10_15 ?_
  | refine p_10_30 ?_
  | refine p_10_29 ?_
  | refine iteT ?_
  | refine iteF ?_
  | refine ite_nt ?_
  | refine ite_nf ?_
  | refine ⟨_, rfl, ?_⟩
  | refine ⟨⟨_, rfl⟩, ?_⟩))
local macro_rules | `(tactic| walk_at "w") => `(tactic| (repeat walk_at "w1"))

/-! ### the second kind of draws: [digits, seed, turn] -/
/-- the state at s, at most n draws so far -/
def Rng (s : Addr) (n : Int) (H : Hp) : Prop := ∃ (g a k : Int), H s = some (.lst [.int g, .int a, .int k]) ∧ 0 ≤ a ∧ a < 2305843009213693951 ∧ 0 ≤ k ∧ k ≤ n
theorem Rng.more {s : Addr} {n n' : Int} {H : Hp} (h : Rng s n H) (e : n ≤ n') : Rng s n' H := by
  obtain ⟨g, a, k, h1, h2, h3, h4, h5⟩ := h
  exact ⟨g, a, k, h1, h2, h3, h4, Int.le_trans h5 e⟩
theorem Rng.up {s : Addr} {n : Int} {H H' : Hp} (h : Rng s n H) (e : Same H H') : Rng s n H' := by
  obtain ⟨g, a, k, h1, h2⟩ := h
  exact ⟨g, a, k, e _ _ h1, h2⟩
theorem Rng.trk {s : Addr} {n : Int} {H : Hp} (h : Rng s n H) : Trk [s] H := fun b m => by
  obtain ⟨g, a, k, h1, h2⟩ := h
  rcases List.mem_cons.mp m with e | m
  · rw [e]
    exact ⟨_, h1⟩
  · cases m
/-- a draw: one of 0, 1, .. below m -/
def sp_law_draw (K : PySem.W.Frag) : Sp := fun vs H Q _ => vs.length = 2 ∧ ∃ (s : Addr) (n m : Int), vs = [.ref s, .int m] ∧ Rng s n H ∧ n ≤ 1000000000 ∧ 0 < m ∧ m ≤ 1000000000000000000000000000000 ∧
  ∀ r H', 0 ≤ r → r < m → Rng s (n + 1) H' → Fr [s] H H' → Q (.int r) H'
theorem div_w {i j : Int} (h : 0 < j) (h2 : j ≤ 1000000000000000000000000000000) : CDivW i j := wide_div (b := 128) h (by omega) (by decide) (by decide)
def t_law_draw (K : PySem.W.Frag) : TS := (tSeq (tIfS (tTest (tOp rGtI (tOp (rIxL K) (tVar 0) (tC (.int 0))) (tC (.int 0)))) (tSeq (tAsg (tOp rModI (tOp (rIxL K) (tVar 0) (tC (.int 0))) (tVar 1)) (gName 2))
    (tSeq (tAsg (tOp rDivI (tOp (rIxL K) (tVar 0) (tC (.int 0))) (tVar 1)) (gSub (tVar 0) (tC (.int 0)) rSetL))
    (tRet (tVar 2)))) tNext)
    (tSeq (tAsg (tOp rAddI (tOp (rIxL K) (tVar 0) (tC (.int 2))) (tC (.int 1))) (gSub (tVar 0) (tC (.int 2)) rSetL))
    (tSeq (tAsg (tOp rModI (tOp rPowW (tOp rAddI (tOp (rIxL K) (tVar 0) (tC (.int 1))) (tOp rMulI (tC (.int 998244353)) (tOp (rIxL K) (tVar 0) (tC (.int 2))))) (tC (.int 3))) (tC (.int 162259276829213363391578010288127))) (gName 3))
    (tSeq (tAsg (tOp rModI (tOp rPowW (tOp rAddI (tVar 3) (tOp rMulI (tC (.int 32452843)) (tOp (rIxL K) (tVar 0) (tC (.int 2))))) (tC (.int 3))) (tC (.int 170141183460469231731687303715884105727))) (gName 3))
    (tRet (tOp rModI (tOp rDivI (tVar 3) (tC (.int 1048576))) (tVar 1)))))))

theorem pure_law_draw {K : PySem.W.Frag} {vs : List V} {H : Hp} {Q : VK} {E : XK} (h : sp_law_draw K vs H Q E) : t_law_draw K { nx := fun _ H' => Q .non H', rt := Q } (start ["rng", "limit", "found", "mixed"] vs) H := by
  obtain ⟨_, s, n, m, rfl, hS, hn, hm, hm2, q⟩ := h
  unfold t_law_draw
  obtain ⟨g, a, k, h1, ha, ha2, hk, hkn⟩ := hS
  have ms : s ∈ [s] := List.mem_cons_self
  walk_at "w"
  refine ite2 (fun hge => ?_) (fun hge => ?_)
  · walk_at "w"
    refine o_mod hm ?_
    walk_at "w"
    refine o_div (div_w hm hm2) ?_
    walk_at "w"
    exact q _ _ (Int.emod_nonneg _ (by omega)) (Int.emod_lt_of_pos _ hm) ⟨g / m, a, k, upd_same, ha, ha2, hk, by omega⟩ (Fr.mut ms)
  · walk_at "w"
    have e3 : upd H s (.lst [.int g, .int a, .int (k + 1)]) s = some (.lst [.int g, .int a, .int (k + 1)]) := upd_same
    refine o_mul (.inl ⟨by decide, by omega⟩) ?_
    walk_at "w"
    refine o_powW (powW_3 (b := 64) (by decide) (by omega) (by decide)) ?_
    refine o_mod (by decide) ?_
    walk_at "w"
    generalize hM : (a + 998244353 * (k + 1)) ^ (3 : Int).toNat % 162259276829213363391578010288127 = M
    have hM1 : 0 ≤ M := by rw [← hM]; exact Int.emod_nonneg _ (by decide)
    have hM2 : M < 162259276829213363391578010288127 := by rw [← hM]; exact Int.emod_lt_of_pos _ (by decide)
    refine o_mul (.inl ⟨by decide, by omega⟩) ?_
    walk_at "w"
    refine o_powW (powW_3 (b := 128) (by decide) (by omega) (by decide)) ?_
    refine o_mod (by decide) ?_
    walk_at "w"
    refine o_div (div_w (by decide) (by decide)) ?_
    walk_at "w"
    refine o_mod hm ?_
    exact q _ _ (Int.emod_nonneg _ (by omega)) (Int.emod_lt_of_pos _ hm) ⟨g, a, k + 1, upd_same, ha, ha2, by omega, by omega⟩ (Fr.mut ms)
/-! ### the state is made -/
def sp_law_rng (K : PySem.W.Frag) : Sp := fun vs H Q _ => vs.length = 1 ∧ ∃ (a : Addr) (ns : List Int), vs = [.ref a] ∧ SqL K H a (ns.map V.int) ∧ ns.length ≤ 63 ∧
  ∀ s H', H s = none → Same H H' → Rng s 0 H' → Q (.ref s) H'
def t_law_rng (K : PySem.W.Frag) : TS := (tSeq (tAsg (tTup (tCons (tC (.int 0)) (tCons (tC (.int 88675123)) tNil))) (gTup K 2 (gCons (gName 1) (gCons (gName 2) gNil))))
    (tSeq (tFor (iList K (tSl (rSlL K) (tVar 0) tNoPart (tPart (tC (.int 63))))) (gName 3) (tSeq (tAsg (tCB rAbs (tCons (tVar 3) tNil)) (gName 4))
    (tSeq (tIfS (tTest (tOp rGeI (tVar 4) (tOp rPowI (tC (.int 10)) (tC (.int 18))))) (tAsg (tOp rAddI (tOp rMulW (tVar 1) (tOp rPowI (tC (.int 10)) (tC (.int 60)))) (tOp rModI (tVar 4) (tOp rPowI (tC (.int 10)) (tC (.int 60))))) (gName 1)) tNext)
    (tAsg (tOp rModI (tOp rAddI (tOp rAddI (tOp rMulW (tVar 2) (tC (.int 1000003))) (tOp rModI (tVar 3) (tC (.int 2305843009213693921)))) (tC (.int 7))) (tC (.int 2305843009213693951))) (gName 2)))))
    (tRet (tLst (tCons (tVar 1) (tCons (tVar 2) (tCons (tC (.int 0)) tNil)))))))

theorem cut_ints {ns : List Int} (h : ns.length ≤ 63) : ∃ ms : List Int, cutV (ns.map V.int) none (some 63) = ms.map V.int ∧ ms.length ≤ 63 := by
  refine ⟨(ns.drop (HT.sIx ns.length 0 none)).take (HT.sIx ns.length ns.length (some 63) - HT.sIx ns.length 0 none), ?_, by rw [List.length_take, List.length_drop]; omega⟩
  unfold cutV
  simp [List.map_take, List.map_drop]
theorem dig_step {g r : Int} {i : Nat} (h : g.natAbs < 2 ^ (200 * i)) (h0 : 0 ≤ r) (h1 : r < 1000000000000000000000000000000000000000000000000000000000000) : (g * 1000000000000000000000000000000000000000000000000000000000000 + r).natAbs < 2 ^ (200 * (i + 1)) := by
  have e : (2 : Nat) ^ (200 * (i + 1)) = 2 ^ (200 * i) * 2 ^ 200 := by rw [Nat.mul_add, Nat.pow_add]
  rw [e]
  have e2 : (2 : Nat) ^ 200 = 1606938044258990275541962092341162602522202993782792835301376 := by decide
  rw [e2]
  generalize (2 : Nat) ^ (200 * i) = B at *
  omega
theorem pure_law_rng {K : PySem.W.Frag} {vs : List V} {H : Hp} {Q : VK} {E : XK} (h : sp_law_rng K vs H Q E) : t_law_rng K { nx := fun _ H' => Q .non H', rt := Q } (start ["script", "digits", "seed", "cell", "size"] vs) H := by
  obtain ⟨_, a, ns, rfl, hS, hlen, q⟩ := h
  unfold t_law_rng
  walk_at "w"
  refine ⟨len_ok rfl, fun tt htt => ?_⟩
  have eT := same_upd (o := .tup [.int 0, .int 88675123]) htt
  walk_at "w"
  refine ⟨a, _, rfl, eT.seq hS, fun c hc => ?_⟩
  obtain ⟨ms, hms, hml⟩ := cut_ints hlen
  rw [hms]
  walk_at "w"
  refine ⟨⟨_, SqL.of upd_same⟩, f_list (ms.map V.int) (fun i σ H1 => ∃ (g m : Int) (x3 x4 : Option V), σ = [some (.ref a), some (.int g), some (.int m), x3, x4] ∧ Same (upd (upd H tt (.tup [.int 0, .int 88675123])) c (.lst (ms.map V.int))) H1 ∧ g.natAbs < 2 ^ (200 * i) ∧ 0 ≤ m ∧ m < 2305843009213693951) ?_ ?_ ?_ ?_⟩
  · exact ⟨0, 88675123, none, none, rfl, Same.refl _, by decide, by decide, by decide⟩
  · intro i σ H1 _ hP
    obtain ⟨g, m, x3, x4, _, e, _⟩ := hP
    exact e.seq (SqL.of upd_same)
  · intro i x σ H1 hx hP
    obtain ⟨g, m, x3, x4, rfl, e, hg, h0, h1⟩ := hP
    have hil : i < ms.length := by
      have := (List.getElem?_eq_some_iff.mp hx).1
      rw [List.length_map] at this
      exact this
    obtain ⟨z, rfl⟩ : ∃ c : Int, x = .int c := by
      rw [List.getElem?_map] at hx
      cases hn : ms[i]? with
      | none => rw [hn] at hx; cases hx
      | some c => rw [hn] at hx; exact ⟨c, (Option.some.inj hx).symm⟩
    have hpow : (2 : Nat) ^ (200 * i) ≤ 2 ^ (200 * (i + 1)) := Nat.pow_le_pow_right (by decide) (by omega)
    walk_at "w"
    refine ⟨z, rfl, ?_⟩
    walk_at "w"
    refine ite2 (fun hge => ?_) (fun hge => ?_)
    · walk_at "w"
      refine p_10_60 ?_
      refine o_mulW (wide_mul (a := 200 * i + 1) (b := 200) (by rw [Nat.pow_succ]; omega) (by decide) (by omega) (by decide) (by omega)) ?_
      walk_at "w"
      refine p_10_60 ?_
      refine o_mod (by decide) ?_
      walk_at "w"
      refine o_mulW (wide_mul (a := 64) (b := 64) (by omega) (by decide) (by decide) (by decide) (by decide)) ?_
      walk_at "w"
      refine o_mod (by decide) ?_
      walk_at "w"
      refine o_mod (by decide) ?_
      walk_at "w"
      exact ⟨_, _, _, _, rfl, e, dig_step hg (Int.emod_nonneg _ (by decide)) (Int.emod_lt_of_pos _ (by decide)), Int.emod_nonneg _ (by decide), Int.emod_lt_of_pos _ (by decide)⟩
    · walk_at "w"
      refine o_mulW (wide_mul (a := 64) (b := 64) (by omega) (by decide) (by decide) (by decide) (by decide)) ?_
      walk_at "w"
      refine o_mod (by decide) ?_
      walk_at "w"
      refine o_mod (by decide) ?_
      walk_at "w"
      exact ⟨g, _, _, _, rfl, e, by omega, Int.emod_nonneg _ (by decide), Int.emod_lt_of_pos _ (by decide)⟩
  · intro σ H1 hP
    obtain ⟨g, m, x3, x4, rfl, e, hg, h0, h1⟩ := hP
    walk_at "w"
    refine ⟨len_ok rfl, fun s hs => ?_⟩
    walk_at "w"
    have e2 : Same H H1 := eT.trans (Same.trans (same_upd hc) e)
    exact q s _ (Same.free e2 hs) (e2.trans (same_upd hs)) ⟨g, m, 0, upd_same, h0, h1, by decide, by decide⟩
end Q

set_option Elab.async false
set_option linter.all false
set_option maxRecDepth 100000
set_option maxHeartbeats 4000000
namespace Q
open PySem PySem.Spec PySem.Calls PySem.W PyProof.Rows L2
/-! ### isinstance(e, c) in the suite, e with a dict -/
section
variable {prog : Program} {w : World} {A : Around} {E : Value → Shared → Prop} {s : Shared} {K : Frag} {x D : Addr} {ox : Obj} {od : Option Obj}
theorem findObj_dataD {C : Addr} {name : Str} {a g : Value} (hc : (clsIn K C).isSome = true) (ha : findIn K (.ref C) name = some (some a)) (hg : specialIn K a "__get__" = some (some g)) (ht : takesIn K a = some true) : findObj K C od name = some (.bind g a) := by
  obtain ⟨cd, hc⟩ := Option.isSome_iff_exists.mp hc
  unfold findObj
  rw [hc, Option.bind_some, ha, Option.bind_some]
  simp [hg, ht]
theorem kin_classD {Q : Option Value → Shared → Prop} (C : ExcC K D) (X : K.In s.heap) (I : InstAt s.heap x ox D od) (h : Q (some (.ref D)) { s with toks := s.toks + 1 }) : wpAny (model prog w) A (getAttr? (.ref x) "__class__") Q E s := by
  obtain ⟨hga, hgt, hsub, hdct, ha, hn, htk, hm⟩ := C
  have hf : findObj K D od "__class__" = some (.bind (.builtin "getset_descriptor.__get__") (.builtin "object.__class__")) := findObj_dataD (by obtain ⟨cd, hc, _⟩ := any_some hdct; rw [hc]; rfl) ha hn htk
  obtain ⟨hp, g, d, t, os⟩ := s
  have L0 := I.type (M := model prog w)
  have L1 := looks_findIn (M := model prog w) X hga
  have L2 := looks_findIn (M := model prog w) X hgt
  have L3 := looks_find (M := model prog w) X I hf
  have sub : Looks (model prog w) hp (isInstance (.ref x) (.type "BaseException")) true := L0.andThen (looks_subIn X hsub)
  have hx0 : (false && onTheHeap (Value.builtin "BaseException.__getattribute__")) = false := rfl
  have hx2 : (Value.builtin "BaseException.__getattribute__" == Value.builtin "object.__getattribute__") = false := by decide +kernel
  have hx1 : (onTheHeap (Value.ref D) && Value.builtin "BaseException.__getattribute__" == Value.builtin "object.__getattribute__") = false := by rw [hx2]; rfl
  unfold getAttr? getAttrBy? getAttrBy
  refine wpAny_bind (wpAny_mkText (wpAny_bind (wpAny_attempt (wpAny_holding (wpAny_bind (L0.at (wpAny_bind (L1.at ?_))))))))
  show wpAny _ _ (if (onTheHeap (Value.ref D) && Value.builtin "BaseException.__getattribute__" == Value.builtin "object.__getattribute__") = true then _ else _) _ _ _
  rw [hx1, if_neg Bool.false_ne_true]
  unfold getAttrByItsOwn hookBefore
  refine wpAny_bind ?_
  rw [if_pos (show onTheHeap (Value.ref D) = true from rfl)]
  refine L2.at ?_
  refine wpAny_bind (wpAny_attempt (wpAny_holding ?_))
  unfold callGetattribute
  rw [hx0, if_neg Bool.false_ne_true]
  unfold boundAndCalled
  rw [PySem.F.excAttr_ValueError.ga.bind (.ref x)]
  refine wpAny_bind (wpAny_pure ?_)
  show wpAny _ _ (call (.builtin "BaseException.__getattribute__") [.ref x, .str "__class__" t]) _ _ _
  refine wpAny_call (codeAny_call_builtin PySem.F.excAttr_ValueError.ga.plain PySem.F.entry_bexc_ga ?_)
  refine @check_slot (model prog w) _ _ ⟨hp, g, d, t + 1, os⟩ "BaseException.__getattribute__" "BaseException" "__getattribute__" (.ref x) [.str "__class__" t] [] _ (by decide +kernel) (by decide +kernel) sub (PySem.F.args_bexc_ga (.ref x) (.str "__class__" t)) ?_
  unfold Builtin.«object.__getattribute__»
  refine wpAny_bind (wpAny_of_eq (a := ((Value.ref x : Value), [Value.str "__class__" t])) (by first | rfl | (simp only [slotArgs]; rfl)) ?_)
  refine wpAny_bind (wpAny_pure (wpAny_bind (L0.at (wpAny_bind (L3.at ?_)))))
  show wpAny _ _ (holding [Value.builtin "object.__class__"] (call (.builtin "getset_descriptor.__get__") [.builtin "object.__class__", .ref x, .ref D]) >>= ret) _ _ _
  refine wpAny_bind (wpAny_holding (wpAny_call (class_get (s := ⟨hp, g, d, t + 1, os⟩) (ox := ox) (od := od) X I hm ?_)))
  refine wpAny_pure ?_
  show wpAny _ _ (handedOut (.ref D)) _ _ _
  rw [handedOut_of (v := .ref D) rfl]
  first
    | exact wpAny_pure (wpAny_pure h)
    | exact wpAny_pure h
    | exact wpAny_pure (wpAny_bind (wpAny_pure (wpAny_pure h)))
theorem kitx_excD (C : ExcC K D) : KitX K (.ref x) (.ref D) (fun h => InstAt h x ox D od) where
  ty := fun _ _ _ I => I.type
  it := fun _ _ X _ => by
    obtain ⟨cdD, hcD, _⟩ := any_some C.hd
    unfold clsIn at hcD
    split at hcD
    · rename_i c' d' cd' sl' ho
      intro A' Q' E' s' k q
      unfold isType loadHead
      exact wpAny_bind (wpAny_loadPart (k _ _ (X _ _ ho)) (wpAny_pure q))
    · cases hcD
  ne := fun h tp dd its n sl X htp => by
    obtain ⟨cdD, hcD, _⟩ := any_some C.hd
    refine Bool.eq_false_iff.mpr fun q => ?_
    have e : D = tp := Value.ref.inj (beq_iff_eq.mp q)
    subst e
    unfold clsIn at hcD
    split at hcD
    · rename_i c' d' cd' sl' ho
      have z := (X _ _ ho).symm.trans htp
      cases z
    · cases hcD
  ca := fun X I k => kin_classD C X I k
end
/-- isinstance(e, c), isinstance(e, (c, ..)), e the exception that the suite holds, its dict at dd -/
def rIsD (K : PySem.W.Frag) (D a dd : Addr) : List V → Hp → VK → Prop := fun xs H Q => ∃ (c : V) (b : Bool) (fs : List (Str × V)), xs = [.ref a, c] ∧ H dd = some (.xd fs) ∧
  ((∃ cv : Value, (∀ u, RelV c u → u = cv) ∧ PySem.W.kitOne K (.ref D) cv = some b) ∨ ∃ (p : Addr) (vs : List V) (cs : List Value), c = .ref p ∧ SqT K H p vs ∧ (∀ us, Vals vs us → us = cs) ∧ PySem.W.kitAny K (.ref D) cs = some b) ∧ Q (.bl b) H
theorem call_isD {X : Cx} {a D dd : Addr} {oe : Obj} {pn : List (Addr × Obj)} (C : ExcC X.K D) (hz : Zc (.ref D) (some dd) oe) (hf : ∃ vs, oe.data = .fields vs) : CallR (X.suite a ((a, oe) :: pn)) (.builtin "isinstance") (rIsD X.K D a dd) := by
  intro pins s σ H xs us Q I r h
  obtain ⟨c, b, fs, rfl, hdd, hc, q⟩ := h
  cases r with
  | cons rx rr =>
    cases rr with
    | cons rt rr =>
      cases rr
      cases rx
      obtain ⟨hget, _⟩ := I.pin (a, oe) (List.mem_append.mpr (.inl List.mem_cons_self))
      have hx : ObjOk X.prog X.w H s.heap dd (.xd fs) := I.hok dd _ hdd
      obtain ⟨mA, hns, hr⟩ := hx
      obtain ⟨od, ho, hl⟩ := lookIn_ns hns
      obtain ⟨vs, hv⟩ := hf
      have J : PySem.W.InstAt s.heap a oe D (some od) := ⟨hget, hz.1, by unfold PySem.W.notCls; rw [hv] <;> rfl, by rw [hz.2]; exact ho⟩
      rcases hc with ⟨cv, hcv, e⟩ | ⟨p, ws, cs, rfl, hT, hcs, e⟩
      · have ec := hcv _ rt
        subst ec
        exact PySem.W.kia_one (kitx_excD C) I.kIn J e (fun z => nomatch z) fun tk => ⟨.bl b, H, I.kept (t' := tk) fun _ _ z => z, rfl, q⟩
      · cases rt
        obtain ⟨its, rv, pl, hz2⟩ := I.tuple hT
        have := hcs _ rv
        subst this
        obtain ⟨⟨ocls, odict, odata, osl⟩, hto, hcl, n, hda⟩ := pl
        dsimp only at hcl hda
        subst hcl hda
        exact PySem.W.kia_tup (kitx_excD C) I.kIn J hto e (fun z => nomatch z) fun tk => ⟨.bl b, H, I.kept (t' := tk) fun _ _ z => z, rfl, q⟩
/-- .. of any class -/
def rIsA (K : PySem.W.Frag) (a : Addr) (cls : Value) (d : Option Addr) : List V → Hp → VK → Prop := fun xs H Q => ∃ D dd, cls = .ref D ∧ d = some dd ∧ ExcC K D ∧ rIsD K D a dd xs H Q
theorem call_isA {X : Cx} {a : Addr} {cls : Value} {d : Option Addr} {oe : Obj} {pn : List (Addr × Obj)} (hz : Zc cls d oe) (hf : ∃ vs, oe.data = .fields vs) : CallR (X.suite a ((a, oe) :: pn)) (.builtin "isinstance") (rIsA X.K a cls d) := by
  intro pins s σ H xs us Q I r h
  obtain ⟨D, dd, rfl, rfl, C, q⟩ := h
  exact call_isD C hz hf pins s σ H xs us Q I r q
/-! what the head's hook looks at -/
def excCB (K : PySem.W.Frag) (x : Str) : Bool :=
  decide (PySem.W.findIn K (.ref (He.ga K x)) "__getattribute__" = some (some (.builtin "BaseException.__getattribute__"))) && (decide (PySem.W.findIn K (.ref (He.ga K x)) "__getattr__" = some none) && (decide (PySem.W.subIn K (.ref (He.ga K x)) (.type "BaseException") = some true) && (PySem.W.hasDictIn K (He.ga K x) &&
  (decide (PySem.W.findIn K (.ref (He.ga K x)) "__class__" = some (some (.builtin "object.__class__"))) && (decide (PySem.W.specialIn K (.builtin "object.__class__") "__get__" = some (some (.builtin "getset_descriptor.__get__"))) && (decide (PySem.W.takesIn K (.builtin "object.__class__") = some true) && decide (PySem.W.mroIn K (He.ga K x) (.type "object") = some true)))))))
theorem excCB_ok {K : PySem.W.Frag} {x : Str} (h : excCB K x = true) : ExcC K (He.ga K x) := by
  obtain ⟨h1, h⟩ := He.ba h
  obtain ⟨h2, h⟩ := He.ba h
  obtain ⟨h3, h⟩ := He.ba h
  obtain ⟨h4, h⟩ := He.ba h
  obtain ⟨h5, h⟩ := He.ba h
  obtain ⟨h6, h⟩ := He.ba h
  obtain ⟨h7, h8⟩ := He.ba h
  exact ⟨of_decide_eq_true h1, of_decide_eq_true h2, of_decide_eq_true h3, h4, of_decide_eq_true h5, of_decide_eq_true h6, of_decide_eq_true h7, of_decide_eq_true h8⟩
/-- what the class x answers: of own classes, of builtin ones, of some together -/
structure IsF (K : PySem.W.Frag) (x : Str) (ones : List (Str × Bool)) (tys : List (String × Bool)) (anys : List (List Str × Bool)) : Prop where
  ec : ExcC K (He.ga K x)
  one : ∀ p ∈ ones, PySem.W.kitOne K (.ref (He.ga K x)) (.ref (He.ga K p.1)) = some p.2
  ty : ∀ p ∈ tys, PySem.W.kitOne K (.ref (He.ga K x)) (.type p.1) = some p.2
  any : ∀ p ∈ anys, PySem.W.kitAny K (.ref (He.ga K x)) (p.1.map fun m => .ref (He.ga K m)) = some p.2
def isFB (K : PySem.W.Frag) (x : Str) (ones : List (Str × Bool)) (tys : List (String × Bool)) (anys : List (List Str × Bool)) : Bool :=
  excCB K x && (ones.all (fun p => decide (PySem.W.kitOne K (.ref (He.ga K x)) (.ref (He.ga K p.1)) = some p.2)) && (tys.all (fun p => decide (PySem.W.kitOne K (.ref (He.ga K x)) (.type p.1) = some p.2)) && anys.all (fun p => decide (PySem.W.kitAny K (.ref (He.ga K x)) (p.1.map fun m => .ref (He.ga K m)) = some p.2))))
theorem isFB_ok {K : PySem.W.Frag} {x : Str} {ones : List (Str × Bool)} {tys : List (String × Bool)} {anys : List (List Str × Bool)} (h : isFB K x ones tys anys = true) : IsF K x ones tys anys := by
  obtain ⟨h1, h⟩ := He.ba h
  obtain ⟨h2, h⟩ := He.ba h
  obtain ⟨h3, h4⟩ := He.ba h
  exact ⟨excCB_ok h1, fun p m => of_decide_eq_true (List.all_eq_true.mp h2 p m), fun p m => of_decide_eq_true (List.all_eq_true.mp h3 p m), fun p m => of_decide_eq_true (List.all_eq_true.mp h4 p m)⟩
theorem boot_ValueError : bootBuiltins "ValueError" = some (.type "ValueError") := by decide +kernel
end Q

set_option Elab.async false
set_option linter.all false
set_option maxRecDepth 100000
set_option maxHeartbeats 4000000
set_option pp.maxSteps 2500
namespace PySem
namespace XKW
open PySem.W PySem.Calls PyProof.Rows PySem.HandSPX
/-! ### an own exception class called by one keyword -/
section
variable {M : Model} {A : Around} {E : Value → Shared → Prop} {h : Heap} {g : Array GenState} {d : Drawn} {t : Nat} {os : OsState}
variable {nm q : Str} {C N : Addr} {bs bm bmB : List Value} {hdct : Bool} {sn : List Str} {sub : List Value} {ab : Bool} {col : Option Bool} {dd : Option Addr} {k0 k1 k2 k3 k5 : Option Value} {B newId initId : String}
theorem check_newK (F : ExcBaseFacts B newId initId bmB) (hT : ∀ X : String, bm.contains (.type X) = bmB.contains (.type X)) {n : Str} {u : Value} {Q : Unit → Shared → Prop}
    (hC : h.get? C = some (excClassObj nm q C N bs bm hdct sn sub ab col dd k0 k1 k2 k3 k5 newId)) (hq : Q () ⟨h, g, d, t, os⟩) : wpAny M A (checkBuiltinCall newId ⟨[.ref C], [(n, u)]⟩) Q E ⟨h, g, d, t, os⟩ := by
  have hcont : (Value.ref C :: bm).contains (.type B) = true := by rw [List.contains_cons, hT, F.hasB, Bool.or_true]
  have hstar := F.noStar
  simp only [checkBuiltinCall, F.newKind, F.newSplit, F.newRow]
  repeat (first | refine wpAny_loadPart_at hC ?_ | (refine wpAny_isSubtype_exc hC ?_; rw [hcont]) | refine wpAny_staticBase_exc hC ?_ | refine wpAny_madeBy_exc hC ?_ | simp only [bne_self_eq_false, Bool.false_eq_true, if_false] | wp_step)
  exact hq
end
section
variable {prog : Program} {w : World} {A : Around} {E : Value → Shared → Prop} {R : Result → Shared → Prop} {h : Heap} {g : Array GenState} {d : Drawn} {t : Nat} {os : OsState}
variable {nm q : Str} {C N : Addr} {bs bm bmB : List Value} {hdct : Bool} {sn : List Str} {sub : List Value} {ab : Bool} {col : Option Bool} {dd : Option Addr} {k0 k1 k2 k3 k5 : Option Value} {B newId initId : String}
theorem newK (F : ExcBaseFacts B newId initId bmB) (hT : ∀ X : String, bm.contains (.type X) = bmB.contains (.type X)) {n : Str} {u : Value}
    (hC : h.get? C = some (excClassObj nm q C N bs bm hdct sn sub ab col dd k0 k1 k2 k3 k5 newId))
    (hq : R (.ok (.ret (.ref (h.objs.size + 1)))) ⟨(h.push { cls := .type "tuple", data := .seq #[] }).push
      { cls := .ref C, data := .fields #[.ref h.objs.size, .none, .none, .none, .bool false, .none] }, g, d, t, os⟩) :
    codeAny (model prog w) A (.builtin newId ⟨[.ref C], [(n, u)]⟩) R ⟨h, g, d, t, os⟩ := by
  have hends := F.ends
  have hcB : (Value.ref C :: bm).contains (.type B) = true := by rw [List.contains_cons, hT, F.hasB, Bool.or_true]
  have hcA : (Value.ref C :: bm).contains (.type "AttributeError") = false := by rw [List.contains_cons, hT, F.noAttr]; rfl
  have hcN : (Value.ref C :: bm).contains (.type "NameError") = false := by rw [List.contains_cons, hT, F.noName]; rfl
  refine codeAny_builtinAt F.entry ?_
  unfold Builtin.«BaseException.__new__»
  refine wpAt_bind ?_
  show wpAt _ _ _ (stack >>= _) _ _ _
  refine wpAt_bind (wpAt_stack fun p below => wpAt_of_wpAny ?_)
  wp_walk
  refine wpAt_of_wpAny ?_
  rw [F.owner]
  repeat (first | with_reducible refine wpAny_madeHere_exc F.canon hC ?_ | with_reducible refine wpAny_loadPart_at hC ?_ | (with_reducible refine wpAny_isSubtype_exc hC ?_; first | rw [hcB] | rw [hcA] | rw [hcN]) | wp_step)
  show R _ _
  rw [Heap.size_push]
  exact hq
theorem type_callK (F : ExcBaseFacts B newId initId bmB) (hT : ∀ X : String, bm.contains (.type X) = bmB.contains (.type X)) {n : Str} {u : Value} {fI : Addr} {Q : Fin → Shared → Prop}
    (hC : h.get? C = some (excClassObj nm q C N bs bm hdct sn sub ab col dd k0 k1 k2 k3 k5 newId))
    (hi : W.Looks (model prog w) h (typeLookup (.ref C) "__init__") (some (.ref fI))) (hb : ∀ self, W.Looks (model prog w) h (bindSpecial (.ref fI) self) (.ref fI, [self]))
    (hq : codeAny (model prog w) A (.call (.ref fI) ⟨[.ref (h.objs.size + 1)], [(n, u)]⟩)
      (fun r s' => match r with | .ok (.ret v) => v = .none ∧ Q (.done (.ret (.ref (h.objs.size + 1)))) s' | .ok _ => False | .error e => E e s')
      ⟨(h.push (W.kdv_tup [])).push (excO C h.objs.size), g, d, t, os⟩) :
    wpAny (model prog w) A (Builtin.«type.__call__» ⟨[.ref C], [(n, u)]⟩) Q E ⟨h, g, d, t, os⟩ := by
  repeat (first | with_reducible refine wpAny_loadPart_at hC ?_ | with_reducible refine wpAny_madeBy_exc hC ?_ | wp_step)
  refine codeAny_call_builtin_code (Code.quiet_builtin _ F.quiet) (check_newK F hT hC ?_)
  refine newK F hT hC ?_
  show wpAny _ _ _ _ _ _
  have k : ∀ b o, h.get? b = some o → ((h.push (W.kdv_tup [])).push (excO C h.objs.size)).get? b = some o := fun b o e => Heap.get?_push_of_some _ (Heap.get?_push_of_some _ e)
  have hC₁ := k _ _ hC
  have hget : ((h.push (W.kdv_tup [])).push (excO C h.objs.size)).get? (h.objs.size + 1) = some (excO C h.objs.size) := by heap_get
  have hcC : (Value.ref C :: bm).contains (.ref C) = true := by simp
  have i1 := hi.keeps k
  have b1 := (hb (.ref (h.objs.size + 1))).keeps k
  unfold isInstance
  repeat (first | with_reducible refine wpAny_loadPart_at hget ?_ | (with_reducible refine wpAny_isSubtype_exc hC₁ ?_; rw [hcC]) | wp_step)
  show wpAny _ _ (typeLookup (.ref C) _) _ _ _
  refine i1.at ?_
  refine wpAny_holding (wpAny_bind (b1.at ?_))
  refine wpAny_bind (wpAny_call (codeAny_mono hq fun r s' z => ?_))
  rcases r with e | (v | _ | _ | _) <;> first | exact z | exact z.elim | skip
  obtain ⟨rfl, z⟩ := z
  first
    | exact wpAny_pure (wpAny_pure z)
    | (wp_walk; exact z)
theorem check_type_callK {n : Str} {u : Value} {Q : Unit → Shared → Prop} (hC : h.get? C = some (excClassObj nm q C N bs bm hdct sn sub ab col dd k0 k1 k2 k3 k5 newId))
    (hq : Q () ⟨h, g, d, t, os⟩) : wpAny (model prog w) A (checkBuiltinCall "type.__call__" ⟨[.ref C], [(n, u)]⟩) Q E ⟨h, g, d, t, os⟩ := by
  have f3 := tc_sub
  have hT : (⟨h, g, d, t, os⟩ : Shared).TypeIs (.ref C) "type" := ⟨_, hC, rfl⟩
  simp only [checkBuiltinCall, tc_kind, tc_split]
  repeat (any_goals (first | assumption | with_reducible refine wpAny_loadPart_at hC ?_ | with_reducible refine wpAny_onRaise ?_ | with_reducible refine wpAny_map ?_ | wp_step))
theorem call_ownK (F : ExcBaseFacts B newId initId bmB) (hT : ∀ X : String, bm.contains (.type X) = bmB.contains (.type X)) {n : Str} {u : Value} {fI : Addr}
    (hC : h.get? C = some (excClassObj nm q C N bs bm hdct sn sub ab col dd k0 k1 k2 k3 k5 newId))
    (hi : W.Looks (model prog w) h (typeLookup (.ref C) "__init__") (some (.ref fI))) (hb : ∀ self, W.Looks (model prog w) h (bindSpecial (.ref fI) self) (.ref fI, [self]))
    (hq : codeAny (model prog w) (A.under (.builtin "type.__call__" ⟨[.ref C], [(n, u)]⟩)) (.call (.ref fI) ⟨[.ref (h.objs.size + 1)], [(n, u)]⟩) (W.InitBack (h.objs.size + 1) R)
      ⟨(h.push (W.kdv_tup [])).push (excO C h.objs.size), g, d, t, os⟩) :
    codeAny (model prog w) A (.call (.ref C) ⟨[], [(n, u)]⟩) R ⟨h, g, d, t, os⟩ := by
  have f1 := tc_lookup
  have f2 := tc_bind (.ref C)
  have hTy : (⟨h, g, d, t, os⟩ : Shared).TypeIs (.ref C) "type" := ⟨_, hC, rfl⟩
  refine codeAny_of_tree ?_
  show wpAny _ _ (callAny (.ref C) _) _ _ _
  repeat (any_goals (first | assumption | with_reducible refine wpAny_loadPart_at hC ?_ | wp_step))
  refine ⟨rfl, ?_⟩
  refine codeAny_call_builtin_at (Code.quiet_builtin _ (by decide +kernel)) entry_typeCall (check_type_callK hC (type_callK F hT hC hi hb ?_))
  refine codeAny_mono hq fun r s' z => ?_
  rcases r with e | (v | _ | _ | _) <;> exact z
end
end XKW
end PySem

set_option Elab.async false
set_option linter.all false
set_option maxRecDepth 100000
set_option maxHeartbeats 4000000
set_option pp.maxSteps 2500
namespace Q
open PySem PySem.Spec PyProof.Rows L2
/-! ### exceptions as values: made by position, by keyword, their field, isinstance -/
abbrev GrowH (H H' : Hp) : Prop := ∀ b o, H b = some o → H' b = some o
def Made (H : Hp) (a C : Addr) (v : V) : Prop := ∃ dx, H a = some (exo a C (some dx)) ∧ H dx = some (exd dx [("value", v)])
theorem Made.mono {H H' : Hp} {a C : Addr} {v : V} (h : Made H a C v) (g : GrowH H H') : Made H' a C v := by
  obtain ⟨dx, h1, h2⟩ := h
  exact ⟨dx, g _ _ h1, g _ _ h2⟩
theorem spI_made {C a : Addr} {v : V} {H1 : Hp} {Q : VK} {E : XK} (hn : H1 a = none) (q : ∀ H2, GrowH H1 H2 → Made H2 a C v → Q (.ref a) H2) : spI C [.ref a, v] (upd H1 a (exo a C none)) (fun v' H2 => v' = .non ∧ Q (.ref a) H2) E := by
  refine ⟨rfl, a, v, rfl, upd_same, fun dx n ne => ⟨rfl, q _ ?_ ⟨dx, upd_same, ?_⟩⟩⟩
  · intro b o e
    have hb : b ≠ a := fun z => by rw [z, hn] at e; cases e
    rw [upd_ne ne] at n
    have hb2 : b ≠ dx := fun z => by rw [z, n] at e; cases e
    rw [upd_ne hb, upd_ne hb2, upd_ne hb]
    exact e
  · rw [upd_ne ne]
    exact upd_same
def tExcV (C : Addr) (ta : TA) : TE := fun σ H Q => ta σ H fun vs H1 => ∃ v, vs = [v] ∧ ∀ a H2, H1 a = none → GrowH H1 H2 → Made H2 a C v → Q (.ref a) H2
def ExcOkF (P : Program) (w : World) (K : PySem.W.Frag) (mg : Str → Option Value) (base : Heap) (x qual : Str) (st : Stmt) : Prop :=
  ∃ fd, FunD K "__init__" qual (defArgs st) (defBody st) (defScope st) [] [] (He.ma K (He.ga K x) "__init__") fd ∧ FnOk P w K mg base CX0 1 (He.ma K (He.ga K x) "__init__") fd ["self", "value"] (spI (He.ga K x)) ∧ Binds K fd ["self", "value"] []
theorem ExcOkF.ok {P : Program} {w : World} {K : PySem.W.Frag} {mg : Str → Option Value} {base : Heap} {x qual : Str} {st : Stmt} (F : ExcOkF P w K mg base x qual st) : ExcOk P w K mg base (He.ga K x) (He.ma K (He.ga K x) "__init__") := by
  obtain ⟨fd, _, h1, h2⟩ := F
  exact ⟨fd, h1, h2⟩
/-- how the one keyword binds behind the object -/
def KwI (qual : Str) (st : Stmt) : Prop := ∀ (kV doc pm : Value) (an : Option Addr) (cdv ct self u : Value),
  bindArgs (PySem.W.fnOf "__init__" qual (defArgs st) (defBody st) (defScope st) .none kV doc pm an cdv ct) ⟨[self], [("value", u)]⟩ = pure ([("self", self), ("value", u)] : List (Str × Value))
theorem kwBindsI {K : PySem.W.Frag} {qual : Str} {st : Stmt} {f : Addr} {fd : FuncData} (F : FunD K "__init__" qual (defArgs st) (defBody st) (defScope st) [] [] f fd) (hb : KwI qual st) (s : Shared) (self u : Value) : BindsTo s fd ⟨[self], [("value", u)]⟩ ((["self", "value"] : List Str).zip [self, u]) := by
  obtain ⟨oc, od, dV, kV, doc, pm, an, cdv, ct, osl, rfl, lk, hcd, hD, hK⟩ := F.ex
  rcases hD with ⟨_, rfl⟩ | ⟨e, _⟩
  · exact .of_eq (hb kV doc pm an cdv ct self u)
  · exact absurd rfl e
section
variable {X : Cx} {x qual : Str} {st : Stmt} {e : Expr} {te : TE} {p pos : Pos}
theorem pe_excV (T : HasExc X.K X.mg x qual st) (F : ExcOkF X.prog X.w X.K X.mg X.base x qual st) (hr : Room 2 X.A) (hg : Gl X x) (he' : PE X e te)
    (hdb : (x == ("__debug__" : Str)) = false := by decide) (he : starEach [e] X.env = (false, eval e X.env) :: starEach [] X.env := by rfl) (hpl : (backTo pos (starEach [] X.env)).any (·.1) = false := by rfl) :
    PE X (.Call (.Name x p) [e] [] pos) (tExcV (He.ga X.K x) (tCons te tNil)) := by
  obtain ⟨fd, FD, F1, hb⟩ := F
  refine ⟨fun pins s σ H Q I h => ?_⟩
  obtain ⟨nm, q, N, bs, bm, sn, sub, ab, col, dd, k0, k1, k2, k3, k5, hC, hbm⟩ := T.oex.cls
  refine wpAny_Call_Name_kw (ld_glob I hg T.hm ?_ hdb)
  refine PySem.W.callWith_K (h₀ := X.base) I.ok.mod.kin T.oex.kC (thn ((pa_cons he' pa_nil (by rw [he])).run pos pins s σ H _ I h) fun us s1 ⟨vs, H1, I1, r1, v, ev, q1⟩ => ⟨I1.kIn, ?_⟩) he hpl
  subst ev
  show wpAny _ _ (call (.ref _) us) _ _ _
  obtain ⟨hp, g, dr, tk, os⟩ := s1
  have hsz : hp.objs.size ≤ hp.objs.size + 1 := Nat.le_succ _
  have hn : H1 (hp.objs.size + 1) = none := I1.hok.fresh hsz
  have hq := spI_made (E := fun _ _ _ => False) hn (q1 (hp.objs.size + 1) · hn)
  have kk : ∀ b o, hp.get? b = some o → ((hp.push (PySem.W.kdv_tup us)).push (PySem.HandSPX.excO (He.ga X.K x) hp.objs.size)).get? b = some o := fun b o e => Heap.get?_push_of_some _ (Heap.get?_push_of_some _ e)
  have hget : ((hp.push (PySem.W.kdv_tup us)).push (PySem.HandSPX.excO (He.ga X.K x) hp.objs.size)).get? (hp.objs.size + 1) = some (PySem.HandSPX.excO (He.ga X.K x) hp.objs.size) := by heap_get
  have I2 : Inv X pins σ (upd H1 (hp.objs.size + 1) (exo (hp.objs.size + 1) (He.ga X.K x) none)) ⟨(hp.push (PySem.W.kdv_tup us)).push (PySem.HandSPX.excO (He.ga X.K x) hp.objs.size), g, dr, tk, os⟩ :=
    I1.laid (t' := tk) (a := hp.objs.size + 1) (o := exo (hp.objs.size + 1) (He.ga X.K x) none) (h' := (hp.push (PySem.W.kdv_tup us)).push (PySem.HandSPX.excO (He.ga X.K x) hp.objs.size)) kk hsz (exo_ok hget)
  have r2 : Vals (V.ref (hp.objs.size + 1) :: [v]) (Value.ref (hp.objs.size + 1) :: us) := .cons rfl r1
  have hl : (Value.ref (hp.objs.size + 1) :: us ++ []).length = ["self", "value"].length := by
    rw [List.append_nil]
    have e := r2.length
    exact e.symm
  have hus : us.length ≤ sizeLine := by
    rw [← Paired.length r1, sizeLine_eq]
    show 1 ≤ 16777216
    decide
  have bt := hb ⟨(hp.push (PySem.W.kdv_tup us)).push (PySem.HandSPX.excO (He.ga X.K x) hp.objs.size), g, dr, tk, os⟩ (Value.ref (hp.objs.size + 1) :: us) I2.kIn hl
  rw [List.append_nil] at bt
  refine wpAny_call (PySem.HandSPX.call_own F.excBase_ValueError (fun Y => PySem.HandSPX.refsVE_contains Y bm hbm) (I1.kIn _ _ hC) (PySem.W.looks_findIn I1.kIn T.iC) (fun self => PySem.W.bind_fn I1.kIn self T.tI) hus
    (codeAny_mono (F1.run _ X.stack _ _ ⟨Value.ref (hp.objs.size + 1) :: us, []⟩ (Value.ref (hp.objs.size + 1) :: us) _ _ (fun _ _ _ => False) (hr.make _ us []) (I2.env0.make _ us []) bt r2 hq) fun r s' hq' => ?_))
  cases r with
  | error er => exact pass0 pins σ _ _ er s' I2 hq'
  | ok fl =>
    cases fl with
    | ret u =>
      obtain ⟨v', H', I3, rv, ev, q3⟩ := I2.after hq'
      subst ev
      exact ⟨rv, ⟨V.ref (hp.objs.size + 1), H', I3, rfl, q3⟩⟩
    | next => exact False.elim hq'
    | brk => exact False.elim hq'
    | cont => exact False.elim hq'
theorem pe_excVK {kpos : Pos} (T : HasExc X.K X.mg x qual st) (F : ExcOkF X.prog X.w X.K X.mg X.base x qual st) (hr : Room 2 X.A) (hg : Gl X x) (hbk : KwI qual st) (he' : PE X e te)
    (hdb : (x == ("__debug__" : Str)) = false := by decide) (hall : (backToKw pos (keywordEach [⟨some "value", e, kpos⟩] X.env)).all (·.1.isSome) = true := by rfl) (hks : (backToKw pos (keywordEach [⟨some "value", e, kpos⟩] X.env)).filterMap (·.1) = (["value"] : List Str) := by rfl)
    (hpl : ((backTo pos (starEach [] X.env)).any (·.1) || (backToKw pos (keywordEach [⟨some "value", e, kpos⟩] X.env)).any (·.1.isNone)) = false := by rfl) :
    PE X (.Call (.Name x p) [] [⟨some "value", e, kpos⟩] pos) (tExcV (He.ga X.K x) (tCons te tNil)) := by
  obtain ⟨fd, FD, F1, hb⟩ := F
  refine ⟨fun pins s σ H Q I h => ?_⟩
  obtain ⟨nm, q, N, bs, bm, sn, sub, ab, col, dd, k0, k1, k2, k3, k5, hC, hbm⟩ := T.oex.cls
  refine wpAny_Call_Name_kw (ld_glob I hg T.hm ?_ hdb)
  refine PySem.W.callWith_KW0 (first := []) (h₀ := X.base) I.ok.mod.kin T.oex.kC hall (thn ((pk_cons he' pk_nil).run pos pins s σ H _ I h) fun us s1 ⟨vs, H1, I1, r1, v, ev, q1⟩ => ⟨I1.kIn, ?_⟩) hpl
  rw [hks]
  subst ev
  cases r1 with
  | @cons _ u0 _ _ ru rr =>
  cases rr
  obtain ⟨hp, g, dr, tk, os⟩ := s1
  have hsz : hp.objs.size ≤ hp.objs.size + 1 := Nat.le_succ _
  have hn : H1 (hp.objs.size + 1) = none := I1.hok.fresh hsz
  have hq := spI_made (E := fun _ _ _ => False) hn (q1 (hp.objs.size + 1) · hn)
  have kk : ∀ b o, hp.get? b = some o → ((hp.push (PySem.W.kdv_tup [])).push (PySem.HandSPX.excO (He.ga X.K x) hp.objs.size)).get? b = some o := fun b o e => Heap.get?_push_of_some _ (Heap.get?_push_of_some _ e)
  have hget : ((hp.push (PySem.W.kdv_tup [])).push (PySem.HandSPX.excO (He.ga X.K x) hp.objs.size)).get? (hp.objs.size + 1) = some (PySem.HandSPX.excO (He.ga X.K x) hp.objs.size) := by heap_get
  have I2 : Inv X pins σ (upd H1 (hp.objs.size + 1) (exo (hp.objs.size + 1) (He.ga X.K x) none)) ⟨(hp.push (PySem.W.kdv_tup [])).push (PySem.HandSPX.excO (He.ga X.K x) hp.objs.size), g, dr, tk, os⟩ :=
    I1.laid (t' := tk) (a := hp.objs.size + 1) (o := exo (hp.objs.size + 1) (He.ga X.K x) none) (h' := (hp.push (PySem.W.kdv_tup [])).push (PySem.HandSPX.excO (He.ga X.K x) hp.objs.size)) kk hsz (exo_ok hget)
  have r2 : Vals (V.ref (hp.objs.size + 1) :: [v]) (Value.ref (hp.objs.size + 1) :: [u0]) := .cons rfl (.cons ru .nil)
  have bt := kwBindsI FD hbk ⟨(hp.push (PySem.W.kdv_tup [])).push (PySem.HandSPX.excO (He.ga X.K x) hp.objs.size), g, dr, tk, os⟩ (Value.ref (hp.objs.size + 1)) u0
  refine wpAny_call (PySem.XKW.call_ownK F.excBase_ValueError (fun Y => PySem.HandSPX.refsVE_contains Y bm hbm) (I1.kIn _ _ hC) (PySem.W.looks_findIn I1.kIn T.iC) (fun self => PySem.W.bind_fn I1.kIn self T.tI)
    (codeAny_mono (F1.run _ X.stack _ _ ⟨[Value.ref (hp.objs.size + 1)], [("value", u0)]⟩ [Value.ref (hp.objs.size + 1), u0] _ _ (fun _ _ _ => False) (hr.make _ [] [("value", u0)]) (I2.env0.make _ [] [("value", u0)]) bt r2 hq) fun r s' hq' => ?_))
  cases r with
  | error er => exact pass0 pins σ _ _ er s' I2 hq'
  | ok fl =>
    cases fl with
    | ret u =>
      obtain ⟨v', H', I3, rv, ev, q3⟩ := I2.after hq'
      subst ev
      exact ⟨rv, ⟨V.ref (hp.objs.size + 1), H', I3, rfl, q3⟩⟩
    | next => exact False.elim hq'
    | brk => exact False.elim hq'
    | cont => exact False.elim hq'
/-- e.value, e such a value -/
def tXval (K : PySem.W.Frag) (f : Str) (te : TE) : TE := fun σ H Q => te σ H fun x H1 => ∃ (a C : Addr) (v : V), x = .ref a ∧ Made H1 a C v ∧ XfC K C ∧ PySem.W.findIn K (.ref C) f = some none ∧ f = "value" ∧ Q v H1
theorem pe_xval {n : Str} (he : PE X e te) (hb : attributeBase e n X.env (eval e X.env) = eval e X.env := by rfl) : PE X (.Attribute e n pos) (tXval X.K n te) := by
  refine ⟨fun pins s σ H Q I h => ?_⟩
  refine attr_of hb (thn (he.run pins s σ H _ I h) fun u s1 hh => ?_)
  obtain ⟨y, H1, I1, rx, a, C, v, ey, ⟨dx, ea, ed⟩, T, hno, en, q⟩ := hh
  subst ey
  subst en
  obtain rfl : u = Value.ref a := rx
  obtain ⟨t1, ha⟩ := exo_at I1.hok ea
  obtain ⟨mA, hns, hr⟩ := exd_at I1.hok ed
  obtain ⟨od, ho, hl⟩ := lookIn_ns hns
  obtain ⟨u, hu, ru⟩ := RelO.some_of (v := v) (o := mA "value") (by have := hr "value"; simpa using this)
  have J : PySem.W.InstAt s1.heap a _ C (some od) := ⟨ha, rfl, rfl, ho⟩
  exact HandSPX.exc_get I1.kIn J T.ga T.gg T.exC (PySem.W.findObj_own T.hdC hno rfl (by rw [hl, hu])) (handed_of ru) ⟨v, H1, I1.tok _, ru, q⟩
end
/-! isinstance of such values -/
/-- an exception of the class at C: with a value, or (a class without own __init__) without -/
def IsVal (H : Hp) (a C : Addr) : Prop := (∃ v, Made H a C v) ∨ H a = some (ExO (.ref C) a)
theorem IsVal.mono {H H' : Hp} {a C : Addr} (h : IsVal H a C) (g : GrowH H H') : IsVal H' a C := by
  rcases h with ⟨v, h⟩ | h
  · exact .inl ⟨v, h.mono g⟩
  · exact .inr (g _ _ h)
def rIsV (K : PySem.W.Frag) : List V → Hp → VK → Prop := fun xs H Q => ∃ (a C : Addr) (c : V) (cv : Value) (b : Bool), xs = [.ref a, c] ∧ IsVal H a C ∧ ExcC K C ∧ (∀ u, RelV c u → u = cv) ∧ PySem.W.kitOne K (.ref C) cv = some b ∧ Q (.bl b) H
theorem cr_isV {X : Cx} : CallR X (.builtin "isinstance") (rIsV X.K) := by
  intro pins s σ H xs us Q I r h
  obtain ⟨a, D, c, cv, b, rfl, hv, C, hcv, e, q⟩ := h
  cases r with
  | cons rx rr =>
    cases rr with
    | cons rt rr =>
      cases rr
      cases rx
      have ec := hcv _ rt
      subst ec
      rcases hv with ⟨v, dx, ea, ed⟩ | ea
      · obtain ⟨t1, ha⟩ := exo_at I.hok ea
        obtain ⟨mA, hns, hr⟩ := exd_at I.hok ed
        obtain ⟨od, ho, hl⟩ := lookIn_ns hns
        have J : PySem.W.InstAt s.heap a _ D (some od) := ⟨ha, rfl, rfl, ho⟩
        exact PySem.W.kia_one (kitx_excD C) I.kIn J e (fun z => nomatch z) fun tk => ⟨.bl b, H, I.kept (t' := tk) fun _ _ z => z, rfl, q⟩
      · obtain ⟨⟨oe, vs, hget, hz, hv, _⟩, _, _⟩ := I.hok a _ ea
        have J : PySem.W.InstAt s.heap a oe D none := by
          obtain ⟨oc, od, oda, osl⟩ := oe
          obtain ⟨h1, h2⟩ := hz
          dsimp only at h1 h2 hv
          subst h1 h2 hv
          exact ⟨hget, rfl, rfl, trivial⟩
        exact PySem.W.kia_one (PySem.W.handS_kitx_exc C.hg C.hk C.hs C.hd C.ha C.hn C.ht C.hm) I.kIn J e (fun z => nomatch z) fun tk => ⟨.bl b, H, I.kept (t' := tk) fun _ _ z => z, rfl, q⟩
/-! the base class itself, called with a text -/
def bmVE : List Value := [.type "ValueError", .type "Exception", .type "BaseException", .type "object"]
def bareB (K : PySem.W.Frag) (x : Str) : Bool := PySem.W.excIn K (He.ga K x) bmVE "ValueError.__new__" && PySem.W.keepIn K (.ref (He.ga K x))
structure Bare (K : PySem.W.Frag) (x : Str) : Prop where
  q : PySem.W.excIn K (He.ga K x) bmVE "ValueError.__new__" = true
  kC : PySem.W.keepIn K (.ref (He.ga K x)) = true
theorem bareB_ok {K : PySem.W.Frag} {x : Str} (h : bareB K x = true) : Bare K x := by
  obtain ⟨h1, h2⟩ := He.ba h
  exact ⟨h1, h2⟩
def tExcB (C : Addr) (ta : TE) : TE := fun σ H Q => ta σ H fun _ H1 => ∀ a, H1 a = none → Q (.ref a) (upd H1 a (ExO (.ref C) a))
theorem pe_excB {X : Cx} {x : Str} {e : Expr} {ta : TE} {p pos : Pos} (T : Bare X.K x) (gC : X.mg x = some (.ref (He.ga X.K x))) (hg : Gl X x) (he : PE X e ta) (hs : starEach [e] X.env = (false, eval e X.env) :: starEach [] X.env := by rfl) (hdb : (x == ("__debug__" : Str)) = false := by decide) :
    PE X (.Call (.Name x p) [e] [] pos) (tExcB (He.ga X.K x) ta) := pe_exc1 F.excBase_ValueError T.q gC T.kC hg he hs hdb
end Q

set_option Elab.async false
set_option linter.all false
set_option maxRecDepth 100000
set_option maxHeartbeats 4000000
set_option pp.maxSteps 2500
namespace Q
open PySem PySem.Spec PyProof.Rows L2
/-! the steps' tactic: runs a reading up to a choice, a call, a loop, a store -/
local macro_rules | `(tactic| walk_at "w1") => `(tactic| (with_reducible first
  | refine w_var (by with_unfolding_all exact rfl) ?_
  | refine w_c ?_
  | refine w_op ?_
  | refine w_test ?_
  | refine w_tb ?_
  | refine w_cons ?_
  | refine w_nil ?_
  | refine w_cb ?_
  | refine w_call ?_
  | refine w_kw ?_
  | refine z_asg ?_
  | refine z_ret ?_
  | refine z_if ?_
  | refine z_drop ?_
  | refine g_name ?_
  | refine g_sub ?_
  | refine w_bm ?_
  | refine w_bm0 ?_
  | refine w_m1 ?_
  | refine w_m0 ?_
  | refine w_and ?_
  | refine w_or ?_
  | refine w_not ?_
  | refine w_chain ?_
  | refine w_andV ?_
  | refine w_orV ?_
  | refine w_notV ?_
  | refine w_if ?_
  | refine w_un ?_
  | refine w_sl ?_
  | refine w_part ?_
  | refine w_nopart ?_
  | refine w_tup ?_
  | refine w_lst ?_
  | refine w_yes ?_
  | refine z_for ?_
  | refine z_for1 ?_
  | refine w_ilist ?_
  | refine w_irng1 ?_
  | refine w_irng2 ?_
  | refine w_istr ?_
  | refine w_itup ?_
  | refine w_lc ?_
  | refine z_asg1 ?_
  | refine z_if1 ?_
  | refine z_drop1 ?_
  | refine z_next ?_
  | refine o_add ?_
  | refine o_sub ?_
  | refine o_lt ?_
  | refine o_le ?_
  | refine o_gt ?_
  | refine o_ge ?_
  | refine o_neg ?_
  | refine o_max2 ?_
  | refine o_min2 ?_
  | refine o_intB ?_
  | refine o_isn ?_
  | refine o_notn ?_
  | refine o_inc ?_
  | refine o_notinc ?_
  | refine o_eq (by with_unfolding_all exact rfl) ?_
  | refine o_ne (by with_unfolding_all exact rfl) ?_
  | refine o_ixLn (by first | assumption | exact upd_same) (by decide) (by with_unfolding_all exact rfl) ?_
  | refine o_ixTn (by first | assumption | exact upd_same) (by decide) (by with_unfolding_all exact rfl) ?_
  | refine g_tup (by first | assumption | exact upd_same) (by with_unfolding_all exact rfl) ?_
  | refine g_cons ?_
  | refine g_nil ?_
  | refine g_setLn (by first | assumption | exact upd_same) (by decide) (by with_unfolding_all exact rfl) ?_
  | refine p_2_61 ?_
  | refine p_10_18 ?_
  | refine p_10_15 ?_
  | refine p_10_30 ?_
  | refine p_10_29 ?_
  | refine iteT ?_
  | refine iteF ?_
  | refine ite_nt ?_
  | refine ite_nf ?_
  | refine ⟨_, rfl, ?_⟩
  | refine ⟨⟨_, rfl⟩, ?_⟩))
local macro_rules | `(tactic| walk_at "w") => `(tactic| (repeat walk_at "w1"))

/-! ### the classes keep their value -/
def t_law_classes_right (K : PySem.W.Frag) : TS := (tSeq (tAsg (tLst (tCons (tExcV (He.ga K "BadRow") (tCons (tC (.int 3)) tNil)) (tCons (tExcV (He.ga K "BadCall") (tCons (tC (.int 0)) tNil)) (tCons (tExcV (He.ga K "BadCounts") (tCons (tC .non) tNil)) (tCons (tExcV (He.ga K "BadColour") (tCons (tC (.str "g")) tNil)) (tCons (tExcV (He.ga K "BadGoal") (tCons (tC .non) tNil)) (tCons (tExcV (He.ga K "BadIndex") (tCons (tUn (rU fun i => .int (-i)) (tC (.int 1))) tNil)) tNil))))))) (gName 0))
    (tSeq (tAsg (tOp rCat (tVar 0) (tLst (tCons (tExcV (He.ga K "BadText") (tCons (tC (.str "x")) tNil)) (tCons (tExcV (He.ga K "BadTimes") (tCons (tUn (rU fun i => .int (-i)) (tC (.int 2))) tNil)) tNil)))) (gName 0))
    (tSeq (tIfS (tTest (tOp (rNeD K) (tLc (iList K (tVar 0)) (gName 2) tYes (tXval K "value" (tVar 2)) [2]) (tLst (tCons (tC (.int 3)) (tCons (tC (.int 0)) (tCons (tC .non) (tCons (tC (.str "g")) (tCons (tC .non) (tCons (tUn (rU fun i => .int (-i)) (tC (.int 1))) (tCons (tC (.str "x")) (tCons (tUn (rU fun i => .int (-i)) (tC (.int 2))) tNil))))))))))) (tRet (tC (.bl false))) tNext)
    (tSeq (tAsg (tExcB (He.ga K "DrillError") (tC (.str "no"))) (gName 1))
    (tRet (tOp (rEqD K) (tLc (iList K (tOp rCat (tVar 0) (tLst (tCons (tVar 1) tNil)))) (gName 2) (tOr (tNot (tB (tCB (rIsV K) (tCons (tVar 2) (tCons (tC (.ref (He.ga K "DrillError"))) tNil))))) (tNot (tB (tCB (rIsV K) (tCons (tVar 2) (tCons (tC (.ty "ValueError")) tNil)))))) (tC (.int 1)) [2]) (tLst tNil)))))))

structure VF (K : PySem.W.Frag) (nm : Str) : Prop where
  xf : XfC K (He.ga K nm)
  nov : PySem.W.findIn K (.ref (He.ga K nm)) "value" = some none
  ec : ExcC K (He.ga K nm)
  one : PySem.W.kitOne K (.ref (He.ga K nm)) (.ref (He.ga K "DrillError")) = some true
  ty : PySem.W.kitOne K (.ref (He.ga K nm)) (.type "ValueError") = some true
theorem vfOf {K : PySem.W.Frag} {nm : Str} {ones : List (Str × Bool)} {tys : List (String × Bool)} {anys : List (List Str × Bool)} (xf : XfC K (He.ga K nm)) (nov : PySem.W.findIn K (.ref (He.ga K nm)) "value" = some none) (Y : IsF K nm ones tys anys)
    (h1 : (("DrillError" : Str), true) ∈ ones) (h2 : ("ValueError", true) ∈ tys) : VF K nm := ⟨xf, nov, Y.ec, Y.one _ h1, Y.ty _ h2⟩
structure BF (K : PySem.W.Frag) : Prop where
  ec : ExcC K (He.ga K "DrillError")
  one : PySem.W.kitOne K (.ref (He.ga K "DrillError")) (.ref (He.ga K "DrillError")) = some true
  ty : PySem.W.kitOne K (.ref (He.ga K "DrillError")) (.type "ValueError") = some true
theorem bfOf {K : PySem.W.Frag} {ones : List (Str × Bool)} {tys : List (String × Bool)} {anys : List (List Str × Bool)} (Y : IsF K "DrillError" ones tys anys) (h1 : (("DrillError" : Str), true) ∈ ones) (h2 : ("ValueError", true) ∈ tys) : BF K := ⟨Y.ec, Y.one _ h1, Y.ty _ h2⟩
def MadeL (K : PySem.W.Frag) (H : Hp) : List V → List (Str × V) → Prop
  | [], [] => True
  | x :: xs, e :: es => (∃ a, x = .ref a ∧ Made H a (He.ga K e.1) e.2) ∧ MadeL K H xs es
  | _, _ => False
theorem MadeL.mono {K : PySem.W.Frag} {H H' : Hp} (g : GrowH H H') : ∀ {xs : List V} {es : List (Str × V)}, MadeL K H xs es → MadeL K H' xs es
  | [], [], _ => True.intro
  | x :: xs, e :: es, h => by
    obtain ⟨⟨a, h1, h2⟩, h3⟩ := h
    exact ⟨⟨a, h1, h2.mono g⟩, MadeL.mono g h3⟩
  | [], _ :: _, h => h.elim
  | _ :: _, [], h => h.elim
theorem MadeL.app {K : PySem.W.Frag} {H : Hp} {ys : List V} {fs : List (Str × V)} (k : MadeL K H ys fs) : ∀ {xs : List V} {es : List (Str × V)}, MadeL K H xs es → MadeL K H (xs ++ ys) (es ++ fs)
  | [], [], _ => k
  | x :: xs, e :: es, h => ⟨h.1, MadeL.app k h.2⟩
  | [], _ :: _, h => h.elim
  | _ :: _, [], h => h.elim
theorem MadeL.len {K : PySem.W.Frag} {H : Hp} : ∀ {xs : List V} {es : List (Str × V)}, MadeL K H xs es → xs.length = es.length
  | [], [], _ => rfl
  | x :: xs, e :: es, h => by rw [List.length_cons, List.length_cons, MadeL.len h.2]
  | [], _ :: _, h => h.elim
  | _ :: _, [], h => h.elim
def mkXT : List (Addr × TE) → TA
  | [] => tNil
  | (C, te) :: r => tCons (tExcV C (tCons te tNil)) (mkXT r)
theorem w_mk {K : PySem.W.Frag} {σ : L2.St} : ∀ (l : List (Str × V × TE)) (H : Hp) (Q : List V → Hp → Prop), (∀ p ∈ l, ∀ (H' : Hp) (R : VK), R p.2.1 H' → p.2.2 σ H' R) → (∀ xs H2, GrowH H H2 → MadeL K H2 xs (l.map fun p => (p.1, p.2.1)) → Q xs H2) → mkXT (l.map fun p => (He.ga K p.1, p.2.2)) σ H Q
  | [], H, Q, _, q => q [] H (fun _ _ e => e) True.intro
  | (nm, v, te) :: r, H, Q, h, q => by
    show tCons (tExcV (He.ga K nm) (tCons te tNil)) (mkXT (r.map fun p => (He.ga K p.1, p.2.2))) σ H Q
    refine w_cons ?_
    refine h _ List.mem_cons_self H _ ?_
    refine ⟨v, rfl, fun a H2 n g m => ?_⟩
    refine w_mk r H2 _ (fun p hp => h p (List.mem_cons_of_mem _ hp)) fun xs H3 g3 m3 => ?_
    exact q _ _ (fun b o e => g3 _ _ (g _ _ e)) ⟨⟨a, rfl, m.mono g3⟩, m3⟩
theorem grow_upd {H : Hp} {p : Addr} {o : HO} (hp : H p = none) : GrowH H (upd H p o) := fun b u e => same_upd hp _ _ e
theorem w_xv {K : PySem.W.Frag} {σ : L2.St} {H : Hp} {Q : VK} {i : Nat} {a : Addr} {v : V} {nm : Str} (V1 : VF K nm) (hv : σ[i]? = some (some (.ref a))) (m : Made H a (He.ga K nm) v) (q : Q v H) : tXval K "value" (tVar i) σ H Q := w_var hv ⟨a, _, v, rfl, m, V1.xf, V1.nov, rfl, q⟩
theorem w_is1 {K : PySem.W.Frag} {H : Hp} {Q : VK} {a C : Addr} {b : Bool} {m : Str} (hv : IsVal H a C) (ec : ExcC K C) (hk : PySem.W.kitOne K (.ref C) (.ref (He.ga K m)) = some b) (q : Q (.bl b) H) : rIsV K [.ref a, .ref (He.ga K m)] H Q := ⟨a, C, _, _, b, rfl, hv, ec, fun u r => r, hk, q⟩
theorem w_is2 {K : PySem.W.Frag} {H : Hp} {Q : VK} {a C : Addr} {b : Bool} {m : String} (hv : IsVal H a C) (ec : ExcC K C) (hk : PySem.W.kitOne K (.ref C) (.type m) = some b) (q : Q (.bl b) H) : rIsV K [.ref a, .ty m] H Q := ⟨a, C, _, _, b, rfl, hv, ec, fun u r => r, hk, q⟩
def f_law_classes_right : FP := fun ds P => ds = [] ∧ P (.bl true)
theorem len_law_classes_right : ∀ ds P, f_law_classes_right ds P → ds.length = 0 := by
  rintro ds P ⟨rfl, _⟩
  rfl
def sp_law_classes_right (K : PySem.W.Frag) : Sp := fun vs H Q E => vs.length = 0 ∧ spP K f_law_classes_right vs H Q E
theorem co_law_classes_right {K : PySem.W.Frag} {W : Wo} {E : XK} : CallOk K W (sp_law_classes_right K) [] E (FP.d f_law_classes_right) := call_pn len_law_classes_right
theorem pure_law_classes_right {K : PySem.W.Frag} {vs : List V} {H : Hp} {Q : VK} {E : XK} (V1 : VF K "BadRow") (V2 : VF K "BadCall") (V3 : VF K "BadCounts") (V4 : VF K "BadColour") (V5 : VF K "BadGoal") (V6 : VF K "BadIndex") (V7 : VF K "BadText") (V8 : VF K "BadTimes") (B : BF K)
    (h : sp_law_classes_right K vs H Q E) : t_law_classes_right K { nx := fun _ H' => Q .non H', rt := Q } (L2.start ["some", "bare", "one"] vs) H := by
  obtain ⟨_, S, ds, P, s, hd, ⟨rfl, hP⟩, k⟩ := h
  cases hd
  have fin : ∀ H', GrowH H H' → Q (.bl true) H' := fun H' g => k (.bl true) _ S H' hP ⟨Same.refl _, fun b o e => g _ _ (s b o e), g, fun b o e => .inl e⟩ (.bl true)
  clear k hP s
  unfold t_law_classes_right
  refine z_asg (w_lst (w_mk (K := K) [("BadRow", .int 3, tC (.int 3)), ("BadCall", .int 0, tC (.int 0)), ("BadCounts", .non, tC .non), ("BadColour", .str "g", tC (.str "g")), ("BadGoal", .non, tC .non), ("BadIndex", .int (-1), tUn (rU fun i => .int (-i)) (tC (.int 1)))] _ _ ?_ fun xs H1 g1 m1 => ⟨?_, fun p hp => ?_⟩))
  · intro p hp H' R q
    simp only [List.mem_cons, List.not_mem_nil, or_false] at hp
    rcases hp with rfl | rfl | rfl | rfl | rfl | rfl <;> (walk_at "w"; exact q)
  · rw [m1.len]
    show 6 ≤ 16777216
    decide
  refine g_name ?_
  have hl1 : upd H1 p (.lst xs) p = some (.lst xs) := upd_same
  have g1 : GrowH H (upd H1 p (.lst xs)) := fun b o e => grow_upd hp _ _ (g1 _ _ e)
  have m1 := m1.mono (grow_upd (o := .lst xs) hp)
  generalize upd H1 p (.lst xs) = G1 at *
  refine z_asg (w_op (w_var rfl (w_lst (w_mk (K := K) [("BadText", .str "x", tC (.str "x")), ("BadTimes", .int (-2), tUn (rU fun i => .int (-i)) (tC (.int 2)))] _ _ ?_ fun ys H2 g2 m2 => ⟨?_, fun p2 hp2 => ?_⟩))))
  · intro p hp H' R q
    simp only [List.mem_cons, List.not_mem_nil, or_false] at hp
    rcases hp with rfl | rfl <;> (walk_at "w"; exact q)
  · rw [m2.len]
    show 2 ≤ 16777216
    decide
  refine ⟨p, p2, xs, ys, rfl, rfl, grow_upd hp2 _ _ (g2 _ _ hl1), upd_same, by rw [m1.len, m2.len]; show 6 + 2 ≤ 16777216; decide, fun p3 hp3 => g_name ?_⟩
  have g3 : GrowH G1 (upd (upd H2 p2 (.lst ys)) p3 (.lst (xs ++ ys))) := fun b o e => grow_upd hp3 _ _ (grow_upd hp2 _ _ (g2 _ _ e))
  have m3 := MadeL.app (m2.mono fun b o e => grow_upd (o := .lst (xs ++ ys)) hp3 _ _ (grow_upd (o := .lst ys) hp2 _ _ e)) (m1.mono g3)
  have hl3 : upd (upd H2 p2 (.lst ys)) p3 (.lst (xs ++ ys)) p3 = some (.lst (xs ++ ys)) := upd_same
  have g3 : GrowH H (upd (upd H2 p2 (.lst ys)) p3 (.lst (xs ++ ys))) := fun b o e => g3 _ _ (g1 _ _ e)
  generalize upd (upd H2 p2 (.lst ys)) p3 (.lst (xs ++ ys)) = G3 at *
  generalize xs ++ ys = zs at *
  clear m1 m2 hl1
  obtain ⟨a1, a2, a3, a4, a5, a6, a7, a8, rfl, m1, m2, m4, m5, m6, m7, m8, m9⟩ : ∃ a1 a2 a3 a4 a5 a6 a7 a8 : Addr, zs = [.ref a1, .ref a2, .ref a3, .ref a4, .ref a5, .ref a6, .ref a7, .ref a8] ∧ Made G3 a1 (He.ga K "BadRow") (.int 3) ∧ Made G3 a2 (He.ga K "BadCall") (.int 0) ∧ Made G3 a3 (He.ga K "BadCounts") .non ∧ Made G3 a4 (He.ga K "BadColour") (.str "g") ∧
      Made G3 a5 (He.ga K "BadGoal") .non ∧ Made G3 a6 (He.ga K "BadIndex") (.int (-1)) ∧ Made G3 a7 (He.ga K "BadText") (.str "x") ∧ Made G3 a8 (He.ga K "BadTimes") (.int (-2)) := by
    match zs, m3 with
    | [_, _, _, _, _, _, _, _], ⟨⟨a1, e1, m1⟩, ⟨a2, e2, m2⟩, ⟨a3, e3, m3⟩, ⟨a4, e4, m4⟩, ⟨a5, e5, m5⟩, ⟨a6, e6, m6⟩, ⟨a7, e7, m7⟩, ⟨a8, e8, m8⟩, _⟩ =>
      subst e1 e2 e3 e4 e5 e6 e7 e8
      exact ⟨a1, a2, a3, a4, a5, a6, a7, a8, rfl, m1, m2, m3, m4, m5, m6, m7, m8⟩
  clear m3
  walk_at "w"
  refine ⟨⟨_, SqL.of hl3⟩, fun Dl hDl => ?_⟩
  refine c_pureL [(V.ref a1, V.int 3), (.ref a2, .int 0), (.ref a3, .non), (.ref a4, .str "g"), (.ref a5, .non), (.ref a6, .int (-1)), (.ref a7, .str "x"), (.ref a8, .int (-2))] Prod.fst Prod.snd (by show 8 ≤ 16777216; decide) hDl (SqL.of hl3) (fun x => rfl) (fun y H' Q' hy e q => ?_) (fun H4 e hD => ?_)
  · simp only [List.mem_cons, List.not_mem_nil, or_false] at hy
    rcases hy with rfl | rfl | rfl | rfl | rfl | rfl | rfl | rfl
    · exact w_xv V1 (by with_unfolding_all rfl) (m1.mono e) (q _ (Same.refl _))
    · exact w_xv V2 (by with_unfolding_all rfl) (m2.mono e) (q _ (Same.refl _))
    · exact w_xv V3 (by with_unfolding_all rfl) (m4.mono e) (q _ (Same.refl _))
    · exact w_xv V4 (by with_unfolding_all rfl) (m5.mono e) (q _ (Same.refl _))
    · exact w_xv V5 (by with_unfolding_all rfl) (m6.mono e) (q _ (Same.refl _))
    · exact w_xv V6 (by with_unfolding_all rfl) (m7.mono e) (q _ (Same.refl _))
    · exact w_xv V7 (by with_unfolding_all rfl) (m8.mono e) (q _ (Same.refl _))
    · exact w_xv V8 (by with_unfolding_all rfl) (m9.mono e) (q _ (Same.refl _))
  walk_at "w"
  refine ⟨by show 8 ≤ 16777216; decide, fun p4 hp4 => ?_⟩
  have hD4 := grow_upd (o := .lst [V.int 3, .int 0, .non, .str "g", .non, .int (-1), .str "x", .int (-2)]) hp4 _ _ hD
  have all8 : ∀ {H : Hp}, DtAll H [V.int 3, .int 0, .non, .str "g", .non, .int (-1), .str "x", .int (-2)] [.int 3, .int 0, .none, .str "g", .none, .int (-1), .str "x", .int (-2)] := fun {H} => .cons (.int _) (.cons (.int _) (.cons .non (.cons (.str _) (.cons .non (.cons (.int _) (.cons (.str _) (.cons (.int _) .nil)))))))
  have sh8 : Sh 2 (.list [.int 3, .int 0, .none, .str "g", .none, .int (-1), .str "x", .int (-2)]) := Sh.list (by show 8 ≤ 100000; decide) fun d m => by
    simp only [List.mem_cons, List.not_mem_nil, or_false] at m
    rcases m with rfl | rfl | rfl | rfl | rfl | rfl | rfl | rfl <;> first | exact Sh.int _ | exact Sh.non | exact Sh.str (by decide +kernel)
  refine o_neT (Dt.lst hD4 all8) (Dt.lst upd_same all8) sh8 sh8 (by decide) (by decide) ?_
  rw [sh8.eqv]
  have g5 : GrowH G3 (upd H4 p4 (.lst [V.int 3, .int 0, .non, .str "g", .non, .int (-1), .str "x", .int (-2)])) := fun b o x => grow_upd hp4 _ _ (e _ _ x)
  generalize upd H4 p4 (.lst [V.int 3, .int 0, .non, .str "g", .non, .int (-1), .str "x", .int (-2)]) = H5 at *
  walk_at "w"
  intro a0 ha0
  have g6 : GrowH H5 (upd H5 a0 (ExO (.ref (He.ga K "DrillError")) a0)) := grow_upd ha0
  have b0 : upd H5 a0 (ExO (.ref (He.ga K "DrillError")) a0) a0 = some (ExO (.ref (He.ga K "DrillError")) a0) := upd_same
  generalize upd H5 a0 (ExO (.ref (He.ga K "DrillError")) a0) = H6 at *
  walk_at "w"
  refine ⟨by show 1 ≤ 16777216; decide, fun p5 hp5 => ?_⟩
  have hl5 := g5 _ _ hl3
  have hl6 := g6 _ _ hl5
  refine ⟨p3, p5, _, _, rfl, rfl, grow_upd hp5 _ _ hl6, upd_same, by show 8 + 1 ≤ 16777216; decide, fun p6 hp6 => ?_⟩
  have g7 : GrowH H6 (upd (upd H6 p5 (.lst [V.ref a0])) p6 (.lst ([V.ref a1, .ref a2, .ref a3, .ref a4, .ref a5, .ref a6, .ref a7, .ref a8] ++ [.ref a0]))) := fun b o e => grow_upd hp6 _ _ (grow_upd hp5 _ _ e)
  have hl7 : upd (upd H6 p5 (.lst [V.ref a0])) p6 (.lst ([V.ref a1, .ref a2, .ref a3, .ref a4, .ref a5, .ref a6, .ref a7, .ref a8] ++ [.ref a0])) p6 = some (.lst ([V.ref a1, .ref a2, .ref a3, .ref a4, .ref a5, .ref a6, .ref a7, .ref a8] ++ [.ref a0])) := upd_same
  generalize upd (upd H6 p5 (.lst [V.ref a0])) p6 (.lst ([V.ref a1, .ref a2, .ref a3, .ref a4, .ref a5, .ref a6, .ref a7, .ref a8] ++ [.ref a0])) = H7 at *
  have gg : GrowH G3 H7 := fun b o e => g7 _ _ (g6 _ _ (g5 _ _ e))
  have vals : ∀ x ∈ ([V.ref a1, .ref a2, .ref a3, .ref a4, .ref a5, .ref a6, .ref a7, .ref a8] ++ [.ref a0]), ∃ a C, x = .ref a ∧ IsVal H7 a C ∧ ExcC K C ∧ PySem.W.kitOne K (.ref C) (.ref (He.ga K "DrillError")) = some true ∧ PySem.W.kitOne K (.ref C) (.type "ValueError") = some true := by
    intro x hx
    simp only [List.mem_append, List.mem_cons, List.not_mem_nil, or_false] at hx
    rcases hx with (rfl | rfl | rfl | rfl | rfl | rfl | rfl | rfl) | rfl
    · exact ⟨a1, _, rfl, .inl ⟨_, m1.mono gg⟩, V1.ec, V1.one, V1.ty⟩
    · exact ⟨a2, _, rfl, .inl ⟨_, m2.mono gg⟩, V2.ec, V2.one, V2.ty⟩
    · exact ⟨a3, _, rfl, .inl ⟨_, m4.mono gg⟩, V3.ec, V3.one, V3.ty⟩
    · exact ⟨a4, _, rfl, .inl ⟨_, m5.mono gg⟩, V4.ec, V4.one, V4.ty⟩
    · exact ⟨a5, _, rfl, .inl ⟨_, m6.mono gg⟩, V5.ec, V5.one, V5.ty⟩
    · exact ⟨a6, _, rfl, .inl ⟨_, m7.mono gg⟩, V6.ec, V6.one, V6.ty⟩
    · exact ⟨a7, _, rfl, .inl ⟨_, m8.mono gg⟩, V7.ec, V7.one, V7.ty⟩
    · exact ⟨a8, _, rfl, .inl ⟨_, m9.mono gg⟩, V8.ec, V8.one, V8.ty⟩
    · exact ⟨a0, _, rfl, .inr (g7 _ _ b0), B.ec, B.one, B.ty⟩
  generalize ([V.ref a1, .ref a2, .ref a3, .ref a4, .ref a5, .ref a6, .ref a7, .ref a8] ++ [.ref a0] : List V) = ws at *
  walk_at "w"
  refine ⟨⟨_, SqL.of hl7⟩, fun Dl hDl => ?_⟩
  refine c_list ws (fun _ H => GrowH H7 H ∧ H Dl = some (.lst [])) ⟨grow_upd hDl, upd_same⟩ (fun i H _ hi => SqL.of (hi.1 _ _ hl7)) (fun i x H' hx hi => ?_) (fun H8 h8 => ?_)
  · obtain ⟨a, C, rfl, hv, ec, k1, k2⟩ := vals x (List.mem_of_getElem? hx)
    walk_at "w"
    refine ⟨by with_unfolding_all rfl, ?_⟩
    walk_at "w"
    refine w_is1 (hv.mono hi.1) ec k1 ?_
    walk_at "w"
    refine w_is2 (hv.mono hi.1) ec k2 ?_
    walk_at "w"
    exact hi
  refine w_lst (w_nil ⟨Nat.zero_le _, fun p9 hp9 => ?_⟩)
  refine o_eqT (Dt.lst (grow_upd hp9 _ _ h8.2) .nil) (Dt.lst upd_same .nil) (Sh.nil (n := 1)) (Sh.nil (n := 1)) (by decide) (by decide) ?_
  rw [(Sh.nil (n := 1)).eqv]
  exact fin _ fun b o e => grow_upd hp9 _ _ (h8.1 _ _ (gg _ _ (g3 _ _ e)))
end Q

set_option Elab.async false
set_option linter.all false
set_option maxRecDepth 100000
set_option maxHeartbeats 4000000
namespace Q
open PySem PySem.Spec PyProof.Rows L2
/-! the steps' tactic on data -/
local macro_rules | `(tactic| walk_at "fi") => `(tactic| (simp only [List.set_cons_zero, List.set_cons_succ]; rfl))
local macro_rules | `(tactic| walk_at "f1") => `(tactic| first | exact fz_kd | exact pk_kd | exact fz_stl (by first | assumption | with_unfolding_all exact rfl | exact calDa_stl) | exact pk_stl (by first | assumption | with_unfolding_all exact rfl | exact calDa_stl) | exact pk_own (by with_unfolding_all exact rfl) | exact pk_ownD (by with_unfolding_all exact rfl) | (apply fz_own; (with_unfolding_all exact rfl); (walk_at "fi")) | (apply fz_ownD; (with_unfolding_all exact rfl); (walk_at "fi")))
local macro_rules | `(tactic| walk_at "f") => `(tactic| first | walk_at "f1" | exact fzs_nil | exact fzs_stl (by with_unfolding_all exact rfl) | (apply fzs_cons; (walk_at "f1"); (walk_at "f")))
local macro_rules | `(tactic| walk_at "d1") => `(tactic| (with_reducible first
  | (apply n_put; (simp only [List.set_cons_zero, List.set_cons_succ]; rfl))
  | (apply n_putE; (simp only [List.set_cons_zero, List.set_cons_succ]; rfl))
  | (apply n_put2; (simp only [List.set_cons_zero, List.set_cons_succ]; rfl); (simp only [List.set_cons_zero, List.set_cons_succ]; rfl))
  | (apply n_wp1; (simp only [List.set_cons_zero, List.set_cons_succ]; rfl))
  | (apply n_wp1E; (simp only [List.set_cons_zero, List.set_cons_succ]; rfl))
  | (apply n_wp2; (simp only [List.set_cons_zero, List.set_cons_succ]; rfl); (simp only [List.set_cons_zero, List.set_cons_succ]; rfl))
  | (apply n_wp2E; (simp only [List.set_cons_zero, List.set_cons_succ]; rfl); (simp only [List.set_cons_zero, List.set_cons_succ]; rfl))
  | (apply n_wp3; (simp only [List.set_cons_zero, List.set_cons_succ]; rfl); (simp only [List.set_cons_zero, List.set_cons_succ]; rfl); (simp only [List.set_cons_zero, List.set_cons_succ]; rfl))
  | (apply n_wp3E; (simp only [List.set_cons_zero, List.set_cons_succ]; rfl); (simp only [List.set_cons_zero, List.set_cons_succ]; rfl); (simp only [List.set_cons_zero, List.set_cons_succ]; rfl))
  | refine n_tick ?_
  | refine n_tickE ?_
  | refine s_seq ?_
  | refine k_op ?_
  | (apply k_var; (with_unfolding_all exact rfl))
  | (apply k_varO; (with_unfolding_all exact rfl))
  | (apply k_varD; (with_unfolding_all exact rfl))
  | refine k_c ?_
  | refine k_AddI ?_
  | refine k_SubI ?_
  | refine k_LtI ?_
  | refine k_LeI ?_
  | refine k_GtI ?_
  | refine k_GeI ?_
  | refine k_NegI ?_
  | refine k_ip ?_
  | (apply k_Eq; (with_unfolding_all exact rfl))
  | (apply k_Ne; (with_unfolding_all exact rfl))
  | refine k_InC ?_
  | refine k_NotInC ?_
  | (apply k_IsN; (with_unfolding_all exact rfl))
  | (apply k_NotN; (with_unfolding_all exact rfl))
  | refine k_Max2 ?_
  | refine k_Min2 ?_
  | refine k_Int1b ?_
  | refine k_Int1i ?_
  | refine k_Abs ?_
  | refine k_Count ?_
  | (apply k_LenL; (with_unfolding_all exact rfl))
  | (apply k_ListL; (with_unfolding_all exact rfl))
  | (apply k_pk2; (walk_at "f"); (walk_at "f"))
  | (apply k_pk1; (walk_at "f"))
  | (apply k_pk2N; (walk_at "f"); (walk_at "f"))
  | (apply k_pkM; (walk_at "f"))
  | (apply k_mp1; (walk_at "f"))
  | (apply k_mp2; (walk_at "f"); (walk_at "f"))
  | (apply k_mp1N; (walk_at "f"))
  | refine k_un ?_
  | refine k_new ?_
  | refine k_opN ?_
  | refine k_nil ?_
  | refine k_cons ?_
  | refine k_cb ?_
  | refine k_cbN ?_
  | refine k_call ?_
  | refine k_callB ?_
  | refine k_kw ?_
  | refine k_kwB ?_
  | (apply k_cF; (walk_at "f"))
  | (apply k_cB; (walk_at "f"))
  | (apply k_kF; (with_unfolding_all exact rfl); (walk_at "f"); (with_unfolding_all exact rfl))
  | (apply k_kB; (with_unfolding_all exact rfl); (walk_at "f"); (with_unfolding_all exact rfl))
  | refine k_tup ?_
  | refine k_lst ?_
  | (apply k_mkT; (with_unfolding_all exact rfl); (walk_at "f"))
  | (apply k_mkL; (with_unfolding_all exact rfl); (walk_at "f"))
  | refine k_bE ?_
  | (apply k_bl; (with_unfolding_all exact rfl))
  | refine k_and ?_
  | refine k_or ?_
  | refine k_not ?_
  | refine k_yes ?_
  | refine k_if ?_
  | refine k_andV ?_
  | refine k_orV ?_
  | refine k_notV ?_
  | refine k_chain ?_
  | refine k_oNo ?_
  | refine k_oPart ?_
  | (apply k_int; (walk_at "f"))
  | refine k_slL ?_
  | (apply k_asl; (walk_at "f"); (with_unfolding_all exact rfl))
  | refine k_slS ?_
  | (apply k_strP; (walk_at "f"))
  | refine k_m1 ?_
  | refine k_mu ?_
  | refine k_bl0 ?_
  | refine k_mu0 ?_
  | (apply k_mu1; (with_unfolding_all exact rfl))
  | (apply k_mu2; (walk_at "f"); (with_unfolding_all exact rfl))
  | refine s_next ?_
  | refine s_drop ?_
  | refine s_ret ?_
  | (apply s_fz; (walk_at "f"))
  | refine s_retN ?_
  | refine s_asg ?_
  | refine s_asgN ?_
  | refine s_break ?_
  | refine s_cont ?_
  | refine s_aug ?_
  | refine s_par ?_
  | (apply s_par2; (walk_at "f"))
  | refine s_for ?_
  | refine s_lc ?_
  | (apply g_nm; (walk_at "f"))
  | refine g_nl ?_
  | refine g_cn ?_
  | (apply g_tp; (walk_at "f"); (first | exact calDa_asT | with_unfolding_all exact rfl); (with_unfolding_all exact rfl))
  | (apply g_sl; (walk_at "f"))
  | refine i_list ?_
  | (apply i_asl; (walk_at "f"); (with_unfolding_all exact rfl))
  | refine i_tup ?_
  | (apply i_ast; (walk_at "f"); (with_unfolding_all exact rfl))
  | refine i_str ?_
  | refine i_rng1 ?_
  | refine i_rng2 ?_
  | refine i_rng3 ?_
  | (apply i_r3; (walk_at "f"); (walk_at "f"); (walk_at "f"))
  | refine i_enum ?_
  | (apply i_en; (walk_at "f"); (with_unfolding_all exact rfl))
  | (apply i_zp; (walk_at "f"); (with_unfolding_all exact rfl); (with_unfolding_all exact rfl))
  | refine i_enumS ?_
  | (apply i_enS; (walk_at "f"))
  | refine i_zip ?_
  | refine i_zipS ?_
  | (apply i_zpS; (walk_at "f"); (with_unfolding_all exact rfl))
  | refine k_dget ?_
  | (apply k_onD; (walk_at "f"))
  | (apply k_onK; (walk_at "f"); (with_unfolding_all exact rfl))
  | (apply k_onOD; (with_unfolding_all exact rfl))
  | (apply g_sd; (walk_at "f"))
  | refine s_dput ?_
  | refine s_daug ?_
  | refine k_newD ?_
  | refine s_asgD ?_
  | refine k_dzip ?_
  | refine k_lvals ?_
  | refine k_on2 ?_
  | refine k_on1 ?_
  | refine k_onStr0 ?_
  | refine k_onInt0 ?_
  | (apply i_onL; (with_unfolding_all exact rfl))
  | refine k_10_5 ?_
  | refine k_10_6 ?_
  | refine k_10_9 ?_
  | refine k_10_15 ?_
  | refine k_10_18 ?_
  | refine k_10_29 ?_
  | refine k_10_30 ?_
  | refine k_2_61 ?_
  | refine k_ml ?_
  | (apply k_ml1; (walk_at "f"); (with_unfolding_all exact rfl))
  | (apply k_ml2; (walk_at "f"); (with_unfolding_all exact rfl))
  | (apply k_mpL; (walk_at "f"))
  | refine k_Sum ?_
  | refine k_lenSet ?_
  | refine i_sl ?_
  | (apply i_slF; (walk_at "f"); (with_unfolding_all exact rfl))
  | refine k_dget2 ?_
  | refine k_newK ?_
  | refine k_disp2 ?_
  | refine s_raise ?_
  | refine s_dropX ?_
  | refine s_retX ?_
  | refine k_lenSetL ?_
  | refine k_revL ?_
  | (apply k_pkL; (walk_at "f"); (with_unfolding_all exact rfl))
  | refine s_asgD ?_
  | (apply k_varT; (with_unfolding_all exact rfl))
  | refine k_slT ?_
  | (apply k_onT; (walk_at "f"))
  | refine k_dget2T ?_
  | refine k_dgetT ?_
  | refine k_sumVals ?_
  | refine k_newT ?_
  | refine k_disp1T ?_
  | (apply k_onOT; (with_unfolding_all exact rfl))
  | (apply k_onOwn; (with_unfolding_all exact rfl); (with_unfolding_all exact rfl))
  | (apply k_TupL; (with_unfolding_all exact rfl))
  | refine s_asgT ?_
  | refine s_dputT ?_
  | refine s_move ?_
  | refine s_forT ?_
  | refine ite_nsame ?_
  | refine ite_same ?_
  | (refine ite_dF ?_ ?_; (with_unfolding_all decide +kernel))
  | (refine ite_dT ?_ ?_; (with_unfolding_all decide +kernel))
  | refine iteT ?_
  | refine iteF ?_
  | refine ite_nt ?_
  | refine ite_nf ?_))
local macro_rules | `(tactic| walk_at "d") => `(tactic| (repeat (first | walk_at "d1" | with_reducible refine s_if ?_)))
local macro_rules | `(tactic| walk_at "di") => `(tactic| (repeat walk_at "d1"))
local macro_rules | `(tactic| walk_at "s") => `(tactic| (simp only [δ0, List.map_cons, List.map_nil, List.length_cons, List.length_nil, List.replicate, List.cons_append, List.nil_append, Nat.reduceAdd, Nat.reduceSub]; walk_at "d"))

/-! ### the draws of the second kind, on data -/
def WB (s : Addr) : Wo := ⟨[s], fun n H => Rng s n H, fun n H H' h e => by
  obtain ⟨g, a, k, h1, h2⟩ := h
  exact ⟨g, a, k, by rw [e s List.mem_cons_self]; exact h1, h2⟩, fun n H h => h.trk, fun n H h b m xs z => by
  obtain ⟨g, a, k, h1, h2⟩ := h
  rw [List.mem_singleton.mp m, h1] at z; cases z⟩
def F_law_draw (s : Addr) : FD := fun ds n P => ∃ m : Int, ds = [.ref s, .int m] ∧ n ≤ 1000000000 ∧ 0 < m ∧ m ≤ 1000000000000000000000000000000 ∧ ∀ r : Int, 0 ≤ r → r < m → P (.int r) (n + 1)
theorem co_law_draw {K : PySem.W.Frag} {s : Addr} {E : XK} : CallOk K (WB s) (sp_law_draw K) [] E (F_law_draw s) := by
  rintro vs H Q ⟨S, ds, n, P, hs, hm, hr, hd, ⟨m, rfl, h1, h2, h3, h4⟩, k⟩
  obtain ⟨v, w, rfl, hv, hw⟩ := deAll2 hd
  rw [hv.ref_inv, hw.int_inv]
  refine ⟨rfl, s, n, m, rfl, hr, h1, h2, h3, fun r H' a b R f => ?_⟩
  exact k _ _ _ S H' (h4 r a b) ⟨Same.refl S, fun b o e => f b o (fun mm => by rw [hm b mm] at e; cases e) (hs b o e), f, fun b o e => .inl e⟩ R (.int r)
/-- a draw -/
theorem k_draw {s : Addr} {m n : Int} {P : Da → Int → Prop} (h1 : n ≤ 1000000000) (h2 : 0 < m) (h3 : m ≤ 1000000000000000000000000000000) (q : ∀ r : Int, 0 ≤ r → r < m → P (.int r) (n + 1)) : F_law_draw s [.ref s, .int m] n (fun d n' => d.scl = true ∧ P d n') := ⟨m, rfl, h1, h2, h3, fun r a b => ⟨rfl, q r a b⟩⟩
/-- one of a list's items -/
def t_law_letters (K : PySem.W.Frag) : TS := (tSeq (tAsg (tCB rListS (tCons (tC (.str "abcdef")) tNil)) (gName 1))
    (tRet (tLc (iRng1 (tCons (tOp (rIxL K) (tLst (tCons (tC (.int 1)) (tCons (tC (.int 2)) (tCons (tC (.int 2)) (tCons (tC (.int 3)) (tCons (tC (.int 6)) tNil)))))) (tCall (sp_law_draw K) [] E0 (tCons (tVar 0) (tCons (tC (.int 5)) tNil)))) tNil)) (gName 2) tYes (tBM K "list" rPopAt (tVar 1) (tCons (tCall (sp_law_draw K) [] E0 (tCons (tVar 0) (tCons (tCB (rLenL K) (tCons (tVar 1) tNil)) tNil))) tNil)) [2])))
def c_law_letters (s : Addr) : DC := (cSeq (cAsgN 1 (eCBN fListS (aCons (eC (.str "abcdef")) aNil)))
    (cRet (eNew (eLc (diR1 (aCons (eOp fIxL (eNew (eLst (aCons (eC (.int 1)) (aCons (eC (.int 2)) (aCons (eC (.int 2)) (aCons (eC (.int 3)) (aCons (eC (.int 6)) aNil))))))) (eCallB (F_law_draw s) (aCons (eVar 0) (aCons (eC (.int 5)) aNil)))) aNil)) (dName 2) bYes (eMu fPopAt (eVar 1) (aCons (eCallB (F_law_draw s) (aCons (eVar 0) (aCons (eCB fLenL (aCons (eVar 1) aNil)) aNil))) aNil)) [2]))))
theorem ss_law_letters {K : PySem.W.Frag} {s : Addr} : SS K (WB s) (t_law_letters K) (c_law_letters s) :=
  (ss_seq (ss_asgN (sn_cb rn_ListS (sa_cons (se_c (fun _ => (.str _))) sa_nil)))
    (ss_ret (SN.se (sn_lc (si_rng1 (sa_cons (se_op r2_IxL (SN.se (sn_lst (sa_cons (se_c (fun _ => (.int _))) (sa_cons (se_c (fun _ => (.int _))) (sa_cons (se_c (fun _ => (.int _))) (sa_cons (se_c (fun _ => (.int _))) (sa_cons (se_c (fun _ => (.int _))) sa_nil))))))) (se_callB co_law_draw (sa_cons se_var (sa_cons (se_c (fun _ => (.int _))) sa_nil)))) sa_nil)) sg_name st_yes (se_mu ru_PopAt se_var (sa_cons (se_callB co_law_draw (sa_cons se_var (sa_cons (se_cb rc_LenL (sa_cons se_var sa_nil)) sa_nil))) sa_nil)) (by decide)))))

def F_law_letters (s : Addr) : FD := fun ds n P => ds = [.ref s] ∧ n ≤ 900000000 ∧ ∀ (ys : List Nat) (n' : Int), ys.Nodup → (∀ c ∈ ys, isColN c = true) → 1 ≤ ys.length → ys.length ≤ 6 → n' ≤ n + 7 → P (.lst (chD ys)) n'
theorem len_law_letters {s : Addr} : ∀ ds n P, F_law_letters s ds n P → ds.length = 1 := by
  rintro ds n P ⟨rfl, _⟩
  rfl
theorem d_law_letters {s : Addr} : ∀ ds n P, F_law_letters s ds n P → c_law_letters s ⟨fun st => P .non st.n, fun d st => P d st.n, fun _ => False, fun _ => False⟩ ⟨δ0 3 ds, n⟩ := by
  rintro ds n P ⟨rfl, hn, k⟩
  unfold c_law_letters
  walk_at "s"
  refine k_ListS (by rw [abc_len]; decide) ?_
  rw [sgD_abc]
  walk_at "d"
  refine k_draw (by omega) (by decide) (by decide) fun r a b => ?_
  walk_at "d"
  obtain ⟨d, e1, e2⟩ := at_one (l := [Da.int 1, Da.int 2, Da.int 2, Da.int 3, Da.int 6]) a b
  obtain ⟨m, rfl, hm1, hm6⟩ : ∃ m : Nat, d = .int (m : Int) ∧ 1 ≤ m ∧ m ≤ 6 := by
    have : r.toNat = 0 ∨ r.toNat = 1 ∨ r.toNat = 2 ∨ r.toNat = 3 ∨ r.toNat = 4 := by omega
    rcases this with e | e | e | e | e <;> rw [e] at e2 <;> cases e2
    · exact ⟨1, rfl, by decide, by decide⟩
    · exact ⟨2, rfl, by decide, by decide⟩
    · exact ⟨2, rfl, by decide, by decide⟩
    · exact ⟨3, rfl, by decide, by decide⟩
    · exact ⟨6, rfl, by decide, by decide⟩
  refine k_IxL rfl e1 ?_
  walk_at "d"
  refine ⟨by omega, by omega, ?_⟩
  refine lc_inv (fun i acc st => ∃ (ys rem : List Nat) (x : Sl), acc = chD ys ∧ ys.length = i ∧ (ys ++ rem).Perm [97, 98, 99, 100, 101, 102] ∧ st = ⟨[Sl.dat (Da.ref s), Sl.own (chD rem), x], n + 1 + i⟩) ⟨[], [97, 98, 99, 100, 101, 102], Sl.un, rfl, rfl, List.Perm.refl _, by simp⟩ ?_ ?_
  · rintro i x acc st R hx ⟨ys, rem, x2, rfl, hy, hp, rfl⟩ hR
    have hi : i < m := by
      have := (List.getElem?_eq_some_iff.mp hx).1
      simpa using this
    have hlen : ys.length + rem.length = 6 := by rw [← List.length_append]; exact hp.length_eq
    obtain ⟨rfl, _⟩ := rng_get hx
    have hil : i < 6 := by omega
    walk_at "d"
    rw [chD_len]
    refine k_draw (by omega) (by omega) (by omega) fun r a b => ?_
    walk_at "d"
    have hr : r.toNat < rem.length := by omega
    refine k_PopAt a (by omega) (by rw [chD_len]; exact hr) (chD_get (List.getElem?_eq_getElem hr)) ?_
    walk_at "d"
    refine ⟨by rw [chD_len]; omega, ?_⟩
    walk_at "d"
    refine hR _ _ ⟨ys ++ [rem[r.toNat]], rem.eraseIdx r.toNat, Sl.dat (.int i), ?_, ?_, ?_, ?_⟩
    · unfold chD; rw [List.map_append]; rfl
    · rw [List.length_append, hy]; rfl
    · refine List.Perm.trans ?_ hp
      rw [List.append_assoc]
      exact List.Perm.append_left ys (perm_erase hr)
    · unfold chD
      rw [map_erase, show n + 1 + (i : Int) + 1 = n + 1 + ((i + 1 : Nat) : Int) by omega]
  · rintro acc st ⟨ys, rem, x2, rfl, hy, hp, rfl⟩
    walk_at "d"
    have hm : (List.map (fun i => Da.int ((i : Nat) : Int)) (List.range (m : Int).toNat)).length = m := by simp
    rw [hm] at hy
    rw [hm]
    have hlen : ys.length + rem.length = 6 := by rw [← List.length_append]; exact hp.length_eq
    refine k ys _ ?_ (fun c mc => ?_) (by omega) (by omega) (by show n + 1 + (m : Int) ≤ n + 7; omega)
    · exact ((hp.nodup_iff).mpr (by decide)).sublist (List.sublist_append_left _ _)
    · have := hp.mem_iff.mp (List.mem_append_left rem mc)
      rw [isColN_iff]
      simp only [List.mem_cons, List.not_mem_nil, or_false] at this
      omega
def sp_law_letters (K : PySem.W.Frag) : Sp := fun vs H Q E => vs.length = 1 ∧ ∃ s : Addr, spD K (WB s) (F_law_letters s) vs H Q E
theorem co_law_letters {K : PySem.W.Frag} {s : Addr} {E : XK} : CallOk K (WB s) (sp_law_letters K) [] E (F_law_letters s) := fun vs H Q h => ⟨by rw [List.append_nil]; exact spD_len len_law_letters h, s, by rw [List.append_nil]; exact h⟩
theorem pure_law_letters {K : PySem.W.Frag} {vs : List V} {H : Hp} {Q : VK} {E : XK} (h : sp_law_letters K vs H Q E) : t_law_letters K { nx := fun _ H' => Q .non H', rt := Q } (L2.start ["rng", "left", "turn"] vs) H := by
  obtain ⟨_, s, h⟩ := h
  exact fn_src ss_law_letters d_law_letters h

/-- a call as drawn -/
abbrev drwD (c : Cal) : Da := calDa false c
def t_law_order (K : PySem.W.Frag) : TS := (tSeq (tAsg (tOp (rIxL K) (tVar 1) (tCall (sp_law_draw K) [] E0 (tCons (tVar 0) (tCons (tCB (rLenL K) (tCons (tVar 1) tNil)) tNil)))) (gName 3))
    (tSeq (tAsg (tLc (iStr (tC (.str "abcdef"))) (gName 7) (tTest (tOp rNe (tVar 7) (tVar 3))) (tVar 7) [7]) (gName 4))
    (tSeq (tAsg (tOp (rIxL K) (tVar 4) (tCall (sp_law_draw K) [] E0 (tCons (tVar 0) (tCons (tC (.int 5)) tNil)))) (gName 5))
    (tSeq (tIfS (tAnd (tTest (tOp rGtI (tCB (rLenL K) (tCons (tVar 1) tNil)) (tC (.int 1)))) (tTest (tOp rGtI (tCall (sp_law_draw K) [] E0 (tCons (tVar 0) (tCons (tC (.int 6)) tNil))) (tC (.int 0))))) (tAsg (tOp (rIxL K) (tLc (iList K (tVar 1)) (gName 7) (tTest (tOp rNe (tVar 7) (tVar 3))) (tVar 7) [7]) (tCall (sp_law_draw K) [] E0 (tCons (tVar 0) (tCons (tOp rSubI (tCB (rLenL K) (tCons (tVar 1) tNil)) (tC (.int 1))) tNil)))) (gName 5)) tNext)
    (tSeq (tAsg (tLst (tCons (tC (.int 1)) (tCons (tC (.int 1)) (tCons (tC (.int 2)) (tCons (tOp rAddI (tC (.int 1)) (tCall (sp_law_draw K) [] E0 (tCons (tVar 0) (tCons (tVar 2) tNil)))) (tCons (tC (.str "all")) (tCons (tC (.str "swap")) tNil))))))) (gName 6))
    (tRet (tTup (tCons (tOp (rIxL K) (tVar 6) (tOp (rIxL K) (tLst (tCons (tC (.int 0)) (tCons (tC (.int 1)) (tCons (tC (.int 2)) (tCons (tC (.int 3)) (tCons (tC (.int 3)) (tCons (tC (.int 3)) (tCons (tC (.int 4)) (tCons (tC (.int 5)) tNil))))))))) (tCall (sp_law_draw K) [] E0 (tCons (tVar 0) (tCons (tC (.int 8)) tNil))))) (tCons (tVar 3) (tCons (tVar 5) tNil))))))))))
def c_law_order (s : Addr) : DC := (cSeq (cAsg (eOp fIxL (eVar 1) (eCallB (F_law_draw s) (aCons (eVar 0) (aCons (eCB fLenL (aCons (eVar 1) aNil)) aNil)))) (dName 3))
    (cSeq (cAsg (eNew (eLc (diS (eC (.str "abcdef"))) (dName 7) (bE (eOp fNe (eVar 7) (eVar 3))) (eVar 7) [7])) (dName 4))
    (cSeq (cAsg (eOp fIxL (eVar 4) (eCallB (F_law_draw s) (aCons (eVar 0) (aCons (eC (.int 5)) aNil)))) (dName 5))
    (cSeq (cIf (bAnd (bE (eOp fGtI (eCB fLenL (aCons (eVar 1) aNil)) (eC (.int 1)))) (bE (eOp fGtI (eCallB (F_law_draw s) (aCons (eVar 0) (aCons (eC (.int 6)) aNil))) (eC (.int 0))))) (cAsg (eOp fIxL (eNew (eLc (diL (eVar 1)) (dName 7) (bE (eOp fNe (eVar 7) (eVar 3))) (eVar 7) [7])) (eCallB (F_law_draw s) (aCons (eVar 0) (aCons (eOp fSubI (eCB fLenL (aCons (eVar 1) aNil)) (eC (.int 1))) aNil)))) (dName 5)) cNext)
    (cSeq (cAsg (eNew (eLst (aCons (eC (.int 1)) (aCons (eC (.int 1)) (aCons (eC (.int 2)) (aCons (eOp fAddI (eC (.int 1)) (eCallB (F_law_draw s) (aCons (eVar 0) (aCons (eVar 2) aNil)))) (aCons (eC (.str "all")) (aCons (eC (.str "swap")) aNil)))))))) (dName 6))
    (cRet (eTup (aCons (eOp fIxL (eVar 6) (eOp fIxL (eNew (eLst (aCons (eC (.int 0)) (aCons (eC (.int 1)) (aCons (eC (.int 2)) (aCons (eC (.int 3)) (aCons (eC (.int 3)) (aCons (eC (.int 3)) (aCons (eC (.int 4)) (aCons (eC (.int 5)) aNil)))))))))) (eCallB (F_law_draw s) (aCons (eVar 0) (aCons (eC (.int 8)) aNil))))) (aCons (eVar 3) (aCons (eVar 5) aNil))))))))))
theorem ss_law_order {K : PySem.W.Frag} {s : Addr} : SS K (WB s) (t_law_order K) (c_law_order s) :=
  (ss_seq (ss_asg (se_op r2_IxL se_var (se_callB co_law_draw (sa_cons se_var (sa_cons (se_cb rc_LenL (sa_cons se_var sa_nil)) sa_nil)))) sg_name)
    (ss_seq (ss_asg (SN.se (sn_lc (si_str (se_c (fun _ => (.str _)))) sg_name (st_test (se_op r2_Ne se_var se_var)) se_var (by decide))) sg_name)
    (ss_seq (ss_asg (se_op r2_IxL se_var (se_callB co_law_draw (sa_cons se_var (sa_cons (se_c (fun _ => (.int _))) sa_nil)))) sg_name)
    (ss_seq (ss_if (st_and (st_test (se_op r2_GtI (se_cb rc_LenL (sa_cons se_var sa_nil)) (se_c (fun _ => (.int _))))) (st_test (se_op r2_GtI (se_callB co_law_draw (sa_cons se_var (sa_cons (se_c (fun _ => (.int _))) sa_nil))) (se_c (fun _ => (.int _)))))) (ss_asg (se_op r2_IxL (SN.se (sn_lc (si_list se_var) sg_name (st_test (se_op r2_Ne se_var se_var)) se_var (by decide))) (se_callB co_law_draw (sa_cons se_var (sa_cons (se_op r2_SubI (se_cb rc_LenL (sa_cons se_var sa_nil)) (se_c (fun _ => (.int _)))) sa_nil)))) sg_name) ss_next)
    (ss_seq (ss_asg (SN.se (sn_lst (sa_cons (se_c (fun _ => (.int _))) (sa_cons (se_c (fun _ => (.int _))) (sa_cons (se_c (fun _ => (.int _))) (sa_cons (se_op r2_AddI (se_c (fun _ => (.int _))) (se_callB co_law_draw (sa_cons se_var (sa_cons se_var sa_nil)))) (sa_cons (se_c (fun _ => (.str _))) (sa_cons (se_c (fun _ => (.str _))) sa_nil)))))))) sg_name)
    (ss_ret (se_tup (sa_cons (se_op r2_IxL se_var (se_op r2_IxL (SN.se (sn_lst (sa_cons (se_c (fun _ => (.int _))) (sa_cons (se_c (fun _ => (.int _))) (sa_cons (se_c (fun _ => (.int _))) (sa_cons (se_c (fun _ => (.int _))) (sa_cons (se_c (fun _ => (.int _))) (sa_cons (se_c (fun _ => (.int _))) (sa_cons (se_c (fun _ => (.int _))) (sa_cons (se_c (fun _ => (.int _))) sa_nil)))))))))) (se_callB co_law_draw (sa_cons se_var (sa_cons (se_c (fun _ => (.int _))) sa_nil))))) (sa_cons se_var (sa_cons se_var sa_nil))))))))))

def F_law_order (s : Addr) : FD := fun ds n P => ∃ (ys : List Nat) (m : Int), ds = [.ref s, .lst (chD ys), .int m] ∧ ys.Nodup ∧ (∀ c ∈ ys, isColN c = true) ∧ 1 ≤ ys.length ∧ ys.length ≤ 6 ∧ 0 < m ∧ m ≤ 1000 ∧ n ≤ 900000000 ∧
  ∀ (c : Cal) (n' : Int), isCall c = true → (∀ k, c.1 = .num k → k ≤ m + 1) → n' ≤ n + 6 → P (drwD c) n'
theorem len_law_order {s : Addr} : ∀ ds n P, F_law_order s ds n P → ds.length = 3 := by
  rintro ds n P ⟨ys, m, rfl, _⟩
  rfl
/-- another colour -/
theorem d_law_order {s : Addr} : ∀ ds n P, F_law_order s ds n P → c_law_order s ⟨fun st => P .non st.n, fun d st => P d st.n, fun _ => False, fun _ => False⟩ ⟨δ0 8 ds, n⟩ := by
  rintro ds n P ⟨ys, m, rfl, hnd, hc, h1, h6, hm, hm2, hn, k⟩
  unfold c_law_order
  walk_at "s"
  have hL : (chD ys).length = ys.length := chD_len ys
  rw [hL]
  refine k_draw (by omega) (by omega) (by omega) fun r1 a1 b1 => ?_
  obtain ⟨a, ea, ha⟩ := ch_at a1 b1
  have hca := hc a ha
  walk_at "d"
  refine k_IxL rfl ea ?_
  walk_at "d"
  rw [sgD_abc]
  refine lc_oth (by decide) (show 7 < 8 by decide) rfl (by decide) ?_
  walk_at "d"
  refine k_draw (by omega) (by omega) (by omega) fun r2 a2 b2 => ?_
  obtain ⟨b, eb, hb⟩ := ch_at (ys := [97, 98, 99, 100, 101, 102].filter (· != a)) a2 (by rw [abc_oth hca]; exact b2)
  have hb := List.mem_filter.mp hb
  have hcb := abc_in hb.1
  have hab : b ≠ a := by simpa using hb.2
  walk_at "d"
  refine k_IxL rfl eb ?_
  walk_at "di"
  refine s_ifJ (fun st => ∃ (b : Nat) (x7 : Sl) (x4 : Sl) (n' : Int), isColN b = true ∧ b ≠ a ∧ n' ≤ n + 4 ∧ st = ⟨[Sl.dat (Da.ref s), Sl.dat (Da.lst (chD ys)), Sl.dat (Da.int m), Sl.dat (Da.str (S1 a)), x4, Sl.dat (Da.str (S1 b)), Sl.un, x7], n'⟩) ?_ ?_
  · rintro st ⟨b, x7, x4, n', hcb, hab, hn', rfl⟩
    walk_at "d"
    refine k_draw (by omega) (by omega) (by omega) fun r3 a3 b3 => ?_
    walk_at "d"
    refine k_draw (by omega) (by omega) (by omega) fun r4 a4 b4 => ?_
    walk_at "d"
    obtain ⟨d1, e1, e2⟩ := at_one (l := [Da.int 0, Da.int 1, Da.int 2, Da.int 3, Da.int 3, Da.int 3, Da.int 4, Da.int 5]) a4 b4
    obtain ⟨i, rfl, hi⟩ : ∃ i : Nat, d1 = .int (i : Int) ∧ i < 6 := by
      have : r4.toNat = 0 ∨ r4.toNat = 1 ∨ r4.toNat = 2 ∨ r4.toNat = 3 ∨ r4.toNat = 4 ∨ r4.toNat = 5 ∨ r4.toNat = 6 ∨ r4.toNat = 7 := by omega
      rcases this with e | e | e | e | e | e | e | e <;> rw [e] at e2 <;> cases e2
      · exact ⟨0, rfl, by decide⟩
      · exact ⟨1, rfl, by decide⟩
      · exact ⟨2, rfl, by decide⟩
      · exact ⟨3, rfl, by decide⟩
      · exact ⟨3, rfl, by decide⟩
      · exact ⟨3, rfl, by decide⟩
      · exact ⟨4, rfl, by decide⟩
      · exact ⟨5, rfl, by decide⟩
    refine k_IxL rfl e1 ?_
    walk_at "d"
    obtain ⟨d2, f1, f2⟩ := at_one (l := [Da.int 1, Da.int 1, Da.int 2, Da.int (1 + r3), Da.str "all", Da.str "swap"]) (r := (i : Int)) (by omega) (by show (i : Int) < 6; omega)
    obtain ⟨kd, rfl, hk, hkm⟩ : ∃ kd : Kd, d2 = kd.a ∧ kdOk kd = true ∧ ∀ k, kd = .num k → k ≤ m + 1 := by
      rw [Int.toNat_natCast] at f2
      have : i = 0 ∨ i = 1 ∨ i = 2 ∨ i = 3 ∨ i = 4 ∨ i = 5 := by omega
      rcases this with rfl | rfl | rfl | rfl | rfl | rfl <;> cases f2
      · exact ⟨.num 1, rfl, rfl, fun k e => by cases e; omega⟩
      · exact ⟨.num 1, rfl, rfl, fun k e => by cases e; omega⟩
      · exact ⟨.num 2, rfl, rfl, fun k e => by cases e; omega⟩
      · exact ⟨.num (1 + r3), rfl, by unfold kdOk; rw [decide_eq_true_iff]; omega, fun k e => by cases e; omega⟩
      · exact ⟨.txt "all", rfl, by decide +kernel, fun k e => by cases e⟩
      · exact ⟨.txt "swap", rfl, by decide +kernel, fun k e => by cases e⟩
    refine k_IxL rfl f1 ?_
    walk_at "d"
    exact k (kd, S1 a, S1 b) _ (isCall_mk hk hca hcb (Ne.symm hab)) hkm (by show n' + 1 + 1 ≤ n + 6; omega)
  · intro R hR
    walk_at "d"
    rw [hL]
    refine ite2 (fun h => ?_) (fun h => ?_)
    · have h := of_decide_eq_true h
      refine k_bE ?_
      walk_at "d"
      refine k_draw (by omega) (by omega) (by omega) fun r3 a3 b3 => ?_
      walk_at "d"
      refine ite2 (fun h2 => ?_) (fun h2 => ?_)
      · walk_at "d"
        refine lc_oth (by decide) (show 7 < 8 by decide) rfl (by omega) ?_
        walk_at "d"
        rw [hL]
        refine k_draw (by omega) (by omega) (by omega) fun r4 a4 b4 => ?_
        have ho := oth_len hnd ha
        obtain ⟨c, ec, hc2⟩ := ch_at (ys := ys.filter (· != a)) a4 (by omega)
        have hc2 := List.mem_filter.mp hc2
        walk_at "d"
        refine k_IxL rfl ec ?_
        walk_at "d"
        exact hR _ ⟨c, _, _, _, hc c hc2.1, by simpa using hc2.2, by omega, rfl⟩
      · walk_at "d"
        exact hR _ ⟨b, _, _, _, hcb, hab, by omega, rfl⟩
    · walk_at "d"
      exact hR _ ⟨b, _, _, _, hcb, hab, by omega, rfl⟩
def sp_law_order (K : PySem.W.Frag) : Sp := fun vs H Q E => vs.length = 3 ∧ ∃ s : Addr, spD K (WB s) (F_law_order s) vs H Q E
theorem co_law_order {K : PySem.W.Frag} {s : Addr} {E : XK} : CallOk K (WB s) (sp_law_order K) [] E (F_law_order s) := fun vs H Q h => ⟨by rw [List.append_nil]; exact spD_len len_law_order h, s, by rw [List.append_nil]; exact h⟩
theorem pure_law_order {K : PySem.W.Frag} {vs : List V} {H : Hp} {Q : VK} {E : XK} (h : sp_law_order K vs H Q E) : t_law_order K { nx := fun _ H' => Q .non H', rt := Q } (L2.start ["rng", "letters", "highest", "first", "others", "second", "some", "letter"] vs) H := by
  obtain ⟨_, s, h⟩ := h
  exact fn_src ss_law_order d_law_order h

/-- a drill as drawn -/
abbrev drwL (cs : List Cal) : Da := drDa false cs
def t_law_orders (K : PySem.W.Frag) : TS := (tRet (tLc (iRng1 (tCons (tCall (sp_law_draw K) [] E0 (tCons (tVar 0) (tCons (tOp rAddI (tVar 2) (tC (.int 1))) tNil))) tNil)) (gName 4) tYes (tCall (sp_law_order K) [] E0 (tCons (tVar 0) (tCons (tVar 1) (tCons (tVar 3) tNil)))) [4]))
def c_law_orders (s : Addr) : DC := (cRet (eNew (eLc (diR1 (aCons (eCallB (F_law_draw s) (aCons (eVar 0) (aCons (eOp fAddI (eVar 2) (eC (.int 1))) aNil))) aNil)) (dName 4) bYes (eCall (F_law_order s) (aCons (eVar 0) (aCons (eVar 1) (aCons (eVar 3) aNil)))) [4])))
theorem ss_law_orders {K : PySem.W.Frag} {s : Addr} : SS K (WB s) (t_law_orders K) (c_law_orders s) :=
  (ss_ret (SN.se (sn_lc (si_rng1 (sa_cons (se_callB co_law_draw (sa_cons se_var (sa_cons (se_op r2_AddI se_var (se_c (fun _ => (.int _)))) sa_nil))) sa_nil)) sg_name st_yes (se_call co_law_order (sa_cons se_var (sa_cons se_var (sa_cons se_var sa_nil)))) (by decide))))

def F_law_orders (s : Addr) : FD := fun ds n P => ∃ (ys : List Nat) (l m : Int), ds = [.ref s, .lst (chD ys), .int l, .int m] ∧ ys.Nodup ∧ (∀ c ∈ ys, isColN c = true) ∧ 1 ≤ ys.length ∧ ys.length ≤ 6 ∧ 0 ≤ l ∧ l ≤ 900 ∧ 0 < m ∧ m ≤ 1000 ∧ n ≤ 800000000 ∧
  ∀ (cs : List Cal) (n' : Int), (∀ c ∈ cs, isCall c = true ∧ ∀ k, c.1 = .num k → k ≤ m + 1) → cs.length ≤ l → n' ≤ n + 6 * l + 1 → P (drwL cs) n'
theorem len_law_orders {s : Addr} : ∀ ds n P, F_law_orders s ds n P → ds.length = 4 := by
  rintro ds n P ⟨ys, l, m, rfl, _⟩
  rfl
theorem d_law_orders {s : Addr} : ∀ ds n P, F_law_orders s ds n P → c_law_orders s ⟨fun st => P .non st.n, fun d st => P d st.n, fun _ => False, fun _ => False⟩ ⟨δ0 5 ds, n⟩ := by
  rintro ds n P ⟨ys, l, m, rfl, hnd, hc, h1, h6, hl, hl2, hm, hm2, hn, k⟩
  unfold c_law_orders
  walk_at "s"
  refine k_draw (by omega) (by omega) (by omega) fun r1 a1 b1 => ?_
  walk_at "d"
  refine ⟨by omega, by omega, ?_⟩
  refine lc_inv (fun i acc st => ∃ (cs : List Cal) (x : Sl) (n' : Int), acc = cs.map drwD ∧ cs.length = i ∧ (∀ c ∈ cs, isCall c = true ∧ ∀ k, c.1 = .num k → k ≤ m + 1) ∧ n' ≤ n + 1 + 6 * i ∧ st = ⟨[Sl.dat (Da.ref s), Sl.dat (Da.lst (chD ys)), Sl.dat (Da.int l), Sl.dat (Da.int m), x], n'⟩) ⟨[], Sl.un, _, rfl, rfl, (fun c h => nomatch h), (by omega), rfl⟩ ?_ ?_
  · rintro i x acc st R hx ⟨cs, x4, n', rfl, hcl, hcs, hn', rfl⟩ hR
    obtain ⟨rfl, hi⟩ := rng_get hx
    walk_at "d"
    refine ⟨ys, m, rfl, hnd, hc, h1, h6, hm, hm2, by omega, fun c n2 hc1 hc2 hn2 => ?_⟩
    refine ⟨by rw [List.length_map]; omega, ?_⟩
    refine s_fz (fz_stl rfl) ?_
    refine hR _ _ ⟨cs ++ [c], Sl.dat (.int i), n2, by rw [List.map_append]; rfl, by rw [List.length_append, hcl]; rfl, fun c' hm => ?_, by omega, rfl⟩
    rcases List.mem_append.mp hm with hm | hm
    · exact hcs c' hm
    · rw [List.mem_singleton.mp hm]
      exact ⟨hc1, hc2⟩
  · rintro acc st ⟨cs, x4, n', rfl, hcl, hcs, hn', rfl⟩
    have hm : (List.map (fun i => Da.int ((i : Nat) : Int)) (List.range r1.toNat)).length = r1.toNat := by simp
    rw [hm] at hcl hn'
    walk_at "d"
    exact k cs n' hcs (by omega) (by omega)
def sp_law_orders (K : PySem.W.Frag) : Sp := fun vs H Q E => vs.length = 4 ∧ ∃ s : Addr, spD K (WB s) (F_law_orders s) vs H Q E
theorem co_law_orders {K : PySem.W.Frag} {s : Addr} {E : XK} : CallOk K (WB s) (sp_law_orders K) [] E (F_law_orders s) := fun vs H Q h => ⟨by rw [List.append_nil]; exact spD_len len_law_orders h, s, by rw [List.append_nil]; exact h⟩
theorem pure_law_orders {K : PySem.W.Frag} {vs : List V} {H : Hp} {Q : VK} {E : XK} (h : sp_law_orders K vs H Q E) : t_law_orders K { nx := fun _ H' => Q .non H', rt := Q } (L2.start ["rng", "letters", "longest", "highest", "turn"] vs) H := by
  obtain ⟨_, s, h⟩ := h
  exact fn_src ss_law_orders d_law_orders h


def t_law_line (K : PySem.W.Frag) : TS := (tSeq (tAsg (tCall (sp_law_draw K) [] E0 (tCons (tVar 0) (tCons (tC (.int 3)) tNil))) (gName 3))
    (tSeq (tAsg (tC (.str "")) (gName 4))
    (tSeq (tFor (iRng1 (tCons (tCall (sp_law_draw K) [] E0 (tCons (tVar 0) (tCons (tOp rAddI (tVar 2) (tC (.int 1))) tNil))) tNil)) (gName 5) (tSeq (tAsg (tOp (rIxL K) (tVar 1) (tCall (sp_law_draw K) [] E0 (tCons (tVar 0) (tCons (tCB (rLenL K) (tCons (tVar 1) tNil)) tNil)))) (gName 6))
    (tSeq (tIfS (tAnd (tTest (tOp rNe (tVar 4) (tC (.str "")))) (tAnd (tTest (tOp rEq (tVar 3) (tC (.int 1)))) (tTest (tOp rGtI (tCall (sp_law_draw K) [] E0 (tCons (tVar 0) (tCons (tC (.int 4)) tNil))) (tC (.int 0)))))) (tAsg (tOp rIxS (tVar 4) (tUn (rU fun i => .int (-i)) (tC (.int 1)))) (gName 6)) tNext)
    (tAsg (tOp rAddS (tVar 4) (tOp (rIxL K) (tLst (tCons (tVar 6) (tCons (tVar 6) (tCons (tOp (rIxL K) (tVar 1) (tC (.int 0))) tNil)))) (tIf (tTest (tOp rGtI (tCall (sp_law_draw K) [] E0 (tCons (tVar 0) (tCons (tC (.int 5)) tNil))) (tC (.int 0)))) (tVar 3) (tC (.int 0))))) (gName 4)))))
    (tRet (tVar 4)))))
def c_law_line (s : Addr) : DC := (cSeq (cAsg (eCallB (F_law_draw s) (aCons (eVar 0) (aCons (eC (.int 3)) aNil))) (dName 3))
    (cSeq (cAsg (eC (.str "")) (dName 4))
    (cSeq (cFor (diR1 (aCons (eCallB (F_law_draw s) (aCons (eVar 0) (aCons (eOp fAddI (eVar 2) (eC (.int 1))) aNil))) aNil)) (dName 5) (cSeq (cAsg (eOp fIxL (eVar 1) (eCallB (F_law_draw s) (aCons (eVar 0) (aCons (eCB fLenL (aCons (eVar 1) aNil)) aNil)))) (dName 6))
    (cSeq (cIf (bAnd (bE (eOp fNe (eVar 4) (eC (.str "")))) (bAnd (bE (eOp fEq (eVar 3) (eC (.int 1)))) (bE (eOp fGtI (eCallB (F_law_draw s) (aCons (eVar 0) (aCons (eC (.int 4)) aNil))) (eC (.int 0)))))) (cAsg (eOp fIxS (eVar 4) (eUn fNegI (eC (.int 1)))) (dName 6)) cNext)
    (cAsg (eOp fAddS (eVar 4) (eOp fIxL (eNew (eLst (aCons (eVar 6) (aCons (eVar 6) (aCons (eOp fIxL (eVar 1) (eC (.int 0))) aNil))))) (eIf (bE (eOp fGtI (eCallB (F_law_draw s) (aCons (eVar 0) (aCons (eC (.int 5)) aNil))) (eC (.int 0)))) (eVar 3) (eC (.int 0))))) (dName 4)))))
    (cRet (eVar 4)))))
theorem ss_law_line {K : PySem.W.Frag} {s : Addr} : SS K (WB s) (t_law_line K) (c_law_line s) :=
  (ss_seq (ss_asg (se_callB co_law_draw (sa_cons se_var (sa_cons (se_c (fun _ => (.int _))) sa_nil))) sg_name)
    (ss_seq (ss_asg (se_c (fun _ => (.str _))) sg_name)
    (ss_seq (ss_for (si_rng1 (sa_cons (se_callB co_law_draw (sa_cons se_var (sa_cons (se_op r2_AddI se_var (se_c (fun _ => (.int _)))) sa_nil))) sa_nil)) sg_name (ss_seq (ss_asg (se_op r2_IxL se_var (se_callB co_law_draw (sa_cons se_var (sa_cons (se_cb rc_LenL (sa_cons se_var sa_nil)) sa_nil)))) sg_name)
    (ss_seq (ss_if (st_and (st_test (se_op r2_Ne se_var (se_c (fun _ => (.str _))))) (st_and (st_test (se_op r2_Eq se_var (se_c (fun _ => (.int _))))) (st_test (se_op r2_GtI (se_callB co_law_draw (sa_cons se_var (sa_cons (se_c (fun _ => (.int _))) sa_nil))) (se_c (fun _ => (.int _))))))) (ss_asg (se_op r2_IxS se_var (se_un r1_NegI (se_c (fun _ => (.int _))))) sg_name) ss_next)
    (ss_asg (se_op r2_AddS se_var (se_op r2_IxL (SN.se (sn_lst (sa_cons se_var (sa_cons se_var (sa_cons (se_op r2_IxL se_var (se_c (fun _ => (.int _)))) sa_nil))))) (se_if (st_test (se_op r2_GtI (se_callB co_law_draw (sa_cons se_var (sa_cons (se_c (fun _ => (.int _))) sa_nil))) (se_c (fun _ => (.int _))))) se_var (se_c (fun _ => (.int _)))))) sg_name))))
    (ss_ret se_var))))

def F_law_line (s : Addr) : FD := fun ds n P => ∃ (ys : List Nat) (m : Int), ds = [.ref s, .lst (chD ys), .int m] ∧ (∀ c ∈ ys, isColN c = true) ∧ 1 ≤ ys.length ∧ ys.length ≤ 6 ∧ 0 ≤ m ∧ m ≤ 1000 ∧ n ≤ 900000000 ∧
  ∀ (l : List Nat) (n' : Int), (∀ c ∈ l, isColN c = true) → l.length ≤ m → n' ≤ n + 2 + 3 * m → P (.str (sN l)) n'
theorem len_law_line {s : Addr} : ∀ ds n P, F_law_line s ds n P → ds.length = 3 := by
  rintro ds n P ⟨ys, m, rfl, _⟩
  rfl
theorem sN_cat (l : List Nat) (x : Nat) : sN l ++ S1 x = sN (l ++ [x]) := SX.S_cat l [x]
theorem d_law_line {s : Addr} : ∀ ds n P, F_law_line s ds n P → c_law_line s ⟨fun st => P .non st.n, fun d st => P d st.n, fun _ => False, fun _ => False⟩ ⟨δ0 7 ds, n⟩ := by
  rintro ds n P ⟨ys, m, rfl, hc, h1, h6, hm, hm2, hn, k⟩
  unfold c_law_line
  walk_at "s"
  refine k_draw (by omega) (by omega) (by omega) fun way a0 b0 => ?_
  walk_at "d"
  refine k_draw (by omega) (by omega) (by omega) fun r1 a1 b1 => ?_
  walk_at "d"
  refine ⟨by omega, by omega, ?_⟩
  refine for_inv (fun i st => ∃ (l : List Nat) (x5 x6 : Sl) (n' : Int), l.length = i ∧ (∀ c ∈ l, isColN c = true) ∧ n' ≤ n + 2 + 3 * i ∧ st = ⟨[Sl.dat (Da.ref s), Sl.dat (Da.lst (chD ys)), Sl.dat (Da.int m), Sl.dat (Da.int way), Sl.dat (Da.str (sN l)), x5, x6], n'⟩) ⟨[], Sl.un, Sl.un, _, rfl, (fun c h => nomatch h), (by omega), rfl⟩ ?_ ?_
  · rintro i x st R hx ⟨l, x5, x6, n', hl, hlc, hn', rfl⟩ hR
    obtain ⟨rfl, hi⟩ := rng_get hx
    walk_at "d"
    rw [chD_len]
    refine k_draw (by omega) (by omega) (by omega) fun r2 a2 b2 => ?_
    obtain ⟨a, ea, ha⟩ := ch_at a2 b2
    walk_at "d"
    refine k_IxL rfl ea ?_
    walk_at "di"
    refine s_ifJ (fun st => ∃ (b : Nat) (n2 : Int), isColN b = true ∧ n2 ≤ n' + 2 ∧ st = ⟨[Sl.dat (Da.ref s), Sl.dat (Da.lst (chD ys)), Sl.dat (Da.int m), Sl.dat (Da.int way), Sl.dat (Da.str (sN l)), Sl.dat (Da.int (i : Nat)), Sl.dat (Da.str (S1 b))], n2⟩) ?_ ?_
    · rintro st ⟨b, n2, hb, hn2, rfl⟩
      walk_at "d"
      obtain ⟨y0, ey0, hy0⟩ := ch_at (ys := ys) (r := 0) (by omega) (by omega)
      refine k_IxL rfl ey0 ?_
      walk_at "d"
      refine k_draw (by omega) (by omega) (by omega) fun r3 a3 b3 => ?_
      walk_at "d"
      have fin : ∀ w : Int, 0 ≤ w → w < 3 → fIxL (Da.lst [Da.str (S1 b), Da.str (S1 b), Da.str (S1 y0)]) (Da.int w) (fun d => ∃ z : Nat, d = .str (S1 z) ∧ isColN z = true) := by
        intro w w0 w3
        obtain ⟨d, e1, e2⟩ := at_one (l := [Da.str (S1 b), Da.str (S1 b), Da.str (S1 y0)]) w0 w3
        refine k_IxL rfl e1 ?_
        have : w.toNat = 0 ∨ w.toNat = 1 ∨ w.toNat = 2 := by omega
        rcases this with e | e | e <;> rw [e] at e2 <;> cases e2
        · exact ⟨b, rfl, hb⟩
        · exact ⟨b, rfl, hb⟩
        · exact ⟨y0, rfl, hc _ hy0⟩
      have fin2 : ∀ w : Int, 0 ≤ w → w < 3 → ∃ z : Nat, isColN z = true ∧ atI [Da.str (S1 b), Da.str (S1 b), Da.str (S1 y0)] w = some (.str (S1 z)) := by
        intro w w0 w3
        obtain ⟨d, e1, z, rfl, hz⟩ := fin w w0 w3
        exact ⟨z, hz, e1⟩
      have last : ∀ (z : Nat) (n3 : Int), isColN z = true → n3 ≤ n' + 3 → (sN l).length + (S1 z).length ≤ sizeLine ∧ R ⟨[Sl.dat (Da.ref s), Sl.dat (Da.lst (chD ys)), Sl.dat (Da.int m), Sl.dat (Da.int way), Sl.dat (Da.str (sN l ++ S1 z)), Sl.dat (Da.int (i : Nat)), Sl.dat (Da.str (S1 b))], n3⟩ := by
        intro z n3 hz hn3
        constructor
        · rw [len_sN, hl]
          have e : sizeLine = 16777216 := sizeLine_eq
          rw [e]
          show i + 1 ≤ 16777216
          omega
        · rw [sN_cat]
          refine hR _ ⟨l ++ [z], _, _, _, by rw [List.length_append, hl]; rfl, fun c mc => ?_, ?_, rfl⟩
          · rcases List.mem_append.mp mc with h | h
            · exact hlc c h
            · rw [List.mem_singleton.mp h]; exact hz
          · omega
      refine ite2 (fun h => ?_) (fun h => ?_)
      · walk_at "d"
        obtain ⟨z, hz, ez⟩ := fin2 way a0 b0
        refine k_IxL rfl ez ?_
        walk_at "d"
        refine k_AddS (last z n' hz (by omega)).1 ?_
        walk_at "d"
        exact (last z _ hz (by omega)).2
      · walk_at "d"
        obtain ⟨z, hz, ez⟩ := fin2 0 (by decide) (by decide)
        refine k_IxL rfl ez ?_
        walk_at "d"
        refine k_AddS (last z n' hz (by omega)).1 ?_
        walk_at "d"
        exact (last z _ hz (by omega)).2
    · intro R2 hR2
      have hca := hc a ha
      walk_at "d"
      cases hd : decide (sN l = ("" : Str)) with
      | true =>
        walk_at "d"
        exact hR2 _ ⟨a, _, hca, by omega, rfl⟩
      | false =>
        have hne : l ≠ [] := fun e => by
          have := of_decide_eq_false hd
          rw [e] at this
          exact this rfl
        walk_at "d"
        refine ite2 (fun h => ?_) (fun h => ?_)
        · walk_at "d"
          refine k_draw (by omega) (by omega) (by omega) fun r3 a3 b3 => ?_
          walk_at "d"
          refine ite2 (fun h3 => ?_) (fun h3 => ?_)
          · walk_at "d"
            refine k_IxS (c := l.getLast hne) ?_ (atI_neg1 (List.getLast?_eq_some_getLast hne)) ?_
            · rw [len_sN, hl]
              have e : sizeLine = 16777216 := sizeLine_eq
              omega
            walk_at "d"
            exact hR2 _ ⟨_, _, hlc _ (List.getLast_mem hne), by omega, rfl⟩
          · walk_at "d"
            exact hR2 _ ⟨a, _, hca, by omega, rfl⟩
        · walk_at "d"
          exact hR2 _ ⟨a, _, hca, by omega, rfl⟩
  · rintro st ⟨l, x5, x6, n', hl, hlc, hn', rfl⟩
    have hm : (List.map (fun i => Da.int ((i : Nat) : Int)) (List.range r1.toNat)).length = r1.toNat := by simp
    rw [hm] at hl hn'
    walk_at "d"
    exact k l n' hlc (by omega) (by omega)
def sp_law_line (K : PySem.W.Frag) : Sp := fun vs H Q E => vs.length = 3 ∧ ∃ s : Addr, spD K (WB s) (F_law_line s) vs H Q E
theorem co_law_line {K : PySem.W.Frag} {s : Addr} {E : XK} : CallOk K (WB s) (sp_law_line K) [] E (F_law_line s) := fun vs H Q h => ⟨by rw [List.append_nil]; exact spD_len len_law_line h, s, by rw [List.append_nil]; exact h⟩
theorem pure_law_line {K : PySem.W.Frag} {vs : List V} {H : Hp} {Q : VK} {E : XK} (h : sp_law_line K vs H Q E) : t_law_line K { nx := fun _ H' => Q .non H', rt := Q } (L2.start ["rng", "letters", "longest", "way", "line", "turn", "letter"] vs) H := by
  obtain ⟨_, s, h⟩ := h
  exact fn_src ss_law_line d_law_line h


/-! ### a law's own run, counts, crowd: on data -/
def t_law_tally (K : PySem.W.Frag) : TS := (tRet (tLc (iStr (tC (.str "abcdef"))) (gName 1) tYes (tM1 rCount (tVar 0) (tVar 1)) [1]))
def c_law_tally : DC := (cRet (eNew (eLc (diS (eC (.str "abcdef"))) (dName 1) bYes (eM1 fCount (eVar 0) (eVar 1)) [1])))
theorem ss_law_tally {K : PySem.W.Frag} {W : Wo} : SS K W (t_law_tally K) (c_law_tally) :=
  (ss_ret (SN.se (sn_lc (si_str (se_c (fun _ => (.str _)))) sg_name st_yes (se_m1 rm_Count se_var se_var) (by decide))))

def f_law_tally : FP := fun ds P => ∃ l : List Nat, ds = [.str (sN l)] ∧ P (.lst ((tal l).map Da.int))
theorem len_law_tally : ∀ ds P, f_law_tally ds P → ds.length = 1 := by
  rintro ds P ⟨l, rfl, _⟩
  rfl
theorem d_law_tally : ∀ ds P, f_law_tally ds P → c_law_tally ⟨fun st => P .non, fun d st => P d, fun _ => False, fun _ => False⟩ ⟨δ0 2 ds, 0⟩ := by
  rintro ds P ⟨l, rfl, k⟩
  unfold c_law_tally
  walk_at "s"
  rw [sgD_abc]
  refine lc_mapA ([97, 98, 99, 100, 101, 102] : List Nat) (fun c => Da.str (S1 c)) (fun c => Da.int ((l.count c : Nat) : Int)) (by decide) (fun i p acc R hx2 hacc hR => ?_) ?_
  · walk_at "d"
    rw [cnt_sN]
    exact ⟨hacc, s_fz (fz_stl rfl) (hR _ rfl)⟩
  have e : ([97, 98, 99, 100, 101, 102] : List Nat).map (fun c => Da.int ((l.count c : Nat) : Int)) = (tal l).map Da.int := by unfold tal; rw [List.map_map]; rfl
  rw [e]
  walk_at "d"
  exact k
def sp_law_tally (K : PySem.W.Frag) : Sp := fun vs H Q E => vs.length = 1 ∧ spP K f_law_tally vs H Q E
theorem co_law_tally {K : PySem.W.Frag} {W : Wo} {E : XK} : CallOk K W (sp_law_tally K) [] E (FP.d f_law_tally) := call_pn len_law_tally
theorem pure_law_tally {K : PySem.W.Frag} {vs : List V} {H : Hp} {Q : VK} {E : XK} (h : sp_law_tally K vs H Q E) : t_law_tally K { nx := fun _ H' => Q .non H', rt := Q } (L2.start ["line", "letter"] vs) H := fn_pure ss_law_tally d_law_tally h.2

end Q

set_option Elab.async false
set_option linter.all false
set_option maxRecDepth 100000
set_option maxHeartbeats 4000000
namespace Q
open PySem PySem.Spec PyProof.Rows L2
/-! the steps' tactic on data -/
local macro_rules | `(tactic| walk_at "fi") => `(tactic| (simp only [List.set_cons_zero, List.set_cons_succ]; rfl))
local macro_rules | `(tactic| walk_at "f1") => `(tactic| first | exact fz_kd | exact pk_kd | exact fz_stl (by first | assumption | with_unfolding_all exact rfl | exact calDa_stl) | exact pk_stl (by first | assumption | with_unfolding_all exact rfl | exact calDa_stl) | exact pk_own (by with_unfolding_all exact rfl) | exact pk_ownD (by with_unfolding_all exact rfl) | (apply fz_own; (with_unfolding_all exact rfl); (walk_at "fi")) | (apply fz_ownD; (with_unfolding_all exact rfl); (walk_at "fi")))
local macro_rules | `(tactic| walk_at "f") => `(tactic| first | walk_at "f1" | exact fzs_nil | exact fzs_stl (by with_unfolding_all exact rfl) | (apply fzs_cons; (walk_at "f1"); (walk_at "f")))
local macro_rules | `(tactic| walk_at "d1") => `(tactic| (with_reducible first
  | (apply n_put; (simp only [List.set_cons_zero, List.set_cons_succ]; rfl))
  | (apply n_putE; (simp only [List.set_cons_zero, List.set_cons_succ]; rfl))
  | (apply n_put2; (simp only [List.set_cons_zero, List.set_cons_succ]; rfl); (simp only [List.set_cons_zero, List.set_cons_succ]; rfl))
  | (apply n_wp1; (simp only [List.set_cons_zero, List.set_cons_succ]; rfl))
  | (apply n_wp1E; (simp only [List.set_cons_zero, List.set_cons_succ]; rfl))
  | (apply n_wp2; (simp only [List.set_cons_zero, List.set_cons_succ]; rfl); (simp only [List.set_cons_zero, List.set_cons_succ]; rfl))
  | (apply n_wp2E; (simp only [List.set_cons_zero, List.set_cons_succ]; rfl); (simp only [List.set_cons_zero, List.set_cons_succ]; rfl))
  | (apply n_wp3; (simp only [List.set_cons_zero, List.set_cons_succ]; rfl); (simp only [List.set_cons_zero, List.set_cons_succ]; rfl); (simp only [List.set_cons_zero, List.set_cons_succ]; rfl))
  | (apply n_wp3E; (simp only [List.set_cons_zero, List.set_cons_succ]; rfl); (simp only [List.set_cons_zero, List.set_cons_succ]; rfl); (simp only [List.set_cons_zero, List.set_cons_succ]; rfl))
  | refine n_tick ?_
  | refine n_tickE ?_
  | refine s_seq ?_
  | refine k_op ?_
  | (apply k_var; (with_unfolding_all exact rfl))
  | (apply k_varO; (with_unfolding_all exact rfl))
  | (apply k_varD; (with_unfolding_all exact rfl))
  | refine k_c ?_
  | refine k_AddI ?_
  | refine k_SubI ?_
  | refine k_LtI ?_
  | refine k_LeI ?_
  | refine k_GtI ?_
  | refine k_GeI ?_
  | refine k_NegI ?_
  | refine k_ip ?_
  | (apply k_Eq; (with_unfolding_all exact rfl))
  | (apply k_Ne; (with_unfolding_all exact rfl))
  | refine k_InC ?_
  | refine k_NotInC ?_
  | (apply k_IsN; (with_unfolding_all exact rfl))
  | (apply k_NotN; (with_unfolding_all exact rfl))
  | refine k_Max2 ?_
  | refine k_Min2 ?_
  | refine k_Int1b ?_
  | refine k_Int1i ?_
  | refine k_Abs ?_
  | refine k_Count ?_
  | (apply k_LenL; (with_unfolding_all exact rfl))
  | (apply k_ListL; (with_unfolding_all exact rfl))
  | (apply k_pk2; (walk_at "f"); (walk_at "f"))
  | (apply k_pk1; (walk_at "f"))
  | (apply k_pk2N; (walk_at "f"); (walk_at "f"))
  | (apply k_pkM; (walk_at "f"))
  | (apply k_mp1; (walk_at "f"))
  | (apply k_mp2; (walk_at "f"); (walk_at "f"))
  | (apply k_mp1N; (walk_at "f"))
  | refine k_un ?_
  | refine k_new ?_
  | refine k_opN ?_
  | refine k_nil ?_
  | refine k_cons ?_
  | refine k_cb ?_
  | refine k_cbN ?_
  | refine k_call ?_
  | refine k_callB ?_
  | refine k_kw ?_
  | refine k_kwB ?_
  | (apply k_cF; (walk_at "f"))
  | (apply k_cB; (walk_at "f"))
  | (apply k_kF; (with_unfolding_all exact rfl); (walk_at "f"); (with_unfolding_all exact rfl))
  | (apply k_kB; (with_unfolding_all exact rfl); (walk_at "f"); (with_unfolding_all exact rfl))
  | refine k_tup ?_
  | refine k_lst ?_
  | (apply k_mkT; (with_unfolding_all exact rfl); (walk_at "f"))
  | (apply k_mkL; (with_unfolding_all exact rfl); (walk_at "f"))
  | refine k_bE ?_
  | (apply k_bl; (with_unfolding_all exact rfl))
  | refine k_and ?_
  | refine k_or ?_
  | refine k_not ?_
  | refine k_yes ?_
  | refine k_if ?_
  | refine k_andV ?_
  | refine k_orV ?_
  | refine k_notV ?_
  | refine k_chain ?_
  | refine k_oNo ?_
  | refine k_oPart ?_
  | (apply k_int; (walk_at "f"))
  | refine k_slL ?_
  | (apply k_asl; (walk_at "f"); (with_unfolding_all exact rfl))
  | refine k_slS ?_
  | (apply k_strP; (walk_at "f"))
  | refine k_m1 ?_
  | refine k_mu ?_
  | refine k_bl0 ?_
  | refine k_mu0 ?_
  | (apply k_mu1; (with_unfolding_all exact rfl))
  | (apply k_mu2; (walk_at "f"); (with_unfolding_all exact rfl))
  | refine s_next ?_
  | refine s_drop ?_
  | refine s_ret ?_
  | (apply s_fz; (walk_at "f"))
  | refine s_retN ?_
  | refine s_asg ?_
  | refine s_asgN ?_
  | refine s_break ?_
  | refine s_cont ?_
  | refine s_aug ?_
  | refine s_par ?_
  | (apply s_par2; (walk_at "f"))
  | refine s_for ?_
  | refine s_lc ?_
  | (apply g_nm; (walk_at "f"))
  | refine g_nl ?_
  | refine g_cn ?_
  | (apply g_tp; (walk_at "f"); (first | exact calDa_asT | with_unfolding_all exact rfl); (with_unfolding_all exact rfl))
  | (apply g_sl; (walk_at "f"))
  | refine i_list ?_
  | (apply i_asl; (walk_at "f"); (with_unfolding_all exact rfl))
  | refine i_tup ?_
  | (apply i_ast; (walk_at "f"); (with_unfolding_all exact rfl))
  | refine i_str ?_
  | refine i_rng1 ?_
  | refine i_rng2 ?_
  | refine i_rng3 ?_
  | (apply i_r3; (walk_at "f"); (walk_at "f"); (walk_at "f"))
  | refine i_enum ?_
  | (apply i_en; (walk_at "f"); (with_unfolding_all exact rfl))
  | (apply i_zp; (walk_at "f"); (with_unfolding_all exact rfl); (with_unfolding_all exact rfl))
  | refine i_enumS ?_
  | (apply i_enS; (walk_at "f"))
  | refine i_zip ?_
  | refine i_zipS ?_
  | (apply i_zpS; (walk_at "f"); (with_unfolding_all exact rfl))
  | refine k_dget ?_
  | (apply k_onD; (walk_at "f"))
  | (apply k_onK; (walk_at "f"); (with_unfolding_all exact rfl))
  | (apply k_onOD; (with_unfolding_all exact rfl))
  | (apply g_sd; (walk_at "f"))
  | refine s_dput ?_
  | refine s_daug ?_
  | refine k_newD ?_
  | refine s_asgD ?_
  | refine k_dzip ?_
  | refine k_lvals ?_
  | refine k_on2 ?_
  | refine k_on1 ?_
  | refine k_onStr0 ?_
  | refine k_onInt0 ?_
  | (apply i_onL; (with_unfolding_all exact rfl))
  | refine k_10_5 ?_
  | refine k_10_6 ?_
  | refine k_10_9 ?_
  | refine k_10_15 ?_
  | refine k_10_18 ?_
  | refine k_10_29 ?_
  | refine k_10_30 ?_
  | refine k_2_61 ?_
  | refine k_ml ?_
  | (apply k_ml1; (walk_at "f"); (with_unfolding_all exact rfl))
  | (apply k_ml2; (walk_at "f"); (with_unfolding_all exact rfl))
  | (apply k_mpL; (walk_at "f"))
  | refine k_Sum ?_
  | refine k_lenSet ?_
  | refine i_sl ?_
  | (apply i_slF; (walk_at "f"); (with_unfolding_all exact rfl))
  | refine k_dget2 ?_
  | refine k_newK ?_
  | refine k_disp2 ?_
  | refine s_raise ?_
  | refine s_dropX ?_
  | refine s_retX ?_
  | refine k_lenSetL ?_
  | refine k_revL ?_
  | (apply k_pkL; (walk_at "f"); (with_unfolding_all exact rfl))
  | refine s_asgD ?_
  | (apply k_varT; (with_unfolding_all exact rfl))
  | refine k_slT ?_
  | (apply k_onT; (walk_at "f"))
  | refine k_dget2T ?_
  | refine k_dgetT ?_
  | refine k_sumVals ?_
  | refine k_newT ?_
  | refine k_disp1T ?_
  | (apply k_onOT; (with_unfolding_all exact rfl))
  | (apply k_onOwn; (with_unfolding_all exact rfl); (with_unfolding_all exact rfl))
  | (apply k_TupL; (with_unfolding_all exact rfl))
  | refine s_asgT ?_
  | refine s_dputT ?_
  | refine s_move ?_
  | refine s_forT ?_
  | refine ite_nsame ?_
  | refine ite_same ?_
  | (refine ite_dF ?_ ?_; (with_unfolding_all decide +kernel))
  | (refine ite_dT ?_ ?_; (with_unfolding_all decide +kernel))
  | refine iteT ?_
  | refine iteF ?_
  | refine ite_nt ?_
  | refine ite_nf ?_))
local macro_rules | `(tactic| walk_at "d") => `(tactic| (repeat (first | walk_at "d1" | with_reducible refine s_if ?_)))
local macro_rules | `(tactic| walk_at "di") => `(tactic| (repeat walk_at "d1"))
local macro_rules | `(tactic| walk_at "s") => `(tactic| (simp only [δ0, List.map_cons, List.map_nil, List.length_cons, List.length_nil, List.replicate, List.cons_append, List.nil_append, Nat.reduceAdd, Nat.reduceSub]; walk_at "d"))

/-! ### counts, what is wrong raised -/
theorem badR_none {l : List Nat} : badR l = none ↔ ∀ c ∈ l, isColN c = true := by
  unfold badR
  rw [List.findIdx?_eq_none_iff]
  constructor
  · intro h c m
    have := h c m
    cases hc : isColN c with
    | true => rfl
    | false => rw [hc] at this; cases this
  · intro h c m; rw [h c m]; rfl
theorem badC_none {l : List Cal} : badC l = none ↔ ∀ c ∈ l, isCall c = true := by
  unfold badC
  rw [List.findIdx?_eq_none_iff]
  constructor
  · intro h c m
    have := h c m
    cases hc : isCall c with
    | true => rfl
    | false => rw [hc] at this; cases this
  · intro h c m; rw [h c m]; rfl
def t_count_colours (E : XK) (K : PySem.W.Frag) : TS := (tSeq (tDrop (tCall (sp_check_row K) [] E (tCons (tVar 0) tNil)))
    (tRet (tLc (iStr (tC (.str "abcdef"))) (gName 1) tYes (tM1 rCount (tVar 0) (tVar 1)) [1])))
def c_count_colours (X : XD) : DC := (cSeq (cDropX X f_check_row (aCons (eVar 0) aNil))
    (cRet (eNew (eLc (diS (eC (.str "abcdef"))) (dName 1) bYes (eM1 fCount (eVar 0) (eVar 1)) [1]))))
theorem ss_count_colours {K : PySem.W.Frag} {W : Wo} {E : XK} {X : XD} : SSX K W E X (t_count_colours E K) (c_count_colours X) :=
  (ssx_seq (ssx_dropX cx_check_row (sa_cons se_var sa_nil))
    (ssx_of (ss_ret (SN.se (sn_lc (si_str (se_c (fun _ => (.str _)))) sg_name st_yes (se_m1 rm_Count se_var se_var) (by decide))))))

def f_count_colours : FX := fun ds P X => ∃ l : List Nat, ds = [.str (sN l)] ∧ orX (badR l) "BadRow" (P (.lst ((tal l).map Da.int))) X
theorem len_count_colours : ∀ ds P X, f_count_colours ds P X → ds.length = 1 := by
  rintro ds P X ⟨l, rfl, _⟩
  rfl
theorem d_count_colours : ∀ ds P X, f_count_colours ds P X → c_count_colours X ⟨fun st => P .non, fun d st => P d, fun _ => False, fun _ => False⟩ ⟨δ0 2 ds, 0⟩ := by
  rintro ds P X ⟨l, rfl, k⟩
  unfold c_count_colours
  walk_at "s"
  refine ⟨l, rfl, ?_⟩
  cases hb : badR l with
  | some i => rw [hb] at k; exact k
  | none =>
    rw [hb] at k
    refine orX_n ?_
    walk_at "d"
    rw [sgD_abc]
    refine lc_mapA ([97, 98, 99, 100, 101, 102] : List Nat) (fun c => Da.str (S1 c)) (fun c => Da.int ((l.count c : Nat) : Int)) (by decide) (fun i p acc R hx2 hacc hR => ?_) ?_
    · walk_at "d"
      rw [cnt_sN]
      exact ⟨hacc, s_fz (fz_stl rfl) (hR _ rfl)⟩
    have e : ([97, 98, 99, 100, 101, 102] : List Nat).map (fun c => Da.int ((l.count c : Nat) : Int)) = (tal l).map Da.int := by unfold tal; rw [List.map_map]; rfl
    rw [e]
    walk_at "d"
    exact k
def sp_count_colours (K : PySem.W.Frag) : Sp := fun vs H Q E => vs.length = 1 ∧ spX K f_count_colours vs H Q E
theorem cx_count_colours {K : PySem.W.Frag} : CallX K (sp_count_colours K) f_count_colours := callX_n len_count_colours
theorem co_count_colours {K : PySem.W.Frag} {W : Wo} {E : XK} : CallOk K W (sp_count_colours K) [] E (FP.d (FX.ok f_count_colours)) := callOk_x cx_count_colours
theorem pure_count_colours {K : PySem.W.Frag} {vs : List V} {H : Hp} {Q : VK} {E : XK} (h : sp_count_colours K vs H Q E) : t_count_colours E K { nx := fun _ H' => Q .non H', rt := Q } (L2.start ["row", "colour"] vs) H := fn_pureX (t := t_count_colours E K) (fun X => ss_count_colours) d_count_colours h.2

/-- what is wrong with counts: none, or the value of the error -/
def badN (ns : List Int) : Option (Option Nat) := if ns.length = 6 then (ns.findIdx? fun n => decide (n < 0)).map some else some none
def optN : Option Nat → Da
  | none => .non
  | some i => .int (i : Nat)
def orN (o : Option (Option Nat)) (nm : Str) (P : Prop) (X : XD) : Prop := match o with
  | none => P
  | some v => X nm (optN v)
theorem ite_nq {p A B : Prop} [Decidable p] (h : ¬ p) (q : A) : if (!decide p) = true then A else B := by
  rw [decide_eq_false h]
  exact q
theorem orN_n {nm : Str} {P : Prop} {X : XD} (h : P) : orN none nm P X := h
theorem badN_none {ns : List Int} (h : badN ns = none) : ns.length = 6 ∧ ∀ n ∈ ns, 0 ≤ n := by
  unfold badN at h
  by_cases hl : ns.length = 6
  · rw [if_pos hl, Option.map_eq_none_iff, List.findIdx?_eq_none_iff] at h
    exact ⟨hl, fun n m => by have := of_decide_eq_false (h n m); omega⟩
  · rw [if_neg hl] at h; cases h
def t_check_counts (E : XK) (K : PySem.W.Frag) : TS := (tSeq (tIfS (tTest (tOp rNe (tCB (rLenL K) (tCons (tVar 0) tNil)) (tCB rLenS (tCons (tC (.str "abcdef")) tNil)))) (tRaise (He.ga K "BadCounts") (tC .non) (XW E)) tNext)
    (tFor (iEnum K (tCons (tVar 0) tNil)) (gTup K 2 (gCons (gName 1) (gCons (gName 2) gNil))) (tIfS (tTest (tOp rLtI (tVar 2) (tC (.int 0)))) (tRaise (He.ga K "BadCounts") (tVar 1) (XW E)) tNext)))
def c_check_counts (X : XD) : DC := (cSeq (cIf (bE (eOp fNe (eCB fLenL (aCons (eVar 0) aNil)) (eCB fLenS (aCons (eC (.str "abcdef")) aNil)))) (cRaise X "BadCounts" (eC .non)) cNext)
    (cFor (diE (aCons (eVar 0) aNil)) (dTup 2 (dCons (dName 1) (dCons (dName 2) dNil))) (cIf (bE (eOp fLtI (eVar 2) (eC (.int 0)))) (cRaise X "BadCounts" (eVar 1)) cNext)))
theorem ss_check_counts {K : PySem.W.Frag} {W : Wo} {E : XK} {X : XD} : SSX K W E X (t_check_counts E K) (c_check_counts X) :=
  (ssx_seq (ssx_if (st_test (se_op r2_Ne (se_cb rc_LenL (sa_cons se_var sa_nil)) (se_cb rc_LenS (sa_cons (se_c (fun _ => (.str _))) sa_nil)))) (ssx_raise (se_c (fun _ => .non))) (ssx_of ss_next))
    (ssx_for (si_enum (sa_cons se_var sa_nil)) (sg_tup (sg_cons sg_name (sg_cons sg_name sg_nil))) (ssx_if (st_test (se_op r2_LtI se_var (se_c (fun _ => (.int _))))) (ssx_raise se_var) (ssx_of ss_next))))

def f_check_counts : FX := fun ds P X => ∃ ns : List Int, ds = [.lst (ns.map Da.int)] ∧ ns.length ≤ 1000 ∧ orN (badN ns) "BadCounts" (P .non) X
theorem len_check_counts : ∀ ds P X, f_check_counts ds P X → ds.length = 1 := by
  rintro ds P X ⟨c, rfl, _⟩
  rfl
theorem d_check_counts : ∀ ds P X, f_check_counts ds P X → c_check_counts X ⟨fun st => P .non, fun d st => P d, fun _ => False, fun _ => False⟩ ⟨δ0 3 ds, 0⟩ := by
  rintro ds P X ⟨ns, rfl, hz, k⟩
  unfold c_check_counts
  walk_at "s"
  refine k_LenS (by rw [abc_len]; decide) ?_
  walk_at "d"
  rw [List.length_map, abc_len]
  by_cases hl : ns.length = 6
  · refine ite_nd (by rw [hl]) ?_
    walk_at "d"
    refine for_inv (fun i st => (∀ j y, j < i → ns[j]? = some y → decide (y < 0) = false) ∧ ∃ x1 x2 : Sl, st = ⟨[Sl.dat (Da.lst (List.map Da.int ns)), x1, x2], 0⟩) ⟨fun j y h => absurd h (Nat.not_lt_zero j), _, _, rfl⟩ ?_ ?_
    · rintro i x st R hx ⟨hb, x1, x2, rfl⟩ hR
      obtain ⟨b, hb1, rfl⟩ := pr_getE hx
      obtain ⟨c, hc, rfl⟩ := map_get hb1
      walk_at "d"
      by_cases hc0 : c < 0
      · refine ite_dT hc0 ?_
        walk_at "d"
        have : badN ns = some (some i) := by unfold badN; rw [if_pos hl, find_at hc (decide_eq_true hc0) hb]; rfl
        rw [this] at k
        exact k
      · refine ite_dF hc0 ?_
        walk_at "d"
        refine hR _ ⟨fun j y hj hy => ?_, _, _, rfl⟩
        by_cases hji : j < i
        · exact hb j y hji hy
        · obtain rfl : j = i := by omega
          rw [hc] at hy; cases hy
          exact decide_eq_false hc0
    · rintro st ⟨hb, x1, x2, rfl⟩
      have : badN ns = none := by unfold badN; rw [if_pos hl, find_no fun j y hj hy => hb j y (by rw [prD_len, List.length_map]; exact hj) hy]; rfl
      rw [this] at k
      exact k
  · refine ite_nq (fun e => hl (Int.ofNat.inj e)) ?_
    walk_at "d"
    have : badN ns = some none := if_neg hl
    rw [this] at k
    exact k
def sp_check_counts (K : PySem.W.Frag) : Sp := fun vs H Q E => vs.length = 1 ∧ spX K f_check_counts vs H Q E
theorem cx_check_counts {K : PySem.W.Frag} : CallX K (sp_check_counts K) f_check_counts := callX_n len_check_counts
theorem co_check_counts {K : PySem.W.Frag} {W : Wo} {E : XK} : CallOk K W (sp_check_counts K) [] E (FP.d (FX.ok f_check_counts)) := callOk_x cx_check_counts
theorem pure_check_counts {K : PySem.W.Frag} {vs : List V} {H : Hp} {Q : VK} {E : XK} (h : sp_check_counts K vs H Q E) : t_check_counts E K { nx := fun _ H' => Q .non H', rt := Q } (L2.start ["counts", "index", "number"] vs) H := fn_pureX (t := t_check_counts E K) (fun X => ss_check_counts) d_check_counts h.2

def t_run_on_counts (E : XK) (K : PySem.W.Frag) : TS := (tSeq (tDrop (tCall (sp_check_drill K) [] E (tCons (tVar 0) tNil)))
    (tSeq (tDrop (tCall (sp_check_counts K) [] E (tCons (tVar 1) tNil)))
    (tRet (tCall (sp_lead_counts K) [] E0 (tCons (tVar 0) (tCons (tVar 1) tNil))))))
def c_run_on_counts (X : XD) : DC := (cSeq (cDropX X f_check_drill (aCons (eVar 0) aNil))
    (cSeq (cDropX X f_check_counts (aCons (eVar 1) aNil))
    (cRet (eCall (FP.d f_lead_counts) (aCons (eVar 0) (aCons (eVar 1) aNil))))))
theorem ss_run_on_counts {K : PySem.W.Frag} {W : Wo} {E : XK} {X : XD} : SSX K W E X (t_run_on_counts E K) (c_run_on_counts X) :=
  (ssx_seq (ssx_dropX cx_check_drill (sa_cons se_var sa_nil))
    (ssx_seq (ssx_dropX cx_check_counts (sa_cons se_var sa_nil))
    (ssx_of (ss_ret (se_call co_lead_counts (sa_cons se_var (sa_cons se_var sa_nil)))))))

def f_run_on_counts : FX := fun ds P X => ∃ (g : Bool) (cs : List Cal) (ns : List Int), ds = [drDa g cs, .lst (ns.map Da.int)] ∧ (∀ c ∈ cs, calLen c ≤ 100000) ∧ ns.length ≤ 1000 ∧ orX (badC cs) "BadCall" (orN (badN ns) "BadCounts" (P (.lst ((leadC cs ns).map Da.int))) X) X
theorem len_run_on_counts : ∀ ds P X, f_run_on_counts ds P X → ds.length = 2 := by
  rintro ds P X ⟨g, cs, ns, rfl, _⟩
  rfl
theorem d_run_on_counts : ∀ ds P X, f_run_on_counts ds P X → c_run_on_counts X ⟨fun st => P .non, fun d st => P d, fun _ => False, fun _ => False⟩ ⟨δ0 2 ds, 0⟩ := by
  rintro ds P X ⟨g, cs, ns, rfl, hcal, hz, k⟩
  unfold c_run_on_counts
  walk_at "s"
  refine ⟨g, cs, rfl, hcal, ?_⟩
  cases hbc : badC cs with
  | some i => rw [hbc] at k; exact k
  | none =>
  rw [hbc] at k
  have hg := badC_none.mp hbc
  have k : orN (badN ns) "BadCounts" (P (.lst ((leadC cs ns).map Da.int))) X := k
  refine orX_n ?_
  walk_at "d"
  refine ⟨ns, rfl, hz, ?_⟩
  cases hbn : badN ns with
  | some v => rw [hbn] at k; exact k
  | none =>
  rw [hbn] at k
  obtain ⟨hl, hn⟩ := badN_none hbn
  have k : P (.lst ((leadC cs ns).map Da.int)) := k
  refine orN_n ?_
  walk_at "d"
  refine ⟨g, cs, ns, rfl, hg, hl, ?_⟩
  walk_at "d"
  exact k
def sp_run_on_counts (K : PySem.W.Frag) : Sp := fun vs H Q E => vs.length = 2 ∧ spX K f_run_on_counts vs H Q E
theorem cx_run_on_counts {K : PySem.W.Frag} : CallX K (sp_run_on_counts K) f_run_on_counts := callX_n len_run_on_counts
theorem co_run_on_counts {K : PySem.W.Frag} {W : Wo} {E : XK} : CallOk K W (sp_run_on_counts K) [] E (FP.d (FX.ok f_run_on_counts)) := callOk_x cx_run_on_counts
theorem pure_run_on_counts {K : PySem.W.Frag} {vs : List V} {H : Hp} {Q : VK} {E : XK} (h : sp_run_on_counts K vs H Q E) : t_run_on_counts E K { nx := fun _ H' => Q .non H', rt := Q } (L2.start ["drill", "counts"] vs) H := fn_pureX (t := t_run_on_counts E K) (fun X => ss_run_on_counts) d_run_on_counts h.2

end Q

set_option Elab.async false
set_option linter.all false
set_option maxRecDepth 100000
set_option maxHeartbeats 4000000
namespace Q
open PySem PySem.Spec PyProof.Rows L2
/-! the steps' tactic on data -/
local macro_rules | `(tactic| walk_at "fi") => `(tactic| (simp only [List.set_cons_zero, List.set_cons_succ]; rfl))
local macro_rules | `(tactic| walk_at "f1") => `(tactic| first | exact fz_kd | exact pk_kd | exact fz_stl (by first | assumption | with_unfolding_all exact rfl | exact calDa_stl) | exact pk_stl (by first | assumption | with_unfolding_all exact rfl | exact calDa_stl) | exact pk_own (by with_unfolding_all exact rfl) | exact pk_ownD (by with_unfolding_all exact rfl) | (apply fz_own; (with_unfolding_all exact rfl); (walk_at "fi")) | (apply fz_ownD; (with_unfolding_all exact rfl); (walk_at "fi")))
local macro_rules | `(tactic| walk_at "f") => `(tactic| first | walk_at "f1" | exact fzs_nil | exact fzs_stl (by with_unfolding_all exact rfl) | (apply fzs_cons; (walk_at "f1"); (walk_at "f")))
local macro_rules | `(tactic| walk_at "d1") => `(tactic| (with_reducible first
  | (apply n_put; (simp only [List.set_cons_zero, List.set_cons_succ]; rfl))
  | (apply n_putE; (simp only [List.set_cons_zero, List.set_cons_succ]; rfl))
  | (apply n_put2; (simp only [List.set_cons_zero, List.set_cons_succ]; rfl); (simp only [List.set_cons_zero, List.set_cons_succ]; rfl))
  | (apply n_wp1; (simp only [List.set_cons_zero, List.set_cons_succ]; rfl))
  | (apply n_wp1E; (simp only [List.set_cons_zero, List.set_cons_succ]; rfl))
  | (apply n_wp2; (simp only [List.set_cons_zero, List.set_cons_succ]; rfl); (simp only [List.set_cons_zero, List.set_cons_succ]; rfl))
  | (apply n_wp2E; (simp only [List.set_cons_zero, List.set_cons_succ]; rfl); (simp only [List.set_cons_zero, List.set_cons_succ]; rfl))
  | (apply n_wp3; (simp only [List.set_cons_zero, List.set_cons_succ]; rfl); (simp only [List.set_cons_zero, List.set_cons_succ]; rfl); (simp only [List.set_cons_zero, List.set_cons_succ]; rfl))
  | (apply n_wp3E; (simp only [List.set_cons_zero, List.set_cons_succ]; rfl); (simp only [List.set_cons_zero, List.set_cons_succ]; rfl); (simp only [List.set_cons_zero, List.set_cons_succ]; rfl))
  | refine n_tick ?_
  | refine n_tickE ?_
  | refine s_seq ?_
  | refine k_op ?_
  | (apply k_var; (with_unfolding_all exact rfl))
  | (apply k_varO; (with_unfolding_all exact rfl))
  | (apply k_varD; (with_unfolding_all exact rfl))
  | refine k_c ?_
  | refine k_AddI ?_
  | refine k_SubI ?_
  | refine k_LtI ?_
  | refine k_LeI ?_
  | refine k_GtI ?_
  | refine k_GeI ?_
  | refine k_NegI ?_
  | refine k_ip ?_
  | (apply k_Eq; (with_unfolding_all exact rfl))
  | (apply k_Ne; (with_unfolding_all exact rfl))
  | refine k_InC ?_
  | refine k_NotInC ?_
  | (apply k_IsN; (with_unfolding_all exact rfl))
  | (apply k_NotN; (with_unfolding_all exact rfl))
  | refine k_Max2 ?_
  | refine k_Min2 ?_
  | refine k_Int1b ?_
  | refine k_Int1i ?_
  | refine k_Abs ?_
  | refine k_Count ?_
  | (apply k_LenL; (with_unfolding_all exact rfl))
  | (apply k_ListL; (with_unfolding_all exact rfl))
  | (apply k_pk2; (walk_at "f"); (walk_at "f"))
  | (apply k_pk1; (walk_at "f"))
  | (apply k_pk2N; (walk_at "f"); (walk_at "f"))
  | (apply k_pkM; (walk_at "f"))
  | (apply k_mp1; (walk_at "f"))
  | (apply k_mp2; (walk_at "f"); (walk_at "f"))
  | (apply k_mp1N; (walk_at "f"))
  | refine k_un ?_
  | refine k_new ?_
  | refine k_opN ?_
  | refine k_nil ?_
  | refine k_cons ?_
  | refine k_cb ?_
  | refine k_cbN ?_
  | refine k_call ?_
  | refine k_callB ?_
  | refine k_kw ?_
  | refine k_kwB ?_
  | (apply k_cF; (walk_at "f"))
  | (apply k_cB; (walk_at "f"))
  | (apply k_kF; (with_unfolding_all exact rfl); (walk_at "f"); (with_unfolding_all exact rfl))
  | (apply k_kB; (with_unfolding_all exact rfl); (walk_at "f"); (with_unfolding_all exact rfl))
  | refine k_tup ?_
  | refine k_lst ?_
  | (apply k_mkT; (with_unfolding_all exact rfl); (walk_at "f"))
  | (apply k_mkL; (with_unfolding_all exact rfl); (walk_at "f"))
  | refine k_bE ?_
  | (apply k_bl; (with_unfolding_all exact rfl))
  | refine k_and ?_
  | refine k_or ?_
  | refine k_not ?_
  | refine k_yes ?_
  | refine k_if ?_
  | refine k_andV ?_
  | refine k_orV ?_
  | refine k_notV ?_
  | refine k_chain ?_
  | refine k_oNo ?_
  | refine k_oPart ?_
  | (apply k_int; (walk_at "f"))
  | refine k_slL ?_
  | (apply k_asl; (walk_at "f"); (with_unfolding_all exact rfl))
  | refine k_slS ?_
  | (apply k_strP; (walk_at "f"))
  | refine k_m1 ?_
  | refine k_mu ?_
  | refine k_bl0 ?_
  | refine k_mu0 ?_
  | (apply k_mu1; (with_unfolding_all exact rfl))
  | (apply k_mu2; (walk_at "f"); (with_unfolding_all exact rfl))
  | refine s_next ?_
  | refine s_drop ?_
  | refine s_ret ?_
  | (apply s_fz; (walk_at "f"))
  | refine s_retN ?_
  | refine s_asg ?_
  | refine s_asgN ?_
  | refine s_break ?_
  | refine s_cont ?_
  | refine s_aug ?_
  | refine s_par ?_
  | (apply s_par2; (walk_at "f"))
  | refine s_for ?_
  | refine s_lc ?_
  | (apply g_nm; (walk_at "f"))
  | refine g_nl ?_
  | refine g_cn ?_
  | (apply g_tp; (walk_at "f"); (first | exact calDa_asT | with_unfolding_all exact rfl); (with_unfolding_all exact rfl))
  | (apply g_sl; (walk_at "f"))
  | refine i_list ?_
  | (apply i_asl; (walk_at "f"); (with_unfolding_all exact rfl))
  | refine i_tup ?_
  | (apply i_ast; (walk_at "f"); (with_unfolding_all exact rfl))
  | refine i_str ?_
  | refine i_rng1 ?_
  | refine i_rng2 ?_
  | refine i_rng3 ?_
  | (apply i_r3; (walk_at "f"); (walk_at "f"); (walk_at "f"))
  | refine i_enum ?_
  | (apply i_en; (walk_at "f"); (with_unfolding_all exact rfl))
  | (apply i_zp; (walk_at "f"); (with_unfolding_all exact rfl); (with_unfolding_all exact rfl))
  | refine i_enumS ?_
  | (apply i_enS; (walk_at "f"))
  | refine i_zip ?_
  | refine i_zipS ?_
  | (apply i_zpS; (walk_at "f"); (with_unfolding_all exact rfl))
  | refine k_dget ?_
  | (apply k_onD; (walk_at "f"))
  | (apply k_onK; (walk_at "f"); (with_unfolding_all exact rfl))
  | (apply k_onOD; (with_unfolding_all exact rfl))
  | (apply g_sd; (walk_at "f"))
  | refine s_dput ?_
  | refine s_daug ?_
  | refine k_newD ?_
  | refine s_asgD ?_
  | refine k_dzip ?_
  | refine k_lvals ?_
  | refine k_on2 ?_
  | refine k_on1 ?_
  | refine k_onStr0 ?_
  | refine k_onInt0 ?_
  | (apply i_onL; (with_unfolding_all exact rfl))
  | refine k_10_5 ?_
  | refine k_10_6 ?_
  | refine k_10_9 ?_
  | refine k_10_15 ?_
  | refine k_10_18 ?_
  | refine k_10_29 ?_
  | refine k_10_30 ?_
  | refine k_2_61 ?_
  | refine k_ml ?_
  | (apply k_ml1; (walk_at "f"); (with_unfolding_all exact rfl))
  | (apply k_ml2; (walk_at "f"); (with_unfolding_all exact rfl))
  | (apply k_mpL; (walk_at "f"))
  | refine k_Sum ?_
  | refine k_lenSet ?_
  | refine i_sl ?_
  | (apply i_slF; (walk_at "f"); (with_unfolding_all exact rfl))
  | refine k_dget2 ?_
  | refine k_newK ?_
  | refine k_disp2 ?_
  | refine s_raise ?_
  | refine s_dropX ?_
  | refine s_retX ?_
  | refine k_lenSetL ?_
  | refine k_revL ?_
  | (apply k_pkL; (walk_at "f"); (with_unfolding_all exact rfl))
  | refine s_asgD ?_
  | (apply k_varT; (with_unfolding_all exact rfl))
  | refine k_slT ?_
  | (apply k_onT; (walk_at "f"))
  | refine k_dget2T ?_
  | refine k_dgetT ?_
  | refine k_sumVals ?_
  | refine k_newT ?_
  | refine k_disp1T ?_
  | (apply k_onOT; (with_unfolding_all exact rfl))
  | (apply k_onOwn; (with_unfolding_all exact rfl); (with_unfolding_all exact rfl))
  | (apply k_TupL; (with_unfolding_all exact rfl))
  | refine s_asgT ?_
  | refine s_dputT ?_
  | refine s_move ?_
  | refine s_forT ?_
  | refine ite_nsame ?_
  | refine ite_same ?_
  | (refine ite_dF ?_ ?_; (with_unfolding_all decide +kernel))
  | (refine ite_dT ?_ ?_; (with_unfolding_all decide +kernel))
  | refine iteT ?_
  | refine iteF ?_
  | refine ite_nt ?_
  | refine ite_nf ?_))
local macro_rules | `(tactic| walk_at "d") => `(tactic| (repeat (first | walk_at "d1" | with_reducible refine s_if ?_)))
local macro_rules | `(tactic| walk_at "di") => `(tactic| (repeat walk_at "d1"))
local macro_rules | `(tactic| walk_at "s") => `(tactic| (simp only [δ0, List.map_cons, List.map_nil, List.length_cons, List.length_nil, List.replicate, List.cons_append, List.nil_append, Nat.reduceAdd, Nat.reduceSub]; walk_at "d"))

/-! ### spoilt drills and counts -/
def six : List Nat := [97, 98, 99, 100, 101, 102]
theorem six_col {x : Nat} (h : x ∈ six) : isColN x = true := by
  rw [isColN_iff]
  unfold six at h
  simp only [List.mem_cons, List.not_mem_nil, or_false] at h
  omega
def okC (c : Cal) : Prop := PyData.strOk c.2.1 = true ∧ PyData.strOk c.2.2 = true ∧ c.2.1.length ≤ 10 ∧ c.2.2.length ≤ 10 ∧ ∀ z, c.1 = .txt z → z.length ≤ 10
theorem okC_len {c : Cal} (h : okC c) : calLen c ≤ 100000 := by
  obtain ⟨_, _, h3, h4, h5⟩ := h
  unfold calLen kdLen
  cases hk : c.1 with
  | num m => dsimp only; omega
  | txt z =>
    have := h5 z hk
    dsimp only
    omega
theorem okC_of {c : Cal} (h : isCall c = true) : okC c := by
  obtain ⟨hk, a, b, e1, e2, h1, h2, _⟩ := isCall_inv h
  refine ⟨by rw [e1]; exact strOk_one h1, by rw [e2]; exact strOk_one h2, by rw [e1]; show 1 ≤ 10; omega, by rw [e2]; show 1 ≤ 10; omega, fun z hz => ?_⟩
  rw [hz] at hk
  rcases kdOk_txt hk with rfl | rfl
  · decide +kernel
  · decide +kernel
def optI : Option Nat → Da
  | none => .non
  | some i => .int (i : Nat)
theorem in_abc (x : Nat) : decide (x ∈ TL.tl ("abcdef" : Str)) = isColN x := rfl
theorem kd_scl (k : Kd) (z : Str) : sclEq k.a (.str z) = some (decide (k = Kd.txt z)) := by
  cases k with
  | num m =>
    rw [decide_eq_false (show ¬ Kd.num m = Kd.txt z from by intro q; cases q)]
    rfl
  | txt y =>
    show some (decide (y = z)) = _
    congr 1
    by_cases h : y = z
    · rw [decide_eq_true h, decide_eq_true (by rw [h])]
    · rw [decide_eq_false h, decide_eq_false (fun q => h (Kd.txt.inj q))]
theorem col_six' {y : Nat} (hy : isColN y = true) : y ∈ six := by
  have := isColN_iff.mp hy
  unfold six
  simp only [List.mem_cons, List.not_mem_nil, or_false]
  omega
theorem isColS_any (z : Str) : ((six.map fun c => PyData.str (S1 c)).any fun y => PyData.eqv y (.str z)) = isColS z := by
  rw [List.any_map]
  by_cases h : isColS z = true
  · rw [h]
    obtain ⟨c, rfl, h1, h2⟩ := isColS_inv h
    refine List.any_eq_true.mpr ⟨c, col_six' (by rw [isColN_iff]; exact ⟨h1, h2⟩), ?_⟩
    show decide (S1 c = S1 c) = true
    exact decide_eq_true rfl
  · have : isColS z = false := by cases hz : isColS z <;> simp_all
    rw [this]
    refine List.any_eq_false.mpr fun c mc e => ?_
    have e : decide (S1 c = z) = true := e
    rw [← of_decide_eq_true e, isColS_one, six_col mc] at this
    cases this
theorem k_NotInS {z : Str} {R : Da → Prop} (hz : PyData.strOk z = true) (q : R (.bl (!isColS z))) : fNotInD (.str z) (.lst (chD six)) R := by
  have hpy : (Da.lst (chD six)).py = .list (six.map fun c => PyData.str (S1 c)) := by
    show PyData.list (Da.pyL (chD six)) = _
    unfold chD
    rw [pyL_map]; rfl
  have hs : Sh 2 (.list (six.map fun c => PyData.str (S1 c))) := Sh.list (by rw [List.length_map]; show 6 ≤ 100000; omega) fun d m => by
    obtain ⟨c, mc, rfl⟩ := List.mem_map.mp m
    exact Sh.str (strOk_one (six_col mc))
  refine ⟨_, hpy, rfl, isPyL_map _ (fun _ => rfl) _, (Sh.str (n := 2) hz).shaped (by omega), by rw [hpy]; exact hs.shaped (by omega), ?_⟩
  show R (.bl (!((six.map fun c => PyData.str (S1 c)).any fun y => PyData.eqv y (.str z))))
  rw [isColS_any]
  exact q
def t_law_spoiled_orders (K : PySem.W.Frag) : TS := (tSeq (tAsg (tCB (rListL K) (tCons (tVar 1) tNil)) (gName 2))
    (tSeq (tFor (iEnum K (tCons (tVar 1) tNil)) (gTup K 2 (gCons (gName 3) (gCons (gTup K 3 (gCons (gName 4) (gCons (gName 5) (gCons (gName 6) gNil)))) gNil))) (tSeq (tAsg (tLst (tCons (tTup (tCons (tC (.int 0)) (tCons (tVar 5) (tCons (tVar 6) tNil)))) (tCons (tTup (tCons (tUn (rU fun i => .int (-i)) (tC (.int 7))) (tCons (tVar 5) (tCons (tVar 6) tNil)))) (tCons (tTup (tCons (tC (.str "each")) (tCons (tVar 5) (tCons (tVar 6) tNil)))) (tCons (tTup (tCons (tC (.str "")) (tCons (tVar 5) (tCons (tVar 6) tNil)))) tNil))))) (gName 7))
    (tSeq (tAsg (tOp rCat (tVar 7) (tLst (tCons (tTup (tCons (tVar 4) (tCons (tVar 5) (tCons (tVar 5) tNil)))) (tCons (tTup (tCons (tVar 4) (tCons (tC (.str "g")) (tCons (tVar 6) tNil)))) (tCons (tTup (tCons (tVar 4) (tCons (tVar 5) (tCons (tC (.str "A")) tNil)))) (tCons (tTup (tCons (tVar 4) (tCons (tC (.str "")) (tCons (tVar 6) tNil)))) tNil)))))) (gName 7))
    (tSeq (tAsg (tOp rCat (tVar 7) (tLst (tCons (tTup (tCons (tVar 4) (tCons (tVar 5) (tCons (tC (.str "ab")) tNil)))) (tCons (tTup (tCons (tC (.str "ALL")) (tCons (tVar 5) (tCons (tVar 6) tNil)))) (tCons (tTup (tCons (tC (.str "1")) (tCons (tVar 5) (tCons (tVar 6) tNil)))) tNil))))) (gName 7))
    (tIfS (tTest (tOp rEq (tCall (sp_law_draw K) [] E0 (tCons (tVar 0) (tCons (tC (.int 5)) tNil))) (tC (.int 0)))) (tAsg (tOp (rIxL K) (tVar 7) (tCall (sp_law_draw K) [] E0 (tCons (tVar 0) (tCons (tCB (rLenL K) (tCons (tVar 7) tNil)) tNil)))) (gSub (tVar 2) (tVar 3) rSetL)) tNext)))))
    (tRet (tVar 2))))
def c_law_spoiled_orders (s : Addr) : DC := (cSeq (cAsgN 2 (eCBN fListL (aCons (eVar 1) aNil)))
    (cSeq (cFor (diE (aCons (eVar 1) aNil)) (dTup 2 (dCons (dName 3) (dCons (dTup 3 (dCons (dName 4) (dCons (dName 5) (dCons (dName 6) dNil)))) dNil))) (cSeq (cAsg (eNew (eLst (aCons (eTup (aCons (eC (.int 0)) (aCons (eVar 5) (aCons (eVar 6) aNil)))) (aCons (eTup (aCons (eUn fNegI (eC (.int 7))) (aCons (eVar 5) (aCons (eVar 6) aNil)))) (aCons (eTup (aCons (eC (.str "each")) (aCons (eVar 5) (aCons (eVar 6) aNil)))) (aCons (eTup (aCons (eC (.str "")) (aCons (eVar 5) (aCons (eVar 6) aNil)))) aNil)))))) (dName 7))
    (cSeq (cAsg (eNew (eOpN fCat (eVar 7) (eNew (eLst (aCons (eTup (aCons (eVar 4) (aCons (eVar 5) (aCons (eVar 5) aNil)))) (aCons (eTup (aCons (eVar 4) (aCons (eC (.str "g")) (aCons (eVar 6) aNil)))) (aCons (eTup (aCons (eVar 4) (aCons (eVar 5) (aCons (eC (.str "A")) aNil)))) (aCons (eTup (aCons (eVar 4) (aCons (eC (.str "")) (aCons (eVar 6) aNil)))) aNil)))))))) (dName 7))
    (cSeq (cAsg (eNew (eOpN fCat (eVar 7) (eNew (eLst (aCons (eTup (aCons (eVar 4) (aCons (eVar 5) (aCons (eC (.str "ab")) aNil)))) (aCons (eTup (aCons (eC (.str "ALL")) (aCons (eVar 5) (aCons (eVar 6) aNil)))) (aCons (eTup (aCons (eC (.str "1")) (aCons (eVar 5) (aCons (eVar 6) aNil)))) aNil))))))) (dName 7))
    (cIf (bE (eOp fEq (eCallB (F_law_draw s) (aCons (eVar 0) (aCons (eC (.int 5)) aNil))) (eC (.int 0)))) (cAsg (eOp fIxL (eVar 7) (eCallB (F_law_draw s) (aCons (eVar 0) (aCons (eCB fLenL (aCons (eVar 7) aNil)) aNil)))) (dSetL (eVar 2) (eVar 3))) cNext)))))
    (cRet (eVar 2))))
theorem ss_law_spoiled_orders {K : PySem.W.Frag} {s : Addr} : SS K (WB s) (t_law_spoiled_orders K) (c_law_spoiled_orders s) :=
  (ss_seq (ss_asgN (sn_cb rn_ListL (sa_cons se_var sa_nil)))
    (ss_seq (ss_for (si_enum (sa_cons se_var sa_nil)) (sg_tup (sg_cons sg_name (sg_cons (sg_tup (sg_cons sg_name (sg_cons sg_name (sg_cons sg_name sg_nil)))) sg_nil))) (ss_seq (ss_asg (SN.se (sn_lst (sa_cons (se_tup (sa_cons (se_c (fun _ => (.int _))) (sa_cons se_var (sa_cons se_var sa_nil)))) (sa_cons (se_tup (sa_cons (se_un r1_NegI (se_c (fun _ => (.int _)))) (sa_cons se_var (sa_cons se_var sa_nil)))) (sa_cons (se_tup (sa_cons (se_c (fun _ => (.str _))) (sa_cons se_var (sa_cons se_var sa_nil)))) (sa_cons (se_tup (sa_cons (se_c (fun _ => (.str _))) (sa_cons se_var (sa_cons se_var sa_nil)))) sa_nil)))))) sg_name)
    (ss_seq (ss_asg (SN.se (sn_op rn_Cat se_var (SN.se (sn_lst (sa_cons (se_tup (sa_cons se_var (sa_cons se_var (sa_cons se_var sa_nil)))) (sa_cons (se_tup (sa_cons se_var (sa_cons (se_c (fun _ => (.str _))) (sa_cons se_var sa_nil)))) (sa_cons (se_tup (sa_cons se_var (sa_cons se_var (sa_cons (se_c (fun _ => (.str _))) sa_nil)))) (sa_cons (se_tup (sa_cons se_var (sa_cons (se_c (fun _ => (.str _))) (sa_cons se_var sa_nil)))) sa_nil)))))))) sg_name)
    (ss_seq (ss_asg (SN.se (sn_op rn_Cat se_var (SN.se (sn_lst (sa_cons (se_tup (sa_cons se_var (sa_cons se_var (sa_cons (se_c (fun _ => (.str _))) sa_nil)))) (sa_cons (se_tup (sa_cons (se_c (fun _ => (.str _))) (sa_cons se_var (sa_cons se_var sa_nil)))) (sa_cons (se_tup (sa_cons (se_c (fun _ => (.str _))) (sa_cons se_var (sa_cons se_var sa_nil)))) sa_nil))))))) sg_name)
    (ss_if (st_test (se_op r2_Eq (se_callB co_law_draw (sa_cons se_var (sa_cons (se_c (fun _ => (.int _))) sa_nil))) (se_c (fun _ => (.int _))))) (ss_asg (se_op r2_IxL se_var (se_callB co_law_draw (sa_cons se_var (sa_cons (se_cb rc_LenL (sa_cons se_var sa_nil)) sa_nil)))) (sg_setL se_var se_var)) ss_next)))))
    (ss_ret se_var)))

def F_law_spoiled_orders (s : Addr) : FD := fun ds n P => ∃ cs : List Cal, ds = [.ref s, drDa false cs] ∧ (∀ c ∈ cs, okC c) ∧ cs.length ≤ 100 ∧ n ≤ 900000000 ∧
  ∀ (cs' : List Cal) (n' : Int), (∀ c ∈ cs', okC c) → cs'.length = cs.length → n' ≤ n + 2 * cs.length → P (drDa false cs') n'
theorem len_law_spoiled_orders {s : Addr} : ∀ ds n P, F_law_spoiled_orders s ds n P → ds.length = 2 := by
  rintro ds n P ⟨cs, rfl, _⟩
  rfl
def spoils (c : Cal) : List Cal := [(.num 0, c.2.1, c.2.2), (.num (-7), c.2.1, c.2.2), (.txt "each", c.2.1, c.2.2), (.txt "", c.2.1, c.2.2), (c.1, c.2.1, c.2.1), (c.1, "g", c.2.2), (c.1, c.2.1, "A"), (c.1, "", c.2.2), (c.1, c.2.1, "ab"), (.txt "ALL", c.2.1, c.2.2), (.txt "1", c.2.1, c.2.2)]
theorem spoils_ok {c : Cal} (h : okC c) : ∀ d ∈ spoils c, okC d := by
  obtain ⟨kd, a, b⟩ := c
  obtain ⟨o1, o2, o3, o4, o5⟩ := h
  dsimp only at o1 o2 o3 o4 o5
  have num0 : ∀ m : Int, ∀ z, Kd.num m = .txt z → z.length ≤ 10 := fun m z e => by cases e
  have txt0 : ∀ y : Str, y.length ≤ 10 → ∀ z, Kd.txt y = .txt z → z.length ≤ 10 := fun y hy z e => by
    have := Kd.txt.inj e
    subst this
    exact hy
  intro d m
  unfold spoils at m
  simp only [List.mem_cons, List.not_mem_nil, or_false] at m
  rcases m with rfl | rfl | rfl | rfl | rfl | rfl | rfl | rfl | rfl | rfl | rfl
  · exact ⟨o1, o2, o3, o4, num0 _⟩
  · exact ⟨o1, o2, o3, o4, num0 _⟩
  · exact ⟨o1, o2, o3, o4, txt0 _ (by decide +kernel)⟩
  · exact ⟨o1, o2, o3, o4, txt0 _ (by decide +kernel)⟩
  · exact ⟨o1, o1, o3, o3, o5⟩
  · exact ⟨(show PyData.strOk ("g" : Str) = true by decide +kernel), o2, (by show (("g" : Str)).length ≤ 10; decide +kernel), o4, o5⟩
  · exact ⟨o1, (show PyData.strOk ("A" : Str) = true by decide +kernel), o3, (by show (("A" : Str)).length ≤ 10; decide +kernel), o5⟩
  · exact ⟨(show PyData.strOk ("" : Str) = true by decide +kernel), o2, (by show (("" : Str)).length ≤ 10; decide +kernel), o4, o5⟩
  · exact ⟨o1, (show PyData.strOk ("ab" : Str) = true by decide +kernel), o3, (by show (("ab" : Str)).length ≤ 10; decide +kernel), o5⟩
  · exact ⟨o1, o2, o3, o4, txt0 _ (by decide +kernel)⟩
  · exact ⟨o1, o2, o3, o4, txt0 _ (by decide +kernel)⟩
theorem spoils_len (c : Cal) : (spoils c).length = 11 := rfl
theorem d_law_spoiled_orders {s : Addr} : ∀ ds n P, F_law_spoiled_orders s ds n P → c_law_spoiled_orders s ⟨fun st => P .non st.n, fun d st => P d st.n, fun _ => False, fun _ => False⟩ ⟨δ0 8 ds, n⟩ := by
  rintro ds n P ⟨cs, rfl, hc, hl, hn, k⟩
  unfold c_law_spoiled_orders drDa
  walk_at "s"
  have hlc : (cs.map (calDa false)).length = cs.length := List.length_map ..
  refine for_inv (fun i st => ∃ (cs' : List Cal) (x3 x4 x5 x6 x7 : Sl) (n' : Int), (∀ c ∈ cs', okC c) ∧ cs'.length = cs.length ∧ n' ≤ n + 2 * i ∧ st = ⟨[Sl.dat (Da.ref s), Sl.dat (.lst (cs.map (calDa false))), Sl.own (cs'.map (calDa false)), x3, x4, x5, x6, x7], n'⟩) ⟨cs, _, _, _, _, _, _, hc, rfl, by omega, rfl⟩ ?_ ?_
  · rintro i d st R hx ⟨cs', x3, x4, x5, x6, x7, n', hcs', hl', hn', rfl⟩ hR
    have hil : i < cs.length := by
      have := (List.getElem?_eq_some_iff.mp hx).1
      rw [prD_len, hlc] at this
      exact this
    obtain ⟨b, hb1, rfl⟩ := pr_getE hx
    obtain ⟨c, hc1, rfl⟩ := map_get hb1
    have hM := spoils_ok (hc c (List.mem_of_getElem? hc1))
    have hML := spoils_len c
    have hMe : (spoils c).map (calDa false) = ([Da.tup [Da.int 0, Da.str c.2.1, Da.str c.2.2], Da.tup [Da.int (-7), Da.str c.2.1, Da.str c.2.2], Da.tup [Da.str "each", Da.str c.2.1, Da.str c.2.2], Da.tup [Da.str "", Da.str c.2.1, Da.str c.2.2]] ++ [Da.tup [c.1.a, Da.str c.2.1, Da.str c.2.1], Da.tup [c.1.a, Da.str "g", Da.str c.2.2], Da.tup [c.1.a, Da.str c.2.1, Da.str "A"], Da.tup [c.1.a, Da.str "", Da.str c.2.2]]) ++ [Da.tup [c.1.a, Da.str c.2.1, Da.str "ab"], Da.tup [Da.str "ALL", Da.str c.2.1, Da.str c.2.2], Da.tup [Da.str "1", Da.str c.2.1, Da.str c.2.2]] := rfl
    generalize spoils c = M7 at *
    obtain ⟨kd, a, b⟩ := c
    have ecal : calDa false (kd, a, b) = .tup [kd.a, .str a, .str b] := rfl
    rw [ecal]
    walk_at "d"
    refine k_Cat (by show 4 + 4 ≤ 100000; omega) ?_
    walk_at "d"
    refine k_Cat (by show 8 + 3 ≤ 100000; omega) ?_
    walk_at "d"
    dsimp only at hMe
    rw [← hMe]
    refine k_draw (by omega) (by omega) (by omega) fun r a1 b1 => ?_
    walk_at "d"
    by_cases h0 : r = 0
    · refine ite_dT h0 ?_
      walk_at "d"
      have hm7 : (M7.map (calDa false)).length = 11 := by rw [List.length_map, hML]
      rw [hm7]
      refine k_draw (by omega) (by omega) (by omega) fun q a3 b3 => ?_
      obtain ⟨q, rfl⟩ : ∃ q' : Nat, q = (q' : Int) := ⟨q.toNat, by omega⟩
      obtain ⟨c2, hc2⟩ : ∃ c2, M7[q]? = some c2 := ⟨_, List.getElem?_eq_getElem (by omega)⟩
      have hok2 := hM c2 (List.mem_of_getElem? hc2)
      walk_at "d"
      refine k_IxL (ds := M7.map (calDa false)) rfl (d := calDa false c2) (atI_nat (by rw [List.getElem?_map, hc2]; rfl)) ?_
      walk_at "d"
      refine ⟨i, ixN_nat (by rw [List.length_map, hl']; exact hil), ?_⟩
      walk_at "d"
      rw [← List.map_set]
      refine hR _ ⟨cs'.set i c2, _, _, _, _, _, _, fun c m => ?_, by rw [List.length_set]; exact hl', by omega, rfl⟩
      rcases List.mem_or_eq_of_mem_set m with m | m
      · exact hcs' c m
      · rw [m]; exact hok2
    · refine ite_dF h0 ?_
      walk_at "d"
      exact hR _ ⟨cs', _, _, _, _, _, _, hcs', hl', by omega, rfl⟩
  · rintro st ⟨cs', x3, x4, x5, x6, x7, n', hcs', hl', hn', rfl⟩
    rw [prD_len, hlc] at hn'
    walk_at "d"
    exact k cs' n' hcs' hl' hn'
def sp_law_spoiled_orders (K : PySem.W.Frag) : Sp := fun vs H Q E => vs.length = 2 ∧ ∃ s : Addr, spD K (WB s) (F_law_spoiled_orders s) vs H Q E
theorem co_law_spoiled_orders {K : PySem.W.Frag} {s : Addr} {E : XK} : CallOk K (WB s) (sp_law_spoiled_orders K) [] E (F_law_spoiled_orders s) := fun vs H Q h => ⟨by rw [List.append_nil]; exact spD_len len_law_spoiled_orders h, s, by rw [List.append_nil]; exact h⟩
theorem pure_law_spoiled_orders {K : PySem.W.Frag} {vs : List V} {H : Hp} {Q : VK} {E : XK} (h : sp_law_spoiled_orders K vs H Q E) : t_law_spoiled_orders K { nx := fun _ H' => Q .non H', rt := Q } (L2.start ["rng", "orders", "found", "place", "way", "first", "second", "some"] vs) H := by
  obtain ⟨_, s, h⟩ := h
  exact fn_src ss_law_spoiled_orders d_law_spoiled_orders h

def t_law_bad_order (K : PySem.W.Frag) : TS := (tSeq (tFor (iEnum K (tCons (tVar 0) tNil)) (gTup K 2 (gCons (gName 1) (gCons (gTup K 3 (gCons (gName 2) (gCons (gName 3) (gCons (gName 4) gNil)))) gNil))) (tSeq (tIfS (tOr (tAnd (tB (tCB (rIsi K) (tCons (tVar 2) (tCons (tC (.ty "str")) tNil)))) (tTest (tOp (rIn K true) (tVar 2) (tTup (tCons (tC (.str "all")) (tCons (tC (.str "swap")) tNil)))))) (tAnd (tNot (tB (tCB (rIsi K) (tCons (tVar 2) (tCons (tC (.ty "str")) tNil))))) (tTest (tOp rLtI (tVar 2) (tC (.int 1)))))) (tRet (tVar 1)) tNext)
    (tIfS (tOr (tTest (tOp (rNotInD K) (tVar 3) (tCB rListS (tCons (tC (.str "abcdef")) tNil)))) (tOr (tTest (tOp (rNotInD K) (tVar 4) (tCB rListS (tCons (tC (.str "abcdef")) tNil)))) (tTest (tOp rEq (tVar 3) (tVar 4))))) (tRet (tVar 1)) tNext)))
    (tRet (tC .non)))
def c_law_bad_order : DC := (cSeq (cFor (diE (aCons (eVar 0) aNil)) (dTup 2 (dCons (dName 1) (dCons (dTup 3 (dCons (dName 2) (dCons (dName 3) (dCons (dName 4) dNil)))) dNil))) (cSeq (cIf (bOr (bAnd (bE (eCB fIsi (aCons (eVar 2) (aCons (eC (.ty "str")) aNil)))) (bE (eOp (fIn true) (eVar 2) (eTup (aCons (eC (.str "all")) (aCons (eC (.str "swap")) aNil)))))) (bAnd (bNot (bE (eCB fIsi (aCons (eVar 2) (aCons (eC (.ty "str")) aNil))))) (bE (eOp fLtI (eVar 2) (eC (.int 1)))))) (cRet (eVar 1)) cNext)
    (cIf (bOr (bE (eOp fNotInD (eVar 3) (eNew (eCBN fListS (aCons (eC (.str "abcdef")) aNil))))) (bOr (bE (eOp fNotInD (eVar 4) (eNew (eCBN fListS (aCons (eC (.str "abcdef")) aNil))))) (bE (eOp fEq (eVar 3) (eVar 4))))) (cRet (eVar 1)) cNext)))
    (cRet (eC .non)))
theorem ss_law_bad_order {K : PySem.W.Frag} {W : Wo} : SS K W (t_law_bad_order K) (c_law_bad_order) :=
  (ss_seq (ss_for (si_enum (sa_cons se_var sa_nil)) (sg_tup (sg_cons sg_name (sg_cons (sg_tup (sg_cons sg_name (sg_cons sg_name (sg_cons sg_name sg_nil)))) sg_nil))) (ss_seq (ss_if (st_or (st_and (st_b (se_cb rc_Isi (sa_cons se_var (sa_cons (se_c (fun _ => (.ty _))) sa_nil)))) (st_test (se_op r2_In se_var (se_tup (sa_cons (se_c (fun _ => (.str _))) (sa_cons (se_c (fun _ => (.str _))) sa_nil)))))) (st_and (st_not (st_b (se_cb rc_Isi (sa_cons se_var (sa_cons (se_c (fun _ => (.ty _))) sa_nil))))) (st_test (se_op r2_LtI se_var (se_c (fun _ => (.int _))))))) (ss_ret se_var) ss_next)
    (ss_if (st_or (st_test (se_op r2_NotInD se_var (SN.se (sn_cb rn_ListS (sa_cons (se_c (fun _ => (.str _))) sa_nil))))) (st_or (st_test (se_op r2_NotInD se_var (SN.se (sn_cb rn_ListS (sa_cons (se_c (fun _ => (.str _))) sa_nil))))) (st_test (se_op r2_Eq se_var se_var)))) (ss_ret se_var) ss_next)))
    (ss_ret (se_c (fun _ => .non))))

def f_law_bad_order : FP := fun ds P => ∃ cs : List Cal, ds = [drDa false cs] ∧ (∀ c ∈ cs, okC c) ∧ cs.length ≤ 1000 ∧ P (optI (badC cs))
theorem len_law_bad_order : ∀ ds P, f_law_bad_order ds P → ds.length = 1 := by
  rintro ds P ⟨l, rfl, _⟩
  rfl
theorem d_law_bad_order : ∀ ds P, f_law_bad_order ds P → c_law_bad_order ⟨fun st => P .non, fun d st => P d, fun _ => False, fun _ => False⟩ ⟨δ0 5 ds, 0⟩ := by
  rintro ds P ⟨cs, rfl, hc, hl, k⟩
  unfold c_law_bad_order drDa
  walk_at "s"
  have hlc : (cs.map (calDa false)).length = cs.length := List.length_map ..
  refine for_inv (fun i st => (∀ j y, j < i → cs[j]? = some y → (!isCall y) = false) ∧ ∃ x1 x2 x3 x4 : Sl, st = ⟨[Sl.dat (Da.lst (cs.map (calDa false))), x1, x2, x3, x4], 0⟩) ⟨fun j y h => absurd h (Nat.not_lt_zero j), _, _, _, _, rfl⟩ ?_ ?_
  · rintro i d st R hx ⟨hb, x1, x2, x3, x4, rfl⟩ hR
    obtain ⟨b, hb1, rfl⟩ := pr_getE hx
    obtain ⟨c, hc1, rfl⟩ := map_get hb1
    obtain ⟨o1, o2, o3, o4, o5⟩ := hc c (List.mem_of_getElem? hc1)
    have good : isCall c = true → R ⟨[Sl.dat (Da.lst (cs.map (calDa false))), .dat (.int (i : Nat)), .dat c.1.a, .dat (.str c.2.1), .dat (.str c.2.2)], 0⟩ := fun hic => by
      refine hR _ ⟨fun j y hj hy => ?_, _, _, _, _, rfl⟩
      by_cases hji : j < i
      · exact hb j y hji hy
      · obtain rfl : j = i := by omega
        rw [hc1] at hy; cases hy
        rw [hic]; rfl
    have bad : isCall c = false → P (.int (i : Nat)) := fun hic => by
      have : badC cs = some i := find_at hc1 (by rw [hic]; rfl) hb
      rw [this] at k
      exact k
    have hic : isCall c = (kdOk c.1 && (isColS c.2.1 && (isColS c.2.2 && !decide (c.2.1 = c.2.2)))) := rfl
    obtain ⟨kd, a, b⟩ := c
    dsimp only at o1 o2 o3 o4 o5 good hic
    have ecal : calDa false (kd, a, b) = .tup [kd.a, .str a, .str b] := rfl
    rw [ecal]
    walk_at "di"
    refine s_ifJ (fun st => kdOk kd = true ∧ st = ⟨[Sl.dat (Da.lst (cs.map (calDa false))), .dat (.int (i : Nat)), .dat kd.a, .dat (.str a), .dat (.str b)], 0⟩) ?_ ?_
    · rintro st ⟨hk, rfl⟩
      rw [hk, Bool.true_and] at hic
      walk_at "d"
      refine k_ListS (by rw [abc_len]; decide) ?_
      rw [sgD_abc]
      walk_at "d"
      refine k_NotInS o1 ?_
      walk_at "d"
      cases ha : isColS a with
      | false =>
        walk_at "d"
        exact bad (by rw [hic, ha]; rfl)
      | true =>
        walk_at "d"
        refine k_ListS (by rw [abc_len]; decide) ?_
        rw [sgD_abc]
        walk_at "d"
        refine k_NotInS o2 ?_
        walk_at "d"
        cases hb2 : isColS b with
        | false =>
          walk_at "d"
          exact bad (by rw [hic, ha, hb2]; rfl)
        | true =>
          walk_at "d"
          by_cases hab : a = b
          · refine ite_dT hab ?_
            walk_at "d"
            exact bad (by rw [hic, ha, hb2, decide_eq_true hab]; rfl)
          · refine ite_dF hab ?_
            walk_at "d"
            exact good (by rw [hic, ha, hb2, decide_eq_false hab]; rfl)
    · intro R3 hR3
      cases kd with
      | num m =>
        walk_at "d"
        refine k_Isi rfl kb_is ?_
        walk_at "d"
        refine k_Isi rfl kb_is ?_
        walk_at "d"
        by_cases hm : m < 1
        · refine ite_dT hm ?_
          walk_at "d"
          exact bad (by rw [hic, show kdOk (Kd.num m) = false from decide_eq_false (by omega)]; rfl)
        · refine ite_dF hm ?_
          walk_at "d"
          exact hR3 _ ⟨decide_eq_true (by omega), rfl⟩
      | txt z =>
        walk_at "d"
        refine k_Isi rfl kb_ss ?_
        walk_at "d"
        refine k_In rfl rfl rfl ?_
        rw [if_pos rfl, show inF (Kd.txt z).a [Da.str "all", Da.str "swap"] = _ from inF_all z]
        cases h : (decide (z = ("all" : Str)) || decide (z = ("swap" : Str))) with
        | true =>
          walk_at "d"
          refine k_Isi rfl kb_ss ?_
          walk_at "d"
          exact hR3 _ ⟨h, rfl⟩
        | false =>
          walk_at "d"
          exact bad (by rw [hic, show kdOk (Kd.txt z) = false from h]; rfl)
  · rintro st ⟨hb, x1, x2, x3, x4, rfl⟩
    have : badC cs = none := find_no fun j y hj hy => hb j y (by rw [prD_len, List.length_map]; exact hj) hy
    rw [this] at k
    walk_at "d"
    exact k
def sp_law_bad_order (K : PySem.W.Frag) : Sp := fun vs H Q E => vs.length = 1 ∧ spP K f_law_bad_order vs H Q E
theorem co_law_bad_order {K : PySem.W.Frag} {W : Wo} {E : XK} : CallOk K W (sp_law_bad_order K) [] E (FP.d f_law_bad_order) := call_pn len_law_bad_order
theorem pure_law_bad_order {K : PySem.W.Frag} {vs : List V} {H : Hp} {Q : VK} {E : XK} (h : sp_law_bad_order K vs H Q E) : t_law_bad_order K { nx := fun _ H' => Q .non H', rt := Q } (L2.start ["orders", "place", "way", "first", "second"] vs) H := fn_pure ss_law_bad_order d_law_bad_order h.2

end Q

set_option Elab.async false
set_option linter.all false
set_option maxRecDepth 100000
set_option maxHeartbeats 4000000
namespace Q
open PySem PySem.Spec PyProof.Rows L2
/-! the steps' tactic on data -/
local macro_rules | `(tactic| walk_at "fi") => `(tactic| (simp only [List.set_cons_zero, List.set_cons_succ]; rfl))
local macro_rules | `(tactic| walk_at "f1") => `(tactic| first | exact fz_kd | exact pk_kd | exact fz_stl (by first | assumption | with_unfolding_all exact rfl | exact calDa_stl) | exact pk_stl (by first | assumption | with_unfolding_all exact rfl | exact calDa_stl) | exact pk_own (by with_unfolding_all exact rfl) | exact pk_ownD (by with_unfolding_all exact rfl) | (apply fz_own; (with_unfolding_all exact rfl); (walk_at "fi")) | (apply fz_ownD; (with_unfolding_all exact rfl); (walk_at "fi")))
local macro_rules | `(tactic| walk_at "f") => `(tactic| first | walk_at "f1" | exact fzs_nil | exact fzs_stl (by with_unfolding_all exact rfl) | (apply fzs_cons; (walk_at "f1"); (walk_at "f")))
local macro_rules | `(tactic| walk_at "d1") => `(tactic| (with_reducible first
  | (apply n_put; (simp only [List.set_cons_zero, List.set_cons_succ]; rfl))
  | (apply n_putE; (simp only [List.set_cons_zero, List.set_cons_succ]; rfl))
  | (apply n_put2; (simp only [List.set_cons_zero, List.set_cons_succ]; rfl); (simp only [List.set_cons_zero, List.set_cons_succ]; rfl))
  | (apply n_wp1; (simp only [List.set_cons_zero, List.set_cons_succ]; rfl))
  | (apply n_wp1E; (simp only [List.set_cons_zero, List.set_cons_succ]; rfl))
  | (apply n_wp2; (simp only [List.set_cons_zero, List.set_cons_succ]; rfl); (simp only [List.set_cons_zero, List.set_cons_succ]; rfl))
  | (apply n_wp2E; (simp only [List.set_cons_zero, List.set_cons_succ]; rfl); (simp only [List.set_cons_zero, List.set_cons_succ]; rfl))
  | (apply n_wp3; (simp only [List.set_cons_zero, List.set_cons_succ]; rfl); (simp only [List.set_cons_zero, List.set_cons_succ]; rfl); (simp only [List.set_cons_zero, List.set_cons_succ]; rfl))
  | (apply n_wp3E; (simp only [List.set_cons_zero, List.set_cons_succ]; rfl); (simp only [List.set_cons_zero, List.set_cons_succ]; rfl); (simp only [List.set_cons_zero, List.set_cons_succ]; rfl))
  | refine n_tick ?_
  | refine n_tickE ?_
  | refine s_seq ?_
  | refine k_op ?_
  | (apply k_var; (with_unfolding_all exact rfl))
  | (apply k_varO; (with_unfolding_all exact rfl))
  | (apply k_varD; (with_unfolding_all exact rfl))
  | refine k_c ?_
  | refine k_AddI ?_
  | refine k_SubI ?_
  | refine k_LtI ?_
  | refine k_LeI ?_
  | refine k_GtI ?_
  | refine k_GeI ?_
  | refine k_NegI ?_
  | refine k_ip ?_
  | (apply k_Eq; (with_unfolding_all exact rfl))
  | (apply k_Ne; (with_unfolding_all exact rfl))
  | refine k_InC ?_
  | refine k_NotInC ?_
  | (apply k_IsN; (with_unfolding_all exact rfl))
  | (apply k_NotN; (with_unfolding_all exact rfl))
  | refine k_Max2 ?_
  | refine k_Min2 ?_
  | refine k_Int1b ?_
  | refine k_Int1i ?_
  | refine k_Abs ?_
  | refine k_Count ?_
  | (apply k_LenL; (with_unfolding_all exact rfl))
  | (apply k_ListL; (with_unfolding_all exact rfl))
  | (apply k_pk2; (walk_at "f"); (walk_at "f"))
  | (apply k_pk1; (walk_at "f"))
  | (apply k_pk2N; (walk_at "f"); (walk_at "f"))
  | (apply k_pkM; (walk_at "f"))
  | (apply k_mp1; (walk_at "f"))
  | (apply k_mp2; (walk_at "f"); (walk_at "f"))
  | (apply k_mp1N; (walk_at "f"))
  | refine k_un ?_
  | refine k_new ?_
  | refine k_opN ?_
  | refine k_nil ?_
  | refine k_cons ?_
  | refine k_cb ?_
  | refine k_cbN ?_
  | refine k_call ?_
  | refine k_callB ?_
  | refine k_kw ?_
  | refine k_kwB ?_
  | (apply k_cF; (walk_at "f"))
  | (apply k_cB; (walk_at "f"))
  | (apply k_kF; (with_unfolding_all exact rfl); (walk_at "f"); (with_unfolding_all exact rfl))
  | (apply k_kB; (with_unfolding_all exact rfl); (walk_at "f"); (with_unfolding_all exact rfl))
  | refine k_tup ?_
  | refine k_lst ?_
  | (apply k_mkT; (with_unfolding_all exact rfl); (walk_at "f"))
  | (apply k_mkL; (with_unfolding_all exact rfl); (walk_at "f"))
  | refine k_bE ?_
  | (apply k_bl; (with_unfolding_all exact rfl))
  | refine k_and ?_
  | refine k_or ?_
  | refine k_not ?_
  | refine k_yes ?_
  | refine k_if ?_
  | refine k_andV ?_
  | refine k_orV ?_
  | refine k_notV ?_
  | refine k_chain ?_
  | refine k_oNo ?_
  | refine k_oPart ?_
  | (apply k_int; (walk_at "f"))
  | refine k_slL ?_
  | (apply k_asl; (walk_at "f"); (with_unfolding_all exact rfl))
  | refine k_slS ?_
  | (apply k_strP; (walk_at "f"))
  | refine k_m1 ?_
  | refine k_mu ?_
  | refine k_bl0 ?_
  | refine k_mu0 ?_
  | (apply k_mu1; (with_unfolding_all exact rfl))
  | (apply k_mu2; (walk_at "f"); (with_unfolding_all exact rfl))
  | refine s_next ?_
  | refine s_drop ?_
  | refine s_ret ?_
  | (apply s_fz; (walk_at "f"))
  | refine s_retN ?_
  | refine s_asg ?_
  | refine s_asgN ?_
  | refine s_break ?_
  | refine s_cont ?_
  | refine s_aug ?_
  | refine s_par ?_
  | (apply s_par2; (walk_at "f"))
  | refine s_for ?_
  | refine s_lc ?_
  | (apply g_nm; (walk_at "f"))
  | refine g_nl ?_
  | refine g_cn ?_
  | (apply g_tp; (walk_at "f"); (first | exact calDa_asT | with_unfolding_all exact rfl); (with_unfolding_all exact rfl))
  | (apply g_sl; (walk_at "f"))
  | refine i_list ?_
  | (apply i_asl; (walk_at "f"); (with_unfolding_all exact rfl))
  | refine i_tup ?_
  | (apply i_ast; (walk_at "f"); (with_unfolding_all exact rfl))
  | refine i_str ?_
  | refine i_rng1 ?_
  | refine i_rng2 ?_
  | refine i_rng3 ?_
  | (apply i_r3; (walk_at "f"); (walk_at "f"); (walk_at "f"))
  | refine i_enum ?_
  | (apply i_en; (walk_at "f"); (with_unfolding_all exact rfl))
  | (apply i_zp; (walk_at "f"); (with_unfolding_all exact rfl); (with_unfolding_all exact rfl))
  | refine i_enumS ?_
  | (apply i_enS; (walk_at "f"))
  | refine i_zip ?_
  | refine i_zipS ?_
  | (apply i_zpS; (walk_at "f"); (with_unfolding_all exact rfl))
  | refine k_dget ?_
  | (apply k_onD; (walk_at "f"))
  | (apply k_onK; (walk_at "f"); (with_unfolding_all exact rfl))
  | (apply k_onOD; (with_unfolding_all exact rfl))
  | (apply g_sd; (walk_at "f"))
  | refine s_dput ?_
  | refine s_daug ?_
  | refine k_newD ?_
  | refine s_asgD ?_
  | refine k_dzip ?_
  | refine k_lvals ?_
  | refine k_on2 ?_
  | refine k_on1 ?_
  | refine k_onStr0 ?_
  | refine k_onInt0 ?_
  | (apply i_onL; (with_unfolding_all exact rfl))
  | refine k_10_5 ?_
  | refine k_10_6 ?_
  | refine k_10_9 ?_
  | refine k_10_15 ?_
  | refine k_10_18 ?_
  | refine k_10_29 ?_
  | refine k_10_30 ?_
  | refine k_2_61 ?_
  | refine k_ml ?_
  | (apply k_ml1; (walk_at "f"); (with_unfolding_all exact rfl))
  | (apply k_ml2; (walk_at "f"); (with_unfolding_all exact rfl))
  | (apply k_mpL; (walk_at "f"))
  | refine k_Sum ?_
  | refine k_lenSet ?_
  | refine i_sl ?_
  | (apply i_slF; (walk_at "f"); (with_unfolding_all exact rfl))
  | refine k_dget2 ?_
  | refine k_newK ?_
  | refine k_disp2 ?_
  | refine s_raise ?_
  | refine s_dropX ?_
  | refine s_retX ?_
  | refine k_lenSetL ?_
  | refine k_revL ?_
  | (apply k_pkL; (walk_at "f"); (with_unfolding_all exact rfl))
  | refine s_asgD ?_
  | (apply k_varT; (with_unfolding_all exact rfl))
  | refine k_slT ?_
  | (apply k_onT; (walk_at "f"))
  | refine k_dget2T ?_
  | refine k_dgetT ?_
  | refine k_sumVals ?_
  | refine k_newT ?_
  | refine k_disp1T ?_
  | (apply k_onOT; (with_unfolding_all exact rfl))
  | (apply k_onOwn; (with_unfolding_all exact rfl); (with_unfolding_all exact rfl))
  | (apply k_TupL; (with_unfolding_all exact rfl))
  | refine s_asgT ?_
  | refine s_dputT ?_
  | refine s_move ?_
  | refine s_forT ?_
  | refine ite_nsame ?_
  | refine ite_same ?_
  | (refine ite_dF ?_ ?_; (with_unfolding_all decide +kernel))
  | (refine ite_dT ?_ ?_; (with_unfolding_all decide +kernel))
  | refine iteT ?_
  | refine iteF ?_
  | refine ite_nt ?_
  | refine ite_nf ?_))
local macro_rules | `(tactic| walk_at "d") => `(tactic| (repeat (first | walk_at "d1" | with_reducible refine s_if ?_)))
local macro_rules | `(tactic| walk_at "di") => `(tactic| (repeat walk_at "d1"))
local macro_rules | `(tactic| walk_at "s") => `(tactic| (simp only [δ0, List.map_cons, List.map_nil, List.length_cons, List.length_nil, List.replicate, List.cons_append, List.nil_append, Nat.reduceAdd, Nat.reduceSub]; walk_at "d"))

/-! ### spoilt counts -/
def t_law_spoiled_numbers (K : PySem.W.Frag) : TS := (tSeq (tPar 2 3 (tCons (tCall (sp_law_draw K) [] E0 (tCons (tVar 0) (tCons (tC (.int 6)) tNil))) (tCons (tCall (sp_law_draw K) [] E0 (tCons (tVar 0) (tCons (tC (.int 6)) tNil))) tNil)))
    (tSeq (tIfS (tTest (tOp rEq (tVar 2) (tC (.int 0)))) (tRet (tTup (tCons (tSl (rSlL K) (tVar 1) tNoPart (tPart (tVar 3))) (tCons (tLst (tCons (tC .non) tNil)) tNil)))) tNext)
    (tSeq (tIfS (tTest (tOp rEq (tVar 2) (tC (.int 1)))) (tRet (tTup (tCons (tOp rCat (tVar 1) (tOp rRep (tLst (tCons (tC (.int 0)) tNil)) (tOp rAddI (tC (.int 1)) (tVar 3)))) (tCons (tLst (tCons (tC .non) tNil)) tNil)))) tNext)
    (tSeq (tIfS (tTest (tOp rEq (tVar 2) (tC (.int 3)))) (tRet (tTup (tCons (tSl (rSlL K) (tOp rCat (tLst (tCons (tUn (rU fun i => .int (-i)) (tC (.int 2))) tNil)) (tVar 1)) tNoPart (tPart (tOp (rIxL K) (tLst (tCons (tC (.int 1)) (tCons (tC (.int 3)) (tCons (tC (.int 7)) tNil)))) (tOp rModI (tVar 3) (tC (.int 3)))))) (tCons (tLst (tCons (tC .non) tNil)) tNil)))) tNext)
    (tSeq (tIfS (tTest (tOp rEq (tVar 2) (tC (.int 2)))) (tSeq (tAsg (tOp rSubI (tUn (rU fun i => .int (-i)) (tC (.int 1))) (tCall (sp_law_draw K) [] E0 (tCons (tVar 0) (tCons (tOp (rIxL K) (tLst (tCons (tC (.int 1)) (tCons (tOp rPowI (tC (.int 10)) (tC (.int 28))) tNil))) (tCall (sp_law_draw K) [] E0 (tCons (tVar 0) (tCons (tC (.int 2)) tNil)))) tNil)))) (gName 4))
    (tSeq (tAsg (tLc (iList K (tSl (rSlL K) (tVar 1) (tPart (tOp rAddI (tVar 3) (tC (.int 1)))) tNoPart)) (gName 6) tYes (tOp (rIxL K) (tLst (tCons (tVar 6) (tCons (tUn (rU fun i => .int (-i)) (tC (.int 2))) tNil))) (tCB rInt1 (tCons (tOp rEq (tCall (sp_law_draw K) [] E0 (tCons (tVar 0) (tCons (tC (.int 3)) tNil))) (tC (.int 0))) tNil))) [6]) (gName 5))
    (tRet (tTup (tCons (tOp rCat (tOp rCat (tSl (rSlL K) (tVar 1) tNoPart (tPart (tVar 3))) (tLst (tCons (tVar 4) tNil))) (tVar 5)) (tCons (tLst (tCons (tVar 3) tNil)) tNil)))))) tNext)
    (tRet (tTup (tCons (tVar 1) (tCons (tLst tNil) tNil)))))))))
def c_law_spoiled_numbers (s : Addr) : DC := (cSeq (cPar 2 3 (aCons (eCallB (F_law_draw s) (aCons (eVar 0) (aCons (eC (.int 6)) aNil))) (aCons (eCallB (F_law_draw s) (aCons (eVar 0) (aCons (eC (.int 6)) aNil))) aNil)))
    (cSeq (cIf (bE (eOp fEq (eVar 2) (eC (.int 0)))) (cRet (eTup (aCons (eNew (eSlL (eVar 1) oNo (oPart (eVar 3)))) (aCons (eNew (eLst (aCons (eC .non) aNil))) aNil)))) cNext)
    (cSeq (cIf (bE (eOp fEq (eVar 2) (eC (.int 1)))) (cRet (eTup (aCons (eNew (eOpN fCat (eVar 1) (eNew (eOpN fRep (eNew (eLst (aCons (eC (.int 0)) aNil))) (eOp fAddI (eC (.int 1)) (eVar 3)))))) (aCons (eNew (eLst (aCons (eC .non) aNil))) aNil)))) cNext)
    (cSeq (cIf (bE (eOp fEq (eVar 2) (eC (.int 3)))) (cRet (eTup (aCons (eNew (eSlL (eNew (eOpN fCat (eNew (eLst (aCons (eUn fNegI (eC (.int 2))) aNil))) (eVar 1))) oNo (oPart (eOp fIxL (eNew (eLst (aCons (eC (.int 1)) (aCons (eC (.int 3)) (aCons (eC (.int 7)) aNil))))) (eOp fModI (eVar 3) (eC (.int 3))))))) (aCons (eNew (eLst (aCons (eC .non) aNil))) aNil)))) cNext)
    (cSeq (cIf (bE (eOp fEq (eVar 2) (eC (.int 2)))) (cSeq (cAsg (eOp fSubI (eUn fNegI (eC (.int 1))) (eCallB (F_law_draw s) (aCons (eVar 0) (aCons (eOp fIxL (eNew (eLst (aCons (eC (.int 1)) (aCons (eOp fPowI (eC (.int 10)) (eC (.int 28))) aNil)))) (eCallB (F_law_draw s) (aCons (eVar 0) (aCons (eC (.int 2)) aNil)))) aNil)))) (dName 4))
    (cSeq (cAsg (eNew (eLc (diL (eNew (eSlL (eVar 1) (oPart (eOp fAddI (eVar 3) (eC (.int 1)))) oNo))) (dName 6) bYes (eOp fIxL (eNew (eLst (aCons (eVar 6) (aCons (eUn fNegI (eC (.int 2))) aNil)))) (eCB fInt1 (aCons (eOp fEq (eCallB (F_law_draw s) (aCons (eVar 0) (aCons (eC (.int 3)) aNil))) (eC (.int 0))) aNil))) [6])) (dName 5))
    (cRet (eTup (aCons (eNew (eOpN fCat (eNew (eOpN fCat (eNew (eSlL (eVar 1) oNo (oPart (eVar 3)))) (eNew (eLst (aCons (eVar 4) aNil))))) (eVar 5))) (aCons (eNew (eLst (aCons (eVar 3) aNil))) aNil)))))) cNext)
    (cRet (eTup (aCons (eVar 1) (aCons (eNew (eLst aNil)) aNil)))))))))
theorem ss_law_spoiled_numbers {K : PySem.W.Frag} {s : Addr} : SS K (WB s) (t_law_spoiled_numbers K) (c_law_spoiled_numbers s) :=
  (ss_seq (ss_par (sa_cons (se_callB co_law_draw (sa_cons se_var (sa_cons (se_c (fun _ => (.int _))) sa_nil))) (sa_cons (se_callB co_law_draw (sa_cons se_var (sa_cons (se_c (fun _ => (.int _))) sa_nil))) sa_nil)))
    (ss_seq (ss_if (st_test (se_op r2_Eq se_var (se_c (fun _ => (.int _))))) (ss_ret (se_tup (sa_cons (SN.se (sn_slL se_var so_no (so_part se_var))) (sa_cons (SN.se (sn_lst (sa_cons (se_c (fun _ => .non)) sa_nil))) sa_nil)))) ss_next)
    (ss_seq (ss_if (st_test (se_op r2_Eq se_var (se_c (fun _ => (.int _))))) (ss_ret (se_tup (sa_cons (SN.se (sn_op rn_Cat se_var (SN.se (sn_op rn_Rep (SN.se (sn_lst (sa_cons (se_c (fun _ => (.int _))) sa_nil))) (se_op r2_AddI (se_c (fun _ => (.int _))) se_var))))) (sa_cons (SN.se (sn_lst (sa_cons (se_c (fun _ => .non)) sa_nil))) sa_nil)))) ss_next)
    (ss_seq (ss_if (st_test (se_op r2_Eq se_var (se_c (fun _ => (.int _))))) (ss_ret (se_tup (sa_cons (SN.se (sn_slL (SN.se (sn_op rn_Cat (SN.se (sn_lst (sa_cons (se_un r1_NegI (se_c (fun _ => (.int _)))) sa_nil))) se_var)) so_no (so_part (se_op r2_IxL (SN.se (sn_lst (sa_cons (se_c (fun _ => (.int _))) (sa_cons (se_c (fun _ => (.int _))) (sa_cons (se_c (fun _ => (.int _))) sa_nil))))) (se_op r2_ModI se_var (se_c (fun _ => (.int _)))))))) (sa_cons (SN.se (sn_lst (sa_cons (se_c (fun _ => .non)) sa_nil))) sa_nil)))) ss_next)
    (ss_seq (ss_if (st_test (se_op r2_Eq se_var (se_c (fun _ => (.int _))))) (ss_seq (ss_asg (se_op r2_SubI (se_un r1_NegI (se_c (fun _ => (.int _)))) (se_callB co_law_draw (sa_cons se_var (sa_cons (se_op r2_IxL (SN.se (sn_lst (sa_cons (se_c (fun _ => (.int _))) (sa_cons (se_op r2_PowI (se_c (fun _ => (.int _))) (se_c (fun _ => (.int _)))) sa_nil)))) (se_callB co_law_draw (sa_cons se_var (sa_cons (se_c (fun _ => (.int _))) sa_nil)))) sa_nil)))) sg_name)
    (ss_seq (ss_asg (SN.se (sn_lc (si_list (SN.se (sn_slL se_var (so_part (se_op r2_AddI se_var (se_c (fun _ => (.int _))))) so_no))) sg_name st_yes (se_op r2_IxL (SN.se (sn_lst (sa_cons se_var (sa_cons (se_un r1_NegI (se_c (fun _ => (.int _)))) sa_nil)))) (se_cb rc_Int1 (sa_cons (se_op r2_Eq (se_callB co_law_draw (sa_cons se_var (sa_cons (se_c (fun _ => (.int _))) sa_nil))) (se_c (fun _ => (.int _)))) sa_nil))) (by decide))) sg_name)
    (ss_ret (se_tup (sa_cons (SN.se (sn_op rn_Cat (SN.se (sn_op rn_Cat (SN.se (sn_slL se_var so_no (so_part se_var))) (SN.se (sn_lst (sa_cons se_var sa_nil))))) se_var)) (sa_cons (SN.se (sn_lst (sa_cons se_var sa_nil))) sa_nil)))))) ss_next)
    (ss_ret (se_tup (sa_cons se_var (sa_cons (SN.se (sn_lst sa_nil)) sa_nil)))))))))

def wrongD (ns : List Int) : List Da := match badN ns with
  | none => []
  | some v => [optN v]
def F_law_spoiled_numbers (s : Addr) : FD := fun ds n P => ∃ ns : List Int, ds = [.ref s, .lst (ns.map Da.int)] ∧ ns.length = 6 ∧ (∀ x ∈ ns, 0 ≤ x) ∧ n ≤ 900000000 ∧
  ∀ (ns' : List Int) (n' : Int), ns'.length ≤ 20 → n' ≤ n + 20 → P (.tup [.lst (ns'.map Da.int), .lst (wrongD ns')]) n'
theorem len_law_spoiled_numbers {s : Addr} : ∀ ds n P, F_law_spoiled_numbers s ds n P → ds.length = 2 := by
  rintro ds n P ⟨cs, rfl, _⟩
  rfl
theorem wrong_len {ns : List Int} (h : ns.length ≠ 6) : wrongD ns = [.non] := by
  unfold wrongD badN
  rw [if_neg h]
  rfl
theorem cut_to {α : Type} (l : List α) (i : Nat) (h : i ≤ l.length) : cutG l none (some (i : Int)) = l.take i := by
  unfold cutG
  rw [HT.sIx_none, HT.sIx_nat, Nat.min_eq_left h, List.drop_zero, Nat.sub_zero]
theorem cut_from {α : Type} (l : List α) (i : Nat) (h : i ≤ l.length) : cutG l (some (i : Int)) none = l.drop i := by
  unfold cutG
  rw [HT.sIx_none, HT.sIx_nat, Nat.min_eq_left h, List.take_of_length_le (by rw [List.length_drop]; omega)]
theorem cut_to' {l : List Da} {i : Nat} : cutG l none (some (i : Int)) = l.take i := by
  by_cases h : i ≤ l.length
  · exact cut_to l i h
  · unfold cutG
    rw [HT.sIx_none, HT.sIx_nat, Nat.min_eq_right (by omega), List.drop_zero, Nat.sub_zero, List.take_of_length_le (Nat.le_refl _), List.take_of_length_le (by omega)]
theorem wrong_at {a b : List Int} {x : Int} (h : (a ++ [x] ++ b).length = 6) (ha : ∀ y ∈ a, 0 ≤ y) (hx : x < 0) : wrongD (a ++ [x] ++ b) = [.int (a.length : Nat)] := by
  unfold wrongD badN
  rw [if_pos h]
  have e : (a ++ [x] ++ b).findIdx? (fun n => decide (n < 0)) = some a.length := by
    refine find_at (x := x) ?_ (decide_eq_true hx) fun j y hj hy => ?_
    · rw [List.append_assoc, List.getElem?_append_right (Nat.le_refl _), Nat.sub_self]
      rfl
    · rw [List.append_assoc, List.getElem?_append_left hj] at hy
      have := ha y (List.mem_of_getElem? hy)
      exact decide_eq_false (by omega)
  rw [e]
  rfl
theorem wrong_no {ns : List Int} (hl : ns.length = 6) (h : ∀ x ∈ ns, 0 ≤ x) : wrongD ns = [] := by
  unfold wrongD badN
  rw [if_pos hl, List.findIdx?_eq_none_iff.mpr fun x m => decide_eq_false (by have := h x m; omega)]
  rfl
theorem rep0 {p : Nat} (h : p < 6) : repL (1 + (p : Int)).toNat [Da.int 0] = (List.replicate (1 + p) (0 : Int)).map Da.int := by
  have : p = 0 ∨ p = 1 ∨ p = 2 ∨ p = 3 ∨ p = 4 ∨ p = 5 := by omega
  rcases this with rfl | rfl | rfl | rfl | rfl | rfl <;> rfl
theorem d_law_spoiled_numbers {s : Addr} : ∀ ds n P, F_law_spoiled_numbers s ds n P → c_law_spoiled_numbers s ⟨fun st => P .non st.n, fun d st => P d st.n, fun _ => False, fun _ => False⟩ ⟨δ0 7 ds, n⟩ := by
  rintro ds n P ⟨ns, rfl, hl, hz', hn, k⟩
  unfold c_law_spoiled_numbers
  walk_at "s"
  refine k_draw (by omega) (by omega) (by omega) fun w a1 b1 => ?_
  walk_at "d"
  refine k_draw (by omega) (by omega) (by omega) fun p a2 b2 => ?_
  obtain ⟨p, rfl⟩ : ∃ p' : Nat, p = (p' : Int) := ⟨p.toNat, by omega⟩
  walk_at "d"
  by_cases h0 : w = 0
  · refine ite_dT h0 ?_
    walk_at "d"
    rw [cut_to', ← List.map_take]
    have kk := k (ns.take p) (n + 1 + 1) (by rw [List.length_take]; omega) (by omega)
    rw [wrong_len (by rw [List.length_take]; omega)] at kk
    exact kk
  refine ite_dF h0 ?_
  walk_at "d"
  by_cases h1 : w = 1
  · refine ite_dT h1 ?_
    walk_at "d"
    refine k_Rep (by omega) (by omega) (by show 1 * _ ≤ _; omega) ?_
    rw [rep0 (by omega)]
    refine k_Cat (by rw [List.length_map, List.length_map, List.length_replicate]; omega) ?_
    walk_at "d"
    rw [← List.map_append]
    have kk := k (ns ++ List.replicate (1 + p) (0 : Int)) (n + 1 + 1) (by rw [List.length_append, List.length_replicate]; omega) (by omega)
    rw [wrong_len (by rw [List.length_append, List.length_replicate]; omega)] at kk
    exact kk
  refine ite_dF h1 ?_
  walk_at "d"
  by_cases h3 : w = 3
  · refine ite_dT h3 ?_
    walk_at "d"
    refine k_Cat (by rw [List.length_map]; show 1 + _ ≤ _; omega) ?_
    walk_at "d"
    refine k_ModI (by omega) ?_
    walk_at "d"
    obtain ⟨q, e1, hq⟩ : ∃ q : Nat, atI [Da.int 1, Da.int 3, Da.int 7] ((p : Int) % 3) = some (.int (q : Int)) ∧ (q = 1 ∨ q = 3 ∨ q = 7) := by
      have : p = 0 ∨ p = 1 ∨ p = 2 ∨ p = 3 ∨ p = 4 ∨ p = 5 := by omega
      rcases this with rfl | rfl | rfl | rfl | rfl | rfl
      · exact ⟨1, rfl, by omega⟩
      · exact ⟨3, rfl, by omega⟩
      · exact ⟨7, rfl, by omega⟩
      · exact ⟨1, rfl, by omega⟩
      · exact ⟨3, rfl, by omega⟩
      · exact ⟨7, rfl, by omega⟩
    refine k_IxL rfl e1 ?_
    walk_at "d"
    have e3 : [Da.int (-2)] ++ ns.map Da.int = ((-2) :: ns).map Da.int := rfl
    rw [e3, cut_to', ← List.map_take]
    have e4 : (((-2) :: ns).take q).length = q := by rw [List.length_take, List.length_cons]; omega
    have kk := k (((-2) :: ns).take q) (n + 1 + 1) (by omega) (by omega)
    rw [wrong_len (by omega)] at kk
    exact kk
  refine ite_dF h3 ?_
  walk_at "d"
  by_cases h2 : w = 2
  · refine ite_dT h2 ?_
    walk_at "d"
    refine k_pw (v := 10000000000000000000000000000) (by unfold CPow; decide) (by decide +kernel) ?_
    walk_at "d"
    refine k_draw (by omega) (by omega) (by omega) fun r1 a3 b3 => ?_
    obtain ⟨z, e1, hz⟩ : ∃ z : Int, atI [Da.int 1, Da.int 10000000000000000000000000000] r1 = some (.int z) ∧ (z = 1 ∨ z = 10000000000000000000000000000) := by
      have : r1 = 0 ∨ r1 = 1 := by omega
      rcases this with rfl | rfl
      · exact ⟨1, rfl, .inl rfl⟩
      · exact ⟨10000000000000000000000000000, rfl, .inr rfl⟩
    refine k_IxL rfl e1 ?_
    walk_at "d"
    refine k_draw (by omega) (by omega) (by omega) fun r2 a4 b4 => ?_
    walk_at "d"
    have ep : (p : Int) + 1 = ((p + 1 : Nat) : Int) := rfl
    rw [ep, cut_from (ns.map Da.int) (p + 1) (by rw [List.length_map]; omega), ← List.map_drop]
    refine lc_inv (fun i acc st => ∃ (ms : List Int) (x6 : Sl) (n' : Int), acc = ms.map Da.int ∧ ms.length = i ∧ n' ≤ n + 4 + i ∧ st = ⟨[Sl.dat (Da.ref s), Sl.dat (Da.lst (List.map Da.int ns)), Sl.dat (Da.int w), Sl.dat (Da.int (p : Int)), Sl.dat (Da.int (-1 - r2)), Sl.un, x6], n'⟩) ⟨[], _, _, rfl, rfl, by omega, rfl⟩ ?_ ?_
    · rintro i x acc st R hx ⟨ms, x6, n', rfl, hml, hn', rfl⟩ hR
      obtain ⟨v, hv, rfl⟩ := map_get hx
      have hi : i < 6 := by
        have := (List.getElem?_eq_some_iff.mp hv).1
        rw [List.length_drop] at this
        omega
      walk_at "d"
      refine k_draw (by omega) (by omega) (by omega) fun r3 a5 b5 => ?_
      walk_at "d"
      obtain ⟨z, e2⟩ : ∃ z : Int, atI [Da.int v, Da.int (-2)] (if decide (r3 = 0) = true then 1 else 0) = some (.int z) := by
        by_cases h : r3 = 0
        · exact ⟨-2, by rw [if_pos (decide_eq_true h)]; rfl⟩
        · exact ⟨v, by rw [if_neg (fun e => h (of_decide_eq_true e))]; rfl⟩
      refine k_IxL rfl e2 ?_
      walk_at "d"
      refine ⟨by rw [List.length_map]; omega, s_fz (fz_stl rfl) (hR _ _ ⟨ms ++ [z], _, _, by rw [List.map_append]; rfl, by rw [List.length_append, hml]; rfl, ?_, rfl⟩)⟩
      omega
    · rintro acc st ⟨ms, x6, n', rfl, hml, hn', rfl⟩
      rw [List.length_map, List.length_drop] at hml hn'
      walk_at "d"
      have etk : (ns.take p).length = p := by rw [List.length_take]; omega
      rw [cut_to', ← List.map_take]
      refine k_Cat (by rw [List.length_map, etk]; show p + 1 ≤ _; omega) ?_
      walk_at "d"
      have ec : (ns.take p).map Da.int ++ [Da.int (-1 - r2)] = (ns.take p ++ [-1 - r2]).map Da.int := by rw [List.map_append]; rfl
      rw [ec]
      refine k_Cat (by rw [List.length_map, List.length_map, List.length_append, etk, hml]; show p + 1 + _ ≤ _; omega) ?_
      walk_at "d"
      rw [← List.map_append]
      have el : (ns.take p ++ [-1 - r2] ++ ms).length = 6 := by rw [List.length_append, List.length_append, etk, hml]; show p + 1 + _ = 6; omega
      have kk := k (ns.take p ++ [-1 - r2] ++ ms) n' (by omega) (by omega)
      rw [wrong_at el (fun y m => hz' y (List.mem_of_mem_take m)) (by omega), etk] at kk
      exact kk
  refine ite_dF h2 ?_
  walk_at "d"
  have kk := k ns (n + 1 + 1) (by omega) (by omega)
  rw [wrong_no hl hz'] at kk
  exact kk
def sp_law_spoiled_numbers (K : PySem.W.Frag) : Sp := fun vs H Q E => vs.length = 2 ∧ ∃ s : Addr, spD K (WB s) (F_law_spoiled_numbers s) vs H Q E
theorem co_law_spoiled_numbers {K : PySem.W.Frag} {s : Addr} {E : XK} : CallOk K (WB s) (sp_law_spoiled_numbers K) [] E (F_law_spoiled_numbers s) := fun vs H Q h => ⟨by rw [List.append_nil]; exact spD_len len_law_spoiled_numbers h, s, by rw [List.append_nil]; exact h⟩
theorem pure_law_spoiled_numbers {K : PySem.W.Frag} {vs : List V} {H : Hp} {Q : VK} {E : XK} (h : sp_law_spoiled_numbers K vs H Q E) : t_law_spoiled_numbers K { nx := fun _ H' => Q .non H', rt := Q } (L2.start ["rng", "numbers", "way", "place", "below", "later", "number"] vs) H := by
  obtain ⟨_, s, h⟩ := h
  exact fn_src ss_law_spoiled_numbers d_law_spoiled_numbers h

end Q

set_option Elab.async false
set_option linter.all false
set_option maxRecDepth 100000
set_option maxHeartbeats 4000000
namespace Q
open PySem PySem.Spec PyProof.Rows L2
/-! the steps' tactic on data -/
local macro_rules | `(tactic| walk_at "fi") => `(tactic| (simp only [List.set_cons_zero, List.set_cons_succ]; rfl))
local macro_rules | `(tactic| walk_at "f1") => `(tactic| first | exact fz_kd | exact pk_kd | exact fz_stl (by first | assumption | with_unfolding_all exact rfl | exact calDa_stl) | exact pk_stl (by first | assumption | with_unfolding_all exact rfl | exact calDa_stl) | exact pk_own (by with_unfolding_all exact rfl) | exact pk_ownD (by with_unfolding_all exact rfl) | (apply fz_own; (with_unfolding_all exact rfl); (walk_at "fi")) | (apply fz_ownD; (with_unfolding_all exact rfl); (walk_at "fi")))
local macro_rules | `(tactic| walk_at "f") => `(tactic| first | walk_at "f1" | exact fzs_nil | exact fzs_stl (by with_unfolding_all exact rfl) | (apply fzs_cons; (walk_at "f1"); (walk_at "f")))
local macro_rules | `(tactic| walk_at "d1") => `(tactic| (with_reducible first
  | (apply n_put; (simp only [List.set_cons_zero, List.set_cons_succ]; rfl))
  | (apply n_putE; (simp only [List.set_cons_zero, List.set_cons_succ]; rfl))
  | (apply n_put2; (simp only [List.set_cons_zero, List.set_cons_succ]; rfl); (simp only [List.set_cons_zero, List.set_cons_succ]; rfl))
  | (apply n_wp1; (simp only [List.set_cons_zero, List.set_cons_succ]; rfl))
  | (apply n_wp1E; (simp only [List.set_cons_zero, List.set_cons_succ]; rfl))
  | (apply n_wp2; (simp only [List.set_cons_zero, List.set_cons_succ]; rfl); (simp only [List.set_cons_zero, List.set_cons_succ]; rfl))
  | (apply n_wp2E; (simp only [List.set_cons_zero, List.set_cons_succ]; rfl); (simp only [List.set_cons_zero, List.set_cons_succ]; rfl))
  | (apply n_wp3; (simp only [List.set_cons_zero, List.set_cons_succ]; rfl); (simp only [List.set_cons_zero, List.set_cons_succ]; rfl); (simp only [List.set_cons_zero, List.set_cons_succ]; rfl))
  | (apply n_wp3E; (simp only [List.set_cons_zero, List.set_cons_succ]; rfl); (simp only [List.set_cons_zero, List.set_cons_succ]; rfl); (simp only [List.set_cons_zero, List.set_cons_succ]; rfl))
  | refine n_tick ?_
  | refine n_tickE ?_
  | refine s_seq ?_
  | refine k_op ?_
  | (apply k_var; (with_unfolding_all exact rfl))
  | (apply k_varO; (with_unfolding_all exact rfl))
  | (apply k_varD; (with_unfolding_all exact rfl))
  | refine k_c ?_
  | refine k_AddI ?_
  | refine k_SubI ?_
  | refine k_LtI ?_
  | refine k_LeI ?_
  | refine k_GtI ?_
  | refine k_GeI ?_
  | refine k_NegI ?_
  | refine k_ip ?_
  | (apply k_Eq; (with_unfolding_all exact rfl))
  | (apply k_Ne; (with_unfolding_all exact rfl))
  | refine k_InC ?_
  | refine k_NotInC ?_
  | (apply k_IsN; (with_unfolding_all exact rfl))
  | (apply k_NotN; (with_unfolding_all exact rfl))
  | refine k_Max2 ?_
  | refine k_Min2 ?_
  | refine k_Int1b ?_
  | refine k_Int1i ?_
  | refine k_Abs ?_
  | refine k_Count ?_
  | (apply k_LenL; (with_unfolding_all exact rfl))
  | (apply k_ListL; (with_unfolding_all exact rfl))
  | (apply k_pk2; (walk_at "f"); (walk_at "f"))
  | (apply k_pk1; (walk_at "f"))
  | (apply k_pk2N; (walk_at "f"); (walk_at "f"))
  | (apply k_pkM; (walk_at "f"))
  | (apply k_mp1; (walk_at "f"))
  | (apply k_mp2; (walk_at "f"); (walk_at "f"))
  | (apply k_mp1N; (walk_at "f"))
  | refine k_un ?_
  | refine k_new ?_
  | refine k_opN ?_
  | refine k_nil ?_
  | refine k_cons ?_
  | refine k_cb ?_
  | refine k_cbN ?_
  | refine k_call ?_
  | refine k_callB ?_
  | refine k_kw ?_
  | refine k_kwB ?_
  | (apply k_cF; (walk_at "f"))
  | (apply k_cB; (walk_at "f"))
  | (apply k_kF; (with_unfolding_all exact rfl); (walk_at "f"); (with_unfolding_all exact rfl))
  | (apply k_kB; (with_unfolding_all exact rfl); (walk_at "f"); (with_unfolding_all exact rfl))
  | refine k_tup ?_
  | refine k_lst ?_
  | (apply k_mkT; (with_unfolding_all exact rfl); (walk_at "f"))
  | (apply k_mkL; (with_unfolding_all exact rfl); (walk_at "f"))
  | refine k_bE ?_
  | (apply k_bl; (with_unfolding_all exact rfl))
  | refine k_and ?_
  | refine k_or ?_
  | refine k_not ?_
  | refine k_yes ?_
  | refine k_if ?_
  | refine k_andV ?_
  | refine k_orV ?_
  | refine k_notV ?_
  | refine k_chain ?_
  | refine k_oNo ?_
  | refine k_oPart ?_
  | (apply k_int; (walk_at "f"))
  | refine k_slL ?_
  | (apply k_asl; (walk_at "f"); (with_unfolding_all exact rfl))
  | refine k_slS ?_
  | (apply k_strP; (walk_at "f"))
  | refine k_m1 ?_
  | refine k_mu ?_
  | refine k_bl0 ?_
  | refine k_mu0 ?_
  | (apply k_mu1; (with_unfolding_all exact rfl))
  | (apply k_mu2; (walk_at "f"); (with_unfolding_all exact rfl))
  | refine s_next ?_
  | refine s_drop ?_
  | refine s_ret ?_
  | (apply s_fz; (walk_at "f"))
  | refine s_retN ?_
  | refine s_asg ?_
  | refine s_asgN ?_
  | refine s_break ?_
  | refine s_cont ?_
  | refine s_aug ?_
  | refine s_par ?_
  | (apply s_par2; (walk_at "f"))
  | refine s_for ?_
  | refine s_lc ?_
  | (apply g_nm; (walk_at "f"))
  | refine g_nl ?_
  | refine g_cn ?_
  | (apply g_tp; (walk_at "f"); (first | exact calDa_asT | with_unfolding_all exact rfl); (with_unfolding_all exact rfl))
  | (apply g_sl; (walk_at "f"))
  | refine i_list ?_
  | (apply i_asl; (walk_at "f"); (with_unfolding_all exact rfl))
  | refine i_tup ?_
  | (apply i_ast; (walk_at "f"); (with_unfolding_all exact rfl))
  | refine i_str ?_
  | refine i_rng1 ?_
  | refine i_rng2 ?_
  | refine i_rng3 ?_
  | (apply i_r3; (walk_at "f"); (walk_at "f"); (walk_at "f"))
  | refine i_enum ?_
  | (apply i_en; (walk_at "f"); (with_unfolding_all exact rfl))
  | (apply i_zp; (walk_at "f"); (with_unfolding_all exact rfl); (with_unfolding_all exact rfl))
  | refine i_enumS ?_
  | (apply i_enS; (walk_at "f"))
  | refine i_zip ?_
  | refine i_zipS ?_
  | (apply i_zpS; (walk_at "f"); (with_unfolding_all exact rfl))
  | refine k_dget ?_
  | (apply k_onD; (walk_at "f"))
  | (apply k_onK; (walk_at "f"); (with_unfolding_all exact rfl))
  | (apply k_onOD; (with_unfolding_all exact rfl))
  | (apply g_sd; (walk_at "f"))
  | refine s_dput ?_
  | refine s_daug ?_
  | refine k_newD ?_
  | refine s_asgD ?_
  | refine k_dzip ?_
  | refine k_lvals ?_
  | refine k_on2 ?_
  | refine k_on1 ?_
  | refine k_onStr0 ?_
  | refine k_onInt0 ?_
  | (apply i_onL; (with_unfolding_all exact rfl))
  | refine k_10_5 ?_
  | refine k_10_6 ?_
  | refine k_10_9 ?_
  | refine k_10_15 ?_
  | refine k_10_18 ?_
  | refine k_10_29 ?_
  | refine k_10_30 ?_
  | refine k_2_61 ?_
  | refine k_ml ?_
  | (apply k_ml1; (walk_at "f"); (with_unfolding_all exact rfl))
  | (apply k_ml2; (walk_at "f"); (with_unfolding_all exact rfl))
  | (apply k_mpL; (walk_at "f"))
  | refine k_Sum ?_
  | refine k_lenSet ?_
  | refine i_sl ?_
  | (apply i_slF; (walk_at "f"); (with_unfolding_all exact rfl))
  | refine k_dget2 ?_
  | refine k_newK ?_
  | refine k_disp2 ?_
  | refine s_raise ?_
  | refine s_dropX ?_
  | refine s_retX ?_
  | refine k_lenSetL ?_
  | refine k_revL ?_
  | (apply k_pkL; (walk_at "f"); (with_unfolding_all exact rfl))
  | refine s_asgD ?_
  | (apply k_varT; (with_unfolding_all exact rfl))
  | refine k_slT ?_
  | (apply k_onT; (walk_at "f"))
  | refine k_dget2T ?_
  | refine k_dgetT ?_
  | refine k_sumVals ?_
  | refine k_newT ?_
  | refine k_disp1T ?_
  | (apply k_onOT; (with_unfolding_all exact rfl))
  | (apply k_onOwn; (with_unfolding_all exact rfl); (with_unfolding_all exact rfl))
  | (apply k_TupL; (with_unfolding_all exact rfl))
  | refine s_asgT ?_
  | refine s_dputT ?_
  | refine s_move ?_
  | refine s_forT ?_
  | refine ite_nsame ?_
  | refine ite_same ?_
  | (refine ite_dF ?_ ?_; (with_unfolding_all decide +kernel))
  | (refine ite_dT ?_ ?_; (with_unfolding_all decide +kernel))
  | refine iteT ?_
  | refine iteF ?_
  | refine ite_nt ?_
  | refine ite_nf ?_))
local macro_rules | `(tactic| walk_at "d") => `(tactic| (repeat (first | walk_at "d1" | with_reducible refine s_if ?_)))
local macro_rules | `(tactic| walk_at "di") => `(tactic| (repeat walk_at "d1"))
local macro_rules | `(tactic| walk_at "s") => `(tactic| (simp only [δ0, List.map_cons, List.map_nil, List.length_cons, List.length_nil, List.replicate, List.cons_append, List.nil_append, Nat.reduceAdd, Nat.reduceSub]; walk_at "d"))

def t_colour_after (E : XK) (K : PySem.W.Frag) : TS := (tSeq (tDrop (tCall (sp_check_drill K) [] E (tCons (tVar 0) tNil)))
    (tSeq (tDrop (tCall (sp_check_counts K) [] E (tCons (tVar 1) tNil)))
    (tSeq (tIfS (tOr (tTest (tOp rNe (tCB rLenS (tCons (tVar 2) tNil)) (tC (.int 1)))) (tTest (tOp rNotInC (tVar 2) (tC (.str "abcdef"))))) (tRaise (He.ga K "BadColour") (tVar 2) (XW E)) tNext)
    (tSeq (tAsg (tCall (sp_lead_counts K) [] E0 (tCons (tVar 0) (tCons (tVar 1) tNil))) (gName 3))
    (tSeq (tAsg (tLc (iZipSL K (tCons (tC (.str "abcdef")) (tCons (tVar 1) tNil))) (gTup K 2 (gCons (gName 6) (gCons (gName 7) gNil))) tYes (tOp rAddI (tVar 7) (tCB rInt1 (tCons (tOp rEq (tVar 6) (tVar 2)) tNil))) [6, 7]) (gName 4))
    (tSeq (tAsg (tLc (iEnum K (tCons (tCall (sp_lead_counts K) [] E0 (tCons (tVar 0) (tCons (tVar 4) tNil))) tNil)) (gTup K 2 (gCons (gName 8) (gCons (gName 7) gNil))) (tTest (tOp rGtI (tVar 7) (tOp (rIxL K) (tVar 3) (tVar 8)))) (tVar 8) [8, 7]) (gName 5))
    (tRet (tOp rIxS (tC (.str "abcdef")) (tOp (rIxL K) (tVar 5) (tC (.int 0)))))))))))
def c_colour_after (X : XD) : DC := (cSeq (cDropX X f_check_drill (aCons (eVar 0) aNil))
    (cSeq (cDropX X f_check_counts (aCons (eVar 1) aNil))
    (cSeq (cIf (bOr (bE (eOp fNe (eCB fLenS (aCons (eVar 2) aNil)) (eC (.int 1)))) (bE (eOp fNotInC (eVar 2) (eC (.str "abcdef"))))) (cRaise X "BadColour" (eVar 2)) cNext)
    (cSeq (cAsg (eCall (FP.d f_lead_counts) (aCons (eVar 0) (aCons (eVar 1) aNil))) (dName 3))
    (cSeq (cAsg (eNew (eLc (diZS (aCons (eC (.str "abcdef")) (aCons (eVar 1) aNil))) (dTup 2 (dCons (dName 6) (dCons (dName 7) dNil))) bYes (eOp fAddI (eVar 7) (eCB fInt1 (aCons (eOp fEq (eVar 6) (eVar 2)) aNil))) [6, 7])) (dName 4))
    (cSeq (cAsg (eNew (eLc (diE (aCons (eCall (FP.d f_lead_counts) (aCons (eVar 0) (aCons (eVar 4) aNil))) aNil)) (dTup 2 (dCons (dName 8) (dCons (dName 7) dNil))) (bE (eOp fGtI (eVar 7) (eOp fIxL (eVar 3) (eVar 8)))) (eVar 8) [8, 7])) (dName 5))
    (cRet (eOp fIxS (eC (.str "abcdef")) (eOp fIxL (eVar 5) (eC (.int 0)))))))))))
theorem ss_colour_after {K : PySem.W.Frag} {W : Wo} {E : XK} {X : XD} : SSX K W E X (t_colour_after E K) (c_colour_after X) :=
  (ssx_seq (ssx_dropX cx_check_drill (sa_cons se_var sa_nil))
    (ssx_seq (ssx_dropX cx_check_counts (sa_cons se_var sa_nil))
    (ssx_seq (ssx_if (st_or (st_test (se_op r2_Ne (se_cb rc_LenS (sa_cons se_var sa_nil)) (se_c (fun _ => (.int _))))) (st_test (se_op r2_NotInC se_var (se_c (fun _ => (.str _)))))) (ssx_raise se_var) (ssx_of ss_next))
    (ssx_of (ss_seq (ss_asg (se_call co_lead_counts (sa_cons se_var (sa_cons se_var sa_nil))) sg_name)
    (ss_seq (ss_asg (SN.se (sn_lc (si_zipSL (sa_cons (se_c (fun _ => (.str _))) (sa_cons se_var sa_nil))) (sg_tup (sg_cons sg_name (sg_cons sg_name sg_nil))) st_yes (se_op r2_AddI se_var (se_cb rc_Int1 (sa_cons (se_op r2_Eq se_var se_var) sa_nil))) (by decide))) sg_name)
    (ss_seq (ss_asg (SN.se (sn_lc (si_enum (sa_cons (se_call co_lead_counts (sa_cons se_var (sa_cons se_var sa_nil))) sa_nil)) (sg_tup (sg_cons sg_name (sg_cons sg_name sg_nil))) (st_test (se_op r2_GtI se_var (se_op r2_IxL se_var se_var))) se_var (by decide))) sg_name)
    (ss_ret (se_op r2_IxS (se_c (fun _ => (.str _))) (se_op r2_IxL se_var (se_c (fun _ => (.int _)))))))))))))

def f_colour_after : FX := fun ds P X => ∃ (g : Bool) (cs : List Cal) (ns : List Int) (z : Str), ds = [drDa g cs, .lst (ns.map Da.int), .str z] ∧ (∀ c ∈ cs, calLen c ≤ 100000) ∧ ns.length ≤ 1000 ∧ z.length ≤ 100000 ∧
  orX (badC cs) "BadCall" (orN (badN ns) "BadCounts" (if isColS z = true then ∃ x : Nat, z = S1 x ∧ P (.str (S1 (endC cs ns x))) else X "BadColour" (.str z)) X) X
theorem len_colour_after : ∀ ds P X, f_colour_after ds P X → ds.length = 3 := by
  rintro ds P X ⟨g, cs, ns, x, rfl, _⟩
  rfl
theorem joined_add {ns : List Int} {x : Nat} (hl : ns.length = 6) (hx : isColN x = true) : (([97, 98, 99, 100, 101, 102] : List Nat).zip ns).map (fun p => Da.int (p.2 + if decide (S1 p.1 = S1 x) = true then 1 else 0)) = (addE x ns).map Da.int := by
  obtain ⟨a, b, c, d, e, f, rfl⟩ := six_of hl
  unfold addE gi
  simp only [decide_eq_true_eq, S1_inj]
  rcases col6 hx with rfl | rfl | rfl | rfl | rfl | rfl <;> simp
theorem grown_one {y : Nat} {ws : List Int} (hl : ws.length = 6) (hy : isColN y = true) : ((List.range 6).filter fun i => decide (gi ws i < gi (addE y ws) i)) = [y - 97] := by
  have e : (fun i => decide (gi ws i < gi (addE y ws) i)) = fun i => decide (i = y - 97) := by
    funext i
    rw [gi_add hy hl]
    by_cases h : i = y - 97
    · rw [if_pos h, decide_eq_true h]; exact decide_eq_true (by omega)
    · rw [if_neg h, decide_eq_false h]; exact decide_eq_false (by omega)
  rw [e]
  rcases col6 hy with rfl | rfl | rfl | rfl | rfl | rfl <;> rfl
theorem abc_at {y : Nat} (hy : isColN y = true) : atI (TL.tl ("abcdef" : Str)) ((y - 97 : Nat) : Int) = some y := by
  rw [abc_tl]
  rcases col6 hy with rfl | rfl | rfl | rfl | rfl | rfl <;> rfl
theorem d_colour_after : ∀ ds P X, f_colour_after ds P X → c_colour_after X ⟨fun st => P .non, fun d st => P d, fun _ => False, fun _ => False⟩ ⟨δ0 9 ds, 0⟩ := by
  rintro ds P X ⟨g, cs, ns, z, rfl, hcal, hnz, hz, k⟩
  unfold c_colour_after
  walk_at "s"
  refine ⟨g, cs, rfl, hcal, ?_⟩
  cases hbc : badC cs with
  | some i => rw [hbc] at k; exact k
  | none =>
  rw [hbc] at k
  have hg := badC_none.mp hbc
  have k1 : orN (badN ns) "BadCounts" (if isColS z = true then ∃ x : Nat, z = S1 x ∧ P (.str (S1 (endC cs ns x))) else X "BadColour" (.str z)) X := k
  clear k
  refine orX_n ?_
  walk_at "d"
  refine ⟨ns, rfl, hnz, ?_⟩
  cases hbn : badN ns with
  | some v => rw [hbn] at k1; exact k1
  | none =>
  rw [hbn] at k1
  obtain ⟨hl, hn⟩ := badN_none hbn
  have k2 : (if isColS z = true then ∃ x : Nat, z = S1 x ∧ P (.str (S1 (endC cs ns x))) else X "BadColour" (.str z)) := k1
  clear k1
  refine orN_n ?_
  walk_at "d"
  refine k_LenS (small5 hz) ?_
  walk_at "d"
  by_cases hzc : isColS z = true
  · rw [if_pos hzc] at k2
    obtain ⟨x, rfl, k⟩ := k2
    have hx : isColN x = true := by rw [← isColS_one]; exact hzc
    refine ite_nd rfl ?_
    walk_at "d"
    refine ite_nd (of_decide_eq_true hx) ?_
    walk_at "d"
    refine ⟨g, cs, ns, rfl, hg, hl, ?_⟩
    walk_at "d"
    refine ⟨by decide +kernel, by rw [List.length_map, hl]; exact Nat.le_of_eq abc_len, ?_⟩
    rw [sgD_abc]
    unfold chD
    rw [prD_zip (fun c => Da.str (S1 c)) Da.int]
    refine lc_mapA (([97, 98, 99, 100, 101, 102] : List Nat).zip ns) (fun p => .tup [Da.str (S1 p.1), Da.int p.2]) (fun p => Da.int (p.2 + if decide (S1 p.1 = S1 x) = true then 1 else 0)) (by rw [List.length_zip]; show min 6 ns.length ≤ 100000; omega) (fun i p acc R hx2 hacc hR => ?_) ?_
    · walk_at "d"
      exact ⟨hacc, s_fz (fz_stl rfl) (hR _ rfl)⟩
    rw [joined_add hl hx]
    walk_at "d"
    refine ⟨g, cs, addE x ns, rfl, hg, by rw [addE_len, hl], ?_⟩
    walk_at "d"
    rw [prE_ints, lead_add hg hl hx]
    have hL : (leadC cs ns).length = 6 := by rw [leadC_len, hl]
    have hA : (addE (endC cs ns x) (leadC cs ns)).length = 6 := by rw [addE_len, hL]
    have hy := endC_col (ns := ns) hg hx
    rw [hA]
    refine lc_filtA (List.range 6) _ (fun i => Da.int (i : Nat)) (fun i => decide (gi (leadC cs ns) i < gi (addE (endC cs ns x) (leadC cs ns)) i)) (by decide) (fun i p acc R hx2 hacc hR => ?_) ?_
    · obtain ⟨hp, hp6⟩ : p = i ∧ i < 6 := by
        obtain ⟨h1, h2⟩ := List.getElem?_eq_some_iff.mp hx2
        rw [List.getElem_range] at h2
        exact ⟨h2.symm, by simpa using h1⟩
      subst hp
      walk_at "d"
      refine k_IxL rfl (atI_int (by omega)) ?_
      walk_at "d"
      cases hd : decide (gi (leadC cs ns) p < gi (addE (endC cs ns x) (leadC cs ns)) p) with
      | true =>
        walk_at "d"
        have hR' : ∀ st', _ → R (acc ++ [Da.int (p : Nat)]) st' := fun st' e => by
          have := hR st' e
          rw [hd] at this
          rwa [if_pos rfl] at this
        exact ⟨hacc, s_fz (fz_stl rfl) (hR' _ rfl)⟩
      | false =>
        walk_at "d"
        have hR' : ∀ st', _ → R acc st' := fun st' e => by
          have := hR st' e
          rw [hd] at this
          rwa [if_neg Bool.false_ne_true] at this
        exact hR' _ rfl
    rw [grown_one hL hy]
    walk_at "d"
    refine k_IxL rfl (d := .int ((endC cs ns x - 97 : Nat) : Int)) rfl ?_
    walk_at "d"
    refine k_IxS (by decide) (abc_at hy) ?_
    walk_at "d"
    exact k
  · rw [if_neg hzc] at k2
    have k := k2
    clear k2
    by_cases h1 : z.length = 1
    · obtain ⟨c, hc⟩ : ∃ c, TL.tl z = [c] := by
        rw [TL.len_tl] at h1
        exact List.length_eq_one_iff.mp h1
      obtain rfl := str1 hc
      refine ite_nd rfl ?_
      walk_at "d"
      refine ite_nq (fun e => hzc (by rw [isColS_one]; exact decide_eq_true e)) ?_
      walk_at "d"
      exact k
    · refine ite_nq (fun e => h1 (Int.ofNat.inj e)) ?_
      walk_at "d"
      exact k
def sp_colour_after (K : PySem.W.Frag) : Sp := fun vs H Q E => vs.length = 3 ∧ spX K f_colour_after vs H Q E
theorem cx_colour_after {K : PySem.W.Frag} : CallX K (sp_colour_after K) f_colour_after := callX_n len_colour_after
theorem co_colour_after {K : PySem.W.Frag} {W : Wo} {E : XK} : CallOk K W (sp_colour_after K) [] E (FP.d (FX.ok f_colour_after)) := callOk_x cx_colour_after
theorem pure_colour_after {K : PySem.W.Frag} {vs : List V} {H : Hp} {Q : VK} {E : XK} (h : sp_colour_after K vs H Q E) : t_colour_after E K { nx := fun _ H' => Q .non H', rt := Q } (L2.start ["drill", "ahead", "colour", "without", "joined", "grown", "one", "number", "index"] vs) H := fn_pureX (t := t_colour_after E K) (fun X => ss_colour_after) d_colour_after h.2

end Q

set_option Elab.async false
set_option linter.all false
set_option maxRecDepth 100000
set_option maxHeartbeats 4000000
set_option pp.maxSteps 2500
namespace Q
open PySem PySem.Spec PyProof.Rows L2
/-! the steps' tactic: runs a reading up to a choice, a call, a loop, a store -/
local macro_rules | `(tactic| walk_at "w1") => `(tactic| (with_reducible first
  | refine w_var (by with_unfolding_all exact rfl) ?_
  | refine w_c ?_
  | refine w_op ?_
  | refine w_test ?_
  | refine w_tb ?_
  | refine w_cons ?_
  | refine w_nil ?_
  | refine w_cb ?_
  | refine w_call ?_
  | refine w_kw ?_
  | refine z_asg ?_
  | refine z_ret ?_
  | refine z_if ?_
  | refine z_drop ?_
  | refine g_name ?_
  | refine g_sub ?_
  | refine w_bm ?_
  | refine w_bm0 ?_
  | refine w_m1 ?_
  | refine w_m0 ?_
  | refine w_and ?_
  | refine w_or ?_
  | refine w_not ?_
  | refine w_chain ?_
  | refine w_andV ?_
  | refine w_orV ?_
  | refine w_notV ?_
  | refine w_if ?_
  | refine w_un ?_
  | refine w_sl ?_
  | refine w_part ?_
  | refine w_nopart ?_
  | refine w_tup ?_
  | refine w_lst ?_
  | refine w_yes ?_
  | refine z_for ?_
  | refine z_for1 ?_
  | refine w_ilist ?_
  | refine w_irng1 ?_
  | refine w_irng2 ?_
  | refine w_istr ?_
  | refine w_itup ?_
  | refine w_lc ?_
  | refine z_asg1 ?_
  | refine z_if1 ?_
  | refine z_drop1 ?_
  | refine z_next ?_
  | refine o_add ?_
  | refine o_sub ?_
  | refine o_lt ?_
  | refine o_le ?_
  | refine o_gt ?_
  | refine o_ge ?_
  | refine o_neg ?_
  | refine o_max2 ?_
  | refine o_min2 ?_
  | refine o_intB ?_
  | refine o_isn ?_
  | refine o_notn ?_
  | refine o_inc ?_
  | refine o_notinc ?_
  | refine o_eq (by with_unfolding_all exact rfl) ?_
  | refine o_ne (by with_unfolding_all exact rfl) ?_
  | refine o_ixLn (by first | assumption | exact upd_same) (by decide) (by with_unfolding_all exact rfl) ?_
  | refine o_ixTn (by first | assumption | exact upd_same) (by decide) (by with_unfolding_all exact rfl) ?_
  | refine g_tup (by first | assumption | exact upd_same) (by with_unfolding_all exact rfl) ?_
  | refine g_cons ?_
  | refine g_nil ?_
  | refine g_setLn (by first | assumption | exact upd_same) (by decide) (by with_unfolding_all exact rfl) ?_
  | refine p_2_61 ?_
  | refine p_10_18 ?_
  | refine p_10_15 ?_
  | refine p_10_30 ?_
  | refine p_10_29 ?_
  | refine iteT ?_
  | refine iteF ?_
  | refine ite_nt ?_
  | refine ite_nf ?_
  | refine ⟨_, rfl, ?_⟩
  | refine ⟨⟨_, rfl⟩, ?_⟩))
local macro_rules | `(tactic| walk_at "w") => `(tactic| (repeat walk_at "w1"))

/-! ### what is raised, by name and value -/
def t_law_error (K : PySem.W.Frag) : TS := (tSeq (tTry K "DrillError" 4 (fun _ _ _ _ => False) (fun W => (tIfS (tTest (tOp rEq (tVar 0) (tC (.int 0)))) (tDrop (tCallS (sp_count_colours K) (WE W) (tCons (tVar 3) tNil))) (tIfS (tTest (tOp rEq (tVar 0) (tC (.int 1)))) (tDrop (tCallS (sp_run_on_counts K) (WE W) (tCons (tVar 1) (tCons (tVar 2) tNil)))) (tDrop (tCallS (sp_colour_after K) (WE W) (tCons (tVar 1) (tCons (tVar 2) (tCons (tVar 3) tNil)))))))) (fun a cls d => (tSeq (tAsg (tLst (tCons (tCB (rIsA K a cls d) (tCons (tVar 4) (tCons (tC (.ref (He.ga K "BadRow"))) tNil))) (tCons (tCB (rIsA K a cls d) (tCons (tVar 4) (tCons (tC (.ref (He.ga K "BadCall"))) tNil))) (tCons (tCB (rIsA K a cls d) (tCons (tVar 4) (tCons (tC (.ref (He.ga K "BadCounts"))) tNil))) (tCons (tCB (rIsA K a cls d) (tCons (tVar 4) (tCons (tC (.ref (He.ga K "BadColour"))) tNil))) tNil))))) (gName 5))
    (tSeq (tIfS (tOr (tB (tCB (rIsA K a cls d) (tCons (tVar 4) (tCons (tTup (tCons (tC (.ref (He.ga K "BadGoal"))) (tCons (tC (.ref (He.ga K "BadIndex"))) (tCons (tC (.ref (He.ga K "BadText"))) (tCons (tC (.ref (He.ga K "BadTimes"))) tNil))))) tNil)))) (tTest (tOp rNe (tBM K "list" (rCntF K) (tVar 5) (tCons (tC (.bl true)) tNil)) (tC (.int 1))))) (tRet (tTup (tCons (tC (.str "other")) (tCons (tC .non) tNil)))) tNext)
    (tRet (tIf (tB (tCB (rIsA K a cls d) (tCons (tVar 4) (tCons (tC (.ty "ValueError")) tNil)))) (tTup (tCons (tOp (rIxL K) (tLst (tCons (tC (.str "row")) (tCons (tC (.str "call")) (tCons (tC (.str "counts")) (tCons (tC (.str "colour")) tNil))))) (tBM K "list" (rIndex K) (tVar 5) (tCons (tC (.bl true)) tNil))) (tCons (tXfA K a cls d "value" (tVar 4)) tNil))) (tC .non)))))))
    (tRet (tC .non)))

def ts_err (K : PySem.W.Frag) : Addr → Value → Option Addr → TS := (fun a cls d => (tSeq (tAsg (tLst (tCons (tCB (rIsA K a cls d) (tCons (tVar 4) (tCons (tC (.ref (He.ga K "BadRow"))) tNil))) (tCons (tCB (rIsA K a cls d) (tCons (tVar 4) (tCons (tC (.ref (He.ga K "BadCall"))) tNil))) (tCons (tCB (rIsA K a cls d) (tCons (tVar 4) (tCons (tC (.ref (He.ga K "BadCounts"))) tNil))) (tCons (tCB (rIsA K a cls d) (tCons (tVar 4) (tCons (tC (.ref (He.ga K "BadColour"))) tNil))) tNil))))) (gName 5))
    (tSeq (tIfS (tOr (tB (tCB (rIsA K a cls d) (tCons (tVar 4) (tCons (tTup (tCons (tC (.ref (He.ga K "BadGoal"))) (tCons (tC (.ref (He.ga K "BadIndex"))) (tCons (tC (.ref (He.ga K "BadText"))) (tCons (tC (.ref (He.ga K "BadTimes"))) tNil))))) tNil)))) (tTest (tOp rNe (tBM K "list" (rCntF K) (tVar 5) (tCons (tC (.bl true)) tNil)) (tC (.int 1))))) (tRet (tTup (tCons (tC (.str "other")) (tCons (tC .non) tNil)))) tNext)
    (tRet (tIf (tB (tCB (rIsA K a cls d) (tCons (tVar 4) (tCons (tC (.ty "ValueError")) tNil)))) (tTup (tCons (tOp (rIxL K) (tLst (tCons (tC (.str "row")) (tCons (tC (.str "call")) (tCons (tC (.str "counts")) (tCons (tC (.str "colour")) tNil))))) (tBM K "list" (rIndex K) (tVar 5) (tCons (tC (.bl true)) tNil))) (tCons (tXfA K a cls d "value" (tVar 4)) tNil))) (tC .non))))))
theorem ExtU.upd {S H S' H' : Hp} {q : Addr} {o : HO} (ex : Ext S H S' H') (hq : H' q = none) : Ext S H S' (L2.upd H' q o) := ⟨ex.s, fun b u e => same_upd hq _ _ (ex.sub b u e), fun b u e => same_upd hq _ _ (ex.h b u e), ex.new⟩
theorem vals_refs : ∀ {as : List Addr} {us : List Value}, Vals (as.map V.ref) us → us = as.map Value.ref
  | [], _, r => by cases r; rfl
  | a :: as, _, r => by
    cases r with
    | cons h t =>
      cases h
      rw [vals_refs t]; rfl
theorem w_one {K : PySem.W.Frag} {ea q D : Addr} {b : Bool} {m : Str} {fs : List (Str × V)} {H : Hp} {Q : VK} (C : ExcC K D) (hq : H q = some (.xd fs)) (hk : PySem.W.kitOne K (.ref D) (.ref (He.ga K m)) = some b) (h : Q (.bl b) H) : rIsA K ea (.ref D) (some q) [.ref ea, .ref (He.ga K m)] H Q :=
  ⟨D, q, rfl, rfl, C, _, b, fs, rfl, hq, .inl ⟨_, fun u r => r, hk⟩, h⟩
theorem w_ty {K : PySem.W.Frag} {ea q D : Addr} {b : Bool} {m : String} {fs : List (Str × V)} {H : Hp} {Q : VK} (C : ExcC K D) (hq : H q = some (.xd fs)) (hk : PySem.W.kitOne K (.ref D) (.type m) = some b) (h : Q (.bl b) H) : rIsA K ea (.ref D) (some q) [.ref ea, .ty m] H Q :=
  ⟨D, q, rfl, rfl, C, _, b, fs, rfl, hq, .inl ⟨_, fun u r => r, hk⟩, h⟩
theorem suite_err {K : PySem.W.Frag} {nm word : Str} {b1 b2 b3 b4 : Bool} {j : Nat} {P : Da → Prop} {Q : VK} {S H S' H' : Hp} {D : Ends} {v v0 v1 v2 v3 : V} {d : Da} {q : Addr} (X : ExF K nm "DrillError" true)
    (Y : IsF K nm [("DrillError", true), ("BadRow", b1), ("BadCall", b2), ("BadCounts", b3), ("BadColour", b4)] [("ValueError", true)] [(["BadGoal", "BadIndex", "BadText", "BadTimes"], false)])
    (hc : ([V.bl b1, .bl b2, .bl b3, .bl b4].countP fun z => eqV z (.bl true)) = 1) (hj : [V.bl b1, .bl b2, .bl b3, .bl b4][j]? = some (.bl true)) (hn : ∀ m z', m < j → [V.bl b1, .bl b2, .bl b3, .bl b4][m]? = some z' → eqV z' (.bl true) = false)
    (hw : [V.str "row", .str "call", .str "counts", .str "colour"][j]? = some (.str word)) (k : ∀ v d S' H', P d → Ext S H S' H' → De K S' v d → Q v H') (hP : P (.tup [.str word, d])) (ex : Ext S H S' H') (hv : De K S' v d) (hq : H' q = none) (hD : D.rt = Q) :
    wAs K (.ref (He.ga K "DrillError")) 4 (ts_err K) (fun _ _ _ _ => False) D (.ref (He.ga K nm)) (some q) [some v0, some v1, some v2, some v3, none, none] (upd H' q (.xd [("value", v)])) := by
  unfold ts_err
  refine w_caught X.exm fun ea hea => ?_
  have C := Y.ec
  have k1 := Y.one ("BadRow", b1) (List.mem_cons_of_mem _ List.mem_cons_self)
  have k2 := Y.one ("BadCall", b2) (List.mem_cons_of_mem _ (List.mem_cons_of_mem _ List.mem_cons_self))
  have k3 := Y.one ("BadCounts", b3) (List.mem_cons_of_mem _ (List.mem_cons_of_mem _ (List.mem_cons_of_mem _ List.mem_cons_self)))
  have k4 := Y.one ("BadColour", b4) (List.mem_cons_of_mem _ (List.mem_cons_of_mem _ (List.mem_cons_of_mem _ (List.mem_cons_of_mem _ List.mem_cons_self))))
  have k5 := Y.ty ("ValueError", true) List.mem_cons_self
  have k6 := Y.any (["BadGoal", "BadIndex", "BadText", "BadTimes"], false) List.mem_cons_self
  dsimp only at k1 k2 k3 k4 k5 k6
  have ex0 : Ext S H S' (upd H' q (.xd [("value", v)])) := ExtU.upd ex hq
  have hq0 : upd H' q (.xd [("value", v)]) q = some (.xd [("value", v)]) := upd_same
  generalize upd H' q (.xd [("value", v)]) = H0 at *
  walk_at "w"
  refine w_one C hq0 k1 ?_
  walk_at "w"
  refine w_one C hq0 k2 ?_
  walk_at "w"
  refine w_one C hq0 k3 ?_
  walk_at "w"
  refine w_one C hq0 k4 ?_
  walk_at "w"
  refine ⟨len_ok rfl, fun p hp => ?_⟩
  have hpq : q ≠ p := fun e => by rw [e, hp] at hq0; cases hq0
  have ex1 := ExtU.upd (o := .lst [V.bl b1, .bl b2, .bl b3, .bl b4]) ex0 hp
  have hq1 := (upd_ne (H := H0) (o := .lst [V.bl b1, .bl b2, .bl b3, .bl b4]) hpq).trans hq0
  have hl1 : upd H0 p (.lst [V.bl b1, .bl b2, .bl b3, .bl b4]) p = some (.lst [V.bl b1, .bl b2, .bl b3, .bl b4]) := upd_same
  generalize upd H0 p (.lst [V.bl b1, .bl b2, .bl b3, .bl b4]) = H1 at *
  walk_at "w"
  refine ⟨len_ok rfl, fun p2 hp2 => ?_⟩
  have hpq2 : q ≠ p2 := fun e => by rw [e, hp2] at hq1; cases hq1
  have hpl2 : p ≠ p2 := fun e => by rw [e, hp2] at hl1; cases hl1
  have ex2 := ExtU.upd (o := .tup [.ref (He.ga K "BadGoal"), .ref (He.ga K "BadIndex"), .ref (He.ga K "BadText"), .ref (He.ga K "BadTimes")]) ex1 hp2
  have hq2 := (upd_ne (H := H1) (o := .tup [.ref (He.ga K "BadGoal"), .ref (He.ga K "BadIndex"), .ref (He.ga K "BadText"), .ref (He.ga K "BadTimes")]) hpq2).trans hq1
  have hl2 := (upd_ne (H := H1) (o := .tup [.ref (He.ga K "BadGoal"), .ref (He.ga K "BadIndex"), .ref (He.ga K "BadText"), .ref (He.ga K "BadTimes")]) hpl2).trans hl1
  have ht2 : upd H1 p2 (.tup [.ref (He.ga K "BadGoal"), .ref (He.ga K "BadIndex"), .ref (He.ga K "BadText"), .ref (He.ga K "BadTimes")]) p2 = some (.tup [.ref (He.ga K "BadGoal"), .ref (He.ga K "BadIndex"), .ref (He.ga K "BadText"), .ref (He.ga K "BadTimes")]) := upd_same
  generalize upd H1 p2 (.tup [.ref (He.ga K "BadGoal"), .ref (He.ga K "BadIndex"), .ref (He.ga K "BadText"), .ref (He.ga K "BadTimes")]) = H2 at *
  walk_at "w"
  refine ⟨_, q, rfl, rfl, C, _, false, _, rfl, hq2, .inr ⟨p2, _, _, rfl, SqT.of ht2, fun us r => vals_refs (as := [He.ga K "BadGoal", He.ga K "BadIndex", He.ga K "BadText", He.ga K "BadTimes"]) r, k6⟩, ?_⟩
  walk_at "w"
  refine ⟨ty_list hl2, ?_⟩
  walk_at "w"
  refine ⟨p, _, _, rfl, rfl, SqL.of hl2, rfl, rfl, ?_⟩
  rw [hc]
  have e1 : (!decide (V.int ((1 : Nat) : Int) = V.int 1)) = false := by rw [decide_eq_true (show V.int ((1 : Nat) : Int) = V.int 1 from rfl)]; rfl
  walk_at "w"
  rw [e1]
  walk_at "w"
  refine w_ty C hq2 k5 ?_
  walk_at "w"
  refine ⟨len_ok rfl, fun p3 hp3 => ?_⟩
  have hpq3 : q ≠ p3 := fun e => by rw [e, hp3] at hq2; cases hq2
  have hpl3 : p ≠ p3 := fun e => by rw [e, hp3] at hl2; cases hl2
  have ex3 := ExtU.upd (o := .lst [V.str "row", .str "call", .str "counts", .str "colour"]) ex2 hp3
  have hq3 := (upd_ne (H := H2) (o := .lst [V.str "row", .str "call", .str "counts", .str "colour"]) hpq3).trans hq2
  have hl3 := (upd_ne (H := H2) (o := .lst [V.str "row", .str "call", .str "counts", .str "colour"]) hpl3).trans hl2
  have hw3 : upd H2 p3 (.lst [V.str "row", .str "call", .str "counts", .str "colour"]) p3 = some (.lst [V.str "row", .str "call", .str "counts", .str "colour"]) := upd_same
  generalize upd H2 p3 (.lst [V.str "row", .str "call", .str "counts", .str "colour"]) = H3 at *
  walk_at "w"
  refine ⟨ty_list hl3, ?_⟩
  walk_at "w"
  refine ⟨p, _, _, j, _, rfl, rfl, SqL.of hl3, rfl, rfl, hj, rfl, hn, ?_⟩
  refine o_ixL hw3 hw ?_
  walk_at "w"
  refine w_xf (fun Q q => w_var (by with_unfolding_all exact rfl) q) X.xf X.nov hq3 rfl ?_
  walk_at "w"
  refine ⟨len_ok rfl, fun p4 hp4 => ?_⟩
  show D.rt (.ref p4) _
  rw [hD]
  have hv3 : De K S' v d := hv
  exact k _ _ _ _ hP (ex3.trans (Ext.mk1 ex3.sub hp4)) (.tup upd_same (.cons (.str _) (.cons (hv3.mono (Ext.mk1 ex3.sub hp4).s) .nil)))
theorem ite_vT {a b : Int} {A B : Prop} (h : a = b) (q : A) : if decide (V.int a = V.int b) = true then A else B := by
  rw [h, if_pos (decide_eq_true rfl)]
  exact q
theorem ite_vF {a b : Int} {A B : Prop} (h : a ≠ b) (q : B) : if decide (V.int a = V.int b) = true then A else B := by
  rw [if_neg (fun e => h (V.int.inj (of_decide_eq_true e)))]
  exact q
/-! the result -/
def resE (o : Nat) (cs : List Cal) (ns : List Int) (z : Str) (l : List Nat) : Da :=
  if o = 0 then (match badR l with
    | some i => .tup [.str "row", .int (i : Nat)]
    | none => .non)
  else match badC cs with
    | some i => .tup [.str "call", .int (i : Nat)]
    | none => match badN ns with
      | some v => .tup [.str "counts", optN v]
      | none => if o = 1 then .non else if isColS z = true then .non else .tup [.str "colour", .str z]
def f_law_error : FP := fun ds P => ∃ (o : Nat) (g : Bool) (cs : List Cal) (ns : List Int) (z : Str) (l : List Nat), ds = [.int (o : Nat), drDa g cs, .lst (ns.map Da.int), .str z] ∧ o ≤ 2 ∧ (∀ c ∈ cs, calLen c ≤ 100000) ∧ ns.length ≤ 1000 ∧ z.length ≤ 100000 ∧ (o = 0 → z = sN l) ∧ P (resE o cs ns z l)
theorem len_law_error : ∀ ds P, f_law_error ds P → ds.length = 4 := by
  rintro ds P ⟨o, g, cs, ns, z, l, rfl, _⟩
  rfl
def sp_law_error (K : PySem.W.Frag) : Sp := fun vs H Q E => vs.length = 4 ∧ spP K f_law_error vs H Q E
theorem co_law_error {K : PySem.W.Frag} {W : Wo} {E : XK} : CallOk K W (sp_law_error K) [] E (FP.d f_law_error) := call_pn len_law_error
theorem optN_De {K : PySem.W.Frag} {S : Hp} : ∀ o : Option Nat, (optN o).scl = true
  | none => rfl
  | some _ => rfl
theorem pure_law_error {K : PySem.W.Frag} {vs : List V} {H : Hp} {Q : VK} {E : XK} (X1 : ExF K "BadRow" "DrillError" true) (X2 : ExF K "BadCall" "DrillError" true) (X3 : ExF K "BadCounts" "DrillError" true) (X4 : ExF K "BadColour" "DrillError" true)
    (Y1 : IsF K "BadRow" [("DrillError", true), ("BadRow", true), ("BadCall", false), ("BadCounts", false), ("BadColour", false)] [("ValueError", true)] [(["BadGoal", "BadIndex", "BadText", "BadTimes"], false)])
    (Y2 : IsF K "BadCall" [("DrillError", true), ("BadRow", false), ("BadCall", true), ("BadCounts", false), ("BadColour", false)] [("ValueError", true)] [(["BadGoal", "BadIndex", "BadText", "BadTimes"], false)])
    (Y3 : IsF K "BadCounts" [("DrillError", true), ("BadRow", false), ("BadCall", false), ("BadCounts", true), ("BadColour", false)] [("ValueError", true)] [(["BadGoal", "BadIndex", "BadText", "BadTimes"], false)])
    (Y4 : IsF K "BadColour" [("DrillError", true), ("BadRow", false), ("BadCall", false), ("BadCounts", false), ("BadColour", true)] [("ValueError", true)] [(["BadGoal", "BadIndex", "BadText", "BadTimes"], false)])
    (h : sp_law_error K vs H Q E) : t_law_error K { nx := fun _ H' => Q .non H', rt := Q } (L2.start ["door", "orders", "numbers", "text", "e", "some"] vs) H := by
  obtain ⟨_, S, ds, P, s, hd, ⟨o, g, cs, ns, z, l, rfl, ho, hcal, hnl, hz, h0, hP⟩, k⟩ := h
  cases hd with
  | @cons v0 _ _ _ d0 hd =>
  cases hd with
  | @cons v1 _ _ _ d1 hd =>
  cases hd with
  | @cons v2 _ _ _ d2 hd =>
  cases hd with
  | @cons v3 _ _ _ d3 hd =>
  cases hd
  obtain rfl := d0.int_inv
  unfold t_law_error
  refine z_tryM (fun σ' H' => P .non ∧ ∃ S', Ext S H S' H') (fun σ' H' ⟨hP, S', ex⟩ => ?_) (fun R hR => ?_)
  · walk_at "w"
    exact k _ _ _ _ hP ex .non
  · -- what the calls may raise
    have sui : ∀ (nm : Str) (d : Da), (nm = "BadRow" ∧ P (.tup [.str "row", d]) ∨ nm = "BadCall" ∧ P (.tup [.str "call", d]) ∨ nm = "BadCounts" ∧ P (.tup [.str "counts", d]) ∨ nm = "BadColour" ∧ P (.tup [.str "colour", d])) → ∀ {S' H' : Hp} {v : V} {q : Addr} {D : Ends}, Ext S H S' H' → De K S' v d → H' q = none → D.rt = Q →
        wAs K (.ref (He.ga K "DrillError")) 4 (ts_err K) (fun _ _ _ _ => False) D (.ref (He.ga K nm)) (some q) [some (.int (o : Nat)), some v1, some v2, some v3, none, none] (upd H' q (.xd [("value", v)])) := by
      intro nm d hx S' H' v q D ex hv hq hD
      rcases hx with ⟨rfl, hp⟩ | ⟨rfl, hp⟩ | ⟨rfl, hp⟩ | ⟨rfl, hp⟩
      · exact suite_err (j := 0) X1 Y1 rfl rfl (fun m z' h => absurd h (Nat.not_lt_zero m)) rfl k hp ex hv hq hD
      · exact suite_err (j := 1) X2 Y2 rfl rfl (fun m z' h e => by
          obtain rfl : m = 0 := by omega
          cases e
          rfl) rfl k hp ex hv hq hD
      · exact suite_err (j := 2) X3 Y3 rfl rfl (fun m z' h e => by
          have : m = 0 ∨ m = 1 := by omega
          rcases this with rfl | rfl <;> cases e <;> rfl) rfl k hp ex hv hq hD
      · exact suite_err (j := 3) X4 Y4 rfl rfl (fun m z' h e => by
          have : m = 0 ∨ m = 1 ∨ m = 2 := by omega
          rcases this with rfl | rfl | rfl <;> cases e <;> rfl) rfl k hp ex hv hq hD
    have inv := fun (v : V) (d : Da) (S' H' : Hp) (hp : P .non) (ex : Ext S H S' H') (hv : De K S' v d) => hR [some (.int (o : Nat)), some v1, some v2, some v3, none, none] H' ⟨hp, S', ex⟩
    walk_at "w"
    by_cases ho0 : o = 0
    · refine ite_vT (by rw [ho0]; rfl) ?_
      walk_at "w"
      have ez := h0 ho0
      subst ez
      refine ⟨v3, rfl, ?_⟩
      refine ⟨rfl, S, [.str (sN l)], fun _ => P .non, _, s, .cons d3 .nil, ⟨l, rfl, ?_⟩, fun v d S' H' hp ex hv => inv v d S' H' hp ex hv, fun nm v d q S' H' hx ex hv hq => sui nm d hx ex hv hq rfl⟩
      unfold resE at hP
      rw [if_pos ho0] at hP
      cases hb : badR l with
      | some i =>
        rw [hb] at hP
        exact .inl ⟨rfl, hP⟩
      | none =>
        rw [hb] at hP
        exact hP
    refine ite_vF (by omega) ?_
    walk_at "w"
    unfold resE at hP
    rw [if_neg ho0] at hP
    by_cases ho1 : o = 1
    · refine ite_vT (by rw [ho1]; rfl) ?_
      walk_at "w"
      refine ⟨v1, rfl, v2, rfl, ?_⟩
      refine ⟨rfl, S, [drDa g cs, .lst (ns.map Da.int)], fun _ => P .non, _, s, .cons d1 (.cons d2 .nil), ⟨g, cs, ns, rfl, hcal, hnl, ?_⟩, fun v d S' H' hp ex hv => inv v d S' H' hp ex hv, fun nm v d q S' H' hx ex hv hq => sui nm d hx ex hv hq rfl⟩
      cases hb : badC cs with
      | some i =>
        rw [hb] at hP
        exact .inr (.inl ⟨rfl, hP⟩)
      | none =>
        rw [hb] at hP
        cases hn : badN ns with
        | some v =>
          rw [hn] at hP
          exact .inr (.inr (.inl ⟨rfl, hP⟩))
        | none =>
          rw [hn, if_pos ho1] at hP
          exact hP
    refine ite_vF (by omega) ?_
    walk_at "w"
    refine ⟨v1, rfl, v2, rfl, v3, rfl, ?_⟩
    refine ⟨rfl, S, [drDa g cs, .lst (ns.map Da.int), .str z], fun _ => P .non, _, s, .cons d1 (.cons d2 (.cons d3 .nil)), ⟨g, cs, ns, z, rfl, hcal, hnl, hz, ?_⟩, fun v d S' H' hp ex hv => inv v d S' H' hp ex hv, fun nm v d q S' H' hx ex hv hq => sui nm d hx ex hv hq rfl⟩
    cases hb : badC cs with
    | some i =>
      rw [hb] at hP
      exact .inr (.inl ⟨rfl, hP⟩)
    | none =>
      rw [hb] at hP
      cases hn : badN ns with
      | some v =>
        rw [hn] at hP
        exact .inr (.inr (.inl ⟨rfl, hP⟩))
      | none =>
        rw [hn, if_neg ho1] at hP
        show if isColS z = true then _ else _
        by_cases hc : isColS z = true
        · rw [if_pos hc] at hP ⊢
          obtain ⟨c, e, _⟩ := isColS_inv hc
          exact ⟨c, e, hP⟩
        · rw [if_neg hc] at hP ⊢
          exact .inr (.inr (.inr ⟨rfl, hP⟩))
end Q

set_option Elab.async false
set_option linter.all false
set_option maxRecDepth 100000
set_option maxHeartbeats 4000000
namespace Q
open PySem PySem.Spec PyProof.Rows L2
/-! the steps' tactic on data -/
local macro_rules | `(tactic| walk_at "fi") => `(tactic| (simp only [List.set_cons_zero, List.set_cons_succ]; rfl))
local macro_rules | `(tactic| walk_at "f1") => `(tactic| first | exact fz_kd | exact pk_kd | exact fz_stl (by first | assumption | with_unfolding_all exact rfl | exact calDa_stl) | exact pk_stl (by first | assumption | with_unfolding_all exact rfl | exact calDa_stl) | exact pk_own (by with_unfolding_all exact rfl) | exact pk_ownD (by with_unfolding_all exact rfl) | (apply fz_own; (with_unfolding_all exact rfl); (walk_at "fi")) | (apply fz_ownD; (with_unfolding_all exact rfl); (walk_at "fi")))
local macro_rules | `(tactic| walk_at "f") => `(tactic| first | walk_at "f1" | exact fzs_nil | exact fzs_stl (by with_unfolding_all exact rfl) | (apply fzs_cons; (walk_at "f1"); (walk_at "f")))
local macro_rules | `(tactic| walk_at "d1") => `(tactic| (with_reducible first
  | (apply n_put; (simp only [List.set_cons_zero, List.set_cons_succ]; rfl))
  | (apply n_putE; (simp only [List.set_cons_zero, List.set_cons_succ]; rfl))
  | (apply n_put2; (simp only [List.set_cons_zero, List.set_cons_succ]; rfl); (simp only [List.set_cons_zero, List.set_cons_succ]; rfl))
  | (apply n_wp1; (simp only [List.set_cons_zero, List.set_cons_succ]; rfl))
  | (apply n_wp1E; (simp only [List.set_cons_zero, List.set_cons_succ]; rfl))
  | (apply n_wp2; (simp only [List.set_cons_zero, List.set_cons_succ]; rfl); (simp only [List.set_cons_zero, List.set_cons_succ]; rfl))
  | (apply n_wp2E; (simp only [List.set_cons_zero, List.set_cons_succ]; rfl); (simp only [List.set_cons_zero, List.set_cons_succ]; rfl))
  | (apply n_wp3; (simp only [List.set_cons_zero, List.set_cons_succ]; rfl); (simp only [List.set_cons_zero, List.set_cons_succ]; rfl); (simp only [List.set_cons_zero, List.set_cons_succ]; rfl))
  | (apply n_wp3E; (simp only [List.set_cons_zero, List.set_cons_succ]; rfl); (simp only [List.set_cons_zero, List.set_cons_succ]; rfl); (simp only [List.set_cons_zero, List.set_cons_succ]; rfl))
  | refine n_tick ?_
  | refine n_tickE ?_
  | refine s_seq ?_
  | refine k_op ?_
  | (apply k_var; (with_unfolding_all exact rfl))
  | (apply k_varO; (with_unfolding_all exact rfl))
  | (apply k_varD; (with_unfolding_all exact rfl))
  | refine k_c ?_
  | refine k_AddI ?_
  | refine k_SubI ?_
  | refine k_LtI ?_
  | refine k_LeI ?_
  | refine k_GtI ?_
  | refine k_GeI ?_
  | refine k_NegI ?_
  | refine k_ip ?_
  | (apply k_Eq; (with_unfolding_all exact rfl))
  | (apply k_Ne; (with_unfolding_all exact rfl))
  | refine k_InC ?_
  | refine k_NotInC ?_
  | (apply k_IsN; (with_unfolding_all exact rfl))
  | (apply k_NotN; (with_unfolding_all exact rfl))
  | refine k_Max2 ?_
  | refine k_Min2 ?_
  | refine k_Int1b ?_
  | refine k_Int1i ?_
  | refine k_Abs ?_
  | refine k_Count ?_
  | (apply k_LenL; (with_unfolding_all exact rfl))
  | (apply k_ListL; (with_unfolding_all exact rfl))
  | (apply k_pk2; (walk_at "f"); (walk_at "f"))
  | (apply k_pk1; (walk_at "f"))
  | (apply k_pk2N; (walk_at "f"); (walk_at "f"))
  | (apply k_pkM; (walk_at "f"))
  | (apply k_mp1; (walk_at "f"))
  | (apply k_mp2; (walk_at "f"); (walk_at "f"))
  | (apply k_mp1N; (walk_at "f"))
  | refine k_un ?_
  | refine k_new ?_
  | refine k_opN ?_
  | refine k_nil ?_
  | refine k_cons ?_
  | refine k_cb ?_
  | refine k_cbN ?_
  | refine k_call ?_
  | refine k_callB ?_
  | refine k_kw ?_
  | refine k_kwB ?_
  | (apply k_cF; (walk_at "f"))
  | (apply k_cB; (walk_at "f"))
  | (apply k_kF; (with_unfolding_all exact rfl); (walk_at "f"); (with_unfolding_all exact rfl))
  | (apply k_kB; (with_unfolding_all exact rfl); (walk_at "f"); (with_unfolding_all exact rfl))
  | refine k_tup ?_
  | refine k_lst ?_
  | (apply k_mkT; (with_unfolding_all exact rfl); (walk_at "f"))
  | (apply k_mkL; (with_unfolding_all exact rfl); (walk_at "f"))
  | refine k_bE ?_
  | (apply k_bl; (with_unfolding_all exact rfl))
  | refine k_and ?_
  | refine k_or ?_
  | refine k_not ?_
  | refine k_yes ?_
  | refine k_if ?_
  | refine k_andV ?_
  | refine k_orV ?_
  | refine k_notV ?_
  | refine k_chain ?_
  | refine k_oNo ?_
  | refine k_oPart ?_
  | (apply k_int; (walk_at "f"))
  | refine k_slL ?_
  | (apply k_asl; (walk_at "f"); (with_unfolding_all exact rfl))
  | refine k_slS ?_
  | (apply k_strP; (walk_at "f"))
  | refine k_m1 ?_
  | refine k_mu ?_
  | refine k_bl0 ?_
  | refine k_mu0 ?_
  | (apply k_mu1; (with_unfolding_all exact rfl))
  | (apply k_mu2; (walk_at "f"); (with_unfolding_all exact rfl))
  | refine s_next ?_
  | refine s_drop ?_
  | refine s_ret ?_
  | (apply s_fz; (walk_at "f"))
  | refine s_retN ?_
  | refine s_asg ?_
  | refine s_asgN ?_
  | refine s_break ?_
  | refine s_cont ?_
  | refine s_aug ?_
  | refine s_par ?_
  | (apply s_par2; (walk_at "f"))
  | refine s_for ?_
  | refine s_lc ?_
  | (apply g_nm; (walk_at "f"))
  | refine g_nl ?_
  | refine g_cn ?_
  | (apply g_tp; (walk_at "f"); (first | exact calDa_asT | with_unfolding_all exact rfl); (with_unfolding_all exact rfl))
  | (apply g_sl; (walk_at "f"))
  | refine i_list ?_
  | (apply i_asl; (walk_at "f"); (with_unfolding_all exact rfl))
  | refine i_tup ?_
  | (apply i_ast; (walk_at "f"); (with_unfolding_all exact rfl))
  | refine i_str ?_
  | refine i_rng1 ?_
  | refine i_rng2 ?_
  | refine i_rng3 ?_
  | (apply i_r3; (walk_at "f"); (walk_at "f"); (walk_at "f"))
  | refine i_enum ?_
  | (apply i_en; (walk_at "f"); (with_unfolding_all exact rfl))
  | (apply i_zp; (walk_at "f"); (with_unfolding_all exact rfl); (with_unfolding_all exact rfl))
  | refine i_enumS ?_
  | (apply i_enS; (walk_at "f"))
  | refine i_zip ?_
  | refine i_zipS ?_
  | (apply i_zpS; (walk_at "f"); (with_unfolding_all exact rfl))
  | refine k_dget ?_
  | (apply k_onD; (walk_at "f"))
  | (apply k_onK; (walk_at "f"); (with_unfolding_all exact rfl))
  | (apply k_onOD; (with_unfolding_all exact rfl))
  | (apply g_sd; (walk_at "f"))
  | refine s_dput ?_
  | refine s_daug ?_
  | refine k_newD ?_
  | refine s_asgD ?_
  | refine k_dzip ?_
  | refine k_lvals ?_
  | refine k_on2 ?_
  | refine k_on1 ?_
  | refine k_onStr0 ?_
  | refine k_onInt0 ?_
  | (apply i_onL; (with_unfolding_all exact rfl))
  | refine k_10_5 ?_
  | refine k_10_6 ?_
  | refine k_10_9 ?_
  | refine k_10_15 ?_
  | refine k_10_18 ?_
  | refine k_10_29 ?_
  | refine k_10_30 ?_
  | refine k_2_61 ?_
  | refine k_ml ?_
  | (apply k_ml1; (walk_at "f"); (with_unfolding_all exact rfl))
  | (apply k_ml2; (walk_at "f"); (with_unfolding_all exact rfl))
  | (apply k_mpL; (walk_at "f"))
  | refine k_Sum ?_
  | refine k_lenSet ?_
  | refine i_sl ?_
  | (apply i_slF; (walk_at "f"); (with_unfolding_all exact rfl))
  | refine k_dget2 ?_
  | refine k_newK ?_
  | refine k_disp2 ?_
  | refine s_raise ?_
  | refine s_dropX ?_
  | refine s_retX ?_
  | refine k_lenSetL ?_
  | refine k_revL ?_
  | (apply k_pkL; (walk_at "f"); (with_unfolding_all exact rfl))
  | refine s_asgD ?_
  | (apply k_varT; (with_unfolding_all exact rfl))
  | refine k_slT ?_
  | (apply k_onT; (walk_at "f"))
  | refine k_dget2T ?_
  | refine k_dgetT ?_
  | refine k_sumVals ?_
  | refine k_newT ?_
  | refine k_disp1T ?_
  | (apply k_onOT; (with_unfolding_all exact rfl))
  | (apply k_onOwn; (with_unfolding_all exact rfl); (with_unfolding_all exact rfl))
  | (apply k_TupL; (with_unfolding_all exact rfl))
  | refine s_asgT ?_
  | refine s_dputT ?_
  | refine s_move ?_
  | refine s_forT ?_
  | refine ite_nsame ?_
  | refine ite_same ?_
  | (refine ite_dF ?_ ?_; (with_unfolding_all decide +kernel))
  | (refine ite_dT ?_ ?_; (with_unfolding_all decide +kernel))
  | refine iteT ?_
  | refine iteF ?_
  | refine ite_nt ?_
  | refine ite_nf ?_))
local macro_rules | `(tactic| walk_at "d") => `(tactic| (repeat (first | walk_at "d1" | with_reducible refine s_if ?_)))
local macro_rules | `(tactic| walk_at "di") => `(tactic| (repeat walk_at "d1"))
local macro_rules | `(tactic| walk_at "s") => `(tactic| (simp only [δ0, List.map_cons, List.map_nil, List.length_cons, List.length_nil, List.replicate, List.cons_append, List.nil_append, Nat.reduceAdd, Nat.reduceSub]; walk_at "d"))

theorem s_isA {c : DT} {a b : DE} {g : DG} {D : DD} {st : Ds} (q : cAsg (eIf c a b) g D st) : cAsg (eIf c a b) g D st := q
local macro_rules | `(tactic| walk_at "da") => `(tactic| (repeat (fail_if_success (with_reducible refine s_isA ?_); walk_at "d1")))
theorem s_asgJ {e : DE} {g : DG} {D : DD} {st : Ds} (J : Ds → Prop) (hJ : ∀ st, J st → D.nx st) (q : ∀ R : Ds → Prop, (∀ st, J st → R st) → e st fun d st1 => g d st1 R) : cAsg e g D st := q D.nx hJ
theorem sN_app (a b : List Nat) : sN a ++ sN b = sN (a ++ b) := by
  show (⟨a.toArray ++ b.toArray⟩ : Str) = ⟨(a ++ b).toArray⟩
  rw [List.append_toArray]
theorem cutS_from (l : List Nat) (i : Nat) (h : i ≤ l.length) : cutS (sN l) (some (i : Int)) none = sN (l.drop i) := by
  unfold cutS
  rw [HT.sIx_none, HT.sIx_nat, len_sN, Nat.min_eq_left h]
  show (⟨((l.drop i).take (l.length - i)).toArray⟩ : Str) = _
  rw [List.take_of_length_le (by rw [List.length_drop]; omega)]
theorem k_NeE {l : List Da} {R : Da → Prop} (h1 : (Da.lst l).isPy = true) (h2 : Sh 3 (Da.lst l).py) (q : R (.bl (!l.isEmpty))) : fNeD (.lst l) (.lst []) R := by
  refine ⟨h1, rfl, h2.shaped (by omega), (Sh.nil (n := 2)).shaped (by omega), ?_⟩
  cases l with
  | nil => exact q
  | cons x r => exact q
theorem sh_resE {o : Nat} {cs : List Cal} {ns : List Int} {z : Str} {l : List Nat} (hz : PyData.strOk z = true) : (resE o cs ns z l).isPy = true ∧ Sh 3 (resE o cs ns z l).py ∧ (resE o cs ns z l).stl = true := by
  have two : ∀ (w : Str) (d : Da), PyData.strOk w = true → (d = .non ∨ (∃ i : Int, d = .int i) ∨ ∃ y, PyData.strOk y = true ∧ d = .str y) → (Da.tup [.str w, d]).isPy = true ∧ Sh 3 (Da.tup [.str w, d]).py ∧ (Da.tup [.str w, d]).stl = true := by
    intro w d hw hd
    have key : ∀ p : PyData, Sh 2 p → Sh 3 (.tuple [.str w, p]) := fun p hp => Sh.tuple (by show 2 ≤ 100000; omega) fun e m => by
      simp only [List.mem_cons, List.not_mem_nil, or_false] at m
      rcases m with rfl | rfl
      · exact Sh.str hw
      · exact hp
    rcases hd with rfl | ⟨i, rfl⟩ | ⟨y, hy, rfl⟩
    · exact ⟨rfl, key _ Sh.non, rfl⟩
    · exact ⟨rfl, key _ (Sh.int _), rfl⟩
    · exact ⟨rfl, key _ (Sh.str hy), rfl⟩
  have non : (Da.non).isPy = true ∧ Sh 3 (Da.non).py ∧ (Da.non).stl = true := ⟨rfl, Sh.non, rfl⟩
  unfold resE
  split
  · split
    · exact two _ _ (by decide +kernel) (.inr (.inl ⟨_, rfl⟩))
    · exact non
  · split
    · exact two _ _ (by decide +kernel) (.inr (.inl ⟨_, rfl⟩))
    · split
      · rename_i v _
        cases v with
        | none => exact two _ _ (by decide +kernel) (.inl rfl)
        | some i => exact two _ _ (by decide +kernel) (.inr (.inl ⟨_, rfl⟩))
      · split
        · exact non
        · split
          · exact non
          · exact two _ _ (by decide +kernel) (.inr (.inr ⟨z, hz, rfl⟩))
theorem k_NeD_resE {o : Nat} {cs : List Cal} {ns : List Int} {z : Str} {l : List Nat} {R : Da → Prop} (hz : PyData.strOk z = true) (q : R (.bl false)) : fNeD (resE o cs ns z l) (resE o cs ns z l) R := by
  obtain ⟨h1, h2, _⟩ := sh_resE (o := o) (cs := cs) (ns := ns) (l := l) hz
  have h3 := h2.shaped (by omega)
  refine ⟨h1, h1, h3, h3, ?_⟩
  rw [h2.eqv]
  exact q
/-- the first bad sign's place heads the bad ones -/
theorem badR_filt (l : List Nat) : badR l = ((List.range l.length).filter fun i => !isColN (l.getD i 0)).head? := by
  unfold badR
  rw [List.head?_filter]
  cases h : l.findIdx? (fun c => !isColN c) with
  | none =>
    symm
    rw [List.find?_eq_none]
    intro i m
    rw [List.findIdx?_eq_none_iff] at h
    have hi := List.mem_range.mp m
    rw [List.getD_eq_getElem?_getD, List.getElem?_eq_getElem hi]
    show ¬ (!isColN l[i]) = true
    rw [h _ (List.getElem_mem hi)]
    decide
  | some i =>
    symm
    rw [List.findIdx?_eq_some_iff_getElem] at h
    obtain ⟨hi, h1, h2⟩ := h
    rw [List.find?_range_eq_some]
    refine ⟨by rw [List.getD_eq_getElem?_getD, List.getElem?_eq_getElem hi]; exact h1, List.mem_range.mpr hi, fun j hj => ?_⟩
    rw [List.getD_eq_getElem?_getD, List.getElem?_eq_getElem (by omega)]
    have := h2 j hj
    show (!(!isColN l[j])) = true
    cases hc : isColN l[j] with
    | true => rfl
    | false => rw [hc] at this; cases this rfl
end Q

set_option Elab.async false
set_option linter.all false
set_option maxRecDepth 100000
set_option maxHeartbeats 4000000
namespace Q
open PySem PySem.Spec PyProof.Rows L2
/-! the steps' tactic on data -/
local macro_rules | `(tactic| walk_at "fi") => `(tactic| (simp only [List.set_cons_zero, List.set_cons_succ]; rfl))
local macro_rules | `(tactic| walk_at "f1") => `(tactic| first | exact fz_kd | exact pk_kd | exact fz_stl (by first | assumption | with_unfolding_all exact rfl | exact calDa_stl) | exact pk_stl (by first | assumption | with_unfolding_all exact rfl | exact calDa_stl) | exact pk_own (by with_unfolding_all exact rfl) | exact pk_ownD (by with_unfolding_all exact rfl) | (apply fz_own; (with_unfolding_all exact rfl); (walk_at "fi")) | (apply fz_ownD; (with_unfolding_all exact rfl); (walk_at "fi")))
local macro_rules | `(tactic| walk_at "f") => `(tactic| first | walk_at "f1" | exact fzs_nil | exact fzs_stl (by with_unfolding_all exact rfl) | (apply fzs_cons; (walk_at "f1"); (walk_at "f")))
local macro_rules | `(tactic| walk_at "d1") => `(tactic| (with_reducible first
  | (apply n_put; (simp only [List.set_cons_zero, List.set_cons_succ]; rfl))
  | (apply n_putE; (simp only [List.set_cons_zero, List.set_cons_succ]; rfl))
  | (apply n_put2; (simp only [List.set_cons_zero, List.set_cons_succ]; rfl); (simp only [List.set_cons_zero, List.set_cons_succ]; rfl))
  | (apply n_wp1; (simp only [List.set_cons_zero, List.set_cons_succ]; rfl))
  | (apply n_wp1E; (simp only [List.set_cons_zero, List.set_cons_succ]; rfl))
  | (apply n_wp2; (simp only [List.set_cons_zero, List.set_cons_succ]; rfl); (simp only [List.set_cons_zero, List.set_cons_succ]; rfl))
  | (apply n_wp2E; (simp only [List.set_cons_zero, List.set_cons_succ]; rfl); (simp only [List.set_cons_zero, List.set_cons_succ]; rfl))
  | (apply n_wp3; (simp only [List.set_cons_zero, List.set_cons_succ]; rfl); (simp only [List.set_cons_zero, List.set_cons_succ]; rfl); (simp only [List.set_cons_zero, List.set_cons_succ]; rfl))
  | (apply n_wp3E; (simp only [List.set_cons_zero, List.set_cons_succ]; rfl); (simp only [List.set_cons_zero, List.set_cons_succ]; rfl); (simp only [List.set_cons_zero, List.set_cons_succ]; rfl))
  | refine n_tick ?_
  | refine n_tickE ?_
  | refine s_seq ?_
  | refine k_op ?_
  | (apply k_var; (with_unfolding_all exact rfl))
  | (apply k_varO; (with_unfolding_all exact rfl))
  | (apply k_varD; (with_unfolding_all exact rfl))
  | refine k_c ?_
  | refine k_AddI ?_
  | refine k_SubI ?_
  | refine k_LtI ?_
  | refine k_LeI ?_
  | refine k_GtI ?_
  | refine k_GeI ?_
  | refine k_NegI ?_
  | refine k_ip ?_
  | (apply k_Eq; (with_unfolding_all exact rfl))
  | (apply k_Ne; (with_unfolding_all exact rfl))
  | refine k_InC ?_
  | refine k_NotInC ?_
  | (apply k_IsN; (with_unfolding_all exact rfl))
  | (apply k_NotN; (with_unfolding_all exact rfl))
  | refine k_Max2 ?_
  | refine k_Min2 ?_
  | refine k_Int1b ?_
  | refine k_Int1i ?_
  | refine k_Abs ?_
  | refine k_Count ?_
  | (apply k_LenL; (with_unfolding_all exact rfl))
  | (apply k_ListL; (with_unfolding_all exact rfl))
  | (apply k_pk2; (walk_at "f"); (walk_at "f"))
  | (apply k_pk1; (walk_at "f"))
  | (apply k_pk2N; (walk_at "f"); (walk_at "f"))
  | (apply k_pkM; (walk_at "f"))
  | (apply k_mp1; (walk_at "f"))
  | (apply k_mp2; (walk_at "f"); (walk_at "f"))
  | (apply k_mp1N; (walk_at "f"))
  | refine k_un ?_
  | refine k_new ?_
  | refine k_opN ?_
  | refine k_nil ?_
  | refine k_cons ?_
  | refine k_cb ?_
  | refine k_cbN ?_
  | refine k_call ?_
  | refine k_callB ?_
  | refine k_kw ?_
  | refine k_kwB ?_
  | (apply k_cF; (walk_at "f"))
  | (apply k_cB; (walk_at "f"))
  | (apply k_kF; (with_unfolding_all exact rfl); (walk_at "f"); (with_unfolding_all exact rfl))
  | (apply k_kB; (with_unfolding_all exact rfl); (walk_at "f"); (with_unfolding_all exact rfl))
  | refine k_tup ?_
  | refine k_lst ?_
  | (apply k_mkT; (with_unfolding_all exact rfl); (walk_at "f"))
  | (apply k_mkL; (with_unfolding_all exact rfl); (walk_at "f"))
  | refine k_bE ?_
  | (apply k_bl; (with_unfolding_all exact rfl))
  | refine k_and ?_
  | refine k_or ?_
  | refine k_not ?_
  | refine k_yes ?_
  | refine k_if ?_
  | refine k_andV ?_
  | refine k_orV ?_
  | refine k_notV ?_
  | refine k_chain ?_
  | refine k_oNo ?_
  | refine k_oPart ?_
  | (apply k_int; (walk_at "f"))
  | refine k_slL ?_
  | (apply k_asl; (walk_at "f"); (with_unfolding_all exact rfl))
  | refine k_slS ?_
  | (apply k_strP; (walk_at "f"))
  | refine k_m1 ?_
  | refine k_mu ?_
  | refine k_bl0 ?_
  | refine k_mu0 ?_
  | (apply k_mu1; (with_unfolding_all exact rfl))
  | (apply k_mu2; (walk_at "f"); (with_unfolding_all exact rfl))
  | refine s_next ?_
  | refine s_drop ?_
  | refine s_ret ?_
  | (apply s_fz; (walk_at "f"))
  | refine s_retN ?_
  | refine s_asg ?_
  | refine s_asgN ?_
  | refine s_break ?_
  | refine s_cont ?_
  | refine s_aug ?_
  | refine s_par ?_
  | (apply s_par2; (walk_at "f"))
  | refine s_for ?_
  | refine s_lc ?_
  | (apply g_nm; (walk_at "f"))
  | refine g_nl ?_
  | refine g_cn ?_
  | (apply g_tp; (walk_at "f"); (first | exact calDa_asT | with_unfolding_all exact rfl); (with_unfolding_all exact rfl))
  | (apply g_sl; (walk_at "f"))
  | refine i_list ?_
  | (apply i_asl; (walk_at "f"); (with_unfolding_all exact rfl))
  | refine i_tup ?_
  | (apply i_ast; (walk_at "f"); (with_unfolding_all exact rfl))
  | refine i_str ?_
  | refine i_rng1 ?_
  | refine i_rng2 ?_
  | refine i_rng3 ?_
  | (apply i_r3; (walk_at "f"); (walk_at "f"); (walk_at "f"))
  | refine i_enum ?_
  | (apply i_en; (walk_at "f"); (with_unfolding_all exact rfl))
  | (apply i_zp; (walk_at "f"); (with_unfolding_all exact rfl); (with_unfolding_all exact rfl))
  | refine i_enumS ?_
  | (apply i_enS; (walk_at "f"))
  | refine i_zip ?_
  | refine i_zipS ?_
  | (apply i_zpS; (walk_at "f"); (with_unfolding_all exact rfl))
  | refine k_dget ?_
  | (apply k_onD; (walk_at "f"))
  | (apply k_onK; (walk_at "f"); (with_unfolding_all exact rfl))
  | (apply k_onOD; (with_unfolding_all exact rfl))
  | (apply g_sd; (walk_at "f"))
  | refine s_dput ?_
  | refine s_daug ?_
  | refine k_newD ?_
  | refine s_asgD ?_
  | refine k_dzip ?_
  | refine k_lvals ?_
  | refine k_on2 ?_
  | refine k_on1 ?_
  | refine k_onStr0 ?_
  | refine k_onInt0 ?_
  | (apply i_onL; (with_unfolding_all exact rfl))
  | refine k_10_5 ?_
  | refine k_10_6 ?_
  | refine k_10_9 ?_
  | refine k_10_15 ?_
  | refine k_10_18 ?_
  | refine k_10_29 ?_
  | refine k_10_30 ?_
  | refine k_2_61 ?_
  | refine k_ml ?_
  | (apply k_ml1; (walk_at "f"); (with_unfolding_all exact rfl))
  | (apply k_ml2; (walk_at "f"); (with_unfolding_all exact rfl))
  | (apply k_mpL; (walk_at "f"))
  | refine k_Sum ?_
  | refine k_lenSet ?_
  | refine i_sl ?_
  | (apply i_slF; (walk_at "f"); (with_unfolding_all exact rfl))
  | refine k_dget2 ?_
  | refine k_newK ?_
  | refine k_disp2 ?_
  | refine s_raise ?_
  | refine s_dropX ?_
  | refine s_retX ?_
  | refine k_lenSetL ?_
  | refine k_revL ?_
  | (apply k_pkL; (walk_at "f"); (with_unfolding_all exact rfl))
  | refine s_asgD ?_
  | (apply k_varT; (with_unfolding_all exact rfl))
  | refine k_slT ?_
  | (apply k_onT; (walk_at "f"))
  | refine k_dget2T ?_
  | refine k_dgetT ?_
  | refine k_sumVals ?_
  | refine k_newT ?_
  | refine k_disp1T ?_
  | (apply k_onOT; (with_unfolding_all exact rfl))
  | (apply k_onOwn; (with_unfolding_all exact rfl); (with_unfolding_all exact rfl))
  | (apply k_TupL; (with_unfolding_all exact rfl))
  | refine s_asgT ?_
  | refine s_dputT ?_
  | refine s_move ?_
  | refine s_forT ?_
  | refine ite_nsame ?_
  | refine ite_same ?_
  | (refine ite_dF ?_ ?_; (with_unfolding_all decide +kernel))
  | (refine ite_dT ?_ ?_; (with_unfolding_all decide +kernel))
  | refine iteT ?_
  | refine iteF ?_
  | refine ite_nt ?_
  | refine ite_nf ?_))
local macro_rules | `(tactic| walk_at "d") => `(tactic| (repeat (first | walk_at "d1" | with_reducible refine s_if ?_)))
local macro_rules | `(tactic| walk_at "di") => `(tactic| (repeat walk_at "d1"))
local macro_rules | `(tactic| walk_at "s") => `(tactic| (simp only [δ0, List.map_cons, List.map_nil, List.length_cons, List.length_nil, List.replicate, List.cons_append, List.nil_append, Nat.reduceAdd, Nat.reduceSub]; walk_at "d"))

def t_law_r (K : PySem.W.Frag) : TS := (tSeq (tIfS (tNot (tB (tCall (sp_law_classes_right K) [] E0 tNil))) (tRet (tC (.bl false))) tNext) (tSeq (tFor (iRng1 (tCons (tOp rAddI (tC (.int 10)) (tCB rMin2 (tCons (tC (.int 10)) (tCons (tCB (rLenL K) (tCons (tVar 0) tNil)) tNil)))) tNil)) (gName 2) (tSeq (tAsg (tCall (sp_law_letters K) [] E0 (tCons (tVar 1) tNil)) (gName 3)) (tSeq (tAsg (tCall (sp_law_spoiled_orders K) [] E0 (tCons (tVar 1) (tCons (tCall (sp_law_orders K) [] E0 (tCons (tVar 1) (tCons (tVar 3) (tCons (tC (.int 8)) (tCons (tC (.int 20)) tNil))))) tNil))) (gName 4)) (tSeq (tAsg (tCall (sp_law_spoiled_numbers K) [] E0 (tCons (tVar 1) (tCons (tCall (sp_law_tally K) [] E0 (tCons (tCall (sp_law_line K) [] E0 (tCons (tVar 1) (tCons (tVar 3) (tCons (tC (.int 60)) tNil)))) tNil)) tNil))) (gTup K 2 (gCons (gName 5) (gCons (gName 6) gNil)))) (tSeq (tAsg (tOp (rIxL K) (tLst (tCons (tC (.str "a")) (tCons (tC (.str "f")) (tCons (tC (.str "g")) (tCons (tC (.str "")) (tCons (tC (.str "ab")) (tCons (tC (.str "A")) (tCons (tC (.str " ")) (tCons (tC (.str "aa")) tNil))))))))) (tCall (sp_law_draw K) [] E0 (tCons (tVar 1) (tCons (tC (.int 8)) tNil)))) (gName 7)) (tSeq (tAsg (tCall (sp_law_line K) [] E0 (tCons (tVar 1) (tCons (tVar 3) (tCons (tC (.int 12)) tNil)))) (gName 8)) (tSeq (tAsg (tCall (sp_law_draw K) [] E0 (tCons (tVar 1) (tCons (tOp rAddI (tCB rLenS (tCons (tVar 8) tNil)) (tC (.int 1))) tNil))) (gName 9)) (tSeq (tAsg (tOp rAddS (tOp rAddS (tSl rSlS (tVar 8) tNoPart (tPart (tVar 9))) (tOp (rIxL K) (tLst (tCons (tC (.str "")) (tCons (tC (.str "")) (tCons (tC (.str "g")) (tCons (tC (.str "A")) (tCons (tC (.str "-b?")) (tCons (tC (.str " ")) tNil))))))) (tCall (sp_law_draw K) [] E0 (tCons (tVar 1) (tCons (tC (.int 6)) tNil))))) (tSl rSlS (tVar 8) (tPart (tVar 9)) tNoPart)) (gName 8)) (tSeq (tAsg (tLc (iRng1 (tCons (tCB rLenS (tCons (tVar 8) tNil)) tNil)) (gName 12) (tTest (tOp rNotInC (tOp rIxS (tVar 8) (tVar 12)) (tC (.str "abcdef")))) (tVar 12) [12]) (gName 10)) (tSeq (tAsg (tIf (tTest (tOp (rNeD K) (tVar 10) (tLst tNil))) (tTup (tCons (tC (.str "row")) (tCons (tOp (rIxL K) (tVar 10) (tC (.int 0))) tNil))) (tC .non)) (gName 11)) (tSeq (tIfS (tTest (tOp (rNeD K) (tCall (sp_law_error K) [] E0 (tCons (tC (.int 0)) (tCons (tVar 4) (tCons (tVar 5) (tCons (tVar 8) tNil))))) (tVar 11))) (tRet (tC (.bl false))) tNext) (tSeq (tAsg (tIf (tTest (tOp (rNeD K) (tVar 6) (tLst tNil))) (tTup (tCons (tC (.str "counts")) (tCons (tOp (rIxL K) (tVar 6) (tC (.int 0))) tNil))) (tC .non)) (gName 11)) (tSeq (tIfS (tTest (tOp rNotN (tCall (sp_law_bad_order K) [] E0 (tCons (tVar 4) tNil)) (tC .non))) (tAsg (tTup (tCons (tC (.str "call")) (tCons (tCall (sp_law_bad_order K) [] E0 (tCons (tVar 4) tNil)) tNil))) (gName 11)) tNext) (tSeq (tIfS (tTest (tOp (rNeD K) (tCall (sp_law_error K) [] E0 (tCons (tC (.int 1)) (tCons (tVar 4) (tCons (tVar 5) (tCons (tVar 7) tNil))))) (tVar 11))) (tRet (tC (.bl false))) tNext) (tSeq (tIfS (tAnd (tTest (tOp rIsN (tVar 11) (tC .non))) (tTest (tOp (rNotInD K) (tVar 7) (tCB rListS (tCons (tC (.str "abcdef")) tNil))))) (tAsg (tTup (tCons (tC (.str "colour")) (tCons (tVar 7) tNil))) (gName 11)) tNext) (tIfS (tTest (tOp (rNeD K) (tCall (sp_law_error K) [] E0 (tCons (tC (.int 2)) (tCons (tVar 4) (tCons (tVar 5) (tCons (tVar 7) tNil))))) (tVar 11))) (tRet (tC (.bl false))) tNext)))))))))))))))) (tRet (tC (.bl true)))))
def t_law (K : PySem.W.Frag) : TS := (tSeq (tAsg (tCall (sp_law_rng K) [] E0 (tCons (tVar 0) tNil)) (gName 1)) (t_law_r K))
def c_law (s : Addr) : DC := (cSeq (cIf (bNot (bE (eCallB (FP.d f_law_classes_right) aNil))) (cRet (eC (.bl false))) cNext)
    (cSeq (cFor (diR1 (aCons (eOp fAddI (eC (.int 10)) (eCB fMin2 (aCons (eC (.int 10)) (aCons (eCB fLenL (aCons (eVar 0) aNil)) aNil)))) aNil)) (dName 2) (cSeq (cAsg (eCall (F_law_letters s) (aCons (eVar 1) aNil)) (dName 3))
    (cSeq (cAsg (eCall (F_law_spoiled_orders s) (aCons (eVar 1) (aCons (eCall (F_law_orders s) (aCons (eVar 1) (aCons (eVar 3) (aCons (eC (.int 8)) (aCons (eC (.int 20)) aNil))))) aNil))) (dName 4))
    (cSeq (cAsg (eCall (F_law_spoiled_numbers s) (aCons (eVar 1) (aCons (eCall (FP.d f_law_tally) (aCons (eCallB (F_law_line s) (aCons (eVar 1) (aCons (eVar 3) (aCons (eC (.int 60)) aNil)))) aNil)) aNil))) (dTup 2 (dCons (dName 5) (dCons (dName 6) dNil))))
    (cSeq (cAsg (eOp fIxL (eNew (eLst (aCons (eC (.str "a")) (aCons (eC (.str "f")) (aCons (eC (.str "g")) (aCons (eC (.str "")) (aCons (eC (.str "ab")) (aCons (eC (.str "A")) (aCons (eC (.str " ")) (aCons (eC (.str "aa")) aNil)))))))))) (eCallB (F_law_draw s) (aCons (eVar 1) (aCons (eC (.int 8)) aNil)))) (dName 7))
    (cSeq (cAsg (eCallB (F_law_line s) (aCons (eVar 1) (aCons (eVar 3) (aCons (eC (.int 12)) aNil)))) (dName 8))
    (cSeq (cAsg (eCallB (F_law_draw s) (aCons (eVar 1) (aCons (eOp fAddI (eCB fLenS (aCons (eVar 8) aNil)) (eC (.int 1))) aNil))) (dName 9))
    (cSeq (cAsg (eOp fAddS (eOp fAddS (eSlS (eVar 8) oNo (oPart (eVar 9))) (eOp fIxL (eNew (eLst (aCons (eC (.str "")) (aCons (eC (.str "")) (aCons (eC (.str "g")) (aCons (eC (.str "A")) (aCons (eC (.str "-b?")) (aCons (eC (.str " ")) aNil)))))))) (eCallB (F_law_draw s) (aCons (eVar 1) (aCons (eC (.int 6)) aNil))))) (eSlS (eVar 8) (oPart (eVar 9)) oNo)) (dName 8))
    (cSeq (cAsg (eNew (eLc (diR1 (aCons (eCB fLenS (aCons (eVar 8) aNil)) aNil)) (dName 12) (bE (eOp fNotInC (eOp fIxS (eVar 8) (eVar 12)) (eC (.str "abcdef")))) (eVar 12) [12])) (dName 10))
    (cSeq (cAsg (eIf (bE (eOp fNeD (eVar 10) (eNew (eLst aNil)))) (eTup (aCons (eC (.str "row")) (aCons (eOp fIxL (eVar 10) (eC (.int 0))) aNil))) (eC .non)) (dName 11))
    (cSeq (cIf (bE (eOp fNeD (eCall (FP.d f_law_error) (aCons (eC (.int 0)) (aCons (eVar 4) (aCons (eVar 5) (aCons (eVar 8) aNil))))) (eVar 11))) (cRet (eC (.bl false))) cNext)
    (cSeq (cAsg (eIf (bE (eOp fNeD (eVar 6) (eNew (eLst aNil)))) (eTup (aCons (eC (.str "counts")) (aCons (eOp fIxL (eVar 6) (eC (.int 0))) aNil))) (eC .non)) (dName 11))
    (cSeq (cIf (bE (eOp fNotN (eCall (FP.d f_law_bad_order) (aCons (eVar 4) aNil)) (eC .non))) (cAsg (eTup (aCons (eC (.str "call")) (aCons (eCall (FP.d f_law_bad_order) (aCons (eVar 4) aNil)) aNil))) (dName 11)) cNext)
    (cSeq (cIf (bE (eOp fNeD (eCall (FP.d f_law_error) (aCons (eC (.int 1)) (aCons (eVar 4) (aCons (eVar 5) (aCons (eVar 7) aNil))))) (eVar 11))) (cRet (eC (.bl false))) cNext)
    (cSeq (cIf (bAnd (bE (eOp fIsN (eVar 11) (eC .non))) (bE (eOp fNotInD (eVar 7) (eNew (eCBN fListS (aCons (eC (.str "abcdef")) aNil)))))) (cAsg (eTup (aCons (eC (.str "colour")) (aCons (eVar 7) aNil))) (dName 11)) cNext)
    (cIf (bE (eOp fNeD (eCall (FP.d f_law_error) (aCons (eC (.int 2)) (aCons (eVar 4) (aCons (eVar 5) (aCons (eVar 7) aNil))))) (eVar 11))) (cRet (eC (.bl false))) cNext))))))))))))))))
    (cRet (eC (.bl true)))))
theorem ss_law {K : PySem.W.Frag} {s : Addr} : SS K (WB s) (t_law_r K) (c_law s) :=
  (ss_seq (ss_if (st_not (st_b (se_callB co_law_classes_right sa_nil))) (ss_ret (se_c (fun _ => (.bl _)))) ss_next)
    (ss_seq (ss_for (si_rng1 (sa_cons (se_op r2_AddI (se_c (fun _ => (.int _))) (se_cb rc_Min2 (sa_cons (se_c (fun _ => (.int _))) (sa_cons (se_cb rc_LenL (sa_cons se_var sa_nil)) sa_nil)))) sa_nil)) sg_name (ss_seq (ss_asg (se_call co_law_letters (sa_cons se_var sa_nil)) sg_name)
    (ss_seq (ss_asg (se_call co_law_spoiled_orders (sa_cons se_var (sa_cons (se_call co_law_orders (sa_cons se_var (sa_cons se_var (sa_cons (se_c (fun _ => (.int _))) (sa_cons (se_c (fun _ => (.int _))) sa_nil))))) sa_nil))) sg_name)
    (ss_seq (ss_asg (se_call co_law_spoiled_numbers (sa_cons se_var (sa_cons (se_call co_law_tally (sa_cons (se_callB co_law_line (sa_cons se_var (sa_cons se_var (sa_cons (se_c (fun _ => (.int _))) sa_nil)))) sa_nil)) sa_nil))) (sg_tup (sg_cons sg_name (sg_cons sg_name sg_nil))))
    (ss_seq (ss_asg (se_op r2_IxL (SN.se (sn_lst (sa_cons (se_c (fun _ => (.str _))) (sa_cons (se_c (fun _ => (.str _))) (sa_cons (se_c (fun _ => (.str _))) (sa_cons (se_c (fun _ => (.str _))) (sa_cons (se_c (fun _ => (.str _))) (sa_cons (se_c (fun _ => (.str _))) (sa_cons (se_c (fun _ => (.str _))) (sa_cons (se_c (fun _ => (.str _))) sa_nil)))))))))) (se_callB co_law_draw (sa_cons se_var (sa_cons (se_c (fun _ => (.int _))) sa_nil)))) sg_name)
    (ss_seq (ss_asg (se_callB co_law_line (sa_cons se_var (sa_cons se_var (sa_cons (se_c (fun _ => (.int _))) sa_nil)))) sg_name)
    (ss_seq (ss_asg (se_callB co_law_draw (sa_cons se_var (sa_cons (se_op r2_AddI (se_cb rc_LenS (sa_cons se_var sa_nil)) (se_c (fun _ => (.int _)))) sa_nil))) sg_name)
    (ss_seq (ss_asg (se_op r2_AddS (se_op r2_AddS (se_slS se_var so_no (so_part se_var)) (se_op r2_IxL (SN.se (sn_lst (sa_cons (se_c (fun _ => (.str _))) (sa_cons (se_c (fun _ => (.str _))) (sa_cons (se_c (fun _ => (.str _))) (sa_cons (se_c (fun _ => (.str _))) (sa_cons (se_c (fun _ => (.str _))) (sa_cons (se_c (fun _ => (.str _))) sa_nil)))))))) (se_callB co_law_draw (sa_cons se_var (sa_cons (se_c (fun _ => (.int _))) sa_nil))))) (se_slS se_var (so_part se_var) so_no)) sg_name)
    (ss_seq (ss_asg (SN.se (sn_lc (si_rng1 (sa_cons (se_cb rc_LenS (sa_cons se_var sa_nil)) sa_nil)) sg_name (st_test (se_op r2_NotInC (se_op r2_IxS se_var se_var) (se_c (fun _ => (.str _))))) se_var (by decide))) sg_name)
    (ss_seq (ss_asg (se_if (st_test (se_op r2_NeD se_var (SN.se (sn_lst sa_nil)))) (se_tup (sa_cons (se_c (fun _ => (.str _))) (sa_cons (se_op r2_IxL se_var (se_c (fun _ => (.int _)))) sa_nil))) (se_c (fun _ => .non))) sg_name)
    (ss_seq (ss_if (st_test (se_op r2_NeD (se_call co_law_error (sa_cons (se_c (fun _ => (.int _))) (sa_cons se_var (sa_cons se_var (sa_cons se_var sa_nil))))) se_var)) (ss_ret (se_c (fun _ => (.bl _)))) ss_next)
    (ss_seq (ss_asg (se_if (st_test (se_op r2_NeD se_var (SN.se (sn_lst sa_nil)))) (se_tup (sa_cons (se_c (fun _ => (.str _))) (sa_cons (se_op r2_IxL se_var (se_c (fun _ => (.int _)))) sa_nil))) (se_c (fun _ => .non))) sg_name)
    (ss_seq (ss_if (st_test (se_op r2_NotN (se_call co_law_bad_order (sa_cons se_var sa_nil)) (se_c (fun _ => .non)))) (ss_asg (se_tup (sa_cons (se_c (fun _ => (.str _))) (sa_cons (se_call co_law_bad_order (sa_cons se_var sa_nil)) sa_nil))) sg_name) ss_next)
    (ss_seq (ss_if (st_test (se_op r2_NeD (se_call co_law_error (sa_cons (se_c (fun _ => (.int _))) (sa_cons se_var (sa_cons se_var (sa_cons se_var sa_nil))))) se_var)) (ss_ret (se_c (fun _ => (.bl _)))) ss_next)
    (ss_seq (ss_if (st_and (st_test (se_op r2_IsN se_var (se_c (fun _ => .non)))) (st_test (se_op r2_NotInD se_var (SN.se (sn_cb rn_ListS (sa_cons (se_c (fun _ => (.str _))) sa_nil)))))) (ss_asg (se_tup (sa_cons (se_c (fun _ => (.str _))) (sa_cons se_var sa_nil))) sg_name) ss_next)
    (ss_if (st_test (se_op r2_NeD (se_call co_law_error (sa_cons (se_c (fun _ => (.int _))) (sa_cons se_var (sa_cons se_var (sa_cons se_var sa_nil))))) se_var)) (ss_ret (se_c (fun _ => (.bl _)))) ss_next))))))))))))))))
    (ss_ret (se_c (fun _ => (.bl _))))))

theorem tal_nonneg (l : List Nat) : ∀ x ∈ tal l, 0 ≤ x := by
  intro x m
  obtain ⟨c, _, rfl⟩ := List.mem_map.mp m
  exact Int.natCast_nonneg _
theorem sl5 {n : Nat} (h : n ≤ 10000) : n ≤ sizeLine := small5 (Nat.le_trans h (by decide))
theorem text_at {r : Int} (h0 : 0 ≤ r) (h1 : r < 8) : ∃ z : Str, atI [Da.str "a", Da.str "f", Da.str "g", Da.str "", Da.str "ab", Da.str "A", Da.str " ", Da.str "aa"] r = some (.str z) ∧ z.length ≤ 10 ∧ PyData.strOk z = true := by
  have : r = 0 ∨ r = 1 ∨ r = 2 ∨ r = 3 ∨ r = 4 ∨ r = 5 ∨ r = 6 ∨ r = 7 := by omega
  rcases this with rfl | rfl | rfl | rfl | rfl | rfl | rfl | rfl <;> exact ⟨_, rfl, by decide +kernel, by decide +kernel⟩
theorem more_at {r : Int} (h0 : 0 ≤ r) (h1 : r < 6) : ∃ w : List Nat, atI [Da.str "", Da.str "", Da.str "g", Da.str "A", Da.str "-b?", Da.str " "] r = some (.str (sN w)) ∧ w.length ≤ 3 := by
  have : r = 0 ∨ r = 1 ∨ r = 2 ∨ r = 3 ∨ r = 4 ∨ r = 5 := by omega
  rcases this with rfl | rfl | rfl | rfl | rfl | rfl
  · exact ⟨[], rfl, by decide⟩
  · exact ⟨[], rfl, by decide⟩
  · exact ⟨[103], rfl, by decide⟩
  · exact ⟨[65], rfl, by decide⟩
  · exact ⟨[45, 98, 63], rfl, by decide⟩
  · exact ⟨[32], rfl, by decide⟩
theorem sh_nats {bl : List Nat} (h : bl.length ≤ 40) : Sh 3 (Da.lst (bl.map fun i => Da.int (i : Nat))).py := by
  show Sh 3 (.list (Da.pyL (bl.map fun i => Da.int (i : Nat))))
  rw [pyL_map]
  exact Sh.list (by rw [List.length_map]; omega) fun d m => by
    obtain ⟨i, _, rfl⟩ := List.mem_map.mp m
    exact Sh.int _
def dueN (ns : List Int) : Da := match badN ns with
  | some v => .tup [.str "counts", optN v]
  | none => .non
theorem d_law {s : Addr} {ns : List Int} (hlen : ns.length ≤ 63) : c_law s ⟨fun _ => False, fun d _ => d = .bl true, fun _ => False, fun _ => False⟩ ⟨[.dat (.fl (ns.map Da.int)), .dat (.ref s), .un, .un, .un, .un, .un, .un, .un, .un, .un, .un, .un], 0⟩ := by
  unfold c_law
  walk_at "d"
  refine ⟨rfl, rfl, ?_⟩
  walk_at "d"
  rw [List.length_map]
  refine ⟨by omega, by omega, ?_⟩
  refine for_inv (fun i st => ∃ (x2 x3 x4 x5 x6 x7 x8 x9 x10 x11 x12 : Sl) (n' : Int), n' ≤ 1000 * i ∧ st = ⟨[.dat (.fl (ns.map Da.int)), .dat (.ref s), x2, x3, x4, x5, x6, x7, x8, x9, x10, x11, x12], n'⟩) ⟨_, _, _, _, _, _, _, _, _, _, _, _, by omega, rfl⟩ ?_ ?_
  · rintro i x st R hx ⟨x2, x3, x4, x5, x6, x7, x8, x9, x10, x11, x12, n', hn', rfl⟩ hR
    obtain ⟨rfl, hi⟩ := rng_get hx
    walk_at "d"
    refine ⟨rfl, by omega, fun ys n1 hnd hc h1 h6 hn1 => ?_⟩
    walk_at "d"
    refine ⟨ys, 8, 20, rfl, hnd, hc, h1, h6, by omega, by omega, by omega, by omega, by omega, fun cs0 n2 hcs hcl hn2 => ?_⟩
    walk_at "d"
    refine ⟨cs0, rfl, fun c m => okC_of (hcs c m).1, by omega, by omega, fun cs n3 hok hl3 hn3 => ?_⟩
    walk_at "d"
    refine ⟨ys, 60, rfl, hc, h1, h6, by omega, by omega, by omega, fun l1 n4 hl1 hll1 hn4 => ⟨rfl, ?_⟩⟩
    walk_at "d"
    refine ⟨l1, rfl, ?_⟩
    walk_at "d"
    refine ⟨tal l1, rfl, tal_len _, tal_nonneg _, by omega, fun ms n5 hml hn5 => ?_⟩
    walk_at "d"
    refine k_draw (by omega) (by omega) (by omega) fun r1 a1 b1 => ?_
    obtain ⟨z, ez, hzl, hzo⟩ := text_at a1 b1
    refine k_IxL rfl ez ?_
    walk_at "d"
    refine ⟨ys, 12, rfl, hc, h1, h6, by omega, by omega, by omega, fun l2 n6 hl2 hll2 hn6 => ⟨rfl, ?_⟩⟩
    walk_at "d"
    have z2 : (sN l2).length ≤ sizeLine := by rw [len_sN]; exact sl5 (by omega)
    refine k_LenS z2 ?_
    walk_at "d"
    rw [len_sN]
    refine k_draw (by omega) (by omega) (by omega) fun r2 a2 b2 => ?_
    obtain ⟨r2, rfl⟩ : ∃ q : Nat, r2 = (q : Int) := ⟨r2.toNat, by omega⟩
    walk_at "d"
    refine ⟨z2, ?_⟩
    rw [cutS_to l2 r2 (by omega)]
    walk_at "d"
    refine k_draw (by omega) (by omega) (by omega) fun r3 a3 b3 => ?_
    obtain ⟨w, ew, hw⟩ := more_at a3 b3
    refine k_IxL rfl ew ?_
    walk_at "d"
    refine k_AddS (by rw [len_sN, len_sN, List.length_take]; exact sl5 (by omega)) ?_
    rw [sN_app]
    walk_at "d"
    refine ⟨z2, ?_⟩
    rw [cutS_from l2 r2 (by omega)]
    walk_at "d"
    refine k_AddS (by rw [len_sN, len_sN, List.length_append, List.length_take, List.length_drop]; exact sl5 (by omega)) ?_
    rw [sN_app]
    have hl3 : (l2.take r2 ++ w ++ l2.drop r2).length ≤ 40 := by rw [List.length_append, List.length_append, List.length_take, List.length_drop]; omega
    generalize l2.take r2 ++ w ++ l2.drop r2 = l3 at *
    have z3 : (sN l3).length ≤ sizeLine := by rw [len_sN]; exact sl5 (by omega)
    walk_at "di"
    refine k_LenS z3 ?_
    walk_at "di"
    rw [len_sN]
    change (-(2 ^ 62 : Int) ≤ ((l3.length : Nat) : Int) ∧ ((l3.length : Nat) : Int) < 2 ^ 62 ∧ _)
    refine ⟨by omega, by omega, ?_⟩
    rw [Int.toNat_natCast]
    refine lc_filtA (List.range l3.length) _ (fun i => Da.int (i : Nat)) (fun i => !isColN (l3.getD i 0)) (by rw [List.length_range]; omega) (fun j p acc R hx2 hacc hR => ?_) ?_
    · obtain ⟨hp, hpl⟩ : p = j ∧ j < l3.length := by
        obtain ⟨h1, h2⟩ := List.getElem?_eq_some_iff.mp hx2
        rw [List.getElem_range] at h2
        exact ⟨h2.symm, by simpa using h1⟩
      subst hp
      have e3 : l3[p]? = some (l3.getD p 0) := by rw [List.getD_eq_getElem?_getD, List.getElem?_eq_getElem hpl]; rfl
      walk_at "d"
      refine k_IxS z3 (atI_nat e3) ?_
      walk_at "d"
      have e4 : (!decide (l3.getD p 0 ∈ TL.tl ("abcdef" : Str))) = !isColN (l3.getD p 0) := rfl
      rw [e4]
      cases hd : (!isColN (l3.getD p 0)) with
      | true =>
        walk_at "d"
        have hR' : ∀ st', _ → R (acc ++ [Da.int (p : Nat)]) st' := fun st' e => by
          have := hR st' e
          rw [hd] at this
          rwa [if_pos rfl] at this
        exact ⟨hacc, s_fz (fz_stl rfl) (hR' _ rfl)⟩
      | false =>
        walk_at "d"
        have hR' : ∀ st', _ → R acc st' := fun st' e => by
          have := hR st' e
          rw [hd] at this
          rwa [if_neg Bool.false_ne_true] at this
        exact hR' _ rfl
    iterate 4 (walk_at "d1")
    have hbl := badR_filt l3
    have hblen : ((List.range l3.length).filter fun i => !isColN (l3.getD i 0)).length ≤ 40 := Nat.le_trans (List.length_filter_le _ _) (by rw [List.length_range]; exact hl3)
    generalize ((List.range l3.length).filter fun i => !isColN (l3.getD i 0)) = bl at *
    have hst0 : (resE 0 cs ms z l3).stl = true := (sh_resE hzo).2.2
    have hst1 : (resE 1 cs ms z l3).stl = true := (sh_resE hzo).2.2
    have hst2 : (resE 2 cs ms z l3).stl = true := (sh_resE hzo).2.2
    refine s_asgJ (fun st => ∃ x12 : Sl, st = ⟨[.dat (.fl (ns.map Da.int)), .dat (.ref s), .dat (.int (i : Nat)), .dat (.lst (chD ys)), .dat (drDa false cs), .dat (.lst (ms.map Da.int)), .dat (.lst (wrongD ms)), .dat (.str z), .dat (.str (sN l3)), .dat (.int (r2 : Nat)), .dat (.lst (bl.map fun i => Da.int (i : Nat))), .dat (resE 0 cs ms z l3), x12], n6 + 1 + 1⟩) ?_ ?_
    · rintro st ⟨x12, rfl⟩
      walk_at "di"
      refine s_if ?_
      walk_at "di"
      refine ⟨0, false, cs, ms, sN l3, l3, rfl, by omega, fun c m => okC_len (hok c m), by omega, by rw [len_sN]; omega, fun _ => rfl, ?_⟩
      have e0 : resE 0 cs ms (sN l3) l3 = resE 0 cs ms z l3 := by unfold resE; rw [if_pos rfl, if_pos rfl]
      rw [e0]
      walk_at "di"
      refine k_NeD_resE hzo ?_
      iterate 4 (walk_at "d1")
      refine s_asgJ (fun st => st = ⟨[.dat (.fl (ns.map Da.int)), .dat (.ref s), .dat (.int (i : Nat)), .dat (.lst (chD ys)), .dat (drDa false cs), .dat (.lst (ms.map Da.int)), .dat (.lst (wrongD ms)), .dat (.str z), .dat (.str (sN l3)), .dat (.int (r2 : Nat)), .dat (.lst (bl.map fun i => Da.int (i : Nat))), .dat (dueN ms), x12], n6 + 1 + 1⟩) ?_ ?_
      · rintro st rfl
        have hstN : (dueN ms).stl = true := by
          unfold dueN
          split
          · rfl
          · rfl
        iterate 1 (walk_at "d1")
        refine s_ifJ (fun st => st = ⟨[.dat (.fl (ns.map Da.int)), .dat (.ref s), .dat (.int (i : Nat)), .dat (.lst (chD ys)), .dat (drDa false cs), .dat (.lst (ms.map Da.int)), .dat (.lst (wrongD ms)), .dat (.str z), .dat (.str (sN l3)), .dat (.int (r2 : Nat)), .dat (.lst (bl.map fun i => Da.int (i : Nat))), .dat (resE 1 cs ms z l3), x12], n6 + 1 + 1⟩) ?_ ?_
        · rintro st rfl
          walk_at "di"
          refine s_if ?_
          walk_at "di"
          refine ⟨1, false, cs, ms, z, l3, rfl, by omega, fun c m => okC_len (hok c m), by omega, by omega, fun h => absurd h (by omega), ?_⟩
          walk_at "di"
          refine k_NeD_resE hzo ?_
          iterate 4 (walk_at "d1")
          refine s_ifJ (fun st => st = ⟨[.dat (.fl (ns.map Da.int)), .dat (.ref s), .dat (.int (i : Nat)), .dat (.lst (chD ys)), .dat (drDa false cs), .dat (.lst (ms.map Da.int)), .dat (.lst (wrongD ms)), .dat (.str z), .dat (.str (sN l3)), .dat (.int (r2 : Nat)), .dat (.lst (bl.map fun i => Da.int (i : Nat))), .dat (resE 2 cs ms z l3), x12], n6 + 1 + 1⟩) ?_ ?_
          · rintro st rfl
            dsimp only
            walk_at "di"
            refine s_if ?_
            walk_at "di"
            refine ⟨2, false, cs, ms, z, l3, rfl, by omega, fun c m => okC_len (hok c m), by omega, by omega, fun h => absurd h (by omega), ?_⟩
            walk_at "di"
            refine k_NeD_resE hzo ?_
            walk_at "d"
            refine hR _ ⟨_, _, _, _, _, _, _, _, _, _, _, _, ?_, rfl⟩
            omega
          · intro R4 hR4
            cases hbc : badC cs with
            | some j =>
              have e1 : resE 1 cs ms z l3 = .tup [.str "call", .int (j : Nat)] := by unfold resE; rw [if_neg (by omega), hbc]
              have e2 : resE 2 cs ms z l3 = .tup [.str "call", .int (j : Nat)] := by unfold resE; rw [if_neg (by omega), hbc]
              rw [e1]
              rw [e2] at hR4
              walk_at "d"
              exact hR4 _ rfl
            | none =>
              cases hbn : badN ms with
              | some v =>
                have e1 : resE 1 cs ms z l3 = .tup [.str "counts", optN v] := by unfold resE; rw [if_neg (by omega), hbc, hbn]
                have e2 : resE 2 cs ms z l3 = .tup [.str "counts", optN v] := by unfold resE; rw [if_neg (by omega), hbc, hbn]
                rw [e1]
                rw [e2] at hR4
                walk_at "d"
                exact hR4 _ rfl
              | none =>
                have e1 : resE 1 cs ms z l3 = .non := by unfold resE; rw [if_neg (by omega), hbc, hbn]; rfl
                have e2 : resE 2 cs ms z l3 = if isColS z = true then .non else .tup [.str "colour", .str z] := by unfold resE; rw [if_neg (by omega), hbc, hbn]; rfl
                rw [e1]
                rw [e2] at hR4
                walk_at "d"
                refine k_ListS (by rw [abc_len]; decide) ?_
                rw [sgD_abc]
                walk_at "d"
                refine k_NotInS hzo ?_
                cases hz2 : isColS z with
                | true =>
                  rw [hz2, if_pos rfl] at hR4
                  walk_at "d"
                  exact hR4 _ rfl
                | false =>
                  rw [hz2, if_neg Bool.false_ne_true] at hR4
                  walk_at "d"
                  exact hR4 _ rfl
        · intro R4 hR4
          walk_at "di"
          refine ⟨cs, rfl, hok, by omega, ?_⟩
          cases hbc : badC cs with
          | none =>
            have e : resE 1 cs ms z l3 = dueN ms := by
              unfold resE dueN
              rw [if_neg (by omega), hbc]
              cases badN ms <;> rfl
            rw [e] at hR4
            exact hR4 _ rfl
          | some j =>
            refine ⟨cs, rfl, hok, by omega, ?_⟩
            rw [hbc]
            unfold optI
            dsimp only
            walk_at "d"
            refine ⟨by show 2 ≤ 1000; omega, ?_⟩
            have e : resE 1 cs ms z l3 = .tup [.str "call", .int (j : Nat)] := by unfold resE; rw [if_neg (by omega), hbc]
            rw [e] at hR4
            exact hR4 _ rfl
      · intro R4 hR4
        walk_at "d"
        cases hbn : badN ms with
        | none =>
          have e1 : wrongD ms = [] := by unfold wrongD; rw [hbn]
          have e2 : dueN ms = .non := by unfold dueN; rw [hbn]
          rw [e1, e2] at hR4
          rw [e1]
          refine k_NeE rfl (Sh.nil (n := 2)) ?_
          walk_at "d"
          exact hR4 _ rfl
        | some v =>
          have e1 : wrongD ms = [optN v] := by unfold wrongD; rw [hbn]
          have e2 : dueN ms = .tup [.str "counts", optN v] := by unfold dueN; rw [hbn]
          rw [e1, e2] at hR4
          rw [e1]
          have hpy : (Da.lst [optN v]).isPy = true ∧ Sh 3 (Da.lst [optN v]).py := by
            cases v with
            | none => exact ⟨rfl, Sh.list (by show 1 ≤ 100000; omega) fun d m => by rw [List.mem_singleton.mp m]; exact Sh.non⟩
            | some i => exact ⟨rfl, Sh.list (by show 1 ≤ 100000; omega) fun d m => by rw [List.mem_singleton.mp m]; exact Sh.int _⟩
          refine k_NeE hpy.1 hpy.2 ?_
          have en : (!([optN v] : List Da).isEmpty) = true := rfl
          rw [en]
          walk_at "d"
          refine k_IxL (ds := [optN v]) (d := optN v) (by rfl) (by rfl) ?_
          have hso : (optN v).stl = true := by cases v <;> rfl
          generalize optN v = xv at *
          walk_at "d"
          exact hR4 _ rfl
    · intro R3 hR3
      walk_at "d"
      refine k_NeE (isPyL_map _ (fun _ => rfl) bl) (sh_nats hblen) ?_
      cases bl with
      | nil =>
        walk_at "d"
        have e : resE 0 cs ms z l3 = .non := by unfold resE; rw [if_pos rfl, hbl] <;> rfl
        exact hR3 _ ⟨_, by rw [e] <;> rfl⟩
      | cons j r =>
        have en : (!(List.map (fun i : Nat => Da.int (i : Nat)) (j :: r)).isEmpty) = true := rfl
        rw [en]
        walk_at "d"
        refine k_IxL (ds := (j :: r).map fun i => Da.int (i : Nat)) (d := .int (j : Nat)) (by rfl) (atI_nat (j := 0) rfl) ?_
        walk_at "d"
        have e : resE 0 cs ms z l3 = .tup [.str "row", .int (j : Nat)] := by unfold resE; rw [if_pos rfl, hbl] <;> rfl
        exact hR3 _ ⟨_, by rw [e] <;> rfl⟩
  · rintro st ⟨x2, x3, x4, x5, x6, x7, x8, x9, x10, x11, x12, n', hn', rfl⟩
    walk_at "d"
    rfl
/-- the law: it gives True -/
def sp_law (K : PySem.W.Frag) : Sp := fun vs H Q _ => vs.length = 1 ∧ ∃ (a : Addr) (ns : List Int), vs = [.ref a] ∧ SqL K H a (ns.map V.int) ∧ ns.length ≤ 63 ∧ ∀ H', Q (.bl true) H'
theorem pure_law {K : PySem.W.Frag} {vs : List V} {H : Hp} {Q : VK} {E : XK} (h : sp_law K vs H Q E) : t_law K { nx := fun _ H' => Q .non H', rt := Q } (L2.start ["script", "rng", "lap", "letters", "orders", "numbers", "wrong", "text", "line", "place", "bad", "due", "spot"] vs) H := by
  obtain ⟨_, a, ns, rfl, hS, hlen, q⟩ := h
  unfold t_law
  refine z_asg (w_call (w_cons (w_var rfl (w_nil ⟨rfl, a, ns, rfl, hS, hlen, fun s H1 hs e R => ?_⟩))))
  refine g_name ?_
  refine law_tail (W := WB s) (st := ⟨[.dat (.fl (ns.map Da.int)), .dat (.ref s), .un, .un, .un, .un, .un, .un, .un, .un, .un, .un, .un], 0⟩) ss_law e (fun b m => by rw [List.mem_singleton.mp m]; exact hs) R rfl (fun i x sl h1 h2 => ?_) (d_law hlen) q
  match i, h1, h2 with
  | 0, h1, h2 => cases h1; cases h2; exact .inr ⟨_, _, rfl, rfl, .fl hS (DeAll.ofInts ns)⟩
  | 1, h1, h2 => cases h1; cases h2; exact .inr ⟨_, _, rfl, rfl, .ref s⟩
  | i + 2, h1, h2 =>
    left
    have : ∀ (l : List Sl) (j : Nat), (∀ y ∈ l, y = Sl.un) → l[j]? = some sl → sl = .un := fun l j hl hj => hl _ (List.mem_of_getElem? hj)
    exact this [.un, .un, .un, .un, .un, .un, .un, .un, .un, .un, .un] i (by intro y m; simpa using m) h2
end Q

set_option Elab.async false
set_option linter.all false
set_option maxRecDepth 100000
set_option maxHeartbeats 0
namespace Q
open PySem PySem.Spec PyProof.Rows L2
/-! ### the text by places, the head -/
def topS (i : Nat) : Stmt := PySem.Challenge.pw_drillrow_k10_counts_errors.main.body.getD i (.Pass ⟨0, 0, 0, 0⟩)
abbrev s_is_colour : Stmt := topS 14
abbrev s_is_call : Stmt := topS 15
abbrev s_check_row : Stmt := topS 16
abbrev s_check_drill : Stmt := topS 17
abbrev s_check_counts : Stmt := topS 21
abbrev s_lead_counts : Stmt := topS 22
abbrev s_count_colours : Stmt := topS 23
abbrev s_run_on_counts : Stmt := topS 24
abbrev s_colour_after : Stmt := topS 25
abbrev s_law_rng : Stmt := topS 27
abbrev s_law_draw : Stmt := topS 28
abbrev s_law_letters : Stmt := topS 29
abbrev s_law_line : Stmt := topS 30
abbrev s_law_order : Stmt := topS 31
abbrev s_law_orders : Stmt := topS 32
abbrev s_law_tally : Stmt := topS 33
abbrev s_law_spoiled_orders : Stmt := topS 34
abbrev s_law_bad_order : Stmt := topS 35
abbrev s_law_spoiled_numbers : Stmt := topS 36
abbrev s_law_error : Stmt := topS 37
abbrev s_law_classes_right : Stmt := topS 38
abbrev s_law : Stmt := topS 39
abbrev c_DrillError : Stmt := topS 1
abbrev c_BadRow : Stmt := topS 2
abbrev c_BadCall : Stmt := topS 3
abbrev c_BadCounts : Stmt := topS 4
abbrev c_BadColour : Stmt := topS 5
abbrev c_BadTimes : Stmt := topS 6
abbrev c_BadGoal : Stmt := topS 7
abbrev c_BadIndex : Stmt := topS 8
abbrev c_BadText : Stmt := topS 9
def hd_is_colour : He.DefD := ⟨("is_colour", none), "is_colour", "is_colour", defArgs s_is_colour, defBody s_is_colour, defScope s_is_colour, [], []⟩
def hd_is_call : He.DefD := ⟨("is_call", none), "is_call", "is_call", defArgs s_is_call, defBody s_is_call, defScope s_is_call, [], []⟩
def hd_check_row : He.DefD := ⟨("check_row", none), "check_row", "check_row", defArgs s_check_row, defBody s_check_row, defScope s_check_row, [], []⟩
def hd_check_drill : He.DefD := ⟨("check_drill", none), "check_drill", "check_drill", defArgs s_check_drill, defBody s_check_drill, defScope s_check_drill, [], []⟩
def hd_check_counts : He.DefD := ⟨("check_counts", none), "check_counts", "check_counts", defArgs s_check_counts, defBody s_check_counts, defScope s_check_counts, [], []⟩
def hd_lead_counts : He.DefD := ⟨("lead_counts", none), "lead_counts", "lead_counts", defArgs s_lead_counts, defBody s_lead_counts, defScope s_lead_counts, [], []⟩
def hd_count_colours : He.DefD := ⟨("count_colours", none), "count_colours", "count_colours", defArgs s_count_colours, defBody s_count_colours, defScope s_count_colours, [], []⟩
def hd_run_on_counts : He.DefD := ⟨("run_on_counts", none), "run_on_counts", "run_on_counts", defArgs s_run_on_counts, defBody s_run_on_counts, defScope s_run_on_counts, [], []⟩
def hd_colour_after : He.DefD := ⟨("colour_after", none), "colour_after", "colour_after", defArgs s_colour_after, defBody s_colour_after, defScope s_colour_after, [], []⟩
def hd_law_rng : He.DefD := ⟨("_law_rng", none), "_law_rng", "_law_rng", defArgs s_law_rng, defBody s_law_rng, defScope s_law_rng, [], []⟩
def hd_law_draw : He.DefD := ⟨("_law_draw", none), "_law_draw", "_law_draw", defArgs s_law_draw, defBody s_law_draw, defScope s_law_draw, [], []⟩
def hd_law_letters : He.DefD := ⟨("_law_letters", none), "_law_letters", "_law_letters", defArgs s_law_letters, defBody s_law_letters, defScope s_law_letters, [], []⟩
def hd_law_line : He.DefD := ⟨("_law_line", none), "_law_line", "_law_line", defArgs s_law_line, defBody s_law_line, defScope s_law_line, [], []⟩
def hd_law_order : He.DefD := ⟨("_law_order", none), "_law_order", "_law_order", defArgs s_law_order, defBody s_law_order, defScope s_law_order, [], []⟩
def hd_law_orders : He.DefD := ⟨("_law_orders", none), "_law_orders", "_law_orders", defArgs s_law_orders, defBody s_law_orders, defScope s_law_orders, [], []⟩
def hd_law_tally : He.DefD := ⟨("_law_tally", none), "_law_tally", "_law_tally", defArgs s_law_tally, defBody s_law_tally, defScope s_law_tally, [], []⟩
def hd_law_spoiled_orders : He.DefD := ⟨("_law_spoiled_orders", none), "_law_spoiled_orders", "_law_spoiled_orders", defArgs s_law_spoiled_orders, defBody s_law_spoiled_orders, defScope s_law_spoiled_orders, [], []⟩
def hd_law_bad_order : He.DefD := ⟨("_law_bad_order", none), "_law_bad_order", "_law_bad_order", defArgs s_law_bad_order, defBody s_law_bad_order, defScope s_law_bad_order, [], []⟩
def hd_law_spoiled_numbers : He.DefD := ⟨("_law_spoiled_numbers", none), "_law_spoiled_numbers", "_law_spoiled_numbers", defArgs s_law_spoiled_numbers, defBody s_law_spoiled_numbers, defScope s_law_spoiled_numbers, [], []⟩
def hd_law_error : He.DefD := ⟨("_law_error", none), "_law_error", "_law_error", defArgs s_law_error, defBody s_law_error, defScope s_law_error, [], []⟩
def hd_law_classes_right : He.DefD := ⟨("_law_classes_right", none), "_law_classes_right", "_law_classes_right", defArgs s_law_classes_right, defBody s_law_classes_right, defScope s_law_classes_right, [], []⟩
def hd_law : He.DefD := ⟨("law", none), "law", "law", defArgs s_law, defBody s_law, defScope s_law, [], []⟩
def s_init_BadRow : Stmt := (clsBody c_BadRow).getD 0 (.Pass ⟨0, 0, 0, 0⟩)
def hd_init_BadRow : He.DefD := ⟨("BadRow", some "__init__"), "__init__", "BadRow.__init__", defArgs s_init_BadRow, defBody s_init_BadRow, defScope s_init_BadRow, [], []⟩
def s_init_BadCall : Stmt := (clsBody c_BadCall).getD 0 (.Pass ⟨0, 0, 0, 0⟩)
def hd_init_BadCall : He.DefD := ⟨("BadCall", some "__init__"), "__init__", "BadCall.__init__", defArgs s_init_BadCall, defBody s_init_BadCall, defScope s_init_BadCall, [], []⟩
def s_init_BadCounts : Stmt := (clsBody c_BadCounts).getD 0 (.Pass ⟨0, 0, 0, 0⟩)
def hd_init_BadCounts : He.DefD := ⟨("BadCounts", some "__init__"), "__init__", "BadCounts.__init__", defArgs s_init_BadCounts, defBody s_init_BadCounts, defScope s_init_BadCounts, [], []⟩
def s_init_BadColour : Stmt := (clsBody c_BadColour).getD 0 (.Pass ⟨0, 0, 0, 0⟩)
def hd_init_BadColour : He.DefD := ⟨("BadColour", some "__init__"), "__init__", "BadColour.__init__", defArgs s_init_BadColour, defBody s_init_BadColour, defScope s_init_BadColour, [], []⟩
def s_init_BadGoal : Stmt := (clsBody c_BadGoal).getD 0 (.Pass ⟨0, 0, 0, 0⟩)
def hd_init_BadGoal : He.DefD := ⟨("BadGoal", some "__init__"), "__init__", "BadGoal.__init__", defArgs s_init_BadGoal, defBody s_init_BadGoal, defScope s_init_BadGoal, [], []⟩
def s_init_BadIndex : Stmt := (clsBody c_BadIndex).getD 0 (.Pass ⟨0, 0, 0, 0⟩)
def hd_init_BadIndex : He.DefD := ⟨("BadIndex", some "__init__"), "__init__", "BadIndex.__init__", defArgs s_init_BadIndex, defBody s_init_BadIndex, defScope s_init_BadIndex, [], []⟩
def s_init_BadText : Stmt := (clsBody c_BadText).getD 0 (.Pass ⟨0, 0, 0, 0⟩)
def hd_init_BadText : He.DefD := ⟨("BadText", some "__init__"), "__init__", "BadText.__init__", defArgs s_init_BadText, defBody s_init_BadText, defScope s_init_BadText, [], []⟩
def s_init_BadTimes : Stmt := (clsBody c_BadTimes).getD 0 (.Pass ⟨0, 0, 0, 0⟩)
def hd_init_BadTimes : He.DefD := ⟨("BadTimes", some "__init__"), "__init__", "BadTimes.__init__", defArgs s_init_BadTimes, defBody s_init_BadTimes, defScope s_init_BadTimes, [], []⟩
def exL (K : PySem.W.Frag) : Bool := excB K "BadRow" && (excB K "BadCall" && (excB K "BadCounts" && (excB K "BadColour" && (excB K "BadGoal" && (excB K "BadIndex" && (excB K "BadText" && (excB K "BadTimes" && (basB K "DrillError" && (isFB K "BadRow" [("DrillError", true), ("BadRow", true), ("BadCall", false), ("BadCounts", false), ("BadColour", false)] [("ValueError", true)] [(["BadGoal", "BadIndex", "BadText", "BadTimes"], false)] && (isFB K "BadCall" [("DrillError", true), ("BadRow", false), ("BadCall", true), ("BadCounts", false), ("BadColour", false)] [("ValueError", true)] [(["BadGoal", "BadIndex", "BadText", "BadTimes"], false)] && (isFB K "BadCounts" [("DrillError", true), ("BadRow", false), ("BadCall", false), ("BadCounts", true), ("BadColour", false)] [("ValueError", true)] [(["BadGoal", "BadIndex", "BadText", "BadTimes"], false)] && (isFB K "BadColour" [("DrillError", true), ("BadRow", false), ("BadCall", false), ("BadCounts", false), ("BadColour", true)] [("ValueError", true)] [(["BadGoal", "BadIndex", "BadText", "BadTimes"], false)] && (isFB K "BadGoal" [("DrillError", true), ("BadRow", false), ("BadCall", false), ("BadCounts", false), ("BadColour", false)] [("ValueError", true)] [(["BadGoal", "BadIndex", "BadText", "BadTimes"], true)] && (isFB K "BadIndex" [("DrillError", true), ("BadRow", false), ("BadCall", false), ("BadCounts", false), ("BadColour", false)] [("ValueError", true)] [(["BadGoal", "BadIndex", "BadText", "BadTimes"], true)] && (isFB K "BadText" [("DrillError", true), ("BadRow", false), ("BadCall", false), ("BadCounts", false), ("BadColour", false)] [("ValueError", true)] [(["BadGoal", "BadIndex", "BadText", "BadTimes"], true)] && (isFB K "BadTimes" [("DrillError", true), ("BadRow", false), ("BadCall", false), ("BadCounts", false), ("BadColour", false)] [("ValueError", true)] [(["BadGoal", "BadIndex", "BadText", "BadTimes"], true)] && (isFB K "DrillError" [("DrillError", true), ("BadRow", false), ("BadCall", false), ("BadCounts", false), ("BadColour", false)] [("ValueError", true)] [(["BadGoal", "BadIndex", "BadText", "BadTimes"], false)] && (bareB K "DrillError"))))))))))))))))))
def fnL : List He.DefD := [hd_is_colour, hd_is_call, hd_check_row, hd_check_drill, hd_check_counts, hd_lead_counts, hd_count_colours, hd_run_on_counts, hd_colour_after, hd_law_rng, hd_law_draw, hd_law_letters, hd_law_line, hd_law_order, hd_law_orders, hd_law_tally, hd_law_spoiled_orders, hd_law_bad_order, hd_law_spoiled_numbers, hd_law_error, hd_law_classes_right, hd_law, hd_init_BadRow, hd_init_BadCall, hd_init_BadCounts, hd_init_BadColour, hd_init_BadGoal, hd_init_BadIndex, hd_init_BadText, hd_init_BadTimes]
def faL : List He.Fa := [.glo "is_colour", .glo "is_call", .glo "check_row", .glo "check_drill", .glo "check_counts", .glo "lead_counts", .glo "count_colours", .glo "run_on_counts", .glo "colour_after", .glo "_law_rng", .glo "_law_draw", .glo "_law_letters", .glo "_law_line", .glo "_law_order", .glo "_law_orders", .glo "_law_tally", .glo "_law_spoiled_orders", .glo "_law_bad_order", .glo "_law_spoiled_numbers", .glo "_law_error", .glo "_law_classes_right", .glo "law", .str "COLOURS" "abcdef", .str "ALL_calls" "all", .str "SWAP_calls" "swap", .str "ALL_counts" "all", .str "SWAP_counts" "swap", .free "len", .free "min", .free "list", .free "int", .free "str", .free "range", .free "isinstance", .free "zip", .free "enumerate", .free "dict", .free "abs", .free "ValueError", .glo "BadRow", .glo "BadCall", .glo "BadCounts", .glo "BadColour", .glo "BadGoal", .glo "BadIndex", .glo "BadText", .glo "BadTimes", .glo "DrillError", .meth "BadRow" "__init__", .meth "BadCall" "__init__", .meth "BadCounts" "__init__", .meth "BadColour" "__init__", .meth "BadGoal" "__init__", .meth "BadIndex" "__init__", .meth "BadText" "__init__", .meth "BadTimes" "__init__", .exm "BadRow" "DrillError" true, .exm "BadCall" "DrillError" true, .exm "BadCounts" "DrillError" true, .exm "BadColour" "DrillError" true, .exm "BadGoal" "DrillError" true, .exm "BadIndex" "DrillError" true, .exm "BadText" "DrillError" true, .exm "BadTimes" "DrillError" true, .glo "DrillError", .glo "BadRow", .glo "BadCall", .glo "BadCounts", .glo "BadColour", .glo "BadGoal", .glo "BadIndex", .glo "BadText", .glo "BadTimes"]
abbrev R0 : PySem.W.OpenRow := PySem.W.OpenLaw.row PySem.Challenge.rw_drillrow_k10_counts_errors
abbrev hk : PySem.W.Hook := hookX 6 faL fnL exL
def ob (s : PySem.W.SharedT) : AlX := obsXG 6 faL fnL exL (HandSHeadRun.getT s)
theorem ob_eq (s : PySem.W.SharedT) : ob s = hk.obs s.abs := obsXG_eq (HandSHeadRun.getT_eq s)
def looseL : List Str := [Str.ofString "DrillError", Str.ofString "BadRow", Str.ofString "BadCall", Str.ofString "BadCounts", Str.ofString "BadColour", Str.ofString "BadTimes", Str.ofString "BadGoal", Str.ofString "BadIndex", Str.ofString "BadText", Str.ofString "COLOURS", Str.ofString "ALL_calls", Str.ofString "SWAP_calls", Str.ofString "is_colour", Str.ofString "is_call", Str.ofString "check_row", Str.ofString "check_drill", Str.ofString "ALL_counts", Str.ofString "SWAP_counts", Str.ofString "check_counts", Str.ofString "lead_counts", Str.ofString "count_colours", Str.ofString "run_on_counts", Str.ofString "colour_after", Str.ofString "_law_rng", Str.ofString "_law_draw", Str.ofString "_law_letters", Str.ofString "_law_line", Str.ofString "_law_order", Str.ofString "_law_orders", Str.ofString "_law_tally", Str.ofString "_law_spoiled_orders", Str.ofString "_law_bad_order", Str.ofString "_law_spoiled_numbers", Str.ofString "_law_error", Str.ofString "_law_classes_right"]
theorem run0 (w : World) : HandSHeadRun.RunEq R0 (PySem.W.view R0.prog [39]) hk ob 3000 looseL w := by
  intro os
  kernel_rfl
/-! ### what the top has left -/
structure Txt (K : PySem.W.Frag) (mg : Str → Option Value) : Prop where
  f_law_rng : HasDef K mg "_law_rng" s_law_rng
  f_law_classes_right : HasDef K mg "_law_classes_right" s_law_classes_right
  f_law_draw : HasDef K mg "_law_draw" s_law_draw
  f_law_letters : HasDef K mg "_law_letters" s_law_letters
  f_law_spoiled_orders : HasDef K mg "_law_spoiled_orders" s_law_spoiled_orders
  f_law_spoiled_numbers : HasDef K mg "_law_spoiled_numbers" s_law_spoiled_numbers
  f_law_line : HasDef K mg "_law_line" s_law_line
  f_law_order : HasDef K mg "_law_order" s_law_order
  f_law_orders : HasDef K mg "_law_orders" s_law_orders
  f_law_tally : HasDef K mg "_law_tally" s_law_tally
  f_is_colour : HasDef K mg "is_colour" s_is_colour
  f_check_row : HasDef K mg "check_row" s_check_row
  f_count_colours : HasDef K mg "count_colours" s_count_colours
  f_is_call : HasDef K mg "is_call" s_is_call
  f_check_drill : HasDef K mg "check_drill" s_check_drill
  f_check_counts : HasDef K mg "check_counts" s_check_counts
  f_lead_counts : HasDef K mg "lead_counts" s_lead_counts
  f_run_on_counts : HasDef K mg "run_on_counts" s_run_on_counts
  f_colour_after : HasDef K mg "colour_after" s_colour_after
  f_law_error : HasDef K mg "_law_error" s_law_error
  f_law_bad_order : HasDef K mg "_law_bad_order" s_law_bad_order
  f_law : HasDef K mg "law" s_law
  c_COLOURS : HasStr mg "COLOURS" "abcdef"
  c_ALL_calls : HasStr mg "ALL_calls" "all"
  c_SWAP_calls : HasStr mg "SWAP_calls" "swap"
  c_ALL_counts : HasStr mg "ALL_counts" "all"
  c_SWAP_counts : HasStr mg "SWAP_counts" "swap"
  b_len : mg "len" = none
  b_min : mg "min" = none
  b_list : mg "list" = none
  b_int : mg "int" = none
  b_str : mg "str" = none
  b_range : mg "range" = none
  b_isinstance : mg "isinstance" = none
  b_zip : mg "zip" = none
  b_enumerate : mg "enumerate" = none
  b_dict : mg "dict" = none
  b_abs : mg "abs" = none
  b_ValueError : mg "ValueError" = none
  e_DrillError : HasBase K mg "DrillError"
  e_BadRow : HasExc K mg "BadRow" "BadRow.__init__" s_init_BadRow
  x_BadRow_DrillError : PySem.W.exmOne K (.ref (He.ga K "BadRow")) (.ref (He.ga K "DrillError")) = some true
  i_BadRow : IsF K "BadRow" [("DrillError", true), ("BadRow", true), ("BadCall", false), ("BadCounts", false), ("BadColour", false)] [("ValueError", true)] [(["BadGoal", "BadIndex", "BadText", "BadTimes"], false)]
  e_BadCall : HasExc K mg "BadCall" "BadCall.__init__" s_init_BadCall
  x_BadCall_DrillError : PySem.W.exmOne K (.ref (He.ga K "BadCall")) (.ref (He.ga K "DrillError")) = some true
  i_BadCall : IsF K "BadCall" [("DrillError", true), ("BadRow", false), ("BadCall", true), ("BadCounts", false), ("BadColour", false)] [("ValueError", true)] [(["BadGoal", "BadIndex", "BadText", "BadTimes"], false)]
  e_BadCounts : HasExc K mg "BadCounts" "BadCounts.__init__" s_init_BadCounts
  x_BadCounts_DrillError : PySem.W.exmOne K (.ref (He.ga K "BadCounts")) (.ref (He.ga K "DrillError")) = some true
  i_BadCounts : IsF K "BadCounts" [("DrillError", true), ("BadRow", false), ("BadCall", false), ("BadCounts", true), ("BadColour", false)] [("ValueError", true)] [(["BadGoal", "BadIndex", "BadText", "BadTimes"], false)]
  e_BadColour : HasExc K mg "BadColour" "BadColour.__init__" s_init_BadColour
  x_BadColour_DrillError : PySem.W.exmOne K (.ref (He.ga K "BadColour")) (.ref (He.ga K "DrillError")) = some true
  i_BadColour : IsF K "BadColour" [("DrillError", true), ("BadRow", false), ("BadCall", false), ("BadCounts", false), ("BadColour", true)] [("ValueError", true)] [(["BadGoal", "BadIndex", "BadText", "BadTimes"], false)]
  e_BadGoal : HasExc K mg "BadGoal" "BadGoal.__init__" s_init_BadGoal
  x_BadGoal_DrillError : PySem.W.exmOne K (.ref (He.ga K "BadGoal")) (.ref (He.ga K "DrillError")) = some true
  i_BadGoal : IsF K "BadGoal" [("DrillError", true), ("BadRow", false), ("BadCall", false), ("BadCounts", false), ("BadColour", false)] [("ValueError", true)] [(["BadGoal", "BadIndex", "BadText", "BadTimes"], true)]
  e_BadIndex : HasExc K mg "BadIndex" "BadIndex.__init__" s_init_BadIndex
  x_BadIndex_DrillError : PySem.W.exmOne K (.ref (He.ga K "BadIndex")) (.ref (He.ga K "DrillError")) = some true
  i_BadIndex : IsF K "BadIndex" [("DrillError", true), ("BadRow", false), ("BadCall", false), ("BadCounts", false), ("BadColour", false)] [("ValueError", true)] [(["BadGoal", "BadIndex", "BadText", "BadTimes"], true)]
  e_BadText : HasExc K mg "BadText" "BadText.__init__" s_init_BadText
  x_BadText_DrillError : PySem.W.exmOne K (.ref (He.ga K "BadText")) (.ref (He.ga K "DrillError")) = some true
  i_BadText : IsF K "BadText" [("DrillError", true), ("BadRow", false), ("BadCall", false), ("BadCounts", false), ("BadColour", false)] [("ValueError", true)] [(["BadGoal", "BadIndex", "BadText", "BadTimes"], true)]
  e_BadTimes : HasExc K mg "BadTimes" "BadTimes.__init__" s_init_BadTimes
  x_BadTimes_DrillError : PySem.W.exmOne K (.ref (He.ga K "BadTimes")) (.ref (He.ga K "DrillError")) = some true
  i_BadTimes : IsF K "BadTimes" [("DrillError", true), ("BadRow", false), ("BadCall", false), ("BadCounts", false), ("BadColour", false)] [("ValueError", true)] [(["BadGoal", "BadIndex", "BadText", "BadTimes"], true)]
  v_DrillError : Bare K "DrillError"
  i_DrillError : IsF K "DrillError" [("DrillError", true), ("BadRow", false), ("BadCall", false), ("BadCounts", false), ("BadColour", false)] [("ValueError", true)] [(["BadGoal", "BadIndex", "BadText", "BadTimes"], false)]
  g_DrillError : mg "DrillError" = some (.ref (He.ga K "DrillError"))
  g_BadRow : mg "BadRow" = some (.ref (He.ga K "BadRow"))
  g_BadCall : mg "BadCall" = some (.ref (He.ga K "BadCall"))
  g_BadCounts : mg "BadCounts" = some (.ref (He.ga K "BadCounts"))
  g_BadColour : mg "BadColour" = some (.ref (He.ga K "BadColour"))
  g_BadGoal : mg "BadGoal" = some (.ref (He.ga K "BadGoal"))
  g_BadIndex : mg "BadIndex" = some (.ref (He.ga K "BadIndex"))
  g_BadText : mg "BadText" = some (.ref (He.ga K "BadText"))
  g_BadTimes : mg "BadTimes" = some (.ref (He.ga K "BadTimes"))
theorem txt_of {K : PySem.W.Frag} {h : Heap} {mg : Str → Option Value} (X : K.In h) (G : h.Ns mainGlobals mg) (c : He.SaysD faL fnL K) (ce : exL K = true) : Txt K mg := {
  f_law_rng := by
    obtain ⟨fd, F⟩ := c.def_ 9 (d := hd_law_rng) rfl
    exact ⟨fd, F, He.glo_ok X G (c.fact 9 (f := .glo "_law_rng") rfl)⟩
  f_law_classes_right := by
    obtain ⟨fd, F⟩ := c.def_ 20 (d := hd_law_classes_right) rfl
    exact ⟨fd, F, He.glo_ok X G (c.fact 20 (f := .glo "_law_classes_right") rfl)⟩
  f_law_draw := by
    obtain ⟨fd, F⟩ := c.def_ 10 (d := hd_law_draw) rfl
    exact ⟨fd, F, He.glo_ok X G (c.fact 10 (f := .glo "_law_draw") rfl)⟩
  f_law_letters := by
    obtain ⟨fd, F⟩ := c.def_ 11 (d := hd_law_letters) rfl
    exact ⟨fd, F, He.glo_ok X G (c.fact 11 (f := .glo "_law_letters") rfl)⟩
  f_law_spoiled_orders := by
    obtain ⟨fd, F⟩ := c.def_ 16 (d := hd_law_spoiled_orders) rfl
    exact ⟨fd, F, He.glo_ok X G (c.fact 16 (f := .glo "_law_spoiled_orders") rfl)⟩
  f_law_spoiled_numbers := by
    obtain ⟨fd, F⟩ := c.def_ 18 (d := hd_law_spoiled_numbers) rfl
    exact ⟨fd, F, He.glo_ok X G (c.fact 18 (f := .glo "_law_spoiled_numbers") rfl)⟩
  f_law_line := by
    obtain ⟨fd, F⟩ := c.def_ 12 (d := hd_law_line) rfl
    exact ⟨fd, F, He.glo_ok X G (c.fact 12 (f := .glo "_law_line") rfl)⟩
  f_law_order := by
    obtain ⟨fd, F⟩ := c.def_ 13 (d := hd_law_order) rfl
    exact ⟨fd, F, He.glo_ok X G (c.fact 13 (f := .glo "_law_order") rfl)⟩
  f_law_orders := by
    obtain ⟨fd, F⟩ := c.def_ 14 (d := hd_law_orders) rfl
    exact ⟨fd, F, He.glo_ok X G (c.fact 14 (f := .glo "_law_orders") rfl)⟩
  f_law_tally := by
    obtain ⟨fd, F⟩ := c.def_ 15 (d := hd_law_tally) rfl
    exact ⟨fd, F, He.glo_ok X G (c.fact 15 (f := .glo "_law_tally") rfl)⟩
  f_is_colour := by
    obtain ⟨fd, F⟩ := c.def_ 0 (d := hd_is_colour) rfl
    exact ⟨fd, F, He.glo_ok X G (c.fact 0 (f := .glo "is_colour") rfl)⟩
  f_check_row := by
    obtain ⟨fd, F⟩ := c.def_ 2 (d := hd_check_row) rfl
    exact ⟨fd, F, He.glo_ok X G (c.fact 2 (f := .glo "check_row") rfl)⟩
  f_count_colours := by
    obtain ⟨fd, F⟩ := c.def_ 6 (d := hd_count_colours) rfl
    exact ⟨fd, F, He.glo_ok X G (c.fact 6 (f := .glo "count_colours") rfl)⟩
  f_is_call := by
    obtain ⟨fd, F⟩ := c.def_ 1 (d := hd_is_call) rfl
    exact ⟨fd, F, He.glo_ok X G (c.fact 1 (f := .glo "is_call") rfl)⟩
  f_check_drill := by
    obtain ⟨fd, F⟩ := c.def_ 3 (d := hd_check_drill) rfl
    exact ⟨fd, F, He.glo_ok X G (c.fact 3 (f := .glo "check_drill") rfl)⟩
  f_check_counts := by
    obtain ⟨fd, F⟩ := c.def_ 4 (d := hd_check_counts) rfl
    exact ⟨fd, F, He.glo_ok X G (c.fact 4 (f := .glo "check_counts") rfl)⟩
  f_lead_counts := by
    obtain ⟨fd, F⟩ := c.def_ 5 (d := hd_lead_counts) rfl
    exact ⟨fd, F, He.glo_ok X G (c.fact 5 (f := .glo "lead_counts") rfl)⟩
  f_run_on_counts := by
    obtain ⟨fd, F⟩ := c.def_ 7 (d := hd_run_on_counts) rfl
    exact ⟨fd, F, He.glo_ok X G (c.fact 7 (f := .glo "run_on_counts") rfl)⟩
  f_colour_after := by
    obtain ⟨fd, F⟩ := c.def_ 8 (d := hd_colour_after) rfl
    exact ⟨fd, F, He.glo_ok X G (c.fact 8 (f := .glo "colour_after") rfl)⟩
  f_law_error := by
    obtain ⟨fd, F⟩ := c.def_ 19 (d := hd_law_error) rfl
    exact ⟨fd, F, He.glo_ok X G (c.fact 19 (f := .glo "_law_error") rfl)⟩
  f_law_bad_order := by
    obtain ⟨fd, F⟩ := c.def_ 17 (d := hd_law_bad_order) rfl
    exact ⟨fd, F, He.glo_ok X G (c.fact 17 (f := .glo "_law_bad_order") rfl)⟩
  f_law := by
    obtain ⟨fd, F⟩ := c.def_ 21 (d := hd_law) rfl
    exact ⟨fd, F, He.glo_ok X G (c.fact 21 (f := .glo "law") rfl)⟩
  c_COLOURS := He.str_ok X G (c.fact 22 (f := .str "COLOURS" "abcdef") rfl)
  c_ALL_calls := He.str_ok X G (c.fact 23 (f := .str "ALL_calls" "all") rfl)
  c_SWAP_calls := He.str_ok X G (c.fact 24 (f := .str "SWAP_calls" "swap") rfl)
  c_ALL_counts := He.str_ok X G (c.fact 25 (f := .str "ALL_counts" "all") rfl)
  c_SWAP_counts := He.str_ok X G (c.fact 26 (f := .str "SWAP_counts" "swap") rfl)
  b_len := He.free_ok X G (c.fact 27 (f := .free "len") rfl)
  b_min := He.free_ok X G (c.fact 28 (f := .free "min") rfl)
  b_list := He.free_ok X G (c.fact 29 (f := .free "list") rfl)
  b_int := He.free_ok X G (c.fact 30 (f := .free "int") rfl)
  b_str := He.free_ok X G (c.fact 31 (f := .free "str") rfl)
  b_range := He.free_ok X G (c.fact 32 (f := .free "range") rfl)
  b_isinstance := He.free_ok X G (c.fact 33 (f := .free "isinstance") rfl)
  b_zip := He.free_ok X G (c.fact 34 (f := .free "zip") rfl)
  b_enumerate := He.free_ok X G (c.fact 35 (f := .free "enumerate") rfl)
  b_dict := He.free_ok X G (c.fact 36 (f := .free "dict") rfl)
  b_abs := He.free_ok X G (c.fact 37 (f := .free "abs") rfl)
  b_ValueError := He.free_ok X G (c.fact 38 (f := .free "ValueError") rfl)
  e_DrillError := basB_ok (He.glo_ok X G (c.fact 47 (f := .glo "DrillError") rfl)) (He.ba (He.ba (He.ba (He.ba (He.ba (He.ba (He.ba (He.ba (He.ba ce).2).2).2).2).2).2).2).2).1
  e_BadRow := hasExc (He.glo_ok X G (c.fact 39 (f := .glo "BadRow") rfl)) (He.ba ce).1 (He.meth_ok (c.fact 48 (f := .meth "BadRow" "__init__") rfl)) (c.def_ 22 (d := hd_init_BadRow) rfl)
  x_BadRow_DrillError := He.exm_ok (c.fact 56 (f := .exm "BadRow" "DrillError" true) rfl)
  i_BadRow := isFB_ok (He.ba (He.ba (He.ba (He.ba (He.ba (He.ba (He.ba (He.ba (He.ba (He.ba ce).2).2).2).2).2).2).2).2).2).1
  e_BadCall := hasExc (He.glo_ok X G (c.fact 40 (f := .glo "BadCall") rfl)) (He.ba (He.ba ce).2).1 (He.meth_ok (c.fact 49 (f := .meth "BadCall" "__init__") rfl)) (c.def_ 23 (d := hd_init_BadCall) rfl)
  x_BadCall_DrillError := He.exm_ok (c.fact 57 (f := .exm "BadCall" "DrillError" true) rfl)
  i_BadCall := isFB_ok (He.ba (He.ba (He.ba (He.ba (He.ba (He.ba (He.ba (He.ba (He.ba (He.ba (He.ba ce).2).2).2).2).2).2).2).2).2).2).1
  e_BadCounts := hasExc (He.glo_ok X G (c.fact 41 (f := .glo "BadCounts") rfl)) (He.ba (He.ba (He.ba ce).2).2).1 (He.meth_ok (c.fact 50 (f := .meth "BadCounts" "__init__") rfl)) (c.def_ 24 (d := hd_init_BadCounts) rfl)
  x_BadCounts_DrillError := He.exm_ok (c.fact 58 (f := .exm "BadCounts" "DrillError" true) rfl)
  i_BadCounts := isFB_ok (He.ba (He.ba (He.ba (He.ba (He.ba (He.ba (He.ba (He.ba (He.ba (He.ba (He.ba (He.ba ce).2).2).2).2).2).2).2).2).2).2).2).1
  e_BadColour := hasExc (He.glo_ok X G (c.fact 42 (f := .glo "BadColour") rfl)) (He.ba (He.ba (He.ba (He.ba ce).2).2).2).1 (He.meth_ok (c.fact 51 (f := .meth "BadColour" "__init__") rfl)) (c.def_ 25 (d := hd_init_BadColour) rfl)
  x_BadColour_DrillError := He.exm_ok (c.fact 59 (f := .exm "BadColour" "DrillError" true) rfl)
  i_BadColour := isFB_ok (He.ba (He.ba (He.ba (He.ba (He.ba (He.ba (He.ba (He.ba (He.ba (He.ba (He.ba (He.ba (He.ba ce).2).2).2).2).2).2).2).2).2).2).2).2).1
  e_BadGoal := hasExc (He.glo_ok X G (c.fact 43 (f := .glo "BadGoal") rfl)) (He.ba (He.ba (He.ba (He.ba (He.ba ce).2).2).2).2).1 (He.meth_ok (c.fact 52 (f := .meth "BadGoal" "__init__") rfl)) (c.def_ 26 (d := hd_init_BadGoal) rfl)
  x_BadGoal_DrillError := He.exm_ok (c.fact 60 (f := .exm "BadGoal" "DrillError" true) rfl)
  i_BadGoal := isFB_ok (He.ba (He.ba (He.ba (He.ba (He.ba (He.ba (He.ba (He.ba (He.ba (He.ba (He.ba (He.ba (He.ba (He.ba ce).2).2).2).2).2).2).2).2).2).2).2).2).2).1
  e_BadIndex := hasExc (He.glo_ok X G (c.fact 44 (f := .glo "BadIndex") rfl)) (He.ba (He.ba (He.ba (He.ba (He.ba (He.ba ce).2).2).2).2).2).1 (He.meth_ok (c.fact 53 (f := .meth "BadIndex" "__init__") rfl)) (c.def_ 27 (d := hd_init_BadIndex) rfl)
  x_BadIndex_DrillError := He.exm_ok (c.fact 61 (f := .exm "BadIndex" "DrillError" true) rfl)
  i_BadIndex := isFB_ok (He.ba (He.ba (He.ba (He.ba (He.ba (He.ba (He.ba (He.ba (He.ba (He.ba (He.ba (He.ba (He.ba (He.ba (He.ba ce).2).2).2).2).2).2).2).2).2).2).2).2).2).2).1
  e_BadText := hasExc (He.glo_ok X G (c.fact 45 (f := .glo "BadText") rfl)) (He.ba (He.ba (He.ba (He.ba (He.ba (He.ba (He.ba ce).2).2).2).2).2).2).1 (He.meth_ok (c.fact 54 (f := .meth "BadText" "__init__") rfl)) (c.def_ 28 (d := hd_init_BadText) rfl)
  x_BadText_DrillError := He.exm_ok (c.fact 62 (f := .exm "BadText" "DrillError" true) rfl)
  i_BadText := isFB_ok (He.ba (He.ba (He.ba (He.ba (He.ba (He.ba (He.ba (He.ba (He.ba (He.ba (He.ba (He.ba (He.ba (He.ba (He.ba (He.ba ce).2).2).2).2).2).2).2).2).2).2).2).2).2).2).2).1
  e_BadTimes := hasExc (He.glo_ok X G (c.fact 46 (f := .glo "BadTimes") rfl)) (He.ba (He.ba (He.ba (He.ba (He.ba (He.ba (He.ba (He.ba ce).2).2).2).2).2).2).2).1 (He.meth_ok (c.fact 55 (f := .meth "BadTimes" "__init__") rfl)) (c.def_ 29 (d := hd_init_BadTimes) rfl)
  x_BadTimes_DrillError := He.exm_ok (c.fact 63 (f := .exm "BadTimes" "DrillError" true) rfl)
  i_BadTimes := isFB_ok (He.ba (He.ba (He.ba (He.ba (He.ba (He.ba (He.ba (He.ba (He.ba (He.ba (He.ba (He.ba (He.ba (He.ba (He.ba (He.ba (He.ba ce).2).2).2).2).2).2).2).2).2).2).2).2).2).2).2).2).1
  i_DrillError := isFB_ok (He.ba (He.ba (He.ba (He.ba (He.ba (He.ba (He.ba (He.ba (He.ba (He.ba (He.ba (He.ba (He.ba (He.ba (He.ba (He.ba (He.ba (He.ba ce).2).2).2).2).2).2).2).2).2).2).2).2).2).2).2).2).2).1
  v_DrillError := bareB_ok (He.ba (He.ba (He.ba (He.ba (He.ba (He.ba (He.ba (He.ba (He.ba (He.ba (He.ba (He.ba (He.ba (He.ba (He.ba (He.ba (He.ba (He.ba ce).2).2).2).2).2).2).2).2).2).2).2).2).2).2).2).2).2).2
  g_DrillError := He.glo_ok X G (c.fact 64 (f := .glo "DrillError") rfl)
  g_BadRow := He.glo_ok X G (c.fact 65 (f := .glo "BadRow") rfl)
  g_BadCall := He.glo_ok X G (c.fact 66 (f := .glo "BadCall") rfl)
  g_BadCounts := He.glo_ok X G (c.fact 67 (f := .glo "BadCounts") rfl)
  g_BadColour := He.glo_ok X G (c.fact 68 (f := .glo "BadColour") rfl)
  g_BadGoal := He.glo_ok X G (c.fact 69 (f := .glo "BadGoal") rfl)
  g_BadIndex := He.glo_ok X G (c.fact 70 (f := .glo "BadIndex") rfl)
  g_BadText := He.glo_ok X G (c.fact 71 (f := .glo "BadText") rfl)
  g_BadTimes := He.glo_ok X G (c.fact 72 (f := .glo "BadTimes") rfl)
}
section
variable {P : Program} {w : World} {K : PySem.W.Frag} {mg : Str → Option Value} {base : Heap}
theorem sc_init_BadRow : FnScope ["self", "value"] ["self", "value"] (defScope s_init_BadRow) := ⟨rfl, rfl, rfl, by decide +kernel, rfl, by decide +kernel, by decide +kernel⟩
theorem okF_init_BadRow (T : Txt K mg) : ExcOkF P w K mg base "BadRow" "BadRow.__init__" s_init_BadRow := by
  have sc := sc_init_BadRow
  obtain ⟨fd, F⟩ := T.e_BadRow.fn
  refine ⟨fd, F, F.ok (k := 0) sc (fun _ _ _ _ h => h.1) (fun cdv A outer s H vs Q E hr h => ⟨tI K "invalid character in a row", PSs.nox (?_), pure_I T.e_BadRow.oex T.e_BadRow.nov h⟩), F.bindsN (fun _ _ _ _ _ _ us hl => match us, hl with | [_, _], _ => rfl)⟩
  exact pss_cons (ps_expr (pe_dinit rfl T.e_DrillError (pa_cons (pv 0) (pa_cons pe_str pa_nil)))) (pss_one (ps_ost (pv 0) (pv 1)))
theorem ok_init_BadRow (T : Txt K mg) : ExcOk P w K mg base (He.ga K "BadRow") (He.ma K (He.ga K "BadRow") "__init__") := (okF_init_BadRow T).ok

theorem sc_init_BadCall : FnScope ["self", "value"] ["self", "value"] (defScope s_init_BadCall) := ⟨rfl, rfl, rfl, by decide +kernel, rfl, by decide +kernel, by decide +kernel⟩
theorem okF_init_BadCall (T : Txt K mg) : ExcOkF P w K mg base "BadCall" "BadCall.__init__" s_init_BadCall := by
  have sc := sc_init_BadCall
  obtain ⟨fd, F⟩ := T.e_BadCall.fn
  refine ⟨fd, F, F.ok (k := 0) sc (fun _ _ _ _ h => h.1) (fun cdv A outer s H vs Q E hr h => ⟨tI K "invalid call", PSs.nox (?_), pure_I T.e_BadCall.oex T.e_BadCall.nov h⟩), F.bindsN (fun _ _ _ _ _ _ us hl => match us, hl with | [_, _], _ => rfl)⟩
  exact pss_cons (ps_expr (pe_dinit rfl T.e_DrillError (pa_cons (pv 0) (pa_cons pe_str pa_nil)))) (pss_one (ps_ost (pv 0) (pv 1)))
theorem ok_init_BadCall (T : Txt K mg) : ExcOk P w K mg base (He.ga K "BadCall") (He.ma K (He.ga K "BadCall") "__init__") := (okF_init_BadCall T).ok

theorem sc_init_BadCounts : FnScope ["self", "value"] ["self", "value"] (defScope s_init_BadCounts) := ⟨rfl, rfl, rfl, by decide +kernel, rfl, by decide +kernel, by decide +kernel⟩
theorem okF_init_BadCounts (T : Txt K mg) : ExcOkF P w K mg base "BadCounts" "BadCounts.__init__" s_init_BadCounts := by
  have sc := sc_init_BadCounts
  obtain ⟨fd, F⟩ := T.e_BadCounts.fn
  refine ⟨fd, F, F.ok (k := 0) sc (fun _ _ _ _ h => h.1) (fun cdv A outer s H vs Q E hr h => ⟨tI K "invalid counts", PSs.nox (?_), pure_I T.e_BadCounts.oex T.e_BadCounts.nov h⟩), F.bindsN (fun _ _ _ _ _ _ us hl => match us, hl with | [_, _], _ => rfl)⟩
  exact pss_cons (ps_expr (pe_dinit rfl T.e_DrillError (pa_cons (pv 0) (pa_cons pe_str pa_nil)))) (pss_one (ps_ost (pv 0) (pv 1)))
theorem ok_init_BadCounts (T : Txt K mg) : ExcOk P w K mg base (He.ga K "BadCounts") (He.ma K (He.ga K "BadCounts") "__init__") := (okF_init_BadCounts T).ok

theorem sc_init_BadColour : FnScope ["self", "value"] ["self", "value"] (defScope s_init_BadColour) := ⟨rfl, rfl, rfl, by decide +kernel, rfl, by decide +kernel, by decide +kernel⟩
theorem okF_init_BadColour (T : Txt K mg) : ExcOkF P w K mg base "BadColour" "BadColour.__init__" s_init_BadColour := by
  have sc := sc_init_BadColour
  obtain ⟨fd, F⟩ := T.e_BadColour.fn
  refine ⟨fd, F, F.ok (k := 0) sc (fun _ _ _ _ h => h.1) (fun cdv A outer s H vs Q E hr h => ⟨tI K "invalid colour", PSs.nox (?_), pure_I T.e_BadColour.oex T.e_BadColour.nov h⟩), F.bindsN (fun _ _ _ _ _ _ us hl => match us, hl with | [_, _], _ => rfl)⟩
  exact pss_cons (ps_expr (pe_dinit rfl T.e_DrillError (pa_cons (pv 0) (pa_cons pe_str pa_nil)))) (pss_one (ps_ost (pv 0) (pv 1)))
theorem ok_init_BadColour (T : Txt K mg) : ExcOk P w K mg base (He.ga K "BadColour") (He.ma K (He.ga K "BadColour") "__init__") := (okF_init_BadColour T).ok

theorem sc_init_BadGoal : FnScope ["self", "value"] ["self", "value"] (defScope s_init_BadGoal) := ⟨rfl, rfl, rfl, by decide +kernel, rfl, by decide +kernel, by decide +kernel⟩
theorem okF_init_BadGoal (T : Txt K mg) : ExcOkF P w K mg base "BadGoal" "BadGoal.__init__" s_init_BadGoal := by
  have sc := sc_init_BadGoal
  obtain ⟨fd, F⟩ := T.e_BadGoal.fn
  refine ⟨fd, F, F.ok (k := 0) sc (fun _ _ _ _ h => h.1) (fun cdv A outer s H vs Q E hr h => ⟨tI K "no plan between these rows", PSs.nox (?_), pure_I T.e_BadGoal.oex T.e_BadGoal.nov h⟩), F.bindsN (fun _ _ _ _ _ _ us hl => match us, hl with | [_, _], _ => rfl)⟩
  exact pss_cons (ps_expr (pe_dinit rfl T.e_DrillError (pa_cons (pv 0) (pa_cons pe_str pa_nil)))) (pss_one (ps_ost (pv 0) (pv 1)))
theorem ok_init_BadGoal (T : Txt K mg) : ExcOk P w K mg base (He.ga K "BadGoal") (He.ma K (He.ga K "BadGoal") "__init__") := (okF_init_BadGoal T).ok

theorem sc_init_BadIndex : FnScope ["self", "value"] ["self", "value"] (defScope s_init_BadIndex) := ⟨rfl, rfl, rfl, by decide +kernel, rfl, by decide +kernel, by decide +kernel⟩
theorem okF_init_BadIndex (T : Txt K mg) : ExcOkF P w K mg base "BadIndex" "BadIndex.__init__" s_init_BadIndex := by
  have sc := sc_init_BadIndex
  obtain ⟨fd, F⟩ := T.e_BadIndex.fn
  refine ⟨fd, F, F.ok (k := 0) sc (fun _ _ _ _ h => h.1) (fun cdv A outer s H vs Q E hr h => ⟨tI K "no such person or step", PSs.nox (?_), pure_I T.e_BadIndex.oex T.e_BadIndex.nov h⟩), F.bindsN (fun _ _ _ _ _ _ us hl => match us, hl with | [_, _], _ => rfl)⟩
  exact pss_cons (ps_expr (pe_dinit rfl T.e_DrillError (pa_cons (pv 0) (pa_cons pe_str pa_nil)))) (pss_one (ps_ost (pv 0) (pv 1)))
theorem ok_init_BadIndex (T : Txt K mg) : ExcOk P w K mg base (He.ga K "BadIndex") (He.ma K (He.ga K "BadIndex") "__init__") := (okF_init_BadIndex T).ok

theorem sc_init_BadText : FnScope ["self", "value"] ["self", "value"] (defScope s_init_BadText) := ⟨rfl, rfl, rfl, by decide +kernel, rfl, by decide +kernel, by decide +kernel⟩
theorem okF_init_BadText (T : Txt K mg) : ExcOkF P w K mg base "BadText" "BadText.__init__" s_init_BadText := by
  have sc := sc_init_BadText
  obtain ⟨fd, F⟩ := T.e_BadText.fn
  refine ⟨fd, F, F.ok (k := 0) sc (fun _ _ _ _ h => h.1) (fun cdv A outer s H vs Q E hr h => ⟨tI K "invalid text", PSs.nox (?_), pure_I T.e_BadText.oex T.e_BadText.nov h⟩), F.bindsN (fun _ _ _ _ _ _ us hl => match us, hl with | [_, _], _ => rfl)⟩
  exact pss_cons (ps_expr (pe_dinit rfl T.e_DrillError (pa_cons (pv 0) (pa_cons pe_str pa_nil)))) (pss_one (ps_ost (pv 0) (pv 1)))
theorem ok_init_BadText (T : Txt K mg) : ExcOk P w K mg base (He.ga K "BadText") (He.ma K (He.ga K "BadText") "__init__") := (okF_init_BadText T).ok

theorem sc_init_BadTimes : FnScope ["self", "value"] ["self", "value"] (defScope s_init_BadTimes) := ⟨rfl, rfl, rfl, by decide +kernel, rfl, by decide +kernel, by decide +kernel⟩
theorem okF_init_BadTimes (T : Txt K mg) : ExcOkF P w K mg base "BadTimes" "BadTimes.__init__" s_init_BadTimes := by
  have sc := sc_init_BadTimes
  obtain ⟨fd, F⟩ := T.e_BadTimes.fn
  refine ⟨fd, F, F.ok (k := 0) sc (fun _ _ _ _ h => h.1) (fun cdv A outer s H vs Q E hr h => ⟨tI K "negative number of repetitions", PSs.nox (?_), pure_I T.e_BadTimes.oex T.e_BadTimes.nov h⟩), F.bindsN (fun _ _ _ _ _ _ us hl => match us, hl with | [_, _], _ => rfl)⟩
  exact pss_cons (ps_expr (pe_dinit rfl T.e_DrillError (pa_cons (pv 0) (pa_cons pe_str pa_nil)))) (pss_one (ps_ost (pv 0) (pv 1)))
theorem ok_init_BadTimes (T : Txt K mg) : ExcOk P w K mg base (He.ga K "BadTimes") (He.ma K (He.ga K "BadTimes") "__init__") := (okF_init_BadTimes T).ok

theorem sc_law_rng : FnScope ["script", "digits", "seed", "cell", "size"] ["script"] (defScope s_law_rng) := ⟨rfl, rfl, rfl, by decide +kernel, rfl, by decide +kernel, by decide +kernel⟩
theorem ok_law_rng (T : Txt K mg) : Def P w K mg base CX0 1 "_law_rng" ["script"] s_law_rng (sp_law_rng K) := by
  have sc := sc_law_rng
  refine T.f_law_rng.ok sc (fun _ _ _ _ h => h.1) (fun _ _ _ _ _ _ us hl => match us, hl with | [_], _ => rfl) (fun f cdv A outer s H vs Q E hr h => ⟨t_law_rng K, PSs.nox (?_), pure_law_rng h⟩)
  exact (pss_cons (ps_asg (pe_tup (pa_cons pe_int (pa_cons pe_int pa_nil))) (pg_tup rfl (pgs_cons (pg_name (i := 1) sc.nd rfl (Or.inl rfl)) (pgs_cons (pg_name (i := 2) sc.nd rfl (Or.inl rfl)) pgs_nil))))
    (pss_cons (ps_for PassesOwn.never rfl (pi_list (pe_slice sl_list (pv 0) po_none (po_some pe_int))) (pg_name (i := 3) sc.nd rfl (Or.inl rfl)) (pss_cons (ps_set (i := 4) sc.nd rfl (.inl rfl) (pe_callB call_abs (by rfl) T.b_abs boot_abs (pa_cons (pv 3) pa_nil)))
    (pss_cons (ps_if (pt_cmpR op_ge (pv 4) (pe_op op_pow pe_int pe_int) (nomark _)) (pss_one (ps_set (i := 1) sc.nd rfl (.inl rfl) (pe_op op_add (pe_op op_mulW (pv 1) (pe_op op_pow pe_int pe_int)) (pe_op op_mod (pv 4) (pe_op op_pow pe_int pe_int))))) pss_nil)
    (pss_one (ps_set (i := 2) sc.nd rfl (.inl rfl) (pe_op op_mod (pe_op op_add (pe_op op_add (pe_op op_mulW (pv 2) pe_int) (pe_op op_mod (pv 3) pe_int)) pe_int) pe_int))))))
    (pss_one (ps_ret (pe_lst (pa_cons (pv 1) (pa_cons (pv 2) (pa_cons pe_int pa_nil))))))))

theorem sc_law_classes_right : FnScope ["some", "bare", "one"] [] (defScope s_law_classes_right) := ⟨rfl, rfl, rfl, by decide +kernel, rfl, by decide +kernel, by decide +kernel⟩
theorem ok_law_classes_right (T : Txt K mg) : Def P w K mg base CX0 3 "_law_classes_right" [] s_law_classes_right (sp_law_classes_right K) := by
  have sc := sc_law_classes_right
  refine T.f_law_classes_right.ok sc (fun _ _ _ _ h => h.1) (fun _ _ _ _ _ _ us hl => match us, hl with | [], _ => rfl) (fun f cdv A outer s H vs Q E hr h => ⟨t_law_classes_right K, PSs.nox (?_), pure_law_classes_right (vfOf T.e_BadRow.xf T.e_BadRow.nov T.i_BadRow (by simp) (by simp)) (vfOf T.e_BadCall.xf T.e_BadCall.nov T.i_BadCall (by simp) (by simp)) (vfOf T.e_BadCounts.xf T.e_BadCounts.nov T.i_BadCounts (by simp) (by simp)) (vfOf T.e_BadColour.xf T.e_BadColour.nov T.i_BadColour (by simp) (by simp)) (vfOf T.e_BadGoal.xf T.e_BadGoal.nov T.i_BadGoal (by simp) (by simp)) (vfOf T.e_BadIndex.xf T.e_BadIndex.nov T.i_BadIndex (by simp) (by simp)) (vfOf T.e_BadText.xf T.e_BadText.nov T.i_BadText (by simp) (by simp)) (vfOf T.e_BadTimes.xf T.e_BadTimes.nov T.i_BadTimes (by simp) (by simp)) (bfOf T.i_DrillError (by simp) (by simp)) h⟩)
  exact (pss_cons (ps_set (i := 0) sc.nd rfl (.inl rfl) (pe_lst (pa_cons (pe_excV T.e_BadRow (okF_init_BadRow T) (hr.mono (by decide)) rfl pe_int) (pa_cons (pe_excVK T.e_BadCall (okF_init_BadCall T) (hr.mono (by decide)) rfl (fun _ _ _ _ _ _ _ _ => rfl) pe_int) (pa_cons (pe_excV T.e_BadCounts (okF_init_BadCounts T) (hr.mono (by decide)) rfl pe_non) (pa_cons (pe_excVK T.e_BadColour (okF_init_BadColour T) (hr.mono (by decide)) rfl (fun _ _ _ _ _ _ _ _ => rfl) pe_str) (pa_cons (pe_excV T.e_BadGoal (okF_init_BadGoal T) (hr.mono (by decide)) rfl pe_non) (pa_cons (pe_excVK T.e_BadIndex (okF_init_BadIndex T) (hr.mono (by decide)) rfl (fun _ _ _ _ _ _ _ _ => rfl) (pe_un un_neg pe_int)) pa_nil))))))))
    (pss_cons (ps_set (i := 0) sc.nd rfl (.inl rfl) (pe_op op_cat (pv 0) (pe_lst (pa_cons (pe_excV T.e_BadText (okF_init_BadText T) (hr.mono (by decide)) rfl pe_str) (pa_cons (pe_excVK T.e_BadTimes (okF_init_BadTimes T) (hr.mono (by decide)) rfl (fun _ _ _ _ _ _ _ _ => rfl) (pe_un un_neg pe_int)) pa_nil)))))
    (pss_cons (ps_if (pt_cmpR (op_neD hr.units) (pe_lc (own := [("one", 2)]) rfl sc.nd (pi_list (pv 0)) (blkOk_by (own := [("one", 2)]) (N := ["some", "bare", "one"]) (sc := defScope s_law_classes_right) (by decide +kernel)) (fun _ _ _ _ _ => (pg_name (i := 2) sc.nd rfl (Or.inl rfl))) (fun _ _ _ _ _ => pts_nil) (fun _ _ _ _ _ => (pe_xval (pv 2)))) (pe_lst (pa_cons pe_int (pa_cons pe_int (pa_cons pe_non (pa_cons pe_str (pa_cons pe_non (pa_cons (pe_un un_neg pe_int) (pa_cons pe_str (pa_cons (pe_un un_neg pe_int) pa_nil))))))))) (nomark _)) (pss_one (ps_ret pe_bl)) pss_nil)
    (pss_cons (ps_set (i := 1) sc.nd rfl (.inl rfl) (pe_excB T.v_DrillError T.e_DrillError.hm rfl pe_str))
    (pss_one (ps_ret (pe_cmpR (op_eqD hr.units) (pe_lc (own := [("one", 2)]) rfl sc.nd (pi_list (pe_op op_cat (pv 0) (pe_lst (pa_cons (pv 1) pa_nil)))) (blkOk_by (own := [("one", 2)]) (N := ["some", "bare", "one"]) (sc := defScope s_law_classes_right) (by decide +kernel)) (fun _ _ _ _ _ => (pg_name (i := 2) sc.nd rfl (Or.inl rfl))) (fun _ _ _ _ _ => pts_one (PW.pt (pw_or (pt_not (pt_val (pe_callB cr_isV (by rfl) T.b_isinstance boot_isinstance (pa_cons (pv 2) (pa_cons (pe_glob rfl T.g_DrillError rfl) pa_nil))))) (pw_or1 (pt_not (pt_val (pe_callB cr_isV (by rfl) T.b_isinstance boot_isinstance (pa_cons (pv 2) (pa_cons (pe_bltn (by rfl) T.b_ValueError boot_ValueError rfl) pa_nil))))))))) (fun _ _ _ _ _ => pe_int)) (pe_lst pa_nil) (nomark _))))))))

theorem sc_law_draw : FnScope ["rng", "limit", "found", "mixed"] ["rng", "limit"] (defScope s_law_draw) := ⟨rfl, rfl, rfl, by decide +kernel, rfl, by decide +kernel, by decide +kernel⟩
theorem ok_law_draw (T : Txt K mg) : Def P w K mg base CX0 1 "_law_draw" ["rng", "limit"] s_law_draw (sp_law_draw K) := by
  have sc := sc_law_draw
  refine T.f_law_draw.ok sc (fun _ _ _ _ h => h.1) (fun _ _ _ _ _ _ us hl => match us, hl with | [_, _], _ => rfl) (fun f cdv A outer s H vs Q E hr h => ⟨t_law_draw K, PSs.nox (?_), pure_law_draw h⟩)
  exact (pss_cons (ps_if (pt_cmpR op_gt (pe_ix ix_list (pv 0) pe_int (fun _ _ => rfl)) pe_int (nomark _)) (pss_cons (ps_set (i := 2) sc.nd rfl (.inl rfl) (pe_op op_mod (pe_ix ix_list (pv 0) pe_int (fun _ _ => rfl)) (pv 1)))
    (pss_cons (ps_asg (pe_op op_fdivW (pe_ix ix_list (pv 0) pe_int (fun _ _ => rfl)) (pv 1)) (pg_sub (pv 0) pe_int set_list))
    (pss_one (ps_ret (pv 2))))) pss_nil)
    (pss_cons (ps_asg (pe_op op_add (pe_ix ix_list (pv 0) pe_int (fun _ _ => rfl)) pe_int) (pg_sub (pv 0) pe_int set_list))
    (pss_cons (ps_set (i := 3) sc.nd rfl (.inl rfl) (pe_op op_mod (pe_op op_powW (pe_op op_add (pe_ix ix_list (pv 0) pe_int (fun _ _ => rfl)) (pe_op op_mul pe_int (pe_ix ix_list (pv 0) pe_int (fun _ _ => rfl)))) pe_int) pe_int))
    (pss_cons (ps_set (i := 3) sc.nd rfl (.inl rfl) (pe_op op_mod (pe_op op_powW (pe_op op_add (pv 3) (pe_op op_mul pe_int (pe_ix ix_list (pv 0) pe_int (fun _ _ => rfl)))) pe_int) pe_int))
    (pss_one (ps_ret (pe_op op_mod (pe_op op_fdivW (pv 3) pe_int) (pv 1))))))))

theorem sc_law_letters : FnScope ["rng", "left", "turn"] ["rng"] (defScope s_law_letters) := ⟨rfl, rfl, rfl, by decide +kernel, rfl, by decide +kernel, by decide +kernel⟩
theorem ok_law_letters (T : Txt K mg) : Def P w K mg base CX0 2 "_law_letters" ["rng"] s_law_letters (sp_law_letters K) := by
  have sc := sc_law_letters
  refine T.f_law_letters.ok sc (fun _ _ _ _ h => h.1) (fun _ _ _ _ _ _ us hl => match us, hl with | [_], _ => rfl) (fun f cdv A outer s H vs Q E hr h => ⟨t_law_letters K, PSs.nox (?_), pure_law_letters h⟩)
  exact (pss_cons (ps_set (i := 1) sc.nd rfl (.inr rfl) (pe_callTy (call_list_sig rfl) (by rfl) T.b_list boot_list (pa_cons pe_str pa_nil)))
    (pss_one (ps_ret (pe_lc (own := [("turn", 2)]) rfl sc.nd (pi_range1 (by rfl) T.b_range (pa_cons (pe_ix ix_list (pe_lst (pa_cons pe_int (pa_cons pe_int (pa_cons pe_int (pa_cons pe_int (pa_cons pe_int pa_nil)))))) (pe_callD (ok_law_draw T) (hr.mono (by decide)) rfl pass0 (pa_cons (pv 0) (pa_cons pe_int pa_nil))) (fun _ _ => rfl)) pa_nil)) (blkOk_by (own := [("turn", 2)]) (N := ["rng", "left", "turn"]) (sc := defScope s_law_letters) (by decide +kernel)) (fun _ _ _ _ _ => (pg_name (i := 2) sc.nd rfl (Or.inl rfl))) (fun _ _ _ _ _ => pts_nil) (fun _ _ _ _ _ => (pe_bm PySem.F.plainAttrs_list PySem.F.slot_list_pop PySem.F.type_list_pop mt_popAt (pv 1) (pa_cons (pe_callD (ok_law_draw T) (hr.mono (by decide)) rfl pass0 (pa_cons (pv 0) (pa_cons (pe_callB call_len_seq (by rfl) T.b_len boot_len (pa_cons (pv 1) pa_nil)) pa_nil))) pa_nil)))))))

theorem sc_law_spoiled_orders : FnScope ["rng", "orders", "found", "place", "way", "first", "second", "some"] ["rng", "orders"] (defScope s_law_spoiled_orders) := ⟨rfl, rfl, rfl, by decide +kernel, rfl, by decide +kernel, by decide +kernel⟩
theorem ok_law_spoiled_orders (T : Txt K mg) : Def P w K mg base CX0 2 "_law_spoiled_orders" ["rng", "orders"] s_law_spoiled_orders (sp_law_spoiled_orders K) := by
  have sc := sc_law_spoiled_orders
  refine T.f_law_spoiled_orders.ok sc (fun _ _ _ _ h => h.1) (fun _ _ _ _ _ _ us hl => match us, hl with | [_, _], _ => rfl) (fun f cdv A outer s H vs Q E hr h => ⟨t_law_spoiled_orders K, PSs.nox (?_), pure_law_spoiled_orders h⟩)
  exact (pss_cons (ps_set (i := 2) sc.nd rfl (.inl rfl) (pe_callTy call_list_of (by rfl) T.b_list boot_list (pa_cons (pv 1) pa_nil)))
    (pss_cons (ps_for PassesOwn.never rfl (pi_enum (by rfl) T.b_enumerate (pa_cons (pv 1) pa_nil)) (pg_tup rfl (pgs_cons (pg_name (i := 3) sc.nd rfl (Or.inl rfl)) (pgs_cons (pg_tup rfl (pgs_cons (pg_name (i := 4) sc.nd rfl (Or.inl rfl)) (pgs_cons (pg_name (i := 5) sc.nd rfl (Or.inl rfl)) (pgs_cons (pg_name (i := 6) sc.nd rfl (Or.inl rfl)) pgs_nil)))) pgs_nil))) (pss_cons (ps_set (i := 7) sc.nd rfl (.inl rfl) (pe_lst (pa_cons (pe_tup (pa_cons pe_int (pa_cons (pv 5) (pa_cons (pv 6) pa_nil)))) (pa_cons (pe_tup (pa_cons (pe_un un_neg pe_int) (pa_cons (pv 5) (pa_cons (pv 6) pa_nil)))) (pa_cons (pe_tup (pa_cons pe_str (pa_cons (pv 5) (pa_cons (pv 6) pa_nil)))) (pa_cons (pe_tup (pa_cons pe_str (pa_cons (pv 5) (pa_cons (pv 6) pa_nil)))) pa_nil))))))
    (pss_cons (ps_set (i := 7) sc.nd rfl (.inl rfl) (pe_op op_cat (pv 7) (pe_lst (pa_cons (pe_tup (pa_cons (pv 4) (pa_cons (pv 5) (pa_cons (pv 5) pa_nil)))) (pa_cons (pe_tup (pa_cons (pv 4) (pa_cons pe_str (pa_cons (pv 6) pa_nil)))) (pa_cons (pe_tup (pa_cons (pv 4) (pa_cons (pv 5) (pa_cons pe_str pa_nil)))) (pa_cons (pe_tup (pa_cons (pv 4) (pa_cons pe_str (pa_cons (pv 6) pa_nil)))) pa_nil)))))))
    (pss_cons (ps_set (i := 7) sc.nd rfl (.inl rfl) (pe_op op_cat (pv 7) (pe_lst (pa_cons (pe_tup (pa_cons (pv 4) (pa_cons (pv 5) (pa_cons pe_str pa_nil)))) (pa_cons (pe_tup (pa_cons pe_str (pa_cons (pv 5) (pa_cons (pv 6) pa_nil)))) (pa_cons (pe_tup (pa_cons pe_str (pa_cons (pv 5) (pa_cons (pv 6) pa_nil)))) pa_nil))))))
    (pss_one (ps_if (pt_cmpR op_eq (pe_callD (ok_law_draw T) (hr.mono (by decide)) rfl pass0 (pa_cons (pv 0) (pa_cons pe_int pa_nil))) pe_int (nomark _)) (pss_one (ps_asg (pe_ix ix_list (pv 7) (pe_callD (ok_law_draw T) (hr.mono (by decide)) rfl pass0 (pa_cons (pv 0) (pa_cons (pe_callB call_len_seq (by rfl) T.b_len boot_len (pa_cons (pv 7) pa_nil)) pa_nil))) (fun _ _ => rfl)) (pg_sub (pv 2) (pv 3) set_list))) pss_nil))))))
    (pss_one (ps_ret (pv 2)))))

theorem sc_law_spoiled_numbers : FnScope ["rng", "numbers", "way", "place", "below", "later", "number"] ["rng", "numbers"] (defScope s_law_spoiled_numbers) := ⟨rfl, rfl, rfl, by decide +kernel, rfl, by decide +kernel, by decide +kernel⟩
theorem ok_law_spoiled_numbers (T : Txt K mg) : Def P w K mg base CX0 2 "_law_spoiled_numbers" ["rng", "numbers"] s_law_spoiled_numbers (sp_law_spoiled_numbers K) := by
  have sc := sc_law_spoiled_numbers
  refine T.f_law_spoiled_numbers.ok sc (fun _ _ _ _ h => h.1) (fun _ _ _ _ _ _ us hl => match us, hl with | [_, _], _ => rfl) (fun f cdv A outer s H vs Q E hr h => ⟨t_law_spoiled_numbers K, PSs.nox (?_), pure_law_spoiled_numbers h⟩)
  exact (pss_cons (ps_par (by rfl) sc.nd rfl rfl (by decide) rfl rfl (pa_cons (pe_callD (ok_law_draw T) (hr.mono (by decide)) rfl pass0 (pa_cons (pv 0) (pa_cons pe_int pa_nil))) (pa_cons (pe_callD (ok_law_draw T) (hr.mono (by decide)) rfl pass0 (pa_cons (pv 0) (pa_cons pe_int pa_nil))) pa_nil)) (by rfl))
    (pss_cons (ps_if (pt_cmpR op_eq (pv 2) pe_int (nomark _)) (pss_one (ps_ret (pe_tup (pa_cons (pe_slice sl_list (pv 1) po_none (po_some (pv 3))) (pa_cons (pe_lst (pa_cons pe_non pa_nil)) pa_nil))))) pss_nil)
    (pss_cons (ps_if (pt_cmpR op_eq (pv 2) pe_int (nomark _)) (pss_one (ps_ret (pe_tup (pa_cons (pe_op op_cat (pv 1) (pe_op op_rep (pe_lst (pa_cons pe_int pa_nil)) (pe_op op_add pe_int (pv 3)))) (pa_cons (pe_lst (pa_cons pe_non pa_nil)) pa_nil))))) pss_nil)
    (pss_cons (ps_if (pt_cmpR op_eq (pv 2) pe_int (nomark _)) (pss_one (ps_ret (pe_tup (pa_cons (pe_slice sl_list (pe_op op_cat (pe_lst (pa_cons (pe_un un_neg pe_int) pa_nil)) (pv 1)) po_none (po_some (pe_ix ix_list (pe_lst (pa_cons pe_int (pa_cons pe_int (pa_cons pe_int pa_nil)))) (pe_op op_mod (pv 3) pe_int) (fun _ _ => rfl)))) (pa_cons (pe_lst (pa_cons pe_non pa_nil)) pa_nil))))) pss_nil)
    (pss_cons (ps_if (pt_cmpR op_eq (pv 2) pe_int (nomark _)) (pss_cons (ps_set (i := 4) sc.nd rfl (.inl rfl) (pe_op op_sub (pe_un un_neg pe_int) (pe_callD (ok_law_draw T) (hr.mono (by decide)) rfl pass0 (pa_cons (pv 0) (pa_cons (pe_ix ix_list (pe_lst (pa_cons pe_int (pa_cons (pe_op op_pow pe_int pe_int) pa_nil))) (pe_callD (ok_law_draw T) (hr.mono (by decide)) rfl pass0 (pa_cons (pv 0) (pa_cons pe_int pa_nil))) (fun _ _ => rfl)) pa_nil)))))
    (pss_cons (ps_setLc (i := 5) (own := [("number", 6)]) rfl sc.nd rfl rfl (sw_true rfl rfl rfl (by decide +kernel)) (pi_list (pe_slice sl_list (pv 1) (po_some (pe_op op_add (pv 3) pe_int)) po_none)) (blkOk_by (own := [("number", 6)]) (N := ["rng", "numbers", "way", "place", "below", "later", "number"]) (sc := defScope s_law_spoiled_numbers) (by decide +kernel)) (fun _ _ _ _ _ => (pg_name (i := 6) sc.nd rfl (Or.inl rfl))) (fun _ _ _ _ _ => pts_nil) (fun _ _ _ _ _ => (pe_ix ix_list (pe_lst (pa_cons (pv 6) (pa_cons (pe_un un_neg pe_int) pa_nil))) (pe_callTy call_int1 (by rfl) T.b_int boot_int (pa_cons (pe_cmpR op_eq (pe_callD (ok_law_draw T) (hr.mono (by decide)) rfl pass0 (pa_cons (pv 0) (pa_cons pe_int pa_nil))) pe_int (nomark _)) pa_nil)) (fun _ _ => rfl))))
    (pss_one (ps_ret (pe_tup (pa_cons (pe_op op_cat (pe_op op_cat (pe_slice sl_list (pv 1) po_none (po_some (pv 3))) (pe_lst (pa_cons (pv 4) pa_nil))) (pv 5)) (pa_cons (pe_lst (pa_cons (pv 3) pa_nil)) pa_nil))))))) pss_nil)
    (pss_one (ps_ret (pe_tup (pa_cons (pv 1) (pa_cons (pe_lst pa_nil) pa_nil))))))))))

theorem sc_law_line : FnScope ["rng", "letters", "longest", "way", "line", "turn", "letter"] ["rng", "letters", "longest"] (defScope s_law_line) := ⟨rfl, rfl, rfl, by decide +kernel, rfl, by decide +kernel, by decide +kernel⟩
theorem ok_law_line (T : Txt K mg) : Def P w K mg base CX0 2 "_law_line" ["rng", "letters", "longest"] s_law_line (sp_law_line K) := by
  have sc := sc_law_line
  refine T.f_law_line.ok sc (fun _ _ _ _ h => h.1) (fun _ _ _ _ _ _ us hl => match us, hl with | [_, _, _], _ => rfl) (fun f cdv A outer s H vs Q E hr h => ⟨t_law_line K, PSs.nox (?_), pure_law_line h⟩)
  exact (pss_cons (ps_set (i := 3) sc.nd rfl (.inl rfl) (pe_callD (ok_law_draw T) (hr.mono (by decide)) rfl pass0 (pa_cons (pv 0) (pa_cons pe_int pa_nil))))
    (pss_cons (ps_set (i := 4) sc.nd rfl (.inl rfl) pe_str)
    (pss_cons (ps_for PassesOwn.never rfl (pi_range1 (by rfl) T.b_range (pa_cons (pe_callD (ok_law_draw T) (hr.mono (by decide)) rfl pass0 (pa_cons (pv 0) (pa_cons (pe_op op_add (pv 2) pe_int) pa_nil))) pa_nil)) (pg_name (i := 5) sc.nd rfl (Or.inl rfl)) (pss_cons (ps_set (i := 6) sc.nd rfl (.inl rfl) (pe_ix ix_list (pv 1) (pe_callD (ok_law_draw T) (hr.mono (by decide)) rfl pass0 (pa_cons (pv 0) (pa_cons (pe_callB call_len_seq (by rfl) T.b_len boot_len (pa_cons (pv 1) pa_nil)) pa_nil))) (fun _ _ => rfl)))
    (pss_cons (ps_if (PW.pt (pw_and (pt_cmpR op_ne (pv 4) pe_str (nomark _)) (pw_and (pt_cmpR op_eq (pv 3) pe_int (nomark _)) (pw_and1 (pt_cmpR op_gt (pe_callD (ok_law_draw T) (hr.mono (by decide)) rfl pass0 (pa_cons (pv 0) (pa_cons pe_int pa_nil))) pe_int (nomark _)))))) (pss_one (ps_set (i := 6) sc.nd rfl (.inl rfl) (pe_ix ix_str (pv 4) (pe_un un_neg pe_int) (fun _ _ => rfl)))) pss_nil)
    (pss_one (ps_set (i := 4) sc.nd rfl (.inl rfl) (pe_op op_add_str (pv 4) (pe_ix ix_list (pe_lst (pa_cons (pv 6) (pa_cons (pv 6) (pa_cons (pe_ix ix_list (pv 1) pe_int (fun _ _ => rfl)) pa_nil)))) (pe_ifExp (pt_cmpR op_gt (pe_callD (ok_law_draw T) (hr.mono (by decide)) rfl pass0 (pa_cons (pv 0) (pa_cons pe_int pa_nil))) pe_int (nomark _)) (pv 3) pe_int) (fun _ _ => rfl))))))))
    (pss_one (ps_ret (pv 4))))))

theorem sc_law_order : FnScope ["rng", "letters", "highest", "first", "others", "second", "some", "letter"] ["rng", "letters", "highest"] (defScope s_law_order) := ⟨rfl, rfl, rfl, by decide +kernel, rfl, by decide +kernel, by decide +kernel⟩
theorem ok_law_order (T : Txt K mg) : Def P w K mg base CX0 2 "_law_order" ["rng", "letters", "highest"] s_law_order (sp_law_order K) := by
  have sc := sc_law_order
  refine T.f_law_order.ok sc (fun _ _ _ _ h => h.1) (fun _ _ _ _ _ _ us hl => match us, hl with | [_, _, _], _ => rfl) (fun f cdv A outer s H vs Q E hr h => ⟨t_law_order K, PSs.nox (?_), pure_law_order h⟩)
  exact (pss_cons (ps_set (i := 3) sc.nd rfl (.inr rfl) (pe_ix ix_list (pv 1) (pe_callD (ok_law_draw T) (hr.mono (by decide)) rfl pass0 (pa_cons (pv 0) (pa_cons (pe_callB call_len_seq (by rfl) T.b_len boot_len (pa_cons (pv 1) pa_nil)) pa_nil))) (fun _ _ => rfl)))
    (pss_cons (ps_setLc (i := 4) (own := [("letter", 7)]) rfl sc.nd rfl rfl (sw_true rfl rfl rfl (by decide +kernel)) (pi_str pe_str) (blkOk_by (own := [("letter", 7)]) (N := ["rng", "letters", "highest", "first", "others", "second", "some", "letter"]) (sc := defScope s_law_order) (by decide +kernel)) (fun _ _ _ _ _ => (pg_name (i := 7) sc.nd rfl (Or.inl rfl))) (fun _ _ _ _ _ => pts_one (pt_cmpR op_ne (pv 7) (pv 3) (nomark _))) (fun _ _ _ _ _ => (pv 7)))
    (pss_cons (ps_set (i := 5) sc.nd rfl (.inl rfl) (pe_ix ix_list (pv 4) (pe_callD (ok_law_draw T) (hr.mono (by decide)) rfl pass0 (pa_cons (pv 0) (pa_cons pe_int pa_nil))) (fun _ _ => rfl)))
    (pss_cons (ps_if (PW.pt (pw_and (pt_cmpR op_gt (pe_callB call_len_seq (by rfl) T.b_len boot_len (pa_cons (pv 1) pa_nil)) pe_int (nomark _)) (pw_and1 (pt_cmpR op_gt (pe_callD (ok_law_draw T) (hr.mono (by decide)) rfl pass0 (pa_cons (pv 0) (pa_cons pe_int pa_nil))) pe_int (nomark _))))) (pss_one (ps_set (i := 5) sc.nd rfl (.inl rfl) (pe_ix ix_list (pe_lc (own := [("letter", 7)]) rfl sc.nd (pi_list (pv 1)) (blkOk_by (own := [("letter", 7)]) (N := ["rng", "letters", "highest", "first", "others", "second", "some", "letter"]) (sc := defScope s_law_order) (by decide +kernel)) (fun _ _ _ _ _ => (pg_name (i := 7) sc.nd rfl (Or.inl rfl))) (fun _ _ _ _ _ => pts_one (pt_cmpR op_ne (pv 7) (pv 3) (nomark _))) (fun _ _ _ _ _ => (pv 7))) (pe_callD (ok_law_draw T) (hr.mono (by decide)) rfl pass0 (pa_cons (pv 0) (pa_cons (pe_op op_sub (pe_callB call_len_seq (by rfl) T.b_len boot_len (pa_cons (pv 1) pa_nil)) pe_int) pa_nil))) (fun _ _ => rfl)))) pss_nil)
    (pss_cons (ps_set (i := 6) sc.nd rfl (.inl rfl) (pe_lst (pa_cons pe_int (pa_cons pe_int (pa_cons pe_int (pa_cons (pe_op op_add pe_int (pe_callD (ok_law_draw T) (hr.mono (by decide)) rfl pass0 (pa_cons (pv 0) (pa_cons (pv 2) pa_nil)))) (pa_cons pe_str (pa_cons pe_str pa_nil))))))))
    (pss_one (ps_ret (pe_tup (pa_cons (pe_ix ix_list (pv 6) (pe_ix ix_list (pe_lst (pa_cons pe_int (pa_cons pe_int (pa_cons pe_int (pa_cons pe_int (pa_cons pe_int (pa_cons pe_int (pa_cons pe_int (pa_cons pe_int pa_nil))))))))) (pe_callD (ok_law_draw T) (hr.mono (by decide)) rfl pass0 (pa_cons (pv 0) (pa_cons pe_int pa_nil))) (fun _ _ => rfl)) (fun _ _ => rfl)) (pa_cons (pv 3) (pa_cons (pv 5) pa_nil)))))))))))

theorem sc_law_orders : FnScope ["rng", "letters", "longest", "highest", "turn"] ["rng", "letters", "longest", "highest"] (defScope s_law_orders) := ⟨rfl, rfl, rfl, by decide +kernel, rfl, by decide +kernel, by decide +kernel⟩
theorem ok_law_orders (T : Txt K mg) : Def P w K mg base CX0 3 "_law_orders" ["rng", "letters", "longest", "highest"] s_law_orders (sp_law_orders K) := by
  have sc := sc_law_orders
  refine T.f_law_orders.ok sc (fun _ _ _ _ h => h.1) (fun _ _ _ _ _ _ us hl => match us, hl with | [_, _, _, _], _ => rfl) (fun f cdv A outer s H vs Q E hr h => ⟨t_law_orders K, PSs.nox (?_), pure_law_orders h⟩)
  exact (pss_one (ps_ret (pe_lc (own := [("turn", 4)]) rfl sc.nd (pi_range1 (by rfl) T.b_range (pa_cons (pe_callD (ok_law_draw T) (hr.mono (by decide)) rfl pass0 (pa_cons (pv 0) (pa_cons (pe_op op_add (pv 2) pe_int) pa_nil))) pa_nil)) (blkOk_by (own := [("turn", 4)]) (N := ["rng", "letters", "longest", "highest", "turn"]) (sc := defScope s_law_orders) (by decide +kernel)) (fun _ _ _ _ _ => (pg_name (i := 4) sc.nd rfl (Or.inl rfl))) (fun _ _ _ _ _ => pts_nil) (fun _ _ _ _ _ => (pe_callD (ok_law_order T) (hr.mono (by decide)) rfl pass0 (pa_cons (pv 0) (pa_cons (pv 1) (pa_cons (pv 3) pa_nil))))))))

theorem sc_law_tally : FnScope ["line", "letter"] ["line"] (defScope s_law_tally) := ⟨rfl, rfl, rfl, by decide +kernel, rfl, by decide +kernel, by decide +kernel⟩
theorem ok_law_tally (T : Txt K mg) : Def P w K mg base CX0 1 "_law_tally" ["line"] s_law_tally (sp_law_tally K) := by
  have sc := sc_law_tally
  refine T.f_law_tally.ok sc (fun _ _ _ _ h => h.1) (fun _ _ _ _ _ _ us hl => match us, hl with | [_], _ => rfl) (fun f cdv A outer s H vs Q E hr h => ⟨t_law_tally K, PSs.nox (?_), pure_law_tally h⟩)
  exact (pss_one (ps_ret (pe_lc (own := [("letter", 1)]) rfl sc.nd (pi_str pe_str) (blkOk_by (own := [("letter", 1)]) (N := ["line", "letter"]) (sc := defScope s_law_tally) (by decide +kernel)) (fun _ _ _ _ _ => (pg_name (i := 1) sc.nd rfl (Or.inl rfl))) (fun _ _ _ _ _ => pts_nil) (fun _ _ _ _ _ => (pe_m1 PySem.F.slot_str_count PySem.F.type_str_count mt_count (pv 0) (pv 1))))))

theorem sc_is_colour : FnScope ["text"] ["text"] (defScope s_is_colour) := ⟨rfl, rfl, rfl, by decide +kernel, rfl, by decide +kernel, by decide +kernel⟩
theorem ok_is_colour (T : Txt K mg) : Def P w K mg base CX0 1 "is_colour" ["text"] s_is_colour (sp_is_colour K) := by
  have sc := sc_is_colour
  refine T.f_is_colour.ok sc (fun _ _ _ _ h => h.1) (fun _ _ _ _ _ _ us hl => match us, hl with | [_], _ => rfl) (fun f cdv A outer s H vs Q E hr h => ⟨t_is_colour K, PSs.nox (?_), pure_is_colour h⟩)
  exact (pss_one (ps_ret (pe_and (pe_cmpR op_eq (pe_callB call_len_str (by rfl) T.b_len boot_len (pa_cons (pv 0) pa_nil)) pe_int (nomark _)) (pe_one (pe_cmpR op_in_sign (pv 0) (pe_gstr T.c_COLOURS rfl) rfl)))))

theorem sc_check_row : FnScope ["row", "index", "letter"] ["row"] (defScope s_check_row) := ⟨rfl, rfl, rfl, by decide +kernel, rfl, by decide +kernel, by decide +kernel⟩
theorem ok_check_row (T : Txt K mg) : Def P w K mg base (L2.CX P w) 3 "check_row" ["row"] s_check_row (sp_check_row K) := by
  have sc := sc_check_row
  refine T.f_check_row.ok sc (fun _ _ _ _ h => h.1) (fun _ _ _ _ _ _ us hl => match us, hl with | [_], _ => rfl) (fun f cdv A outer s H vs Q E hr h => ⟨t_check_row E K, (?_), pure_check_row h⟩)
  have tk := takes_of (X := cxOf (L2.CX P w) P w K mg base ["row", "index", "letter"] "check_row" (defScope s_check_row) f cdv A outer s H E) rfl rfl rfl rfl
  exact (pss_one (ps_for (passes_of rfl) rfl (pi_enumS (by rfl) T.b_enumerate (pa_cons (pv 0) pa_nil)) (pg_tup rfl (pgs_cons (pg_name (i := 1) sc.nd rfl (Or.inl rfl)) (pgs_cons (pg_name (i := 2) sc.nd rfl (Or.inl rfl)) pgs_nil))) (pss_one (ps_if (pt_not (pt_val (pe_callD (ok_is_colour T) (hr.mono (by decide)) rfl pass0 (pa_cons (pv 2) pa_nil)))) (pss_one (ps_raise rfl tk (pmk_bad T.e_BadRow (ok_init_BadRow T) (hr.mono (by decide)) rfl (pv 1)))) pss_nil))))

theorem sc_count_colours : FnScope ["row", "colour"] ["row"] (defScope s_count_colours) := ⟨rfl, rfl, rfl, by decide +kernel, rfl, by decide +kernel, by decide +kernel⟩
theorem ok_count_colours (T : Txt K mg) : Def P w K mg base (L2.CX P w) 4 "count_colours" ["row"] s_count_colours (sp_count_colours K) := by
  have sc := sc_count_colours
  refine T.f_count_colours.ok sc (fun _ _ _ _ h => h.1) (fun _ _ _ _ _ _ us hl => match us, hl with | [_], _ => rfl) (fun f cdv A outer s H vs Q E hr h => ⟨t_count_colours E K, (?_), pure_count_colours h⟩)
  have tk := takes_of (X := cxOf (L2.CX P w) P w K mg base ["row", "colour"] "count_colours" (defScope s_count_colours) f cdv A outer s H E) rfl rfl rfl rfl
  exact (pss_cons (ps_expr (pe_callD (ok_check_row T) (hr.mono (by decide)) rfl (passes_call tk (fun _ _ _ _ z => z)) (pa_cons (pv 0) pa_nil)))
    (pss_one (ps_ret (pe_lc (own := [("colour", 1)]) rfl sc.nd (pi_str (pe_gstr T.c_COLOURS rfl)) (blkOk_by (own := [("colour", 1)]) (N := ["row", "colour"]) (sc := defScope s_count_colours) (by decide +kernel)) (fun _ _ _ _ _ => (pg_name (i := 1) sc.nd rfl (Or.inl rfl))) (fun _ _ _ _ _ => pts_nil) (fun _ _ _ _ _ => (pe_m1 PySem.F.slot_str_count PySem.F.type_str_count mt_count (pv 0) (pv 1)))))))

theorem sc_is_call : FnScope ["call", "kind", "source", "target"] ["call"] (defScope s_is_call) := ⟨rfl, rfl, rfl, by decide +kernel, rfl, by decide +kernel, by decide +kernel⟩
theorem ok_is_call (T : Txt K mg) : Def P w K mg base CX0 2 "is_call" ["call"] s_is_call (sp_is_call K) := by
  have sc := sc_is_call
  refine T.f_is_call.ok sc (fun _ _ _ _ h => h.1) (fun _ _ _ _ _ _ us hl => match us, hl with | [_], _ => rfl) (fun f cdv A outer s H vs Q E hr h => ⟨t_is_call K, PSs.nox (?_), pure_is_call h⟩)
  exact (pss_cons (ps_asg (pv 0) (pg_tup rfl (pgs_cons (pg_name (i := 1) sc.nd rfl (Or.inl rfl)) (pgs_cons (pg_name (i := 2) sc.nd rfl (Or.inl rfl)) (pgs_cons (pg_name (i := 3) sc.nd rfl (Or.inl rfl)) pgs_nil)))))
    (pss_cons (ps_if (pt_val (pe_callB call_isi (by rfl) T.b_isinstance boot_isinstance (pa_cons (pv 1) (pa_cons (pe_bltn (by rfl) T.b_str boot_str rfl) pa_nil)))) (pss_one (ps_if (pt_cmpR op_notIn_seq (pv 1) (pe_tup (pa_cons (pe_gstr T.c_ALL_calls rfl) (pa_cons (pe_gstr T.c_SWAP_calls rfl) pa_nil))) rfl) (pss_one (ps_ret pe_bl)) pss_nil)) (pss_one (ps_if (pt_cmpR op_lt (pv 1) pe_int (nomark _)) (pss_one (ps_ret pe_bl)) pss_nil)))
    (pss_one (ps_ret (pe_and (pe_callD (ok_is_colour T) (hr.mono (by decide)) rfl pass0 (pa_cons (pv 2) pa_nil)) (pe_and (pe_callD (ok_is_colour T) (hr.mono (by decide)) rfl pass0 (pa_cons (pv 3) pa_nil)) (pe_one (pe_cmpR op_ne (pv 2) (pv 3) (nomark _)))))))))

theorem sc_check_drill : FnScope ["drill", "index", "call"] ["drill"] (defScope s_check_drill) := ⟨rfl, rfl, rfl, by decide +kernel, rfl, by decide +kernel, by decide +kernel⟩
theorem ok_check_drill (T : Txt K mg) : Def P w K mg base (L2.CX P w) 3 "check_drill" ["drill"] s_check_drill (sp_check_drill K) := by
  have sc := sc_check_drill
  refine T.f_check_drill.ok sc (fun _ _ _ _ h => h.1) (fun _ _ _ _ _ _ us hl => match us, hl with | [_], _ => rfl) (fun f cdv A outer s H vs Q E hr h => ⟨t_check_drill E K, (?_), pure_check_drill h⟩)
  have tk := takes_of (X := cxOf (L2.CX P w) P w K mg base ["drill", "index", "call"] "check_drill" (defScope s_check_drill) f cdv A outer s H E) rfl rfl rfl rfl
  exact (pss_one (ps_for (passes_of rfl) rfl (pi_enum (by rfl) T.b_enumerate (pa_cons (pv 0) pa_nil)) (pg_tup rfl (pgs_cons (pg_name (i := 1) sc.nd rfl (Or.inl rfl)) (pgs_cons (pg_name (i := 2) sc.nd rfl (Or.inl rfl)) pgs_nil))) (pss_one (ps_if (pt_not (pt_val (pe_callD (ok_is_call T) (hr.mono (by decide)) rfl pass0 (pa_cons (pv 2) pa_nil)))) (pss_one (ps_raise rfl tk (pmk_bad T.e_BadCall (ok_init_BadCall T) (hr.mono (by decide)) rfl (pv 1)))) pss_nil))))

theorem sc_check_counts : FnScope ["counts", "index", "number"] ["counts"] (defScope s_check_counts) := ⟨rfl, rfl, rfl, by decide +kernel, rfl, by decide +kernel, by decide +kernel⟩
theorem ok_check_counts (T : Txt K mg) : Def P w K mg base (L2.CX P w) 3 "check_counts" ["counts"] s_check_counts (sp_check_counts K) := by
  have sc := sc_check_counts
  refine T.f_check_counts.ok sc (fun _ _ _ _ h => h.1) (fun _ _ _ _ _ _ us hl => match us, hl with | [_], _ => rfl) (fun f cdv A outer s H vs Q E hr h => ⟨t_check_counts E K, (?_), pure_check_counts h⟩)
  have tk := takes_of (X := cxOf (L2.CX P w) P w K mg base ["counts", "index", "number"] "check_counts" (defScope s_check_counts) f cdv A outer s H E) rfl rfl rfl rfl
  exact (pss_cons (ps_if (pt_cmpR op_ne (pe_callB call_len_seq (by rfl) T.b_len boot_len (pa_cons (pv 0) pa_nil)) (pe_callB call_len_str (by rfl) T.b_len boot_len (pa_cons (pe_gstr T.c_COLOURS rfl) pa_nil)) (nomark _)) (pss_one (ps_raise rfl tk (pmk_bad T.e_BadCounts (ok_init_BadCounts T) (hr.mono (by decide)) rfl pe_non))) pss_nil)
    (pss_one (ps_for (passes_of rfl) rfl (pi_enum (by rfl) T.b_enumerate (pa_cons (pv 0) pa_nil)) (pg_tup rfl (pgs_cons (pg_name (i := 1) sc.nd rfl (Or.inl rfl)) (pgs_cons (pg_name (i := 2) sc.nd rfl (Or.inl rfl)) pgs_nil))) (pss_one (ps_if (pt_cmpR op_lt (pv 2) pe_int (nomark _)) (pss_one (ps_raise rfl tk (pmk_bad T.e_BadCounts (ok_init_BadCounts T) (hr.mono (by decide)) rfl (pv 1)))) pss_nil)))))

theorem sc_lead_counts : FnScope ["drill", "counts", "found", "kind", "source", "target", "moved"] ["drill", "counts"] (defScope s_lead_counts) := ⟨rfl, rfl, rfl, by decide +kernel, rfl, by decide +kernel, by decide +kernel⟩
theorem ok_lead_counts (T : Txt K mg) : Def P w K mg base CX0 1 "lead_counts" ["drill", "counts"] s_lead_counts (sp_lead_counts K) := by
  have sc := sc_lead_counts
  refine T.f_lead_counts.ok sc (fun _ _ _ _ h => h.1) (fun _ _ _ _ _ _ us hl => match us, hl with | [_, _], _ => rfl) (fun f cdv A outer s H vs Q E hr h => ⟨t_lead_counts K, PSs.nox (?_), pure_lead_counts h⟩)
  exact (pss_cons (ps_set (i := 2) sc.nd rfl (.inl rfl) (pe_dzip (by rfl) T.b_dict (by rfl) T.b_zip rfl (pa_cons (pe_gstr T.c_COLOURS rfl) (pa_cons (pv 1) pa_nil))))
    (pss_cons (ps_for PassesOwn.never rfl (pi_list (pv 0)) (pg_tup rfl (pgs_cons (pg_name (i := 3) sc.nd rfl (Or.inl rfl)) (pgs_cons (pg_name (i := 4) sc.nd rfl (Or.inl rfl)) (pgs_cons (pg_name (i := 5) sc.nd rfl (Or.inl rfl)) pgs_nil)))) (pss_one (ps_if (pt_cmpR op_eq (pv 3) (pe_gstr T.c_SWAP_counts rfl) (nomark _)) (pss_one (ps_asg (pe_tup (pa_cons (pe_dget (hu_of hr) (pv 2) (pv 5) (fun _ _ => rfl)) (pa_cons (pe_dget (hu_of hr) (pv 2) (pv 4) (fun _ _ => rfl)) pa_nil))) (pg_tup rfl (pgs_cons (pg_sub (pv 2) (pv 4) (set_dict (hu_of hr))) (pgs_cons (pg_sub (pv 2) (pv 5) (set_dict (hu_of hr))) pgs_nil))))) (pss_cons (ps_set (i := 6) sc.nd rfl (.inl rfl) (pe_ifExp (pt_cmpR op_eq (pv 3) (pe_gstr T.c_ALL_counts rfl) (nomark _)) (pe_dget (hu_of hr) (pv 2) (pv 4) (fun _ _ => rfl)) (pe_callTy call_int1 (by rfl) T.b_int boot_int (pa_cons (pe_cmpR op_ge (pe_dget (hu_of hr) (pv 2) (pv 4) (fun _ _ => rfl)) (pv 3) (nomark _)) pa_nil))))
    (pss_cons (ps_daug (hu_of hr) (pv 2) (pv 4) (pv 6) in_sub (fun _ _ _ => rfl))
    (pss_one (ps_daug (hu_of hr) (pv 2) (pv 5) (pv 6) in_add (fun _ _ _ => rfl))))))))
    (pss_one (ps_ret (pe_listVals rfl (pv 2) (by rfl) T.b_list boot_list)))))

theorem sc_run_on_counts : FnScope ["drill", "counts"] ["drill", "counts"] (defScope s_run_on_counts) := ⟨rfl, rfl, rfl, by decide +kernel, rfl, by decide +kernel, by decide +kernel⟩
theorem ok_run_on_counts (T : Txt K mg) : Def P w K mg base (L2.CX P w) 4 "run_on_counts" ["drill", "counts"] s_run_on_counts (sp_run_on_counts K) := by
  have sc := sc_run_on_counts
  refine T.f_run_on_counts.ok sc (fun _ _ _ _ h => h.1) (fun _ _ _ _ _ _ us hl => match us, hl with | [_, _], _ => rfl) (fun f cdv A outer s H vs Q E hr h => ⟨t_run_on_counts E K, (?_), pure_run_on_counts h⟩)
  have tk := takes_of (X := cxOf (L2.CX P w) P w K mg base ["drill", "counts"] "run_on_counts" (defScope s_run_on_counts) f cdv A outer s H E) rfl rfl rfl rfl
  exact (pss_cons (ps_expr (pe_callD (ok_check_drill T) (hr.mono (by decide)) rfl (passes_call tk (fun _ _ _ _ z => z)) (pa_cons (pv 0) pa_nil)))
    (pss_cons (ps_expr (pe_callD (ok_check_counts T) (hr.mono (by decide)) rfl (passes_call tk (fun _ _ _ _ z => z)) (pa_cons (pv 1) pa_nil)))
    (pss_one (ps_ret (pe_callD (ok_lead_counts T) (hr.mono (by decide)) rfl pass0 (pa_cons (pv 0) (pa_cons (pv 1) pa_nil)))))))

theorem sc_colour_after : FnScope ["drill", "ahead", "colour", "without", "joined", "grown", "one", "number", "index"] ["drill", "ahead", "colour"] (defScope s_colour_after) := ⟨rfl, rfl, rfl, by decide +kernel, rfl, by decide +kernel, by decide +kernel⟩
theorem ok_colour_after (T : Txt K mg) : Def P w K mg base (L2.CX P w) 4 "colour_after" ["drill", "ahead", "colour"] s_colour_after (sp_colour_after K) := by
  have sc := sc_colour_after
  refine T.f_colour_after.ok sc (fun _ _ _ _ h => h.1) (fun _ _ _ _ _ _ us hl => match us, hl with | [_, _, _], _ => rfl) (fun f cdv A outer s H vs Q E hr h => ⟨t_colour_after E K, (?_), pure_colour_after h⟩)
  have tk := takes_of (X := cxOf (L2.CX P w) P w K mg base ["drill", "ahead", "colour", "without", "joined", "grown", "one", "number", "index"] "colour_after" (defScope s_colour_after) f cdv A outer s H E) rfl rfl rfl rfl
  exact (pss_cons (ps_expr (pe_callD (ok_check_drill T) (hr.mono (by decide)) rfl (passes_call tk (fun _ _ _ _ z => z)) (pa_cons (pv 0) pa_nil)))
    (pss_cons (ps_expr (pe_callD (ok_check_counts T) (hr.mono (by decide)) rfl (passes_call tk (fun _ _ _ _ z => z)) (pa_cons (pv 1) pa_nil)))
    (pss_cons (ps_if (PW.pt (pw_or (pt_cmpR op_ne (pe_callB call_len_str (by rfl) T.b_len boot_len (pa_cons (pv 2) pa_nil)) pe_int (nomark _)) (pw_or1 (pt_cmpR op_notIn_sign (pv 2) (pe_gstr T.c_COLOURS rfl) rfl)))) (pss_one (ps_raise rfl tk (pmk_bad T.e_BadColour (ok_init_BadColour T) (hr.mono (by decide)) rfl (pv 2)))) pss_nil)
    (pss_cons (ps_set (i := 3) sc.nd rfl (.inr rfl) (pe_callD (ok_lead_counts T) (hr.mono (by decide)) rfl pass0 (pa_cons (pv 0) (pa_cons (pv 1) pa_nil))))
    (pss_cons (ps_setLc (i := 4) (own := [("one", 6), ("number", 7)]) rfl sc.nd rfl rfl (sw_true rfl rfl rfl (by decide +kernel)) (pi_zipSL (by rfl) T.b_zip (pa_cons (pe_gstr T.c_COLOURS rfl) (pa_cons (pv 1) pa_nil))) (blkOk_by (own := [("one", 6), ("number", 7)]) (N := ["drill", "ahead", "colour", "without", "joined", "grown", "one", "number", "index"]) (sc := defScope s_colour_after) (by decide +kernel)) (fun _ _ _ _ _ => (pg_tup rfl (pgs_cons (pg_name (i := 6) sc.nd rfl (Or.inl rfl)) (pgs_cons (pg_name (i := 7) sc.nd rfl (Or.inl rfl)) pgs_nil)))) (fun _ _ _ _ _ => pts_nil) (fun _ _ _ _ _ => (pe_op op_add (pv 7) (pe_callTy call_int1 (by rfl) T.b_int boot_int (pa_cons (pe_cmpR op_eq (pv 6) (pv 2) (nomark _)) pa_nil)))))
    (pss_cons (ps_setLc (i := 5) (own := [("index", 8), ("number", 7)]) rfl sc.nd rfl rfl (sw_true rfl rfl rfl (by decide +kernel)) (pi_enum (by rfl) T.b_enumerate (pa_cons (pe_callD (ok_lead_counts T) (hr.mono (by decide)) rfl pass0 (pa_cons (pv 0) (pa_cons (pv 4) pa_nil))) pa_nil)) (blkOk_by (own := [("index", 8), ("number", 7)]) (N := ["drill", "ahead", "colour", "without", "joined", "grown", "one", "number", "index"]) (sc := defScope s_colour_after) (by decide +kernel)) (fun _ _ _ _ _ => (pg_tup rfl (pgs_cons (pg_name (i := 8) sc.nd rfl (Or.inl rfl)) (pgs_cons (pg_name (i := 7) sc.nd rfl (Or.inl rfl)) pgs_nil)))) (fun _ _ _ _ _ => pts_one (pt_cmpR op_gt (pv 7) (pe_ix ix_list (pv 3) (pv 8) (fun _ _ => rfl)) (nomark _))) (fun _ _ _ _ _ => (pv 8)))
    (pss_one (ps_ret (pe_ix ix_str (pe_gstr T.c_COLOURS rfl) (pe_ix ix_list (pv 5) pe_int (fun _ _ => rfl)) (fun _ _ => rfl))))))))))

theorem sc_law_error : FnScope ["door", "orders", "numbers", "text", "e", "some"] ["door", "orders", "numbers", "text"] (defScope s_law_error) := ⟨rfl, rfl, rfl, by decide +kernel, rfl, by decide +kernel, by decide +kernel⟩
theorem ok_law_error (T : Txt K mg) : Def P w K mg base CX0 5 "_law_error" ["door", "orders", "numbers", "text"] s_law_error (sp_law_error K) := by
  have sc := sc_law_error
  refine T.f_law_error.ok sc (fun _ _ _ _ h => h.1) (fun _ _ _ _ _ _ us hl => match us, hl with | [_, _, _, _], _ => rfl) (fun f cdv A outer s H vs Q E hr h => ⟨t_law_error K, PSs.nox (?_), pure_law_error ⟨T.x_BadRow_DrillError, T.e_BadRow.xf, T.e_BadRow.nov⟩ ⟨T.x_BadCall_DrillError, T.e_BadCall.xf, T.e_BadCall.nov⟩ ⟨T.x_BadCounts_DrillError, T.e_BadCounts.xf, T.e_BadCounts.nov⟩ ⟨T.x_BadColour_DrillError, T.e_BadColour.xf, T.e_BadColour.nov⟩ T.i_BadRow T.i_BadCall T.i_BadCounts T.i_BadColour h⟩)
  exact (pss_cons (ps_tryT (i := 4) T.e_DrillError.hm rfl rfl sc.nd rfl rfl rfl takes0 (fun W pn xe tk hp => (pss_one (ps_if (pt_cmpR op_eq (pv 0) pe_int (nomark _)) (pss_one (ps_expr (pe_callDX (ok_count_colours T) (hr.mono (by decide)) rfl (passAt tk) (pa_cons (pv 3) pa_nil)))) (pss_one (ps_if (pt_cmpR op_eq (pv 0) pe_int (nomark _)) (pss_one (ps_expr (pe_callDX (ok_run_on_counts T) (hr.mono (by decide)) rfl (passAt tk) (pa_cons (pv 1) (pa_cons (pv 2) pa_nil))))) (pss_one (ps_expr (pe_callDX (ok_colour_after T) (hr.mono (by decide)) rfl (passAt tk) (pa_cons (pv 1) (pa_cons (pv 2) (pa_cons (pv 3) pa_nil))))))))))) (fun a oe cls d pn hz hf => (pss_cons (ps_set (i := 5) sc.nd rfl (.inl rfl) (pe_lst (pa_cons (pe_callB (call_isA hz hf) (by rfl) T.b_isinstance boot_isinstance (pa_cons (pv 4) (pa_cons (pe_glob rfl T.g_BadRow rfl) pa_nil))) (pa_cons (pe_callB (call_isA hz hf) (by rfl) T.b_isinstance boot_isinstance (pa_cons (pv 4) (pa_cons (pe_glob rfl T.g_BadCall rfl) pa_nil))) (pa_cons (pe_callB (call_isA hz hf) (by rfl) T.b_isinstance boot_isinstance (pa_cons (pv 4) (pa_cons (pe_glob rfl T.g_BadCounts rfl) pa_nil))) (pa_cons (pe_callB (call_isA hz hf) (by rfl) T.b_isinstance boot_isinstance (pa_cons (pv 4) (pa_cons (pe_glob rfl T.g_BadColour rfl) pa_nil))) pa_nil))))))
    (pss_cons (ps_if (PW.pt (pw_or (pt_val (pe_callB (call_isA hz hf) (by rfl) T.b_isinstance boot_isinstance (pa_cons (pv 4) (pa_cons (pe_tup (pa_cons (pe_glob rfl T.g_BadGoal rfl) (pa_cons (pe_glob rfl T.g_BadIndex rfl) (pa_cons (pe_glob rfl T.g_BadText rfl) (pa_cons (pe_glob rfl T.g_BadTimes rfl) pa_nil))))) pa_nil)))) (pw_or1 (pt_cmpR op_ne (pe_bm PySem.F.plainAttrs_list PySem.F.slot_list_count PySem.F.type_list_count mt_lcountF (pv 5) (pa_cons pe_bl pa_nil)) pe_int (nomark _))))) (pss_one (ps_ret (pe_tup (pa_cons pe_str (pa_cons pe_non pa_nil))))) pss_nil)
    (pss_one (ps_ret (pe_ifExp (pt_val (pe_callB (call_isA hz hf) (by rfl) T.b_isinstance boot_isinstance (pa_cons (pv 4) (pa_cons (pe_bltn (by rfl) T.b_ValueError boot_ValueError rfl) pa_nil)))) (pe_tup (pa_cons (pe_ix ix_list (pe_lst (pa_cons pe_str (pa_cons pe_str (pa_cons pe_str (pa_cons pe_str pa_nil))))) (pe_bm PySem.F.plainAttrs_list PySem.F.slot_list_index PySem.F.type_list_index mt_index (pv 5) (pa_cons pe_bl pa_nil)) (fun _ _ => rfl)) (pa_cons (pe_xfA hz hf (pv 4)) pa_nil))) pe_non)))))))
    (pss_one (ps_ret pe_non)))

theorem sc_law_bad_order : FnScope ["orders", "place", "way", "first", "second"] ["orders"] (defScope s_law_bad_order) := ⟨rfl, rfl, rfl, by decide +kernel, rfl, by decide +kernel, by decide +kernel⟩
theorem ok_law_bad_order (T : Txt K mg) : Def P w K mg base CX0 1 "_law_bad_order" ["orders"] s_law_bad_order (sp_law_bad_order K) := by
  have sc := sc_law_bad_order
  refine T.f_law_bad_order.ok sc (fun _ _ _ _ h => h.1) (fun _ _ _ _ _ _ us hl => match us, hl with | [_], _ => rfl) (fun f cdv A outer s H vs Q E hr h => ⟨t_law_bad_order K, PSs.nox (?_), pure_law_bad_order h⟩)
  exact (pss_cons (ps_for PassesOwn.never rfl (pi_enum (by rfl) T.b_enumerate (pa_cons (pv 0) pa_nil)) (pg_tup rfl (pgs_cons (pg_name (i := 1) sc.nd rfl (Or.inl rfl)) (pgs_cons (pg_tup rfl (pgs_cons (pg_name (i := 2) sc.nd rfl (Or.inl rfl)) (pgs_cons (pg_name (i := 3) sc.nd rfl (Or.inl rfl)) (pgs_cons (pg_name (i := 4) sc.nd rfl (Or.inl rfl)) pgs_nil)))) pgs_nil))) (pss_cons (ps_if (PW.pt (pw_or (PW.pt (pw_and (pt_val (pe_callB call_isi (by rfl) T.b_isinstance boot_isinstance (pa_cons (pv 2) (pa_cons (pe_bltn (by rfl) T.b_str boot_str rfl) pa_nil)))) (pw_and1 (pt_cmpR op_notIn_seq (pv 2) (pe_tup (pa_cons pe_str (pa_cons pe_str pa_nil))) rfl)))) (pw_or1 (PW.pt (pw_and (pt_not (pt_val (pe_callB call_isi (by rfl) T.b_isinstance boot_isinstance (pa_cons (pv 2) (pa_cons (pe_bltn (by rfl) T.b_str boot_str rfl) pa_nil))))) (pw_and1 (pt_cmpR op_lt (pv 2) pe_int (nomark _)))))))) (pss_one (ps_ret (pv 1))) pss_nil)
    (pss_one (ps_if (PW.pt (pw_or (pt_cmpR (op_notInD (hu65 hr)) (pv 3) (pe_callTy (call_list_sig rfl) (by rfl) T.b_list boot_list (pa_cons pe_str pa_nil)) rfl) (pw_or (pt_cmpR (op_notInD (hu65 hr)) (pv 4) (pe_callTy (call_list_sig rfl) (by rfl) T.b_list boot_list (pa_cons pe_str pa_nil)) rfl) (pw_or1 (pt_cmpR op_eq (pv 3) (pv 4) (nomark _)))))) (pss_one (ps_ret (pv 1))) pss_nil))))
    (pss_one (ps_ret pe_non)))

theorem sc_law : FnScope ["script", "rng", "lap", "letters", "orders", "numbers", "wrong", "text", "line", "place", "bad", "due", "spot"] ["script"] (defScope s_law) := ⟨rfl, rfl, rfl, by decide +kernel, rfl, by decide +kernel, by decide +kernel⟩
theorem ok_law (T : Txt K mg) : Def P w K mg base CX0 6 "law" ["script"] s_law (sp_law K) := by
  have sc := sc_law
  refine T.f_law.ok sc (fun _ _ _ _ h => h.1) (fun _ _ _ _ _ _ us hl => match us, hl with | [_], _ => rfl) (fun f cdv A outer s H vs Q E hr h => ⟨t_law K, PSs.nox (?_), pure_law h⟩)
  exact (pss_cons (ps_set (i := 1) sc.nd rfl (.inl rfl) (pe_callD (ok_law_rng T) (hr.mono (by decide)) rfl pass0 (pa_cons (pv 0) pa_nil)))
    (pss_cons (ps_if (pt_not (pt_val (pe_callD0 (ok_law_classes_right T) (hr.mono (by decide)) rfl pass0))) (pss_one (ps_ret pe_bl)) pss_nil)
    (pss_cons (ps_for PassesOwn.never rfl (pi_range1 (by rfl) T.b_range (pa_cons (pe_op op_add pe_int (pe_callB (call_min2 rfl) (by rfl) T.b_min boot_min (pa_cons pe_int (pa_cons (pe_callB call_len_seq (by rfl) T.b_len boot_len (pa_cons (pv 0) pa_nil)) pa_nil)))) pa_nil)) (pg_name (i := 2) sc.nd rfl (Or.inl rfl)) (pss_cons (ps_set (i := 3) sc.nd rfl (.inl rfl) (pe_callD (ok_law_letters T) (hr.mono (by decide)) rfl pass0 (pa_cons (pv 1) pa_nil)))
    (pss_cons (ps_set (i := 4) sc.nd rfl (.inl rfl) (pe_callD (ok_law_spoiled_orders T) (hr.mono (by decide)) rfl pass0 (pa_cons (pv 1) (pa_cons (pe_callD (ok_law_orders T) (hr.mono (by decide)) rfl pass0 (pa_cons (pv 1) (pa_cons (pv 3) (pa_cons pe_int (pa_cons pe_int pa_nil))))) pa_nil))))
    (pss_cons (ps_asg (pe_callD (ok_law_spoiled_numbers T) (hr.mono (by decide)) rfl pass0 (pa_cons (pv 1) (pa_cons (pe_callD (ok_law_tally T) (hr.mono (by decide)) rfl pass0 (pa_cons (pe_callD (ok_law_line T) (hr.mono (by decide)) rfl pass0 (pa_cons (pv 1) (pa_cons (pv 3) (pa_cons pe_int pa_nil)))) pa_nil)) pa_nil))) (pg_tup rfl (pgs_cons (pg_name (i := 5) sc.nd rfl (Or.inl rfl)) (pgs_cons (pg_name (i := 6) sc.nd rfl (Or.inl rfl)) pgs_nil))))
    (pss_cons (ps_set (i := 7) sc.nd rfl (.inl rfl) (pe_ix ix_list (pe_lst (pa_cons pe_str (pa_cons pe_str (pa_cons pe_str (pa_cons pe_str (pa_cons pe_str (pa_cons pe_str (pa_cons pe_str (pa_cons pe_str pa_nil))))))))) (pe_callD (ok_law_draw T) (hr.mono (by decide)) rfl pass0 (pa_cons (pv 1) (pa_cons pe_int pa_nil))) (fun _ _ => rfl)))
    (pss_cons (ps_set (i := 8) sc.nd rfl (.inr rfl) (pe_callD (ok_law_line T) (hr.mono (by decide)) rfl pass0 (pa_cons (pv 1) (pa_cons (pv 3) (pa_cons pe_int pa_nil)))))
    (pss_cons (ps_set (i := 9) sc.nd rfl (.inl rfl) (pe_callD (ok_law_draw T) (hr.mono (by decide)) rfl pass0 (pa_cons (pv 1) (pa_cons (pe_op op_add (pe_callB call_len_str (by rfl) T.b_len boot_len (pa_cons (pv 8) pa_nil)) pe_int) pa_nil))))
    (pss_cons (ps_set (i := 8) sc.nd rfl (.inr rfl) (pe_op op_add_str (pe_op op_add_str (pe_slice sl_str (pv 8) po_none (po_some (pv 9))) (pe_ix ix_list (pe_lst (pa_cons pe_str (pa_cons pe_str (pa_cons pe_str (pa_cons pe_str (pa_cons pe_str (pa_cons pe_str pa_nil))))))) (pe_callD (ok_law_draw T) (hr.mono (by decide)) rfl pass0 (pa_cons (pv 1) (pa_cons pe_int pa_nil))) (fun _ _ => rfl))) (pe_slice sl_str (pv 8) (po_some (pv 9)) po_none)))
    (pss_cons (ps_setLc (i := 10) (own := [("spot", 12)]) rfl sc.nd rfl rfl (sw_true rfl rfl rfl (by decide +kernel)) (pi_range1 (by rfl) T.b_range (pa_cons (pe_callB call_len_str (by rfl) T.b_len boot_len (pa_cons (pv 8) pa_nil)) pa_nil)) (blkOk_by (own := [("spot", 12)]) (N := ["script", "rng", "lap", "letters", "orders", "numbers", "wrong", "text", "line", "place", "bad", "due", "spot"]) (sc := defScope s_law) (by decide +kernel)) (fun _ _ _ _ _ => (pg_name (i := 12) sc.nd rfl (Or.inl rfl))) (fun _ _ _ _ _ => pts_one (pt_cmpR op_notIn_sign (pe_ix ix_str (pv 8) (pv 12) (fun _ _ => rfl)) pe_str rfl)) (fun _ _ _ _ _ => (pv 12)))
    (pss_cons (ps_set (i := 11) sc.nd rfl (.inl rfl) (pe_ifExp (pt_cmpR (op_neD hr.units) (pv 10) (pe_lst pa_nil) (nomark _)) (pe_tup (pa_cons pe_str (pa_cons (pe_ix ix_list (pv 10) pe_int (fun _ _ => rfl)) pa_nil))) pe_non))
    (pss_cons (ps_if (pt_cmpR (op_neD hr.units) (pe_callD (ok_law_error T) (hr.mono (by decide)) rfl pass0 (pa_cons pe_int (pa_cons (pv 4) (pa_cons (pv 5) (pa_cons (pv 8) pa_nil))))) (pv 11) (nomark _)) (pss_one (ps_ret pe_bl)) pss_nil)
    (pss_cons (ps_set (i := 11) sc.nd rfl (.inl rfl) (pe_ifExp (pt_cmpR (op_neD hr.units) (pv 6) (pe_lst pa_nil) (nomark _)) (pe_tup (pa_cons pe_str (pa_cons (pe_ix ix_list (pv 6) pe_int (fun _ _ => rfl)) pa_nil))) pe_non))
    (pss_cons (ps_if (pt_cmpR op_notN (pe_callD (ok_law_bad_order T) (hr.mono (by decide)) rfl pass0 (pa_cons (pv 4) pa_nil)) pe_non (nomark _)) (pss_one (ps_set (i := 11) sc.nd rfl (.inl rfl) (pe_tup (pa_cons pe_str (pa_cons (pe_callD (ok_law_bad_order T) (hr.mono (by decide)) rfl pass0 (pa_cons (pv 4) pa_nil)) pa_nil))))) pss_nil)
    (pss_cons (ps_if (pt_cmpR (op_neD hr.units) (pe_callD (ok_law_error T) (hr.mono (by decide)) rfl pass0 (pa_cons pe_int (pa_cons (pv 4) (pa_cons (pv 5) (pa_cons (pv 7) pa_nil))))) (pv 11) (nomark _)) (pss_one (ps_ret pe_bl)) pss_nil)
    (pss_cons (ps_if (PW.pt (pw_and (pt_cmpR op_isN (pv 11) pe_non (nomark _)) (pw_and1 (pt_cmpR (op_notInD (hu65 hr)) (pv 7) (pe_callTy (call_list_sig rfl) (by rfl) T.b_list boot_list (pa_cons pe_str pa_nil)) rfl)))) (pss_one (ps_set (i := 11) sc.nd rfl (.inl rfl) (pe_tup (pa_cons pe_str (pa_cons (pv 7) pa_nil))))) pss_nil)
    (pss_one (ps_if (pt_cmpR (op_neD hr.units) (pe_callD (ok_law_error T) (hr.mono (by decide)) rfl pass0 (pa_cons pe_int (pa_cons (pv 4) (pa_cons (pv 5) (pa_cons (pv 7) pa_nil))))) (pv 11) (nomark _)) (pss_one (ps_ret pe_bl)) pss_nil)))))))))))))))))
    (pss_one (ps_ret pe_bl)))))

end
theorem law_all {P : Program} {w : World} {K : PySem.W.Frag} {mg : Str → Option Value} {fa : Addr} (T : Txt K mg) (hf : mg "law" = some (.ref fa)) :
    ∃ fd, FunD K "law" "law" (defArgs s_law) (defBody s_law) (defScope s_law) [] [] fa fd ∧ ∀ base : Heap, FnOk P w K mg base CX0 6 fa fd ["script"] (sp_law K) := by
  obtain ⟨fd, F, hm⟩ := T.f_law
  obtain rfl : He.ga K "law" = fa := by
    have e := hm.symm.trans hf
    cases e
    rfl
  refine ⟨fd, F, fun base => ?_⟩
  obtain ⟨g, fd', hm', kp, FD, hb, G⟩ := ok_law (P := P) (w := w) (base := base) T
  obtain rfl : g = He.ga K "law" := by
    have e := hm'.symm.trans hf
    cases e
    rfl
  obtain ⟨oc, od, dV, kV, doc, pm, an, cdv, ct, osl, rfl, lk, hcd, hD, hK⟩ := F.ex
  obtain ⟨oc2, od2, dV2, kV2, doc2, pm2, an2, cdv2, ct2, osl2, rfl, lk2, hcd2, hD2, hK2⟩ := FD.ex
  rw [lk] at lk2
  cases lk2
  exact G

end Q

open PySem PySem.W PySem.Calls PyProof.Rows
set_option maxRecDepth 100000 in
set_option maxHeartbeats 0 in
theorem PySem.Challenge.cw_drillrow_k10_counts_errors_holds : PySem.Challenge.rw_drillrow_k10_counts_errors.Holds := by
  w_on; o_law
  refine HandSHeadRun.head_any (r := OpenLaw.row PySem.Challenge.rw_drillrow_k10_counts_errors) (q := view (OpenLaw.row PySem.Challenge.rw_drillrow_k10_counts_errors).prog [39]) (H := Q.hk) (ob := Q.ob) (M := 3000) (loose := Q.looseL) (d := HandSHeadRun.topDef (OpenLaw.row PySem.Challenge.rw_drillrow_k10_counts_errors).prog 39) (kwd := []) Q.ob_eq
    (by kernel_rfl) (fun s => by kernel_rfl) Q.run0 (by kernel_rfl) (by kernel_rfl) (by kernel_rfl) (by rfl) (by first | assumption | decide +kernel) (by decide +kernel) ⟨rfl, rfl, rfl, rfl, rfl, by decide +kernel⟩ ?hw ?hc
  case hw => w_witness2
  case hc =>
    refine L2.walk_ofE (l := PySem.Challenge.rw_drillrow_k10_counts_errors) (n := 63) (k := 6) (x := "script") (CX := L2.CX0) rfl (by decide) (by kernel_rfl) ⟨rfl, by decide, by decide⟩ ?F (fun _ _ _ _ z => z)
    intro w mg fa h Y G hmg0
    obtain ⟨K, KX, c, ce⟩ := Y
    have hmg : mg ("law" : PySem.Str) = some (.ref fa) := by
      have e : (HandSHeadRun.topDef (OpenLaw.row PySem.Challenge.rw_drillrow_k10_counts_errors).prog 39).name = ("law" : PySem.Str) := by kernel_rfl
      rw [← e]
      exact hmg0
    have T := Q.txt_of KX G c ce
    obtain ⟨fd, FD, hF⟩ := Q.law_all (P := (PySem.Challenge.rw_drillrow_k10_counts_errors).prog) (w := w) T hmg
    exact ⟨K, fd, Q.sp_law K, KX, fun s v => FD.bindsA (ps := ["script"]) (fun _ _ _ _ _ _ us hl => match us, hl with | [_], _ => rfl) s [v] rfl, fun H a ns hl _ hS => ⟨rfl, a, ns, rfl, hS, hl, fun _ => rfl⟩, fun base _ _ => hF base⟩

