import PyProof.Rows.All
import Wide.All
import OpenK.AllK
import Wide.FinOn
import HandS.ForMost
import HandS.Walk
import HandS.TupAny
import HandS.TupMul
import HandS.Conv
import HandS.IsInst
import HandS.Style
import HandS.Deep
import HandS.Strs
import KE.SortData
import KE.DataMinMax
import KE.GoesEnum
import KE.GoesMore
import HandS.SortKw
import PySem.Challenge.RW_twistyard_k50_whole_counted
set_option Elab.async false
set_option linter.all false
set_option maxRecDepth 100000
set_option maxHeartbeats 4000000
/-! The data level: what stands in a slot is told as plain data. -/
namespace Tw
open PySem PySem.Spec PyProof.Rows L2

/-! ### values as data -/
mutual
inductive Hd (K : PySem.W.Frag) (H : Hp) : V → PyData → Prop
  | non : Hd K H .non .none
  | bl (b : Bool) : Hd K H (.bl b) (.bool b)
  | int (i : Int) : Hd K H (.int i) (.int i)
  | str (x : Str) : Hd K H (.str x) (.str x)
  | lst {a : Addr} {xs : List V} {ds : List PyData} : H a = some (.lst xs) → HdA K H xs ds → Hd K H (.ref a) (.list ds)
  | tup {a : Addr} {xs : List V} {ds : List PyData} : SqT K H a xs → HdA K H xs ds → Hd K H (.ref a) (.tuple ds)
  | scr {a : Addr} {ns : List Int} : SqL K H a (ns.map V.int) → Hd K H (.ref a) (.dict (ns.map fun n => (.none, .int n)))
  | pln {a : Addr} {o : Obj} {ns : List Int} : H a = some (.frz o (.tup (ns.map V.int))) → o.dict = none → Hd K H (.ref a) (.dict [(.tuple (ns.map PyData.int), .none)])
inductive HdA (K : PySem.W.Frag) (H : Hp) : List V → List PyData → Prop
  | nil : HdA K H [] []
  | cons {v : V} {vs : List V} {d : PyData} {ds : List PyData} : Hd K H v d → HdA K H vs ds → HdA K H (v :: vs) (d :: ds)
end
/-- the script -/
def scD (ns : List Int) : PyData := .dict (ns.map fun n => (.none, .int n))
theorem Same.sqt {K : PySem.W.Frag} {H H' : Hp} {a : Addr} {xs : List V} (e : Same H H') (h : SqT K H a xs) : SqT K H' a xs := by
  rcases h with (h | ⟨o, h⟩) | h
  · exact .inl (.inl (e _ _ h))
  · exact .inl (.inr ⟨o, e _ _ h⟩)
  · exact .inr h
theorem same_new {H : Hp} {p : Addr} {o : HO} (h : H p = none) : Same H (upd H p o) := fun b u q => by rw [upd_ne (ne_of_none q h)]; exact q
theorem same_mut {H H' : Hp} {p : Addr} {o : HO} (e : Same H H') (h : H p = none) : Same H (upd H' p o) := fun b u q => by rw [upd_ne (ne_of_none q h)]; exact e _ _ q
theorem same_back {H H' : Hp} {p : Addr} (e : Same H H') (h : H' p = none) : H p = none := Same.free e h
section
variable {K : PySem.W.Frag} {H H' : Hp}
mutual
theorem Hd.same (e : Same H H') : ∀ (d : PyData) (v : V), Hd K H v d → Hd K H' v d
  | .none, _, h => by cases h; exact .non
  | .bool b, _, h => by cases h; exact .bl b
  | .int i, _, h => by cases h; exact .int i
  | .str x, _, h => by cases h; exact .str x
  | .list ds, _, h => by
    cases h with
    | lst h1 h2 => exact .lst (e _ _ h1) (HdA.same e ds _ h2)
  | .tuple ds, _, h => by
    cases h with
    | tup h1 h2 => exact .tup (Same.sqt e h1) (HdA.same e ds _ h2)
  | .dict kvs, _, h => by
    cases h with
    | scr h1 => exact .scr (e.seq h1)
    | pln h1 h2 => exact .pln (e _ _ h1) h2
theorem HdA.same (e : Same H H') : ∀ (ds : List PyData) (vs : List V), HdA K H vs ds → HdA K H' vs ds
  | [], _, h => by cases h; exact .nil
  | d :: ds, _, h => by
    cases h with
    | cons h1 h2 => exact .cons (Hd.same e d _ h1) (HdA.same e ds _ h2)
end
mutual
theorem Hd.dp : ∀ (d : PyData) (v : V), PyData.canLay0 d = true → Hd K H v d → Dp K H v d
  | .none, _, _, h => by cases h; exact .non
  | .bool b, _, _, h => by cases h; exact .bl b
  | .int i, _, _, h => by cases h; exact .int i
  | .str x, _, _, h => by cases h; exact .str x
  | .list ds, _, c, h => by
    cases h with
    | lst h1 h2 => exact .lst (SqL.of h1) (HdA.dp ds _ (by simpa [PyData.canLay0] using c) h2)
  | .tuple ds, _, c, h => by
    cases h with
    | tup h1 h2 => exact .tup h1 (HdA.dp ds _ (by simpa [PyData.canLay0] using c) h2)
  | .dict kvs, _, c, h => by simp [PyData.canLay0] at c
theorem HdA.dp : ∀ (ds : List PyData) (vs : List V), PyData.canLayAll0 ds = true → HdA K H vs ds → DpAll K H vs ds
  | [], _, _, h => by cases h; exact .nil
  | d :: ds, _, c, h => by
    cases h with
    | cons h1 h2 =>
      have c' : PyData.canLay0 d = true ∧ PyData.canLayAll0 ds = true := by simpa [PyData.canLayAll0] using c
      exact .cons (Hd.dp d _ c'.1 h1) (HdA.dp ds _ c'.2 h2)
end
theorem HdA.length : ∀ {ds : List PyData} {vs : List V}, HdA K H vs ds → vs.length = ds.length
  | [], _, h => by cases h; rfl
  | d :: ds, _, h => by
    cases h with
    | cons h1 h2 => rw [List.length_cons, List.length_cons, HdA.length h2]
theorem HdA.get : ∀ {ds : List PyData} {vs : List V} {i : Nat} {d : PyData}, HdA K H vs ds → ds[i]? = some d → ∃ v, vs[i]? = some v ∧ Hd K H v d
  | [], _, i, d, h, e => by simp at e
  | d0 :: ds, _, 0, d, h, e => by
    cases h with
    | cons h1 h2 =>
      have e' : d0 = d := by simpa using e
      subst e'
      exact ⟨_, rfl, h1⟩
  | d0 :: ds, _, i + 1, d, h, e => by
    cases h with
    | cons h1 h2 =>
      obtain ⟨v, hv, h⟩ := HdA.get (i := i) h2 (by simpa using e)
      exact ⟨v, by simpa using hv, h⟩
theorem HdA.getV : ∀ {ds : List PyData} {vs : List V} {i : Nat} {v : V}, HdA K H vs ds → vs[i]? = some v → ∃ d, ds[i]? = some d ∧ Hd K H v d
  | [], _, i, d, h, e => by cases h; simp at e
  | d0 :: ds, _, 0, d, h, e => by
    cases h with
    | cons h1 h2 =>
      have e' : _ = d := Option.some.inj (by simpa using e)
      subst e'
      exact ⟨_, rfl, h1⟩
  | d0 :: ds, _, i + 1, d, h, e => by
    cases h with
    | cons h1 h2 =>
      obtain ⟨v, hv, h⟩ := HdA.getV (i := i) h2 (by simpa using e)
      exact ⟨v, by simpa using hv, h⟩
theorem HdA.append : ∀ {ds es : List PyData} {vs us : List V}, HdA K H vs ds → HdA K H us es → HdA K H (vs ++ us) (ds ++ es)
  | [], _, _, _, h, q => by cases h; exact q
  | d :: ds, _, _, _, h, q => by
    cases h with
    | cons h1 h2 => exact .cons h1 (HdA.append h2 q)
theorem HdA.take : ∀ {ds : List PyData} {vs : List V} (n : Nat), HdA K H vs ds → HdA K H (vs.take n) (ds.take n)
  | [], _, n, h => by cases h; simp; exact .nil
  | d :: ds, _, 0, h => by cases h with | cons h1 h2 => exact .nil
  | d :: ds, _, n + 1, h => by
    cases h with
    | cons h1 h2 => exact .cons h1 (HdA.take n h2)
theorem HdA.drop : ∀ {ds : List PyData} {vs : List V} (n : Nat), HdA K H vs ds → HdA K H (vs.drop n) (ds.drop n)
  | [], _, n, h => by cases h; simp; exact .nil
  | d :: ds, _, 0, h => h
  | d :: ds, _, n + 1, h => by
    cases h with
    | cons h1 h2 => exact HdA.drop n h2
theorem HdA.reverse : ∀ {ds : List PyData} {vs : List V}, HdA K H vs ds → HdA K H vs.reverse ds.reverse
  | [], _, h => by cases h; exact .nil
  | d :: ds, _, h => by
    cases h with
    | cons h1 h2 =>
      rw [List.reverse_cons, List.reverse_cons]
      exact (HdA.reverse h2).append (.cons h1 .nil)
theorem HdA.rep {ds : List PyData} {vs : List V} (h : HdA K H vs ds) : ∀ n : Nat, HdA K H (List.replicate n vs).flatten (List.replicate n ds).flatten
  | 0 => .nil
  | n + 1 => by
    rw [List.replicate_succ, List.replicate_succ, List.flatten_cons, List.flatten_cons]
    exact h.append (HdA.rep h n)
theorem HdA.ints : ∀ ns : List Int, HdA K H (ns.map V.int) (ns.map PyData.int)
  | [] => .nil
  | n :: ns => .cons (.int n) (HdA.ints ns)
theorem HdA.ints_inv : ∀ {ns : List Int} {vs : List V}, HdA K H vs (ns.map PyData.int) → vs = ns.map V.int
  | [], _, h => by cases h; rfl
  | n :: ns, _, h => by
    cases h with
    | cons h1 h2 =>
      cases h1
      rw [HdA.ints_inv h2] <;> rfl
theorem HdA.bls_inv : ∀ {bs : List Bool} {vs : List V}, HdA K H vs (bs.map PyData.bool) → vs = bs.map V.bl
  | [], _, h => by cases h; rfl
  | n :: ns, _, h => by
    cases h with
    | cons h1 h2 =>
      cases h1
      rw [HdA.bls_inv h2] <;> rfl
theorem HdA.snoc {ds : List PyData} {vs : List V} {d : PyData} {v : V} (h : HdA K H vs ds) (q : Hd K H v d) : HdA K H (vs ++ [v]) (ds ++ [d]) := h.append (.cons q .nil)
theorem HdA.one_inv {d : PyData} {vs : List V} (h : HdA K H vs [d]) : ∃ v, vs = [v] ∧ Hd K H v d := by
  cases h with
  | cons h1 h2 => cases h2; exact ⟨_, rfl, h1⟩
theorem HdA.two_inv {d e : PyData} {vs : List V} (h : HdA K H vs [d, e]) : ∃ v u, vs = [v, u] ∧ Hd K H v d ∧ Hd K H u e := by
  cases h with
  | cons h1 h2 =>
    obtain ⟨u, rfl, hu⟩ := h2.one_inv
    exact ⟨_, u, rfl, h1, hu⟩
theorem Hd.list_inv {v : V} {ds : List PyData} (h : Hd K H v (.list ds)) : ∃ a xs, v = .ref a ∧ H a = some (.lst xs) ∧ HdA K H xs ds := by
  cases h with
  | lst h1 h2 => exact ⟨_, _, rfl, h1, h2⟩
theorem Hd.tup_inv {v : V} {ds : List PyData} (h : Hd K H v (.tuple ds)) : ∃ a xs, v = .ref a ∧ SqT K H a xs ∧ HdA K H xs ds := by
  cases h with
  | tup h1 h2 => exact ⟨_, _, rfl, h1, h2⟩
theorem Hd.int_inv {v : V} {i : Int} (h : Hd K H v (.int i)) : v = .int i := by cases h; rfl
theorem Hd.bool_inv {v : V} {i : Bool} (h : Hd K H v (.bool i)) : v = .bl i := by cases h; rfl
theorem Hd.str_inv {v : V} {i : Str} (h : Hd K H v (.str i)) : v = .str i := by cases h; rfl
def isNo : PyData → Bool
  | .none => true
  | _ => false
theorem scD_inj {ns ms : List Int} (h : (ns.map fun n => ((PyData.none, PyData.int n) : PyData × PyData)) = ms.map fun n => (.none, .int n)) : ns = ms := by
  induction ns generalizing ms with
  | nil =>
    cases ms with
    | nil => rfl
    | cons m ms => cases h
  | cons n ns ih =>
    cases ms with
    | nil => cases h
    | cons m ms =>
      rw [List.map_cons, List.map_cons] at h
      injection h with h1 h2
      injection h1 with _ h3
      injection h3 with h4
      rw [h4, ih h2]
theorem Hd.sc_inv {v : V} {ns : List Int} (h : Hd K H v (scD ns)) : ∃ a, v = .ref a ∧ SqL K H a (ns.map V.int) := by
  unfold scD at h
  generalize e : (ns.map fun n => ((PyData.none, PyData.int n) : PyData × PyData)) = kvs at h
  cases h with
  | scr h1 =>
    rw [scD_inj e]
    exact ⟨_, rfl, h1⟩
  | pln h1 h2 =>
    exfalso
    cases ns with
    | nil => cases e
    | cons n ns =>
      rw [List.map_cons] at e
      injection e with e1 _
      injection e1 with e2 _
      cases e2
/-- a tuple of numbers that is known to be an exact one -/
abbrev plnD (ns : List Int) : PyData := .dict [(.tuple (ns.map PyData.int), .none)]
theorem ints_inj : ∀ {ns ms : List Int}, ns.map PyData.int = ms.map PyData.int → ns = ms
  | [], [], _ => rfl
  | [], m :: ms, h => by cases h
  | n :: ns, [], h => by cases h
  | n :: ns, m :: ms, h => by
    rw [List.map_cons, List.map_cons] at h
    injection h with h1 h2
    injection h1 with h3
    rw [h3, ints_inj h2]
theorem Hd.pl_inv {v : V} {ns : List Int} (h : Hd K H v (plnD ns)) : ∃ a o, v = .ref a ∧ H a = some (.frz o (.tup (ns.map V.int))) ∧ o.dict = none := by
  unfold plnD at h
  generalize e : [((PyData.tuple (ns.map PyData.int), PyData.none) : PyData × PyData)] = kvs at h
  cases h with
  | scr h1 =>
    exfalso
    rename_i ms
    cases ms with
    | nil => cases e
    | cons n ms =>
      rw [List.map_cons] at e
      injection e with e1 _
      injection e1 with e2 _
      cases e2
  | pln h1 h2 =>
    injection e with e1 _
    injection e1 with e2 _
    injection e2 with e3
    rw [ints_inj e3]
    exact ⟨_, _, rfl, h1, h2⟩
theorem Hd.pl_tup {v : V} {ns : List Int} (h : Hd K H v (plnD ns)) : Hd K H v (.tuple (ns.map PyData.int)) := by
  obtain ⟨a, o, rfl, h1, _⟩ := h.pl_inv
  exact .tup (.inl (.inr ⟨o, h1⟩)) (HdA.ints ns)
theorem Hd.none_iff {v : V} {d : PyData} (h : Hd K H v d) : decide (v = .non) = isNo d := by
  cases h <;> rfl
end

/-! ### data that holds no list: it stands whatever becomes of lists -/
mutual
def lf : PyData → Bool
  | .none | .bool _ | .int _ | .str _ => true
  | .tuple ds => lfA ds
  | .list _ | .dict _ => false
def lfA : List PyData → Bool
  | [] => true
  | d :: ds => lf d && lfA ds
end
theorem lfA_ints : ∀ ns : List Int, lfA (ns.map PyData.int) = true
  | [] => by simp [lfA]
  | n :: ns => by
    show lfA (PyData.int n :: ns.map PyData.int) = true
    rw [lfA, lfA_ints ns]
    simp [lf]
theorem lfA_append : ∀ {a b : List PyData}, lfA a = true → lfA b = true → lfA (a ++ b) = true
  | [], _, _, h => h
  | x :: a, b, h, q => by
    rw [lfA, Bool.and_eq_true] at h
    rw [List.cons_append, lfA, h.1, lfA_append h.2 q]
    rfl
theorem lfA_of : ∀ {a : List PyData}, (∀ d ∈ a, lf d = true) → lfA a = true
  | [], _ => by simp [lfA]
  | x :: a, h => by
    rw [lfA, h x (by simp), lfA_of fun d hd => h d (by simp [hd])]
    rfl
theorem lf_of_mem : ∀ {a : List PyData} {d : PyData}, lfA a = true → d ∈ a → lf d = true
  | x :: a, d, h, hd => by
    rw [lfA, Bool.and_eq_true] at h
    rcases List.mem_cons.mp hd with e | e
    · rw [e]; exact h.1
    · exact lf_of_mem h.2 e
/-- the tuples of H stand in H' -/
def SameT (K : PySem.W.Frag) (H H' : Hp) : Prop := ∀ a xs, SqT K H a xs → SqT K H' a xs
theorem Same.t {K : PySem.W.Frag} {H H' : Hp} (e : Same H H') : SameT K H H' := fun _ _ h => Same.sqt e h
theorem SameT.mut {K : PySem.W.Frag} {H : Hp} {b : Addr} {xs : List V} {o : HO} (h : H b = some (.lst xs)) : SameT K H (upd H b o) := fun a ys q => by
  rcases q with (q | ⟨o', q⟩) | q
  · exact .inl (.inl (by rw [upd_ne (ne_of q h (by intro z; cases z))]; exact q))
  · exact .inl (.inr ⟨o', by rw [upd_ne (ne_of q h (by intro z; cases z))]; exact q⟩)
  · exact .inr q
theorem SameT.trans {K : PySem.W.Frag} {H H1 H2 : Hp} (a : SameT K H H1) (b : SameT K H1 H2) : SameT K H H2 := fun x xs h => b x xs (a x xs h)
section
variable {K : PySem.W.Frag} {H H' : Hp}
mutual
theorem Hd.lf (e : SameT K H H') : ∀ (d : PyData) (v : V), lf d = true → Hd K H v d → Hd K H' v d
  | .none, _, _, h => by cases h; exact .non
  | .bool b, _, _, h => by cases h; exact .bl b
  | .int i, _, _, h => by cases h; exact .int i
  | .str x, _, _, h => by cases h; exact .str x
  | .list ds, _, c, h => by simp [Tw.lf] at c
  | .tuple ds, _, c, h => by
    cases h with
    | tup h1 h2 => exact .tup (e _ _ h1) (HdA.lf e ds _ (by simpa [Tw.lf] using c) h2)
  | .dict kvs, _, c, h => by simp [Tw.lf] at c
theorem HdA.lf (e : SameT K H H') : ∀ (ds : List PyData) (vs : List V), lfA ds = true → HdA K H vs ds → HdA K H' vs ds
  | [], _, _, h => by cases h; exact .nil
  | d :: ds, _, c, h => by
    rw [lfA, Bool.and_eq_true] at c
    cases h with
    | cons h1 h2 => exact .cons (Hd.lf e d _ c.1 h1) (HdA.lf e ds _ c.2 h2)
end
end

/-! ### slots -/
abbrev Ev := List (Option PyData)
def StV (K : PySem.W.Frag) (Γ : Ev) (σ : L2.St) (H : Hp) : Prop := Γ.length = σ.length ∧ ∀ (i : Nat) (d : PyData), Γ[i]? = some (some d) → ∃ v, σ[i]? = some (some v) ∧ Hd K H v d
/-- Γ' says no more than Γ -/
def Le (Γ Γ' : Ev) : Prop := Γ.length = Γ'.length ∧ ∀ (i : Nat) (d : PyData), Γ'[i]? = some (some d) → Γ[i]? = some (some d)
theorem Le.refl (Γ : Ev) : Le Γ Γ := ⟨rfl, fun _ _ h => h⟩
theorem Le.trans {A B C : Ev} (a : Le A B) (b : Le B C) : Le A C := ⟨a.1.trans b.1, fun i d h => a.2 i d (b.2 i d h)⟩
theorem Le.nil : Le [] [] := Le.refl _
theorem Le.cons {x : Option PyData} {Γ Γ' : Ev} (h : Le Γ Γ') : Le (x :: Γ) (x :: Γ') := ⟨by simp [h.1], fun i d e => by
  cases i with
  | zero => exact e
  | succ i => simpa using h.2 i d (by simpa using e)⟩
theorem Le.drop {x : Option PyData} {Γ Γ' : Ev} (h : Le Γ Γ') : Le (x :: Γ) (none :: Γ') := ⟨by simp [h.1], fun i d e => by
  cases i with
  | zero => simp at e
  | succ i => simpa using h.2 i d (by simpa using e)⟩
section
variable {K : PySem.W.Frag} {H H' : Hp} {Γ Γ' : Ev} {σ : L2.St}
theorem StV.same (e : Same H H') (h : StV K Γ σ H) : StV K Γ σ H' := ⟨h.1, fun i d q => let ⟨v, hv, hd⟩ := h.2 i d q; ⟨v, hv, hd.same e⟩⟩
theorem StV.le (e : Le Γ Γ') (h : StV K Γ σ H) : StV K Γ' σ H := ⟨e.1.symm.trans h.1, fun i d q => h.2 i d (e.2 i d q)⟩
theorem StV.set {i : Nat} {v : V} {d : PyData} (h : StV K Γ σ H) (q : Hd K H v d) : StV K (Γ.set i (some d)) (σ.set i (some v)) H := ⟨by rw [List.length_set, List.length_set]; exact h.1, fun j e hj => by
  by_cases hij : i = j
  · subst hij
    by_cases hl : i < Γ.length
    · rw [List.getElem?_set_self hl] at hj
      have e' : d = e := Option.some.inj (Option.some.inj hj)
      subst e'
      exact ⟨v, by rw [List.getElem?_set_self (by rw [← h.1]; exact hl)], q⟩
    · rw [List.getElem?_eq_none (by rw [List.length_set]; omega)] at hj
      cases hj
  · rw [List.getElem?_set_ne hij] at hj
    rw [List.getElem?_set_ne hij]
    exact h.2 j e hj⟩
theorem StV.start {N : List Str} {ds : List PyData} {vs : List V} (h : HdA K H vs ds) : StV K (ds.map some ++ List.replicate (N.length - ds.length) none) (L2.start N vs) H := by
  have hl := h.length
  refine ⟨by unfold L2.start; simp [hl], fun i d q => ?_⟩
  unfold L2.start
  by_cases hi : i < ds.length
  · rw [List.getElem?_append_left (by simpa using hi), List.getElem?_map] at q
    cases e : ds[i]? with
    | none => rw [e] at q; cases q
    | some d' =>
      rw [e] at q
      have e' : d' = d := Option.some.inj (Option.some.inj q)
      subst e'
      obtain ⟨v, hv, hd⟩ := h.get e
      exact ⟨v, by rw [List.getElem?_append_left (by simpa [hl] using hi), List.getElem?_map, hv] <;> rfl, hd⟩
  · rw [List.getElem?_append_right (by simpa using hi), List.getElem?_replicate] at q
    split at q <;> cases q
theorem StV.wipe {own : List Nat} (h : StV K Γ σ H) : StV K (own.foldr (fun i g => g.set i none) Γ) (wipe σ own) H := by
  induction own with
  | nil => exact h
  | cons i own ih =>
    show StV K ((own.foldr (fun i g => g.set i none) Γ).set i none) ((L2.wipe σ own).set i none) H
    refine ⟨by rw [List.length_set, List.length_set]; exact ih.1, fun j d hj => ?_⟩
    by_cases hij : i = j
    · subst hij
      by_cases hl : i < (own.foldr (fun i g => g.set i none) Γ).length
      · rw [List.getElem?_set_self hl] at hj; cases hj
      · rw [List.getElem?_eq_none (by rw [List.length_set]; omega)] at hj; cases hj
    · rw [List.getElem?_set_ne hij] at hj
      rw [List.getElem?_set_ne hij]
      exact ih.2 j d hj
end

/-! ### expressions -/
section
variable (X : Cx)
def wE (e : Expr) : TE := fun σ H Q => ∃ t, PE X e t ∧ t σ H Q
def wT (e : Expr) : TT := fun σ H Q => ∃ t, PT X e t ∧ t σ H Q
def wW (e : Expr) : TT := fun σ H Q => ∃ t, PW X e t ∧ t σ H Q
def wA (es : List Expr) : TA := fun σ H Q => ∃ t, PA X es t ∧ t σ H Q
def wO (e : Option Expr) : TO := fun σ H Q => ∃ t, PO X e t ∧ t σ H Q
def wI (tg e : Expr) : TI := fun σ H R => ∃ t, PI X tg e t ∧ t σ H R
def wS (st : Stmt) : TS := fun D σ H => ∃ t, PS X st t ∧ t D σ H
def wB (sts : List Stmt) : TS := fun D σ H => ∃ t, PSs X sts t ∧ t D σ H
end
section
variable {X : Cx}
theorem wE_ok (e : Expr) : PE X e (wE X e) := ⟨fun pins s σ H Q I ⟨t, h, q⟩ => h.run pins s σ H Q I q⟩
theorem wT_ok (e : Expr) : PT X e (wT X e) := ⟨fun pins s σ H Q I ⟨t, h, q⟩ => h.run pins s σ H Q I q⟩
theorem wW_ok (e : Expr) : PW X e (wW X e) := ⟨fun wh pins s σ H Q I ⟨t, h, q⟩ => h.run wh pins s σ H Q I q⟩
theorem wA_ok (es : List Expr) : PA X es (wA X es) := ⟨fun pos pins s σ H Q I ⟨t, h, q⟩ => h.run pos pins s σ H Q I q⟩
theorem wO_ok (e : Option Expr) : PO X e (wO X e) := ⟨fun pins s σ H Q I ⟨t, h, q⟩ => h.run pins s σ H Q I q⟩
theorem wI_ok (tg e : Expr) : PI X tg e (wI X tg e) := ⟨fun pins s σ H R I ⟨t, h, q⟩ => h.run pins s σ H R I q⟩
theorem wS_ok (st : Stmt) : PS X st (wS X st) := ⟨fun pins s σ H D I ⟨t, h, q⟩ => h.run pins s σ H D I q⟩
theorem wB_ok (sts : List Stmt) : PSs X sts (wB X sts) := ⟨fun pins s σ H D I ⟨t, h, q⟩ => h.run pins s σ H D I q⟩
end
end Tw
namespace Tw
open PySem PySem.Spec PyProof.Rows L2

/-! ### expressions that make new things only -/
section
variable (X : Cx)
structure PD (e : Expr) (Γ : Ev) (d : PyData) : Prop where
  run : ∀ (σ : L2.St) (H : Hp), StV X.K Γ σ H → ∀ Q : VK, (∀ v H', Same H H' → Hd X.K H' v d → Q v H') → wE X e σ H Q
/-- a new list -/
structure PDL (e : Expr) (Γ : Ev) (ds : List PyData) : Prop where
  run : ∀ (σ : L2.St) (H : Hp), StV X.K Γ σ H → ∀ Q : VK, (∀ p vs H', H p = none → Same H H' → H' p = some (.lst vs) → HdA X.K H' vs ds → Q (.ref p) H') → wE X e σ H Q
structure PTD (e : Expr) (Γ : Ev) (b : Bool) : Prop where
  run : ∀ (σ : L2.St) (H : Hp), StV X.K Γ σ H → ∀ Q : Bool → Hp → Prop, (∀ H', Same H H' → Q b H') → wT X e σ H Q
structure PWD (e : Expr) (Γ : Ev) (b : Bool) : Prop where
  run : ∀ (σ : L2.St) (H : Hp), StV X.K Γ σ H → ∀ Q : Bool → Hp → Prop, (∀ H', Same H H' → Q b H') → wW X e σ H Q
structure PAD (es : List Expr) (Γ : Ev) (ds : List PyData) : Prop where
  run : ∀ (σ : L2.St) (H : Hp), StV X.K Γ σ H → ∀ Q : List V → Hp → Prop, (∀ vs H', Same H H' → HdA X.K H' vs ds → Q vs H') → wA X es σ H Q
structure POD (e : Option Expr) (Γ : Ev) (i : Option Int) : Prop where
  run : ∀ (σ : L2.St) (H : Hp), StV X.K Γ σ H → ∀ Q : Option Int → Hp → Prop, (∀ H', Same H H' → Q i H') → wO X e σ H Q
/-- an operation on two data | a call's | a subscript's | a method's -/
structure OD (f : Value → Value → Sem Value) (dx dy dz : PyData) : Prop where
  run : ∃ r, OpR X f r ∧ ∀ (H : Hp) (x y : V), Hd X.K H x dx → Hd X.K H y dy → ∀ Q : VK, (∀ v H', Same H H' → Hd X.K H' v dz → Q v H') → r x y H Q
structure ODL (f : Value → Value → Sem Value) (dx dy : PyData) (ds : List PyData) : Prop where
  run : ∃ r, OpR X f r ∧ ∀ (H : Hp) (x y : V), Hd X.K H x dx → Hd X.K H y dy → ∀ Q : VK, (∀ p vs H', H p = none → Same H H' → H' p = some (.lst vs) → HdA X.K H' vs ds → Q (.ref p) H') → r x y H Q
structure ID (dx dy dz : PyData) : Prop where
  run : ∃ r, IxR X r ∧ ∀ (H : Hp) (x y : V), Hd X.K H x dx → Hd X.K H y dy → ∀ Q : VK, (∀ v H', Same H H' → Hd X.K H' v dz → Q v H') → r x y H Q
structure CD (f : Value) (ds : List PyData) (dz : PyData) : Prop where
  run : ∃ r, CallR X f r ∧ ∀ (H : Hp) (xs : List V), HdA X.K H xs ds → ∀ Q : VK, (∀ v H', Same H H' → Hd X.K H' v dz → Q v H') → r xs H Q
structure CDL (f : Value) (ds : List PyData) (es : List PyData) : Prop where
  run : ∃ r, CallR X f r ∧ ∀ (H : Hp) (xs : List V), HdA X.K H xs ds → ∀ Q : VK, (∀ p vs H', H p = none → Same H H' → H' p = some (.lst vs) → HdA X.K H' vs es → Q (.ref p) H') → r xs H Q
structure MD (T id : String) (dx : PyData) (ds : List PyData) (dz : PyData) : Prop where
  run : (∀ (H : Hp) (x : V), Hd X.K H x dx → tyV X.K T x H) ∧ ∃ r, MtR X id r ∧ ∀ (H : Hp) (x : V) (xs : List V), Hd X.K H x dx → HdA X.K H xs ds → ∀ Q : VK, (∀ v H', Same H H' → Hd X.K H' v dz → Q v H') → r x xs H Q
end
instance coe_PD {X : Cx} {e : Expr} {Γ : Ev} {d : PyData} : CoeFun (PD X e Γ d) fun _ => ∀ (σ : L2.St) (H : Hp), StV X.K Γ σ H → ∀ Q : VK, (∀ v H', Same H H' → Hd X.K H' v d → Q v H') → wE X e σ H Q := ⟨fun h => h.run⟩
instance coe_PDL {X : Cx} {e : Expr} {Γ : Ev} {ds : List PyData} : CoeFun (PDL X e Γ ds) fun _ => ∀ (σ : L2.St) (H : Hp), StV X.K Γ σ H → ∀ Q : VK, (∀ p vs H', H p = none → Same H H' → H' p = some (.lst vs) → HdA X.K H' vs ds → Q (.ref p) H') → wE X e σ H Q := ⟨fun h => h.run⟩
instance coe_PTD {X : Cx} {e : Expr} {Γ : Ev} {b : Bool} : CoeFun (PTD X e Γ b) fun _ => ∀ (σ : L2.St) (H : Hp), StV X.K Γ σ H → ∀ Q : Bool → Hp → Prop, (∀ H', Same H H' → Q b H') → wT X e σ H Q := ⟨fun h => h.run⟩
instance coe_PWD {X : Cx} {e : Expr} {Γ : Ev} {b : Bool} : CoeFun (PWD X e Γ b) fun _ => ∀ (σ : L2.St) (H : Hp), StV X.K Γ σ H → ∀ Q : Bool → Hp → Prop, (∀ H', Same H H' → Q b H') → wW X e σ H Q := ⟨fun h => h.run⟩
instance coe_PAD {X : Cx} {es : List Expr} {Γ : Ev} {ds : List PyData} : CoeFun (PAD X es Γ ds) fun _ => ∀ (σ : L2.St) (H : Hp), StV X.K Γ σ H → ∀ Q : List V → Hp → Prop, (∀ vs H', Same H H' → HdA X.K H' vs ds → Q vs H') → wA X es σ H Q := ⟨fun h => h.run⟩
instance coe_POD {X : Cx} {e : Option Expr} {Γ : Ev} {i : Option Int} : CoeFun (POD X e Γ i) fun _ => ∀ (σ : L2.St) (H : Hp), StV X.K Γ σ H → ∀ Q : Option Int → Hp → Prop, (∀ H', Same H H' → Q i H') → wO X e σ H Q := ⟨fun h => h.run⟩
section
variable {X : Cx} {a b c e : Expr} {es rest : List Expr} {pos p : Pos} {Γ Γ' : Ev} {d dx dy dz : PyData} {ds : List PyData}
theorem PDL.pd (h : PDL X e Γ ds) : PD X e Γ (.list ds) := .mk fun σ H st Q q => h σ H st Q fun p vs H' _ e1 h1 h2 => q _ H' e1 (.lst h1 h2)
theorem PD.is {d' : PyData} (h : PD X e Γ d) (q : d = d') : PD X e Γ d' := by rw [← q]; exact h
theorem PTD.is {d d' : Bool} (h : PTD X e Γ d) (q : d = d') : PTD X e Γ d' := by rw [← q]; exact h
theorem PD.le (l : Le Γ Γ') (h : PD X e Γ' d) : PD X e Γ d := .mk fun σ H st Q q => h σ H (st.le l) Q q
theorem PTD.le {b : Bool} (l : Le Γ Γ') (h : PTD X e Γ' b) : PTD X e Γ b := .mk fun σ H st Q q => h σ H (st.le l) Q q
theorem ODL.od {f : Value → Value → Sem Value} (h : ODL X f dx dy ds) : OD X f dx dy (.list ds) := let ⟨r, hr, k⟩ := h; ⟨r, hr, fun H x y hx hy Q q => k H x y hx hy Q fun p vs H' _ e1 h1 h2 => q _ H' e1 (.lst h1 h2)⟩
theorem CDL.cd {f : Value} {es : List PyData} (h : CDL X f ds es) : CD X f ds (.list es) := let ⟨r, hr, k⟩ := h; ⟨r, hr, fun H x hx Q q => k H x hx Q fun p vs H' _ e1 h1 h2 => q _ H' e1 (.lst h1 h2)⟩
theorem OD.is {f : Value → Value → Sem Value} {dz' : PyData} (h : OD X f dx dy dz) (q : dz = dz') : OD X f dx dy dz' := by rw [← q]; exact h

theorem pd_var {i : Nat} {x : Str} (hN : X.N[i]? = some x) (hΓ : Γ[i]? = some (some d)) (hv : Vis X.env.scope x := by first | exact Or.inl rfl | exact Or.inr (Or.inl rfl) | exact Or.inr (Or.inr rfl)) (hd : (x == ("__debug__" : Str)) = false := by decide)
    (hcd : (x == ("__classdict__" : Str)) = false := by decide) : PD X (.Name x pos) Γ d := .mk fun σ H st Q q => by
  obtain ⟨v, hs, hv'⟩ := st.2 i d hΓ
  exact ⟨_, pe_var hN hv hd hcd, v, hs, q v H (Same.refl H) hv'⟩
theorem pd_int {i : Int} {j : Nat} : PD X (.Constant (.int i) j pos) Γ (.int i) := .mk fun σ H st Q q => ⟨_, pe_int, q _ H (Same.refl H) (.int i)⟩
theorem pd_bl {i : Bool} {j : Nat} : PD X (.Constant (.bool i) j pos) Γ (.bool i) := .mk fun σ H st Q q => ⟨_, pe_bl, q _ H (Same.refl H) (.bl i)⟩
theorem pd_non {j : Nat} : PD X (.Constant .none j pos) Γ .none := .mk fun σ H st Q q => ⟨_, pe_non, q _ H (Same.refl H) .non⟩
theorem pd_str {x : Str} {j : Nat} : PD X (.Constant (.str x) j pos) Γ (.str x) := .mk fun σ H st Q q => ⟨_, pe_str, q _ H (Same.refl H) (.str x)⟩
theorem pd_neg {i : Int} (h : PD X e Γ (.int i)) : PD X (.UnaryOp .USub e pos) Γ (.int (-i)) := .mk fun σ H st Q q =>
  ⟨_, pe_un un_neg (wE_ok e), h σ H st _ fun v H1 e1 hv => by cases hv; exact ⟨i, rfl, q _ H1 e1 (.int _)⟩⟩
theorem pd_bin {op : Operator} (ha : PD X a Γ dx) (hb : PD X b Γ dy) (ho : OD X (binaryOp op) dx dy dz) : PD X (.BinOp a op b pos) Γ dz := .mk fun σ H st Q q => by
  obtain ⟨r, hr, k⟩ := ho
  exact ⟨_, pe_op hr (wE_ok a) (wE_ok b), ha σ H st _ fun x H1 e1 hx => hb σ H1 (st.same e1) _ fun y H2 e2 hy => k H2 x y (hx.same e2) hy _ fun v H3 e3 hv => q v H3 ((e1.trans e2).trans e3) hv⟩
theorem pdl_bin {op : Operator} (ha : PD X a Γ dx) (hb : PD X b Γ dy) (ho : ODL X (binaryOp op) dx dy ds) : PDL X (.BinOp a op b pos) Γ ds := .mk fun σ H st Q q => by
  obtain ⟨r, hr, k⟩ := ho
  exact ⟨_, pe_op hr (wE_ok a) (wE_ok b), ha σ H st _ fun x H1 e1 hx => hb σ H1 (st.same e1) _ fun y H2 e2 hy => k H2 x y (hx.same e2) hy _ fun p vs H3 hp e3 h1 h2 => q p vs H3 (same_back (e1.trans e2) hp) ((e1.trans e2).trans e3) h1 h2⟩
theorem pd_cmp {op : CmpOp} (ha : PD X a Γ dx) (hb : PD X b Γ dy) (ho : OD X (compareOp op) dx dy dz) (hm : behindInMarks op b = false := by first | exact nomark _ | rfl) : PD X (.Compare a [op] [b] pos) Γ dz := .mk fun σ H st Q q => by
  obtain ⟨r, hr, k⟩ := ho
  exact ⟨_, pe_cmpR hr (wE_ok a) (wE_ok b) hm, ha σ H st _ fun x H1 e1 hx => hb σ H1 (st.same e1) _ fun y H2 e2 hy => k H2 x y (hx.same e2) hy _ fun v H3 e3 hv => q v H3 ((e1.trans e2).trans e3) hv⟩
theorem pd_chain {op op' : CmpOp} {k1 k2 : Bool} {dw : PyData} (ha : PD X a Γ dx) (hb : PD X b Γ dy) (hc : PD X c Γ dw) (ho : OD X (compareOp op) dx dy (.bool k1)) (ho' : OD X (compareOp op') dy dw (.bool k2))
    (hm : lastMarks [op, op'] [b, c] = false := by rfl) : PD X (.Compare a [op, op'] [b, c] pos) Γ (.bool (k1 && k2)) := .mk fun σ H st Q q => by
  obtain ⟨r, hr, k⟩ := ho
  obtain ⟨r', hr', k'⟩ := ho'
  refine ⟨_, pe_chain hr hr' (wE_ok a) (wE_ok b) (wE_ok c) hm, ha σ H st _ fun x H1 e1 hx => hb σ H1 (st.same e1) _ fun y H2 e2 hy => k H2 x y (hx.same e2) hy _ fun v H3 e3 hv => ?_⟩
  cases hv
  refine ⟨k1, rfl, ?_⟩
  cases k1 with
  | false =>
    rw [if_neg (by decide)]
    exact q _ H3 ((e1.trans e2).trans e3) (.bl _)
  | true =>
    rw [if_pos rfl]
    exact hc σ H3 (st.same ((e1.trans e2).trans e3)) _ fun w H4 e4 hw => k' H4 y w ((hy.same e3).same e4) hw _ fun v H5 e5 hv => q v H5 ((((e1.trans e2).trans e3).trans e4).trans e5) hv
theorem ptd_val {k : Bool} (h : PD X e Γ (.bool k)) (he : ∀ whole, isTrue e X.env whole = (do let v ← whole; standAt e.pos; holding [v] (truthy v)) := by intro _; rfl) : PTD X e Γ k := .mk fun σ H st Q q =>
  ⟨_, pt_val (wE_ok e) he, h σ H st _ fun v H1 e1 hv => by cases hv; exact ⟨k, rfl, q H1 e1⟩⟩
theorem ptd_cmp {op : CmpOp} {k : Bool} (ha : PD X a Γ dx) (hb : PD X b Γ dy) (ho : OD X (compareOp op) dx dy (.bool k)) (hm : behindInMarks op b = false := by first | exact nomark _ | rfl) : PTD X (.Compare a [op] [b] pos) Γ k := .mk fun σ H st Q q => by
  obtain ⟨r, hr, k'⟩ := ho
  exact ⟨_, pt_cmpR hr (wE_ok a) (wE_ok b) hm, ha σ H st _ fun x H1 e1 hx => hb σ H1 (st.same e1) _ fun y H2 e2 hy => k' H2 x y (hx.same e2) hy _ fun v H3 e3 hv => by cases hv; exact ⟨k, rfl, q H3 ((e1.trans e2).trans e3)⟩⟩
theorem ptd_chain {op op' : CmpOp} {k1 k2 : Bool} {dw : PyData} (ha : PD X a Γ dx) (hb : PD X b Γ dy) (hc : PD X c Γ dw) (ho : OD X (compareOp op) dx dy (.bool k1)) (ho' : OD X (compareOp op') dy dw (.bool k2)) (hm : lastMarks [op, op'] [b, c] = false := by rfl) : PTD X (.Compare a [op, op'] [b, c] pos) Γ (k1 && k2) := .mk fun σ H st Q q => by
  obtain ⟨r, hr, k⟩ := ho
  obtain ⟨r', hr', k'⟩ := ho'
  refine ⟨_, pt_chain hr hr' (wE_ok a) (wE_ok b) (wE_ok c) hm, ha σ H st _ fun x H1 e1 hx => hb σ H1 (st.same e1) _ fun y H2 e2 hy => k H2 x y (hx.same e2) hy _ fun v H3 e3 hv => ?_⟩
  cases hv
  refine ⟨k1, rfl, ?_⟩
  cases k1 with
  | false =>
    rw [if_neg (by decide)]
    exact ⟨false, rfl, q H3 ((e1.trans e2).trans e3)⟩
  | true =>
    rw [if_pos rfl]
    exact hc σ H3 (st.same ((e1.trans e2).trans e3)) _ fun w H4 e4 hw => k' H4 y w ((hy.same e3).same e4) hw _ fun v H5 e5 hv => by cases hv; exact ⟨k2, rfl, q H5 ((((e1.trans e2).trans e3).trans e4).trans e5)⟩
theorem ptd_not {k : Bool} (h : PTD X e Γ k) : PTD X (.UnaryOp .Not e pos) Γ (!k) := .mk fun σ H st Q q => ⟨_, pt_not (wT_ok e), h σ H st _ fun H1 e1 => q H1 e1⟩
theorem ptd_bool {op : BoolOp} {k : Bool} (h : PWD X (.BoolOp op es pos) Γ k) : PTD X (.BoolOp op es pos) Γ k := .mk fun σ H st Q q => ⟨_, (wW_ok _).pt, h σ H st Q q⟩
theorem pwd_and1 {k : Bool} (h : PTD X a Γ k) : PWD X (.BoolOp .And [a] pos) Γ k := .mk fun σ H st Q q => ⟨_, pw_and1 (wT_ok a), h σ H st Q q⟩
theorem pwd_or1 {k : Bool} (h : PTD X a Γ k) : PWD X (.BoolOp .Or [a] pos) Γ k := .mk fun σ H st Q q => ⟨_, pw_or1 (wT_ok a), h σ H st Q q⟩
theorem pwd_and {k j : Bool} (h : PTD X a Γ k) (h2 : k = true → PWD X (.BoolOp .And (b :: rest) pos) Γ j) : PWD X (.BoolOp .And (a :: b :: rest) pos) Γ (k && j) := .mk fun σ H st Q q => ⟨_, pw_and (wT_ok a) (wW_ok _), h σ H st _ fun H1 e1 => by
  cases k with
  | true =>
    rw [if_pos rfl]
    exact h2 rfl σ H1 (st.same e1) Q fun H2 e2 => q H2 (e1.trans e2)
  | false =>
    rw [if_neg (by decide)]
    exact q H1 e1⟩
theorem pwd_or {k j : Bool} (h : PTD X a Γ k) (h2 : k = false → PWD X (.BoolOp .Or (b :: rest) pos) Γ j) : PWD X (.BoolOp .Or (a :: b :: rest) pos) Γ (k || j) := .mk fun σ H st Q q => ⟨_, pw_or (wT_ok a) (wW_ok _), h σ H st _ fun H1 e1 => by
  cases k with
  | false =>
    rw [if_neg (by decide)]
    exact h2 rfl σ H1 (st.same e1) Q fun H2 e2 => q H2 (e1.trans e2)
  | true =>
    rw [if_pos rfl]
    exact q H1 e1⟩
theorem pd_one {op : BoolOp} (h : PD X a Γ d) : PD X (.BoolOp op [a] pos) Γ d := .mk fun σ H st Q q => ⟨_, pe_one (wE_ok a), h σ H st Q q⟩
theorem pd_and {k j : Bool} (h : PD X a Γ (.bool k)) (h2 : k = true → PD X (.BoolOp .And (b :: rest) pos) Γ (.bool j)) : PD X (.BoolOp .And (a :: b :: rest) pos) Γ (.bool (k && j)) := .mk fun σ H st Q q => ⟨_, pe_and (wE_ok a) (wE_ok _), h σ H st _ fun v H1 e1 hv => by
  cases hv
  refine ⟨k, rfl, ?_⟩
  cases k with
  | true =>
    rw [if_pos rfl]
    exact h2 rfl σ H1 (st.same e1) Q fun v H2 e2 => q v H2 (e1.trans e2)
  | false =>
    rw [if_neg (by decide)]
    exact q _ H1 e1 (.bl _)⟩
theorem pd_or {k j : Bool} (h : PD X a Γ (.bool k)) (h2 : k = false → PD X (.BoolOp .Or (b :: rest) pos) Γ (.bool j)) : PD X (.BoolOp .Or (a :: b :: rest) pos) Γ (.bool (k || j)) := .mk fun σ H st Q q => ⟨_, pe_or (wE_ok a) (wE_ok _), h σ H st _ fun v H1 e1 hv => by
  cases hv
  refine ⟨k, rfl, ?_⟩
  cases k with
  | false =>
    rw [if_neg (by decide)]
    exact h2 rfl σ H1 (st.same e1) Q fun v H2 e2 => q v H2 (e1.trans e2)
  | true =>
    rw [if_pos rfl]
    exact q _ H1 e1 (.bl _)⟩
theorem pd_not {k : Bool} (h : PD X e Γ (.bool k)) : PD X (.UnaryOp .Not e pos) Γ (.bool (!k)) := .mk fun σ H st Q q => ⟨_, pe_not (wE_ok e), h σ H st _ fun v H1 e1 hv => by cases hv; exact ⟨k, rfl, q _ H1 e1 (.bl _)⟩⟩
theorem pd_if {k : Bool} (h : PTD X c Γ k) (h1 : k = true → PD X a Γ d) (h2 : k = false → PD X b Γ d) : PD X (.IfExp c a b pos) Γ d := .mk fun σ H st Q q => ⟨_, pe_ifExp (wT_ok c) (wE_ok a) (wE_ok b), h σ H st _ fun H1 e1 => by
  cases k with
  | true =>
    rw [if_pos rfl]
    exact h1 rfl σ H1 (st.same e1) Q fun v H2 e2 => q v H2 (e1.trans e2)
  | false =>
    rw [if_neg (by decide)]
    exact h2 rfl σ H1 (st.same e1) Q fun v H2 e2 => q v H2 (e1.trans e2)⟩
/-! arguments, displays -/
theorem pad_nil : PAD X [] Γ [] := .mk fun σ H st Q q => ⟨_, pa_nil, q [] H (Same.refl H) .nil⟩
theorem pad_cons (h : PD X a Γ d) (hr : PAD X es Γ ds) (hs : starEach (a :: es) X.env = (false, eval a X.env) :: starEach es X.env := by rfl) : PAD X (a :: es) Γ (d :: ds) := .mk fun σ H st Q q =>
  ⟨_, pa_cons (wE_ok a) (wA_ok es) hs, h σ H st _ fun v H1 e1 hv => hr σ H1 (st.same e1) _ fun vs H2 e2 hvs => q (v :: vs) H2 (e1.trans e2) (.cons (hv.same e2) hvs)⟩
theorem sz_of {n : Nat} (h : n ≤ 16000000) : n ≤ sizeLine := by rw [sizeLine_eq]; omega
theorem pd_tup {x1} (h : PAD X es Γ ds) (hz : ds.length ≤ 16000000 := by decide) : PD X (.Tuple es x1 pos) Γ (.tuple ds) := .mk fun σ H st Q q =>
  ⟨_, pe_tup (wA_ok es), h σ H st _ fun vs H1 e1 hv => ⟨sz_of (by rw [hv.length]; exact hz), fun p hp => q _ _ (e1.trans (same_new hp)) (.tup (SqT.of upd_same) (hv.same (same_new hp)))⟩⟩
theorem pdl_lst (h : PAD X es Γ ds) (hz : ds.length ≤ 16000000 := by decide) : PDL X (.List es pos) Γ ds := .mk fun σ H st Q q =>
  ⟨_, pe_lst (wA_ok es), h σ H st _ fun vs H1 e1 hv => ⟨sz_of (by rw [hv.length]; exact hz), fun p hp => q p vs _ (same_back e1 hp) (e1.trans (same_new hp)) upd_same (hv.same (same_new hp))⟩⟩
/-! subscripts -/
theorem pd_ix (ha : PD X a Γ dx) (hb : PD X b Γ dy) (ho : ID X dx dy dz) (hs : PlainIx b := by exact fun _ _ => rfl) : PD X (.Subscript a b pos) Γ dz := .mk fun σ H st Q q => by
  obtain ⟨r, hr, k⟩ := ho
  exact ⟨_, pe_ix hr (wE_ok a) (wE_ok b) hs, ha σ H st _ fun x H1 e1 hx => hb σ H1 (st.same e1) _ fun y H2 e2 hy => k H2 x y (hx.same e2) hy _ fun v H3 e3 hv => q v H3 ((e1.trans e2).trans e3) hv⟩
theorem HdA.at {K : PySem.W.Frag} {H : Hp} {vs : List V} {ds : List PyData} {i : Int} {d : PyData} (h : HdA K H vs ds) (e : atI ds i = some d) : ∃ v, atI vs i = some v ∧ Hd K H v d := by
  unfold atI at e ⊢
  rw [h.length]
  cases q : ixN ds.length i with
  | none => rw [q] at e; cases e
  | some j =>
    rw [q] at e
    exact h.get e
theorem id_list {i : Int} (h : atI ds i = some d) : ID X (.list ds) (.int i) d := ⟨_, ix_list, fun H x y hx hy Q q => by
  obtain ⟨a, xs, rfl, h1, h2⟩ := hx.list_inv
  obtain rfl := hy.int_inv
  obtain ⟨v, hv, hd⟩ := h2.at h
  exact ⟨a, xs, i, v, rfl, rfl, SqL.of h1, hv, q v H (Same.refl H) hd⟩⟩
theorem id_tup {i : Int} (h : atI ds i = some d) : ID X (.tuple ds) (.int i) d := ⟨_, ix_tup, fun H x y hx hy Q q => by
  obtain ⟨a, xs, rfl, h1, h2⟩ := hx.tup_inv
  obtain rfl := hy.int_inv
  obtain ⟨v, hv, hd⟩ := h2.at h
  exact ⟨a, xs, i, v, rfl, rfl, h1, hv, q v H (Same.refl H) hd⟩⟩
theorem id_scr {ns : List Int} {i n : Int} (h : atI ns i = some n) : ID X (scD ns) (.int i) (.int n) := ⟨_, ix_list, fun H x y hx hy Q q => by
  obtain ⟨a, rfl, h1⟩ := hx.sc_inv
  obtain rfl := hy.int_inv
  have hv : atI (ns.map V.int) i = some (.int n) := by
    unfold atI at h ⊢
    rw [List.length_map]
    cases e : ixN ns.length i with
    | none => rw [e] at h; cases h
    | some j =>
      rw [e] at h
      show (ns.map V.int)[j]? = _
      rw [List.getElem?_map, (show ns[j]? = some n from h)] <;> rfl
  exact ⟨a, _, i, _, rfl, rfl, h1, hv, q _ H (Same.refl H) (.int n)⟩⟩
theorem pod_none : POD X none Γ none := .mk fun σ H st Q q => ⟨_, po_none, q H (Same.refl H)⟩
theorem pod_some {i : Int} (h : PD X e Γ (.int i)) : POD X (some e) Γ (some i) := .mk fun σ H st Q q => ⟨_, po_some (wE_ok e), h σ H st _ fun v H1 e1 hv => by cases hv; exact ⟨i, rfl, q H1 e1⟩⟩
def cutD {α : Type} (xs : List α) (lo hi : Option Int) : List α := (xs.drop (HT.sIx xs.length 0 lo)).take (HT.sIx xs.length xs.length hi - HT.sIx xs.length 0 lo)
theorem HdA.cut {K : PySem.W.Frag} {H : Hp} {vs : List V} {lo hi : Option Int} (h : HdA K H vs ds) : HdA K H (cutV vs lo hi) (cutD ds lo hi) := by
  unfold cutV cutD
  rw [h.length]
  exact (h.drop _).take _
theorem pdl_sl {lo hi : Option Expr} {l u : Option Int} {p2 : Pos} (h : PD X e Γ (.list ds)) (h1 : POD X lo Γ l) (h2 : POD X hi Γ u) : PDL X (.Subscript e (.Slice lo hi none p2) pos) Γ (cutD ds l u) := .mk fun σ H st Q q =>
  ⟨_, pe_slice sl_list (wE_ok e) (wO_ok lo) (wO_ok hi), h σ H st _ fun v H1 e1 hv => h1 σ H1 (st.same e1) _ fun H2 e2 => h2 σ H2 (st.same (e1.trans e2)) _ fun H3 e3 => by
    obtain ⟨a, xs, rfl, q1, q2⟩ := (hv.same (e2.trans e3)).list_inv
    exact ⟨a, xs, rfl, SqL.of q1, fun p hp => q p _ _ (same_back ((e1.trans e2).trans e3) hp) (((e1.trans e2).trans e3).trans (same_new hp)) upd_same ((q2.same (same_new hp)).cut)⟩⟩
theorem pd_slT {lo hi : Option Expr} {l u : Option Int} {p2 : Pos} (h : PD X e Γ (.tuple ds)) (h1 : POD X lo Γ l) (h2 : POD X hi Γ u) : PD X (.Subscript e (.Slice lo hi none p2) pos) Γ (.tuple (cutD ds l u)) := .mk fun σ H st Q q =>
  ⟨_, pe_slice sl_tupA (wE_ok e) (wO_ok lo) (wO_ok hi), h σ H st _ fun v H1 e1 hv => h1 σ H1 (st.same e1) _ fun H2 e2 => h2 σ H2 (st.same (e1.trans e2)) _ fun H3 e3 => by
    obtain ⟨a, xs, rfl, q1, q2⟩ := (hv.same (e2.trans e3)).tup_inv
    refine ⟨a, xs, rfl, q1, fun w => ?_, fun _ p hp => q _ _ (((e1.trans e2).trans e3).trans (same_new hp)) (.tup (SqT.of upd_same) ((q2.same (same_new hp)).cut))⟩
    refine q _ H3 ((e1.trans e2).trans e3) (.tup q1 ?_)
    have q3 := q2.cut (lo := l) (hi := u)
    have ev : cutV xs l u = xs := by
      unfold cutV
      rw [w.1, w.2, List.drop_zero, Nat.sub_zero, List.take_length]
    rw [ev] at q3
    exact q3⟩
/-! calls of built-ins -/
theorem pd_callB {x : Str} {id : String} (ho : CD X (.builtin id) ds d) (hg : Gl X x) (hm : X.mg x = none) (hv : bootBuiltins x = some (.builtin id)) (ha : PAD X (e :: es) Γ ds) (hn : x ≠ "__name__" := by decide) (hdb : (x == ("__debug__" : Str)) = false := by decide)
    (he : starEach (e :: es) X.env = (false, eval e X.env) :: starEach es X.env := by rfl) (hpl : (backTo pos (starEach es X.env)).any (·.1) = false := by rfl) : PD X (.Call (.Name x p) (e :: es) [] pos) Γ d := .mk fun σ H st Q q => by
  obtain ⟨r, hr, k⟩ := ho
  exact ⟨_, pe_callB hr hg hm hv (wA_ok (e :: es)) hn hdb he hpl, ha σ H st _ fun vs H1 e1 hvs => k H1 vs hvs _ fun v H2 e2 hv => q v H2 (e1.trans e2) hv⟩
theorem pd_callT {x : Str} {id : String} (ho : CD X (.type id) ds d) (hg : Gl X x) (hm : X.mg x = none) (hv : bootBuiltins x = some (.type id)) (ha : PAD X (e :: es) Γ ds) (hn : x ≠ "__name__" := by decide) (hdb : (x == ("__debug__" : Str)) = false := by decide)
    (he : starEach (e :: es) X.env = (false, eval e X.env) :: starEach es X.env := by rfl) (hpl : (backTo pos (starEach es X.env)).any (·.1) = false := by rfl) : PD X (.Call (.Name x p) (e :: es) [] pos) Γ d := .mk fun σ H st Q q => by
  obtain ⟨r, hr, k⟩ := ho
  exact ⟨_, pe_callTy hr hg hm hv (wA_ok (e :: es)) hn hdb he hpl, ha σ H st _ fun vs H1 e1 hvs => k H1 vs hvs _ fun v H2 e2 hv => q v H2 (e1.trans e2) hv⟩
theorem pdl_callT {x : Str} {id : String} {es' : List PyData} (ho : CDL X (.type id) ds es') (hg : Gl X x) (hm : X.mg x = none) (hv : bootBuiltins x = some (.type id)) (ha : PAD X (e :: es) Γ ds) (hn : x ≠ "__name__" := by decide) (hdb : (x == ("__debug__" : Str)) = false := by decide)
    (he : starEach (e :: es) X.env = (false, eval e X.env) :: starEach es X.env := by rfl) (hpl : (backTo pos (starEach es X.env)).any (·.1) = false := by rfl) : PDL X (.Call (.Name x p) (e :: es) [] pos) Γ es' := .mk fun σ H st Q q => by
  obtain ⟨r, hr, k⟩ := ho
  exact ⟨_, pe_callTy hr hg hm hv (wA_ok (e :: es)) hn hdb he hpl, ha σ H st _ fun vs H1 e1 hvs => k H1 vs hvs _ fun p vs H2 hp e2 h1 h2 => q p vs H2 (same_back e1 hp) (e1.trans e2) h1 h2⟩
theorem pd_meth {o : Expr} {name : Str} {apos cpos : Pos} {T id : String} (pa : PlainAttrs T) (slot : Slot T name id) (hty : typeOf (.builtin id) = pure (.type "method_descriptor")) (hm : MD X T id dx ds d) (ho : PD X o Γ dx) (ha : PAD X (e :: es) Γ ds)
    (hbase : attributeBase o name X.env (eval o X.env) = eval o X.env := by rfl)
    (hfew : ((backTo cpos (starEach (e :: es) X.env)).all (fun x => !x.1) && (backToKw cpos (keywordEach [] X.env)).all (fun x => x.1.isSome)
      && decide ((e :: es).length + ([] : List Keyword).length + (if ([] : List Keyword).isEmpty then 0 else 1) < 30)) = true := by rfl)
    (hline : (apos.endLine == cpos.line) = true := by rfl) (hs : starEach (e :: es) X.env = (false, eval e X.env) :: starEach es X.env := by rfl) (hplain : (backTo cpos (starEach es X.env)).any (·.1) = false := by rfl) :
    PD X (.Call (.Attribute o name apos) (e :: es) [] cpos) Γ d := .mk fun σ H st Q q => by
  obtain ⟨ht, r, hr, k⟩ := hm
  exact ⟨_, pe_bm pa slot hty hr (wE_ok o) (wA_ok (e :: es)) hbase hfew hline hs hplain, ho σ H st _ fun x H1 e1 hx => ⟨ht H1 x hx, ha σ H1 (st.same e1) _ fun vs H2 e2 hvs => k H2 x vs (hx.same e2) hvs _ fun v H3 e3 hv => q v H3 ((e1.trans e2).trans e3) hv⟩⟩

/-! ### operators -/
theorem od_I0 {f : Value → Value → Sem Value} {g : Int → Int → V} {i j : Int} (h : OpR X f (rI0 g)) (hg : ∀ H, Hd X.K H (g i j) d) : OD X f (.int i) (.int j) d := ⟨_, h, fun H x y hx hy Q q => by
  obtain rfl := hx.int_inv
  obtain rfl := hy.int_inv
  exact ⟨i, j, rfl, rfl, q _ H (Same.refl H) (hg H)⟩⟩
theorem od_I {f : Value → Value → Sem Value} {C : Int → Int → Prop} {g : Int → Int → V} {i j : Int} (h : OpR X f (rI C g)) (hc : C i j) (hg : ∀ H, Hd X.K H (g i j) d) : OD X f (.int i) (.int j) d := ⟨_, h, fun H x y hx hy Q q => by
  obtain rfl := hx.int_inv
  obtain rfl := hy.int_inv
  exact ⟨i, j, rfl, rfl, hc, q _ H (Same.refl H) (hg H)⟩⟩
theorem od_add {i j : Int} : OD X (binaryOp .Add) (.int i) (.int j) (.int (i + j)) := od_I0 op_add fun _ => .int _
theorem od_sub {i j : Int} : OD X (binaryOp .Sub) (.int i) (.int j) (.int (i - j)) := od_I0 op_sub fun _ => .int _
theorem od_mul {i j : Int} (h : CMul i j) : OD X (binaryOp .Mult) (.int i) (.int j) (.int (i * j)) := od_I op_mul h fun _ => .int _
theorem od_mod {i j : Int} (h : 0 < j) : OD X (binaryOp .Mod) (.int i) (.int j) (.int (i % j)) := od_I op_mod h fun _ => .int _
theorem od_fdiv {i j : Int} (h : CDiv i j) : OD X (binaryOp .FloorDiv) (.int i) (.int j) (.int (i / j)) := od_I op_fdiv h fun _ => .int _
theorem od_lt {i j : Int} : OD X (compareOp .Lt) (.int i) (.int j) (.bool (decide (i < j))) := od_I0 op_lt fun _ => .bl _
theorem od_le {i j : Int} : OD X (compareOp .LtE) (.int i) (.int j) (.bool (decide (i ≤ j))) := od_I0 op_le fun _ => .bl _
theorem od_gt {i j : Int} : OD X (compareOp .Gt) (.int i) (.int j) (.bool (decide (j < i))) := od_I0 op_gt fun _ => .bl _
theorem od_ge {i j : Int} : OD X (compareOp .GtE) (.int i) (.int j) (.bool (decide (j ≤ i))) := od_I0 op_ge fun _ => .bl _
theorem od_eqI {i j : Int} : OD X (compareOp .Eq) (.int i) (.int j) (.bool (decide (i = j))) := ⟨_, op_eq, fun H x y hx hy Q q => by
  obtain rfl := hx.int_inv
  obtain rfl := hy.int_inv
  refine ⟨rfl, q _ H (Same.refl H) ?_⟩
  rw [dec_int, Bool.beq_eq_decide_eq]
  exact .bl _⟩
theorem od_neI {i j : Int} : OD X (compareOp .NotEq) (.int i) (.int j) (.bool (!decide (i = j))) := ⟨_, op_ne, fun H x y hx hy Q q => by
  obtain rfl := hx.int_inv
  obtain rfl := hy.int_inv
  refine ⟨rfl, q _ H (Same.refl H) ?_⟩
  rw [dec_int, Bool.beq_eq_decide_eq]
  exact .bl _⟩
theorem od_eqB {i j : Bool} : OD X (compareOp .Eq) (.bool i) (.bool j) (.bool (i == j)) := ⟨_, op_eq, fun H x y hx hy Q q => by
  obtain rfl := hx.bool_inv
  obtain rfl := hy.bool_inv
  refine ⟨rfl, q _ H (Same.refl H) ?_⟩
  rw [dec_bl]
  exact .bl _⟩
theorem od_neB {i j : Bool} : OD X (compareOp .NotEq) (.bool i) (.bool j) (.bool (!(i == j))) := ⟨_, op_ne, fun H x y hx hy Q q => by
  obtain rfl := hx.bool_inv
  obtain rfl := hy.bool_inv
  refine ⟨rfl, q _ H (Same.refl H) ?_⟩
  rw [dec_bl]
  exact .bl _⟩
theorem od_eqS {i j : Str} : OD X (compareOp .Eq) (.str i) (.str j) (.bool (i == j)) := ⟨_, op_eq, fun H x y hx hy Q q => by
  obtain rfl := hx.str_inv
  obtain rfl := hy.str_inv
  refine ⟨rfl, q _ H (Same.refl H) ?_⟩
  rw [dec_str]
  exact .bl _⟩
theorem od_neS {i j : Str} : OD X (compareOp .NotEq) (.str i) (.str j) (.bool (!(i == j))) := ⟨_, op_ne, fun H x y hx hy Q q => by
  obtain rfl := hx.str_inv
  obtain rfl := hy.str_inv
  refine ⟨rfl, q _ H (Same.refl H) ?_⟩
  rw [dec_str]
  exact .bl _⟩
theorem shaped_lay {d : PyData} (h : SeqAt.shaped d = true) : PyData.canLay0 d = true := SeqAt.canLay_of_shaped h
theorem od_eq (hu : X.A.units + 64 < cLine) (h1 : SeqAt.shaped dx = true) (h2 : SeqAt.shaped dy = true) : OD X (compareOp .Eq) dx dy (.bool (PyData.eqv dx dy)) := ⟨_, op_eqD hu, fun H x y hx hy Q q =>
  ⟨dx, dy, Hd.dp dx x (shaped_lay h1) hx, Hd.dp dy y (shaped_lay h2) hy, h1, h2, q _ H (Same.refl H) (.bl _)⟩⟩
theorem od_ne (hu : X.A.units + 64 < cLine) (h1 : SeqAt.shaped dx = true) (h2 : SeqAt.shaped dy = true) : OD X (compareOp .NotEq) dx dy (.bool (!PyData.eqv dx dy)) := ⟨_, op_neD hu, fun H x y hx hy Q q =>
  ⟨dx, dy, Hd.dp dx x (shaped_lay h1) hx, Hd.dp dy y (shaped_lay h2) hy, h1, h2, q _ H (Same.refl H) (.bl _)⟩⟩
theorem od_isN : OD X (compareOp .Is) dx .none (.bool (isNo dx)) := ⟨_, op_isN, fun H x y hx hy Q q => by
  cases hy
  refine ⟨rfl, q _ H (Same.refl H) ?_⟩
  rw [hx.none_iff]
  exact .bl _⟩
theorem od_notN : OD X (compareOp .IsNot) dx .none (.bool (!isNo dx)) := ⟨_, op_notN, fun H x y hx hy Q q => by
  cases hy
  refine ⟨rfl, q _ H (Same.refl H) ?_⟩
  rw [hx.none_iff]
  exact .bl _⟩
theorem odl_cat {es : List PyData} (hz : ds.length + es.length ≤ 16000000) : ODL X (binaryOp .Add) (.list ds) (.list es) (ds ++ es) := ⟨_, op_cat, fun H x y hx hy Q q => by
  obtain ⟨a, xs, rfl, h1, h2⟩ := hx.list_inv
  obtain ⟨b, ys, rfl, h3, h4⟩ := hy.list_inv
  exact ⟨a, b, xs, ys, rfl, rfl, h1, h3, sz_of (by rw [h2.length, h4.length]; exact hz), fun p hp => q p _ _ hp (same_new hp) upd_same ((h2.append h4).same (same_new hp))⟩⟩
theorem od_catT {es : List PyData} (hz : ds.length + es.length ≤ 16000000) : OD X (binaryOp .Add) (.tuple ds) (.tuple es) (.tuple (ds ++ es)) := ⟨_, op_catA, fun H x y hx hy Q q => by
  obtain ⟨a, xs, rfl, h1, h2⟩ := hx.tup_inv
  obtain ⟨b, ys, rfl, h3, h4⟩ := hy.tup_inv
  refine ⟨a, b, xs, ys, rfl, rfl, h1, h3, sz_of (by rw [h2.length, h4.length]; exact hz), fun e => ?_, fun _ e => ?_, fun _ _ p hp => q _ _ (same_new hp) (.tup (SqT.of upd_same) ((h2.append h4).same (same_new hp)))⟩
  · subst e
    cases h2
    exact q _ H (Same.refl H) (.tup h3 h4)
  · subst e
    cases h4
    rw [List.append_nil] at q
    exact q _ H (Same.refl H) (.tup h1 h2)⟩
theorem odl_rep {k : Int} (h0 : 0 ≤ k) (h1 : k ≤ 1000) (hz : ds.length ≤ 10000) : ODL X (binaryOp .Mult) (.list ds) (.int k) (List.replicate k.toNat ds).flatten := ⟨_, op_rep, fun H x y hx hy Q q => by
  obtain ⟨a, xs, rfl, h2, h3⟩ := hx.list_inv
  obtain rfl := hy.int_inv
  refine ⟨a, k, xs, rfl, rfl, h2, by omega, by omega, sz_of ?_, fun p hp => q p _ _ hp (same_new hp) upd_same ((h3.rep _).same (same_new hp))⟩
  rw [h3.length]
  have e1 : k.toNat ≤ 1000 := by omega
  exact Nat.le_trans (Nat.mul_le_mul hz e1) (by decide)⟩
/-! ### built-ins -/
theorem cd_lenL : CD X (.builtin "len") [.list ds] (.int ds.length) := ⟨_, call_len_seq, fun H xs h Q q => by
  obtain ⟨v, rfl, hv⟩ := h.one_inv
  obtain ⟨a, ys, rfl, h1, h2⟩ := hv.list_inv
  refine ⟨a, ys, rfl, .inl (SqL.of h1), ?_⟩
  rw [h2.length]
  exact q _ H (Same.refl H) (.int _)⟩
theorem cd_lenT : CD X (.builtin "len") [.tuple ds] (.int ds.length) := ⟨_, call_len_seq, fun H xs h Q q => by
  obtain ⟨v, rfl, hv⟩ := h.one_inv
  obtain ⟨a, ys, rfl, h1, h2⟩ := hv.tup_inv
  refine ⟨a, ys, rfl, .inr h1, ?_⟩
  rw [h2.length]
  exact q _ H (Same.refl H) (.int _)⟩
theorem cd_lenS {ns : List Int} : CD X (.builtin "len") [scD ns] (.int ns.length) := ⟨_, call_len_seq, fun H xs h Q q => by
  obtain ⟨v, rfl, hv⟩ := h.one_inv
  obtain ⟨a, rfl, h1⟩ := hv.sc_inv
  refine ⟨a, _, rfl, .inl h1, ?_⟩
  rw [List.length_map]
  exact q _ H (Same.refl H) (.int _)⟩
theorem cd_tupL : CD X (.type "tuple") [.list ds] (.tuple ds) := ⟨_, call_tuple_of, fun H xs h Q q => by
  obtain ⟨v, rfl, hv⟩ := h.one_inv
  obtain ⟨a, ys, rfl, h1, h2⟩ := hv.list_inv
  exact ⟨a, ys, rfl, .inl ⟨SqL.of h1, fun l hl => q _ _ (same_new hl) (.tup (SqT.of upd_same) (h2.same (same_new hl)))⟩⟩⟩
theorem cd_tupT : CD X (.type "tuple") [.tuple ds] (.tuple ds) := ⟨_, call_tuple_of, fun H xs h Q q => by
  obtain ⟨v, rfl, hv⟩ := h.one_inv
  obtain ⟨a, ys, rfl, h1, h2⟩ := hv.tup_inv
  exact ⟨a, ys, rfl, .inr ⟨h1, q _ H (Same.refl H) (.tup h1 h2)⟩⟩⟩
theorem cdl_listL : CDL X (.type "list") [.list ds] ds := ⟨_, call_list_of, fun H xs h Q q => by
  obtain ⟨v, rfl, hv⟩ := h.one_inv
  obtain ⟨a, ys, rfl, h1, h2⟩ := hv.list_inv
  exact ⟨a, ys, rfl, .inl (SqL.of h1), fun l hl => q _ _ _ hl (same_new hl) upd_same (h2.same (same_new hl))⟩⟩
theorem cdl_listT : CDL X (.type "list") [.tuple ds] ds := ⟨_, call_list_of, fun H xs h Q q => by
  obtain ⟨v, rfl, hv⟩ := h.one_inv
  obtain ⟨a, ys, rfl, h1, h2⟩ := hv.tup_inv
  exact ⟨a, ys, rfl, .inr h1, fun l hl => q _ _ _ hl (same_new hl) upd_same (h2.same (same_new hl))⟩⟩
theorem cd_max2 {i j : Int} (hc : X.calm = true) : CD X (.builtin "max") [.int i, .int j] (.int (if j > i then j else i)) := ⟨_, call_max2 hc, fun H xs h Q q => by
  obtain ⟨v, u, rfl, h1, h2⟩ := h.two_inv
  cases h1
  cases h2
  exact ⟨i, j, rfl, q _ H (Same.refl H) (.int _)⟩⟩
theorem cd_min2 {i j : Int} (hc : X.calm = true) : CD X (.builtin "min") [.int i, .int j] (.int (if j < i then j else i)) := ⟨_, call_min2 hc, fun H xs h Q q => by
  obtain ⟨v, u, rfl, h1, h2⟩ := h.two_inv
  cases h1
  cases h2
  exact ⟨i, j, rfl, q _ H (Same.refl H) (.int _)⟩⟩
theorem cd_sum {ns : List Int} (hc : X.calm = true) : CD X (.builtin "sum") [.list (ns.map PyData.int)] (.int ns.sum) := ⟨_, cr_sum hc, fun H xs h Q q => by
  obtain ⟨v, rfl, hv⟩ := h.one_inv
  obtain ⟨a, ys, rfl, h1, h2⟩ := hv.list_inv
  rw [h2.ints_inv] at h1
  exact ⟨a, ns, rfl, SqL.of h1, q _ H (Same.refl H) (.int _)⟩⟩
theorem cd_all {bs : List Bool} (hc : X.calm = true) : CD X (.builtin "all") [.list (bs.map PyData.bool)] (.bool (bs.all id)) := ⟨_, cr_all hc, fun H xs h Q q => by
  obtain ⟨v, rfl, hv⟩ := h.one_inv
  obtain ⟨a, ys, rfl, h1, h2⟩ := hv.list_inv
  rw [h2.bls_inv] at h1
  exact ⟨a, bs, rfl, SqL.of h1, q _ H (Same.refl H) (.bl _)⟩⟩
/-! ### isinstance -/
def kindOf : PyData → String
  | .none => "NoneType"
  | .bool _ => "bool"
  | .int _ => "int"
  | .str _ => "str"
  | .list _ => "list"
  | .tuple _ => "tuple"
  | .dict _ => "list"
theorem tyX_of {K : PySem.W.Frag} {H : Hp} {v : V} (h : Hd K H v d) (nd : ∀ kvs, d ≠ .dict kvs) : TyX K H v (.type (kindOf d)) := by
  cases h with
  | non => exact .base .non
  | bl b => exact .base (.bl b)
  | int i => exact .base (.int i)
  | str x => exact .base (.str x)
  | lst h1 _ => exact .base (.lst h1)
  | tup h1 _ =>
    rcases h1 with (h1 | ⟨o, h1⟩) | ⟨o, its, n, e, c, _⟩
    · exact .base (.tup h1)
    · exact .fTuple h1
    · exact .kTuple e c
  | scr h1 => exact absurd rfl (nd _)
  | pln h1 _ => exact absurd rfl (nd _)
theorem pd_isi {T : Str} {U : String} {k : Bool} {p1 p2 : Pos} (h : PD X e Γ d) (hk : kitB (kindOf d) U = some k) (nd : ∀ kvs, d ≠ .dict kvs) (hg : Gl X "isinstance") (hm : X.mg "isinstance" = none) (hg2 : Gl X T) (hm2 : X.mg T = none) (hb : bootBuiltins T = some (.type U))
    (hn : T ≠ "__name__" := by decide) (hdb : (T == ("__debug__" : Str)) = false := by decide)
    (he : starEach [e, .Name T p2] X.env = (false, eval e X.env) :: starEach [.Name T p2] X.env := by rfl) (he2 : starEach [.Name T p2] X.env = (false, eval (.Name T p2) X.env) :: starEach [] X.env := by rfl) (hpl : (backTo pos (starEach [.Name T p2] X.env)).any (·.1) = false := by rfl) :
    PD X (.Call (.Name "isinstance" p1) [e, .Name T p2] [] pos) Γ (.bool k) := .mk fun σ H st Q q =>
  ⟨_, pe_callB call_isi hg hm (by decide +kernel) (pa_cons (wE_ok e) (pa_cons (pe_bltn (v := .ty U) hg2 hm2 hb rfl hn hdb) pa_nil he2) he) (by decide) (by decide) he hpl, h σ H st _ fun v H1 e1 hv =>
    ⟨v, .ty U, .type (kindOf d), .type U, k, rfl, .ty U, tyX_of hv nd, kit_ty hk, q _ H1 e1 (.bl k)⟩⟩
end
end Tw
namespace Tw
open PySem PySem.Spec PyProof.Rows L2

/-! ### what is walked -/
def WalkD (K : PySem.W.Frag) (J : It) (H0 : Hp) (ds : List PyData) : Prop := Walk J ds.length (fun H => Same H0 H) (fun i H x H' => Same H H' ∧ ∃ d, ds[i]? = some d ∧ Hd K H' x d)
structure PID (X : Cx) (tg iter : Expr) (Γ : Ev) (ds : List PyData) : Prop where
  run : ∀ (σ : L2.St) (H : Hp), StV X.K Γ σ H → ∀ R : It → Hp → Prop, (∀ J H', Same H H' → WalkD X.K J H' ds → R J H') → wI X tg iter σ H R
instance coe_PID {X : Cx} {tg iter : Expr} {Γ : Ev} {ds : List PyData} : CoeFun (PID X tg iter Γ ds) fun _ => ∀ (σ : L2.St) (H : Hp), StV X.K Γ σ H → ∀ R : It → Hp → Prop, (∀ J H', Same H H' → WalkD X.K J H' ds → R J H') → wI X tg iter σ H R := ⟨fun h => h.run⟩
abbrev nD (n : Nat) : PyData := .int (n : Int)
section
variable {X : Cx} {a b c e iter tg : Expr} {es rest : List Expr} {pos p : Pos} {Γ Γ' : Ev} {d dx dy dz : PyData} {ds : List PyData}
theorem walkD_list {K : PySem.W.Frag} {H1 : Hp} {a : Addr} {xs : List V} (h1 : H1 a = some (.lst xs)) (h2 : HdA K H1 xs ds) : WalkD K (Itl K a) H1 ds := by
  unfold WalkD
  rw [← h2.length]
  refine walk_list.mono (fun H e => e.seq (SqL.of h1)) fun i H x H' hi e y => ?_
  obtain ⟨rfl, hx⟩ := y
  obtain ⟨d, hd, hv⟩ := h2.getV hx
  exact ⟨Same.refl _, d, hd, hv.same e⟩
theorem walkD_tup {K : PySem.W.Frag} {H1 : Hp} {a : Addr} {xs : List V} (h1 : SqT K H1 a xs) (h2 : HdA K H1 xs ds) : WalkD K (Itt K a) H1 ds := by
  unfold WalkD
  rw [← h2.length]
  refine walk_tup.mono (fun H e => Same.sqt e h1) fun i H x H' hi e y => ?_
  obtain ⟨rfl, hx⟩ := y
  obtain ⟨d, hd, hv⟩ := h2.getV hx
  exact ⟨Same.refl _, d, hd, hv.same e⟩
theorem walkD_rng {K : PySem.W.Frag} {H1 : Hp} (lo n : Nat) : WalkD K (Itr (lo : Int) n) H1 ((List.range' lo n).map nD) := by
  unfold WalkD
  rw [List.length_map, List.length_range']
  refine walk_range.mono (fun H e => trivial) fun i H x H' hi e y => ?_
  obtain ⟨rfl, hx⟩ := y
  refine ⟨Same.refl _, nD (lo + i), ?_, ?_⟩
  · rw [List.getElem?_map, List.getElem?_range' hi, Nat.one_mul] <;> rfl
  · rw [hx]
    have e1 : ((lo : Int) + (i : Int)) = ((lo + i : Nat) : Int) := by omega
    show Hd K H' (V.int ((lo : Int) + (i : Int))) (nD (lo + i))
    rw [e1]
    exact .int _
theorem pid_list (h : PD X iter Γ (.list ds)) : PID X tg iter Γ ds := .mk fun σ H st R q => ⟨_, pi_list (wE_ok iter), h σ H st _ fun v H1 e1 hv => by
  obtain ⟨a, xs, rfl, h1, h2⟩ := hv.list_inv
  exact ⟨a, rfl, ⟨xs, SqL.of h1⟩, q _ H1 e1 (walkD_list h1 h2)⟩⟩
theorem pid_tup (h : PD X iter Γ (.tuple ds)) : PID X tg iter Γ ds := .mk fun σ H st R q => ⟨_, pi_tup (wE_ok iter), h σ H st _ fun v H1 e1 hv => by
  obtain ⟨a, xs, rfl, h1, h2⟩ := hv.tup_inv
  exact ⟨a, rfl, ⟨xs, h1⟩, q _ H1 e1 (walkD_tup h1 h2)⟩⟩
theorem pid_range1 {n : Nat} (ha : PD X a Γ (.int (n : Int))) (hg : Gl X "range") (hm : X.mg "range" = none) (hn : n ≤ 100000000) (hs : starEach [a] X.env = (false, eval a X.env) :: starEach [] X.env := by rfl) : PID X tg (.Call (.Name "range" p) [a] [] pos) Γ ((List.range n).map nD) := .mk fun σ H st R q =>
  ⟨_, pi_range1 hg hm (pa_cons (wE_ok a) pa_nil hs) hs, ha σ H st _ fun v H1 e1 hv => by
    cases hv
    refine ⟨(n : Int), rfl, by omega, by omega, q _ H1 e1 ?_⟩
    rw [List.range_eq_range']
    exact walkD_rng 0 n⟩
theorem pid_range1m {i : Int} (ha : PD X a Γ (.int i)) (hg : Gl X "range") (hm : X.mg "range" = none) (hn : i ≤ 0) (hn2 : -100000000 ≤ i) (hs : starEach [a] X.env = (false, eval a X.env) :: starEach [] X.env := by rfl) : PID X tg (.Call (.Name "range" p) [a] [] pos) Γ [] := .mk fun σ H st R q =>
  ⟨_, pi_range1 hg hm (pa_cons (wE_ok a) pa_nil hs) hs, ha σ H st _ fun v H1 e1 hv => by
    cases hv
    refine ⟨i, rfl, by omega, by omega, q _ H1 e1 ?_⟩
    have e0 : i.toNat = 0 := by omega
    rw [e0]
    exact walkD_rng 0 0⟩
theorem pid_range2 {lo hi : Nat} (ha : PD X a Γ (.int (lo : Int))) (hb : PD X b Γ (.int (hi : Int))) (hg : Gl X "range") (hm : X.mg "range" = none) (hn : lo ≤ 100000000) (hn2 : hi ≤ 100000000)
    (hs : starEach [a, b] X.env = (false, eval a X.env) :: starEach [b] X.env := by rfl) (hs2 : starEach [b] X.env = (false, eval b X.env) :: starEach [] X.env := by rfl) (hs3 : starEach [a, b] X.env = [(false, eval a X.env), (false, eval b X.env)] := by rfl) : PID X tg (.Call (.Name "range" p) [a, b] [] pos) Γ ((List.range' lo (hi - lo)).map nD) := .mk fun σ H st R q =>
  ⟨_, pi_range2 hg hm (pa_cons (wE_ok a) (pa_cons (wE_ok b) pa_nil hs2) hs) hs3 hs2, ha σ H st _ fun v H1 e1 hv => hb σ H1 (st.same e1) _ fun u H2 e2 hu => by
    cases hv
    cases hu
    refine ⟨(lo : Int), (hi : Int), rfl, ⟨by omega, by omega, by omega, by omega⟩, q _ H2 (e1.trans e2) ?_⟩
    have e0 : ((hi : Int) - (lo : Int)).toNat = hi - lo := by omega
    rw [e0]
    exact walkD_rng lo (hi - lo)⟩

/-! ### comprehensions -/
abbrev Bk (X : Cx) (scope : Scope) (s : Shared) (H : Hp) (C : Addr) (cl : List (Str × Addr)) (fp : List Addr) : Cx := X.blk s H scope (compEnvC scope cl C X.env) fp
def bE (X : Cx) (scope : Scope) (e : Expr) : TE := fun σ H Q => ∀ (s : Shared) (H' : Hp) (C : Addr) (cl : List (Str × Addr)) (fp : List Addr), wE (Bk X scope s H' C cl fp) e σ H Q
def bTs (X : Cx) (scope : Scope) (es : List Expr) : TT := fun σ H Q => ∀ (s : Shared) (H' : Hp) (C : Addr) (cl : List (Str × Addr)) (fp : List Addr), ∃ t, PTs (Bk X scope s H' C cl fp) es t ∧ t σ H Q
theorem bE_ok {scope : Scope} (e : Expr) (s : Shared) (H : Hp) (C : Addr) (cl : List (Str × Addr)) (fp : List Addr) : PE (Bk X scope s H C cl fp) e (bE X scope e) := ⟨fun pins s' σ H' Q I h => (wE_ok e).run pins s' σ H' Q I (h s H C cl fp)⟩
theorem bTs_ok {scope : Scope} (es : List Expr) (s : Shared) (H : Hp) (C : Addr) (cl : List (Str × Addr)) (fp : List Addr) : PTs (Bk X scope s H C cl fp) es (bTs X scope es) := ⟨fun pins s' σ H' Q I h => let ⟨t, ht, q⟩ := h s H C cl fp; ht.run pins s' σ H' Q I q⟩
theorem set_wipe {σ : L2.St} {j : Nat} {v : Option V} : wipe ((wipe σ [j]).set j v) [j] = wipe σ [j] := by
  show ((σ.set j none).set j v).set j none = σ.set j none
  rw [List.set_set, List.set_set]
theorem take_snoc {α β : Type} {g : α → β} {xs : List α} {i : Nat} {a : α} (h : xs[i]? = some a) : (xs.take (i + 1)).map g = (xs.take i).map g ++ [g a] := by
  rw [List.take_add_one, h, List.map_append]
  rfl
/-- the word of a comprehension's turns -/
theorem lc_main {α : Type} {enc out : α → PyData} {keep : α → Bool} {xs : List α} {K : PySem.W.Frag} {J : It} {H1 : Hp} {D : Addr} {g : TG} {tt : TT} {te : TE} {vs : List Nat} {σ : L2.St} {Qd : Hp → Prop} (w : WalkD K J H1 (xs.map enc)) (hD : H1 D = none)
    (hz : xs.length ≤ 16000000) (hlf : ∀ a ∈ xs, lf (out a) = true)
    (hs : ∀ (a : α) (x : V) (H H' : Hp), a ∈ xs → Same H1 H → Same H H' → Hd K H' x (enc a) → ∀ R : Option V → Hp → Prop, (∀ y H4, keep a = true → Same H' H4 → Hd K H4 y (out a) → R (some y) H4) → (∀ H4, keep a = false → Same H' H4 → R none H4) →
      g x (wipe σ vs) H' fun σ2 H2 => wipe σ2 vs = wipe σ vs ∧ tt σ2 H2 fun b H3 => if b = true then te σ2 H3 fun y H4 => R (some y) H4 else R none H3)
    (hd : ∀ H acc, Same H1 H → H D = some (.lst acc) → HdA K H acc ((xs.filter keep).map out) → Qd H) :
    ∃ W : Nat → Nat → Hp → Prop, (∃ m, W 0 m (upd H1 D (.lst []))) ∧ ∀ i m H, W i m H →
      (J.stop i H ∧ Qd H) ∨ (J.go i H ∧ ∃ Nx : Hp → Prop, (∀ H', Nx H' → ∃ m', m' < m ∧ W (i + 1) m' H') ∧ ∀ x H', J.yld i H x H' → g x (wipe σ vs) H' fun σ2 H2 => wipe σ2 vs = wipe σ vs ∧ tt σ2 H2 fun b H3 =>
        if b = true then te σ2 H3 fun y H4 => ∃ acc, H4 D = some (.lst acc) ∧ acc.length < sizeLine ∧ Nx (upd H4 D (.lst (acc ++ [y]))) else Nx H3) := by
  have hlfA : ∀ ys : List α, (∀ a ∈ ys, a ∈ xs) → lfA (ys.map out) = true := fun ys hy => lfA_of fun d hd => by
    obtain ⟨a, ha, rfl⟩ := List.mem_map.mp hd
    exact hlf a (hy a ha)
  have len : (xs.map enc).length = xs.length := List.length_map _
  unfold WalkD at w
  rw [len] at w
  refine lc_it w (fun i H => Same H1 H ∧ ∃ acc, H D = some (.lst acc) ∧ HdA K H acc (((xs.take i).filter keep).map out)) ⟨same_mut (Same.refl _) hD, [], upd_same, by rw [List.take_zero]; exact .nil⟩ (fun i H _ p => p.1) (fun i x H H' hi p y => ?_) (fun H p => ?_)
  · obtain ⟨e1, acc, ha, hacc⟩ := p
    obtain ⟨e2, d, hd', hx⟩ := y
    rw [List.getElem?_map, List.getElem?_eq_getElem hi] at hd'
    have ed : enc xs[i] = d := Option.some.inj hd'
    subst ed
    have hm : xs[i] ∈ xs := List.getElem_mem hi
    have tk : xs.take (i + 1) = xs.take i ++ [xs[i]] := by rw [List.take_add_one, List.getElem?_eq_getElem hi] <;> rfl
    have hal : acc.length ≤ i := by
      rw [hacc.length, List.length_map]
      refine Nat.le_trans (List.length_filter_le _ _) ?_
      rw [List.length_take]
      exact Nat.min_le_left _ _
    refine hs xs[i] x H H' hm e1 e2 hx (fun o H4 => match o with
        | some y => ∃ acc, H4 D = some (.lst acc) ∧ acc.length < sizeLine ∧ Same H1 (upd H4 D (.lst (acc ++ [y]))) ∧ ∃ acc2, (upd H4 D (.lst (acc ++ [y]))) D = some (.lst acc2) ∧ HdA K (upd H4 D (.lst (acc ++ [y]))) acc2 (((xs.take (i + 1)).filter keep).map out)
        | none => Same H1 H4 ∧ ∃ acc, H4 D = some (.lst acc) ∧ HdA K H4 acc (((xs.take (i + 1)).filter keep).map out)) (fun y H4 hk e4 hy => ?_) (fun H4 hk e4 => ?_)
    · have h4 : H4 D = some (.lst acc) := e4 _ _ (e2 _ _ ha)
      refine ⟨acc, h4, Nat.lt_of_le_of_lt hal (Nat.lt_of_lt_of_le hi (sz_of hz)), same_mut ((e1.trans e2).trans e4) hD, acc ++ [y], upd_same, ?_⟩
      have q : HdA K H4 (acc ++ [y]) (((xs.take i).filter keep).map out ++ [out xs[i]]) := ((hacc.same e2).same e4).snoc hy
      rw [tk, List.filter_append, List.map_append, List.filter_cons, if_pos hk]
      refine HdA.lf (SameT.mut h4) _ _ (lfA_append (hlfA _ fun a ha' => List.mem_of_mem_take (List.mem_filter.mp ha').1) ?_) q
      show lfA [out xs[i]] = true
      rw [lfA, hlf _ hm]
      rfl
    · refine ⟨(e1.trans e2).trans e4, acc, e4 _ _ (e2 _ _ ha), ?_⟩
      rw [tk, List.filter_append, List.map_append, List.filter_cons, if_neg (by rw [hk]; decide)]
      show HdA K H4 acc (_ ++ [])
      rw [List.append_nil]
      exact (hacc.same e2).same e4
  · obtain ⟨e1, acc, ha, hacc⟩ := p
    rw [List.take_length] at hacc
    exact hd H acc e1 ha hacc
/-- [elt for x in iter] -/
theorem pdl_lc {α : Type} (enc out : α → PyData) (xs : List α) {elt : Expr} {scope : Scope} {x : Str} {j : Nat} {tp : Pos} (hi : PID X (.Name x tp) iter Γ (xs.map enc)) (hz : xs.length ≤ 16000000) (hlf : ∀ a ∈ xs, lf (out a) = true)
    (he : ∀ (s : Shared) (H : Hp) (C : Addr) (cl : List (Str × Addr)) (fp : List Addr), ∀ a ∈ xs, PD (Bk X scope s H C cl fp) elt (Γ.set j (some (enc a))) (out a))
    (hc : X.calm = true) (hN : X.N.Nodup) (ok : blkC X.N X.env.scope scope [(x, j)] = true)
    (hg : ∀ (s : Shared) (H : Hp) (C : Addr) (cl : List (Str × Addr)) (fp : List Addr), PG (Bk X scope s H C cl fp) (.Name x tp) (gName j)) (hs : ∀ x, foldedSetIterable iter X.env x = pure x := by intro _; rfl) :
    PDL X (.ListComp elt [⟨.Name x tp, iter, [], 0⟩] scope pos) Γ (xs.map out) := .mk fun σ H st Q q =>
  ⟨_, pe_lc (own := [(x, j)]) (g := gName j) (tt := tYes) hc hN (wI_ok (.Name x tp) iter) (blkOk_by ok) hg (fun _ _ _ _ _ => pts_nil) (fun s H C cl fp => bE_ok elt s H C cl fp) hs, hi σ H st _ fun J H1 e1 w => fun D hD =>
    lc_main (enc := enc) (out := out) (keep := fun _ => true) (xs := xs) (K := X.K) w hD hz hlf (fun a v H2 H3 ha e2 e3 hv R r1 _ => ⟨set_wipe, fun s H' C cl fp => he s H' C cl fp a ha _ _ (by
        have q1 := ((st.same (e1.trans (e2.trans e3))).wipe (own := [j])).set (i := j) hv
        have e5 : ([j].foldr (fun i g => g.set i none) Γ).set j (some (enc a)) = Γ.set j (some (enc a)) := List.set_set ..
        rw [e5] at q1
        exact q1) _ fun y H4 e4 hy => r1 y H4 rfl e4 hy⟩)
      (fun H2 acc e2 h2 h3 => q D acc H2 (same_back e1 hD) (e1.trans e2) h2 (by
        have e6 : xs.filter (fun _ => true) = xs := List.filter_eq_self.mpr fun _ _ => rfl
        rw [e6] at h3
        exact h3))⟩
/-- [elt for x in iter if c] -/
theorem pdl_lcF {α : Type} (enc out : α → PyData) (keep : α → Bool) (xs : List α) {elt : Expr} {scope : Scope} {x : Str} {j : Nat} {tp : Pos} (hi : PID X (.Name x tp) iter Γ (xs.map enc)) (hz : xs.length ≤ 16000000) (hlf : ∀ a ∈ xs, lf (out a) = true)
    (ht : ∀ (s : Shared) (H : Hp) (C : Addr) (cl : List (Str × Addr)) (fp : List Addr), ∀ a ∈ xs, PTD (Bk X scope s H C cl fp) c (Γ.set j (some (enc a))) (keep a))
    (he : ∀ (s : Shared) (H : Hp) (C : Addr) (cl : List (Str × Addr)) (fp : List Addr), ∀ a ∈ xs, keep a = true → PD (Bk X scope s H C cl fp) elt (Γ.set j (some (enc a))) (out a))
    (hc : X.calm = true) (hN : X.N.Nodup) (ok : blkC X.N X.env.scope scope [(x, j)] = true)
    (hg : ∀ (s : Shared) (H : Hp) (C : Addr) (cl : List (Str × Addr)) (fp : List Addr), PG (Bk X scope s H C cl fp) (.Name x tp) (gName j)) (hs : ∀ x, foldedSetIterable iter X.env x = pure x := by intro _; rfl) :
    PDL X (.ListComp elt [⟨.Name x tp, iter, [c], 0⟩] scope pos) Γ ((xs.filter keep).map out) := .mk fun σ H st Q q =>
  ⟨_, pe_lc (own := [(x, j)]) (g := gName j) hc hN (wI_ok (.Name x tp) iter) (blkOk_by ok) hg (fun s H C cl fp => bTs_ok [c] s H C cl fp) (fun s H C cl fp => bE_ok elt s H C cl fp) hs, hi σ H st _ fun J H1 e1 w => fun D hD =>
    lc_main (enc := enc) (out := out) (keep := keep) (xs := xs) (K := X.K) w hD hz hlf (fun a v H2 H3 ha e2 e3 hv R r1 r0 => by
        have q1 := ((st.same (e1.trans (e2.trans e3))).wipe (own := [j])).set (i := j) hv
        have e5 : ([j].foldr (fun i g => g.set i none) Γ).set j (some (enc a)) = Γ.set j (some (enc a)) := List.set_set ..
        rw [e5] at q1
        refine ⟨set_wipe, fun s H' C cl fp => ⟨_, pts_one (wT_ok c), ht s H' C cl fp a ha _ _ q1 _ fun H4 e4 => ?_⟩⟩
        cases hk : keep a with
        | true =>
          rw [if_pos rfl]
          exact fun s H' C cl fp => he s H' C cl fp a ha hk _ _ (q1.same e4) _ fun y H5 e5 hy => r1 y H5 hk (e4.trans e5) hy
        | false =>
          rw [if_neg (by decide)]
          exact r0 H4 hk e4)
      (fun H2 acc e2 h2 h3 => q D acc H2 (same_back e1 hD) (e1.trans e2) h2 h3)⟩
end

/-! ### a def's promise -/
def spR (K : PySem.W.Frag) (R : List PyData → PyData → Prop) : Sp := fun vs H Q _ => ∃ ds r, HdA K H vs ds ∧ R ds r ∧ ∀ v H', Same H H' → Hd K H' v r → Q v H'
structure Df (P : Program) (w : World) (K : PySem.W.Frag) (mg : Str → Option Value) (base : Heap) (x : Str) (k : Nat) (ps : List Str) (R : List PyData → PyData → Prop) : Prop where
  run : ∃ f fd, mg x = some (.ref f) ∧ PySem.W.keepIn K (.ref f) = true ∧ Binds K fd ps [] ∧ FnOk P w K mg base CX0 k f fd ps (spR K R) ∧ ∃ oc od osl, K.lookup f = some ⟨oc, od, .func fd, osl⟩
theorem Df.mono {P : Program} {w : World} {K : PySem.W.Frag} {mg : Str → Option Value} {base : Heap} {x : Str} {j k : Nat} {ps : List Str} {R : List PyData → PyData → Prop} (h : Df P w K mg base x j ps R) (l : j ≤ k) : Df P w K mg base x k ps R :=
  let ⟨f, fd, a, b, c, d, e⟩ := h; ⟨f, fd, a, b, c, d.mono l, e⟩
section
variable {X : Cx} {a b c e iter tg : Expr} {es rest : List Expr} {pos p : Pos} {Γ Γ' : Ev} {d dx dy dz : PyData} {ds : List PyData}
theorem pd_call {x : Str} {k : Nat} {ps : List Str} {R : List PyData → PyData → Prop} (F : Df X.prog X.w X.K X.mg X.base x k ps R) (hr : Room k X.A) (hg : Gl X x) (ha : PAD X (e :: es) Γ ds) (hR : R ds d)
    (hdb : (x == ("__debug__" : Str)) = false := by decide) (he : starEach (e :: es) X.env = (false, eval e X.env) :: starEach es X.env := by rfl) (hpl : (backTo pos (starEach es X.env)).any (·.1) = false := by rfl) : PD X (.Call (.Name x p) (e :: es) [] pos) Γ d := .mk fun σ H st Q q => by
  obtain ⟨f, fd, hm, hk, hb, ok, _⟩ := F
  exact ⟨_, pe_call ok hr hg hm hk hb .nil pass0 (wA_ok (e :: es)) hdb he hpl, ha σ H st _ fun vs H1 e1 hvs => ⟨ds, d, by rw [List.append_nil]; exact hvs, hR, fun v H2 e2 hv => q v H2 (e1.trans e2) hv⟩⟩
end

/-! ### statements -/
section
variable (X : Cx)
structure RB (sts : List Stmt) (Γ : Ev) (nx : Ev → Prop) (rt : PyData → Prop) : Prop where
  run : ∀ (σ : L2.St) (H : Hp), StV X.K Γ σ H → ∀ D : Ends, (∀ Γ' σ' H', nx Γ' → Same H H' → StV X.K Γ' σ' H' → D.nx σ' H') → (∀ d v H', rt d → Same H H' → Hd X.K H' v d → D.rt v H') → wB X sts D σ H
end
section
variable {X : Cx} {a b c e iter tg : Expr} {es : List Expr} {rest body A B : List Stmt} {pos p : Pos} {Γ Γ' : Ev} {d dx dy dz : PyData} {ds : List PyData} {nx mid : Ev → Prop} {rt : PyData → Prop}
instance coe_RB {X : Cx} {sts : List Stmt} {Γ : Ev} {nx : Ev → Prop} {rt : PyData → Prop} : CoeFun (RB X sts Γ nx rt) fun _ => ∀ (σ : L2.St) (H : Hp), StV X.K Γ σ H → ∀ D : Ends, (∀ Γ' σ' H', nx Γ' → Same H H' → StV X.K Γ' σ' H' → D.nx σ' H') → (∀ d v H', rt d → Same H H' → Hd X.K H' v d → D.rt v H') → wB X sts D σ H := ⟨fun h => h.run⟩
theorem RB.le (l : Le Γ Γ') (h : RB X body Γ' nx rt) : RB X body Γ nx rt := .mk fun σ H st D h1 h2 => h σ H (st.le l) D h1 h2
theorem RB.imp {nx' : Ev → Prop} {rt' : PyData → Prop} (h : RB X body Γ nx rt) (h1 : ∀ Γ', nx Γ' → nx' Γ') (h2 : ∀ d, rt d → rt' d) : RB X body Γ nx' rt' := .mk fun σ H st D k1 k2 => h σ H st D (fun Γ' σ' H' n => k1 Γ' σ' H' (h1 Γ' n)) fun d v H' r => k2 d v H' (h2 d r)
theorem rb_nil (h : nx Γ) : RB X [] Γ nx rt := .mk fun σ H st D h1 _ => ⟨_, pss_nil, h1 Γ σ H h (Same.refl H) st⟩
theorem rb_asg {x : Str} {i : Nat} {pos' : Pos} (he : PD X e Γ d) (hr : RB X rest (Γ.set i (some d)) nx rt) (hN : X.N.Nodup) (hi : X.N[i]? = some x) (hx : Loc X.env.scope x)
    (hs : swapsWith e (some (.Name x pos')) pos.line X.env = pure false := by rfl) (hf : X.fn x = true ∨ X.env.scope.names.lookup x = some .local := by first | exact .inl rfl | exact .inr rfl) : RB X (.Assign [.Name x pos'] e pos :: rest) Γ nx rt := .mk fun σ H st D h1 h2 =>
  ⟨_, pss_cons (ps_set hN hi hx (wE_ok e) hs hf) (wB_ok rest), he σ H st _ fun v H1 e1 hv => hr _ H1 ((st.same e1).set hv) D (fun Γ' σ' H' n e2 => h1 Γ' σ' H' n (e1.trans e2)) fun d v H' r e2 => h2 d v H' r (e1.trans e2)⟩
theorem rb_ret (he : PD X e Γ d) (hr : rt d) : RB X [.Return (some e) pos] Γ nx rt := .mk fun σ H st D _ h2 => ⟨_, pss_one (ps_ret (wE_ok e)), he σ H st _ fun v H1 e1 hv => h2 d v H1 hr e1 hv⟩
theorem rb_if {k : Bool} (hc : PTD X c Γ k) (h1 : k = true → RB X A Γ mid rt) (h2 : k = false → RB X B Γ mid rt) (hr : ∀ Γ', mid Γ' → RB X rest Γ' nx rt) : RB X (.If c A B pos :: rest) Γ nx rt := .mk fun σ H st D k1 k2 =>
  ⟨_, pss_cons (ps_if (wT_ok c) (wB_ok A) (wB_ok B)) (wB_ok rest), hc σ H st _ fun H1 e1 => by
    have fin : ∀ sts, RB X sts Γ mid rt → wB X sts { D with nx := wB X rest D } σ H1 := fun sts h => h σ H1 (st.same e1) { D with nx := wB X rest D } (fun Γ' σ' H' m e2 st2 => hr Γ' m σ' H' st2 D (fun Γ'' σ'' H'' n e3 => k1 Γ'' σ'' H'' n ((e1.trans e2).trans e3)) fun d v H'' r e3 => k2 d v H'' r ((e1.trans e2).trans e3)) fun d v H' r e2 => k2 d v H' r (e1.trans e2)
    cases k with
    | true =>
      rw [if_pos rfl]
      exact fin A (h1 rfl)
    | false =>
      rw [if_neg (by decide)]
      exact fin B (h2 rfl)⟩
/-- if c: .. return; then the rest -/
theorem rb_ifr {k : Bool} (hc : PTD X c Γ k) (h1 : k = true → RB X A Γ (fun _ => False) rt) (hr : k = false → RB X rest Γ nx rt) : RB X (.If c A [] pos :: rest) Γ nx rt := by
  refine rb_if (mid := fun Γ' => k = false ∧ Γ' = Γ) hc (fun e => (h1 e).imp (fun _ z => z.elim) fun _ z => z) (fun e => rb_nil ⟨e, rfl⟩) ?_
  rintro Γ' ⟨e, rfl⟩
  exact hr e
/-- if c: x = e -/
theorem rb_ifasg {k : Bool} {x : Str} {i : Nat} {pos' pos2 : Pos} (hc : PTD X c Γ k) (he : k = true → PD X e Γ d) (h0 : k = false → Γ[i]? = some (some d)) (hr : RB X rest (Γ.set i (some d)) nx rt) (hN : X.N.Nodup) (hi : X.N[i]? = some x) (hx : Loc X.env.scope x)
    (hs : swapsWith e (some (.Name x pos')) pos2.line X.env = pure false := by rfl) (hf : X.fn x = true ∨ X.env.scope.names.lookup x = some .local := by first | exact .inl rfl | exact .inr rfl) : RB X (.If c [.Assign [.Name x pos'] e pos2] [] pos :: rest) Γ nx rt := by
  refine rb_if (mid := fun Γ' => Γ' = Γ.set i (some d)) hc (fun q => rb_asg (he q) (rb_nil rfl) hN hi hx hs hf) (fun q => rb_nil ?_) ?_
  · have h := h0 q
    obtain ⟨hl, e1⟩ := List.getElem?_eq_some_iff.mp h
    rw [← e1, List.set_getElem_self]
  · rintro Γ' rfl
    exact hr
/-- for x in iter -/
theorem rb_for {x : Str} {j : Nat} {tp : Pos} (Inv : Nat → Ev → Prop) (hi : PID X (.Name x tp) iter Γ ds) (h0 : ∃ Γ', Le Γ Γ' ∧ Inv 0 Γ') (hs : ∀ (i : Nat) (d : PyData) (Γ' : Ev), ds[i]? = some d → Inv i Γ' → RB X body (Γ'.set j (some d)) (fun Γ2 => ∃ Γ3, Le Γ2 Γ3 ∧ Inv (i + 1) Γ3) rt)
    (hd : ∀ Γ', Inv ds.length Γ' → RB X rest Γ' nx rt) (hp : PassesOwn (model X.prog X.w) X.A X.env X.xe) (hc : X.calm = true) (hN : X.N.Nodup) (hj : X.N[j]? = some x) (hx : Loc X.env.scope x) (hf : X.fn x = true ∨ X.env.scope.names.lookup x = some .local := by first | exact .inl rfl | exact .inr rfl) (hsi : ∀ x, foldedSetIterable iter X.env x = pure x := by intro _; rfl) :
    RB X (.For (.Name x tp) iter body [] pos :: rest) Γ nx rt := .mk fun σ H st D k1 k2 =>
  ⟨_, pss_cons (ps_for hp hc (wI_ok (.Name x tp) iter) (pg_name (i := j) hN hj hx hf) (wB_ok body) hsi) (wB_ok rest), hi σ H st _ fun J H1 e1 w => by
    obtain ⟨Γ0, l0, i0⟩ := h0
    refine for_it w (fun i σ' H' => Same H1 H' ∧ ∃ Γ', Inv i Γ' ∧ StV X.K Γ' σ' H') ⟨Same.refl _, Γ0, i0, (st.same e1).le l0⟩ (fun i σ' H' _ q => q.1) (fun i v σ' H2 H3 hi' q y => ?_) (fun σ' H2 q => ?_)
    · obtain ⟨e2, Γ', inv, st'⟩ := q
      obtain ⟨e3, d, hd', hv⟩ := y
      exact hs i d Γ' hd' inv (σ'.set j (some v)) H3 ((st'.same e3).set hv) _ (fun Γ2 σ2 H4 n e4 st2 => by
        obtain ⟨Γ3, l3, i3⟩ := n
        exact ⟨(e2.trans e3).trans e4, Γ3, i3, st2.le l3⟩) (fun d2 v2 H4 r e4 hv2 => k2 d2 v2 H4 r (((e1.trans e2).trans e3).trans e4) hv2)
    · obtain ⟨e2, Γ', inv, st'⟩ := q
      exact hd Γ' inv σ' H2 st' D (fun Γ2 σ2 H3 n e3 => k1 Γ2 σ2 H3 n ((e1.trans e2).trans e3)) fun d v H3 r e3 => k2 d v H3 r ((e1.trans e2).trans e3)⟩
/-- while -/
theorem rb_while (W : Nat → Ev → Prop) (h0 : ∃ m Γ', Le Γ Γ' ∧ W m Γ') (hs : ∀ (m : Nat) (Γ' : Ev), W m Γ' → ∃ k, PTD X c Γ' k ∧ (k = true → RB X body Γ' (fun Γ2 => ∃ m' Γ3, m' < m ∧ Le Γ2 Γ3 ∧ W m' Γ3) rt) ∧ (k = false → RB X rest Γ' nx rt))
    (hp : PassesOwn (model X.prog X.w) X.A X.env X.xe) : RB X (.While c body [] pos :: rest) Γ nx rt := .mk fun σ H st D k1 k2 =>
  ⟨_, pss_cons (ps_while hp (wT_ok c) (wB_ok body)) (wB_ok rest), by
    obtain ⟨m0, Γ0, l0, w0⟩ := h0
    refine ⟨fun m σ' H' => ∃ Γ', W m Γ' ∧ StV X.K Γ' σ' H' ∧ Same H H', ⟨m0, Γ0, w0, st.le l0, Same.refl H⟩, fun m σ' H1 q => ?_⟩
    obtain ⟨Γ', w, st', e1⟩ := q
    obtain ⟨k, hk, hb, hr⟩ := hs m Γ' w
    refine hk σ' H1 st' _ fun H2 e2 => ?_
    cases k with
    | true =>
      refine ⟨fun σ2 H3 => ∃ m', m' < m ∧ ∃ Γ3, W m' Γ3 ∧ StV X.K Γ3 σ2 H3 ∧ Same H H3, fun σ2 H3 z => z, ?_⟩
      exact hb rfl σ' H2 (st'.same e2) _ (fun Γ2 σ2 H3 n e3 st2 => by
        obtain ⟨m', Γ3, lt, l3, w3⟩ := n
        exact ⟨m', lt, Γ3, w3, st2.le l3, (e1.trans e2).trans e3⟩) fun d v H3 r e3 hv => k2 d v H3 r ((e1.trans e2).trans e3) hv
    | false =>
      exact hr rfl σ' H2 (st'.same e2) D (fun Γ2 σ2 H3 n e3 => k1 Γ2 σ2 H3 n ((e1.trans e2).trans e3)) fun d v H3 r e3 => k2 d v H3 r ((e1.trans e2).trans e3)⟩
end
end Tw
namespace Tw
open PySem PySem.Spec PyProof.Rows L2

/-- the built-ins' names are the built-ins' -/
structure Bl (mg : Str → Option Value) : Prop where
  len : mg "len" = none
  range : mg "range" = none
  tuple : mg "tuple" = none
  list : mg "list" = none
  sorted : mg "sorted" = none
  max : mg "max" = none
  min : mg "min" = none
  isinstance : mg "isinstance" = none
  int : mg "int" = none
  bool : mg "bool" = none
  enumerate : mg "enumerate" = none
  all : mg "all" = none
  sum : mg "sum" = none
theorem bb_len : bootBuiltins "len" = some (.builtin "len") := boot_len
theorem bb_tuple : bootBuiltins "tuple" = some (.type "tuple") := by decide +kernel
theorem bb_list : bootBuiltins "list" = some (.type "list") := by decide +kernel
theorem bb_sorted : bootBuiltins "sorted" = some (.builtin "sorted") := by decide +kernel
theorem bb_max : bootBuiltins "max" = some (.builtin "max") := by decide +kernel
theorem bb_min : bootBuiltins "min" = some (.builtin "min") := by decide +kernel
theorem bb_int : bootBuiltins "int" = some (.type "int") := by decide +kernel
theorem bb_bool : bootBuiltins "bool" = some (.type "bool") := by decide +kernel
theorem bb_all : bootBuiltins "all" = some (.builtin "all") := by decide +kernel
theorem bb_sum : bootBuiltins "sum" = some (.builtin "sum") := by decide +kernel
abbrev Rel := List PyData → PyData → Prop
/-- where a body of the text runs -/
abbrev bx (P : Program) (w : World) (K : PySem.W.Frag) (mg : Str → Option Value) (base : Heap) (N : List Str) (qual : Str) (sc : Scope) (f : Addr) (cdv : Value) (A : Around) (outer : List Env) (s : Shared) (H : Hp) (E : XK) : Cx := (cxOf CX0 P w K mg base N qual sc f cdv A outer s H E).nox
section
variable {P : Program} {w : World} {K : PySem.W.Frag} {mg : Str → Option Value} {base : Heap}
theorem Fun_rb {x qual : Str} {st : Stmt} {f : Addr} {fd : FuncData} {N ps : List Str} {k : Nat} {R : Rel} (F : Fun K x qual st f fd) (S : FnScope N ps (defScope st)) (hl : ∀ ds r, R ds r → ds.length = ps.length)
    (hb : ∀ (cdv : Value) (A : Around) (outer : List Env) (s : Shared) (H : Hp) (E : XK), Room k (bx P w K mg base N qual (defScope st) f cdv A outer s H E).A → ∀ ds r, R ds r →
      RB (bx P w K mg base N qual (defScope st) f cdv A outer s H E) (defBody st) (ds.map some ++ List.replicate (N.length - ds.length) none) (fun _ => r = .none) (fun d => d = r)) : FnOk P w K mg base CX0 (k + 1) f fd ps (spR K R) := by
  refine F.ok S (fun vs H Q E h => ?_) (fun cdv A outer s H vs Q E hr h => ?_)
  · obtain ⟨ds, r, hd, hR, _⟩ := h
    rw [hd.length]
    exact hl ds r hR
  · obtain ⟨ds, r, hd, hR, q⟩ := h
    refine ⟨_, wB_ok _, hb cdv A outer s H E hr ds r hR _ H (StV.start hd) _ (fun Γ' σ' H' n e1 _ => ?_) fun d v H' n e1 hv => ?_⟩
    · rw [n] at q
      exact q _ H' e1 .non
    · rw [n] at hv
      exact q v H' e1 hv
end
end Tw
namespace Tw
open PySem PySem.Spec PyProof.Rows L2
/-- the def x of the text stands at its name -/
structure Dn (K : PySem.W.Frag) (mg : Str → Option Value) (x : Str) (st : Stmt) (ps : List Str) : Prop where
  ex : ∃ f fd, Fun K x x st f fd ∧ Binds K fd ps [] ∧ mg x = some (.ref f)
section
variable {P : Program} {w : World} {K : PySem.W.Frag} {mg : Str → Option Value} {base : Heap}
theorem Dn.ok {x : Str} {st : Stmt} {N ps : List Str} {k : Nat} {R : Rel} (D : Dn K mg x st ps) (S : FnScope N ps (defScope st)) (hl : ∀ ds r, R ds r → ds.length = ps.length)
    (hb : ∀ (f : Addr) (cdv : Value) (A : Around) (outer : List Env) (s : Shared) (H : Hp) (E : XK), Room k (bx P w K mg base N x (defScope st) f cdv A outer s H E).A → ∀ ds r, R ds r →
      RB (bx P w K mg base N x (defScope st) f cdv A outer s H E) (defBody st) (ds.map some ++ List.replicate (N.length - ds.length) none) (fun _ => r = .none) (fun d => d = r)) : Df P w K mg base x (k + 1) ps R := by
  obtain ⟨f, fd, F, b, m⟩ := D.ex
  have ok := Fun_rb F S hl (hb f) (w := w) (P := P) (base := base) (mg := mg)
  obtain ⟨oc, od, kV, doc, pm, an, cdv, ct, osl, _, lk, _⟩ := F.ex
  exact ⟨f, fd, m, F.kp, b, ok, oc, od, osl, lk⟩
end
end Tw
namespace Tw
open PySem PySem.Spec PyProof.Rows L2
/-! ### rows -/
abbrev rowD (xs : List Nat) : PyData := .tuple (xs.map nD)
abbrev lstD (xs : List Nat) : PyData := .list (xs.map nD)
theorem nD_ints (xs : List Nat) : xs.map nD = (xs.map fun n : Nat => (n : Int)).map PyData.int := by
  rw [List.map_map] <;> rfl
theorem nD_inj {a b : Nat} (h : nD a = nD b) : a = b := by
  injection h with h
  omega
/-! ### slices from, to a place -/
theorem cutD_to {α : Type} (ds : List α) {i : Int} (h : 0 ≤ i) : cutD ds none (some i) = ds.take i.toNat := by
  obtain ⟨n, rfl⟩ : ∃ n : Nat, i = n := ⟨i.toNat, by omega⟩
  unfold cutD
  rw [HT.sIx_none, HT.sIx_nat, List.drop_zero, Nat.sub_zero]
  show ds.take (min n ds.length) = ds.take n
  rcases Nat.le_total n ds.length with q | q
  · rw [Nat.min_eq_left q]
  · rw [Nat.min_eq_right q, List.take_length, List.take_of_length_le q]
theorem cutD_from {α : Type} (ds : List α) {i : Int} (h : 0 ≤ i) : cutD ds (some i) none = ds.drop i.toNat := by
  obtain ⟨n, rfl⟩ : ∃ n : Nat, i = n := ⟨i.toNat, by omega⟩
  unfold cutD
  rw [HT.sIx_none, HT.sIx_nat]
  show (ds.drop (min n ds.length)).take (ds.length - min n ds.length) = ds.drop n
  rcases Nat.le_total n ds.length with q | q
  · rw [Nat.min_eq_left q, List.take_of_length_le (by rw [List.length_drop]; exact Nat.le_refl _)]
  · rw [Nat.min_eq_right q, List.drop_length, List.take_nil, List.drop_eq_nil_of_le q]
section
variable {X : Cx} {a b c e : Expr} {pos p : Pos} {Γ : Ev} {d dx dy dz : PyData} {ds : List PyData}
theorem pdl_slTo {i : Int} {p2 : Pos} (h : PD X e Γ (.list ds)) (h1 : PD X a Γ (.int i)) (h0 : 0 ≤ i) : PDL X (.Subscript e (.Slice none (some a) none p2) pos) Γ (ds.take i.toNat) := by
  rw [← cutD_to ds h0]
  exact pdl_sl h pod_none (pod_some h1)
theorem pdl_slFrom {i : Int} {p2 : Pos} (h : PD X e Γ (.list ds)) (h1 : PD X a Γ (.int i)) (h0 : 0 ≤ i) : PDL X (.Subscript e (.Slice (some a) none none p2) pos) Γ (ds.drop i.toNat) := by
  rw [← cutD_from ds h0]
  exact pdl_sl h (pod_some h1) pod_none
theorem pd_slTTo {i : Int} {p2 : Pos} (h : PD X e Γ (.tuple ds)) (h1 : PD X a Γ (.int i)) (h0 : 0 ≤ i) : PD X (.Subscript e (.Slice none (some a) none p2) pos) Γ (.tuple (ds.take i.toNat)) := by
  rw [← cutD_to ds h0]
  exact pd_slT h pod_none (pod_some h1)
theorem pd_slTFrom {i : Int} {p2 : Pos} (h : PD X e Γ (.tuple ds)) (h1 : PD X a Γ (.int i)) (h0 : 0 ≤ i) : PD X (.Subscript e (.Slice (some a) none none p2) pos) Γ (.tuple (ds.drop i.toNat)) := by
  rw [← cutD_from ds h0]
  exact pd_slT h (pod_some h1) pod_none
end
section
variable {X : Cx} {c e : Expr} {pos : Pos} {Γ : Ev} {rest : List Stmt} {nx : Ev → Prop} {rt : PyData → Prop}
/-- if c: x = e, an int before and behind -/
theorem rb_ifI {x : Str} {i : Nat} {pos' pos2 : Pos} {q : Prop} {dq : Decidable q} {u v : Int} (hc : PTD X c Γ (decide q)) (he : q → PD X e Γ (.int u)) (h0 : Γ[i]? = some (some (.int v))) (hr : RB X rest (Γ.set i (some (.int (if q then u else v)))) nx rt) (hN : X.N.Nodup) (hi : X.N[i]? = some x) (hx : Loc X.env.scope x)
    (hs : swapsWith e (some (.Name x pos')) pos2.line X.env = pure false := by rfl) (hf : X.fn x = true ∨ X.env.scope.names.lookup x = some .local := by first | exact .inl rfl | exact .inr rfl) : RB X (.If c [.Assign [.Name x pos'] e pos2] [] pos :: rest) Γ nx rt := by
  refine rb_ifasg hc (fun h => ?_) (fun h => ?_) hr hN hi hx hs hf
  · have h' := of_decide_eq_true h
    rw [if_pos h']
    exact he h'
  · have h' := of_decide_eq_false h
    rw [if_neg h']
    exact h0
end
theorem atI_some {α : Type} {xs : List α} {i : Int} (h0 : 0 ≤ i) (h1 : i < xs.length) : atI xs i = some (xs[i.toNat]'(by omega)) := by
  unfold atI ixN
  rw [if_pos h0, if_pos h1]
  exact List.getElem?_eq_getElem _
theorem atI_four {α : Type} {a b c d : α} {i : Int} (h0 : 0 ≤ i) (h1 : i < 4) : atI [a, b, c, d] i = some (if i = 0 then a else if i = 1 then b else if i = 2 then c else d) := by
  have e : i = 0 ∨ i = 1 ∨ i = 2 ∨ i = 3 := by omega
  rcases e with e | e | e | e
  · subst e; rfl
  · subst e; rfl
  · subst e; rfl
  · subst e; rfl
theorem id_four {X : Cx} {a b c d i : Int} (h0 : 0 ≤ i) (h1 : i < 4) : ID X (.list [.int a, .int b, .int c, .int d]) (.int i) (.int (if i = 0 then a else if i = 1 then b else if i = 2 then c else d)) := id_list (by
  rw [atI_four h0 h1]
  split
  · rfl
  · split
    · rfl
    · split <;> rfl)
/-! ### what stands in a list of numbers -/
theorem map_at {xs : List Nat} {i : Nat} {d : PyData} (h : (xs.map nD)[i]? = some d) : ∃ n, xs[i]? = some n ∧ d = nD n := by
  rw [List.getElem?_map] at h
  cases e : xs[i]? with
  | none => rw [e] at h; cases h
  | some n =>
    rw [e] at h
    exact ⟨n, rfl, (Option.some.inj h).symm⟩
theorem range_at {n i : Nat} {d : PyData} (h : ((List.range n).map nD)[i]? = some d) : i < n ∧ d = nD i := by
  obtain ⟨k, hk, rfl⟩ := map_at h
  obtain ⟨hl, e⟩ := List.getElem?_eq_some_iff.mp hk
  rw [List.getElem_range] at e
  rw [List.length_range] at hl
  subst e
  exact ⟨hl, rfl⟩
theorem mapG_at {α : Type} {g : α → PyData} {xs : List α} {i : Nat} {d : PyData} (h : (xs.map g)[i]? = some d) : ∃ n, xs[i]? = some n ∧ d = g n := by
  rw [List.getElem?_map] at h
  cases e : xs[i]? with
  | none => rw [e] at h; cases h
  | some n =>
    rw [e] at h
    exact ⟨n, rfl, (Option.some.inj h).symm⟩
end Tw
namespace Tw
open PySem PySem.Spec PyProof.Rows L2
/-! ### sorted -/
def srt (ns : List Int) : List Int := ns.mergeSort fun a b => decide (a ≤ b)
theorem srt_perm (ns : List Int) : (srt ns).Perm ns := List.mergeSort_perm _ _
theorem srt_up (ns : List Int) : (srt ns).Pairwise (· ≤ ·) := by
  have h := List.pairwise_mergeSort (le := fun a b : Int => decide (a ≤ b)) (fun a b c h1 h2 => by simp at *; omega) (fun a b => by simp; omega) ns
  exact h.imp fun h => by simpa using h
theorem up_one : ∀ {a b : List Int}, a.Perm b → a.Pairwise (· ≤ ·) → b.Pairwise (· ≤ ·) → a = b
  | [], b, p, _, _ => (List.nil_perm.mp p).symm
  | x :: a, [], p, _, _ => by cases p.length_eq
  | x :: a, y :: b, p, h1, h2 => by
    have h1' := List.pairwise_cons.mp h1
    have h2' := List.pairwise_cons.mp h2
    have e1 : x ≤ y := by
      rcases List.mem_cons.mp (p.symm.subset (List.mem_cons_self (a := y))) with q | q
      · rw [q]; exact Int.le_refl _
      · exact h1'.1 y q
    have e2 : y ≤ x := by
      rcases List.mem_cons.mp (p.subset (List.mem_cons_self (a := x))) with q | q
      · rw [q]; exact Int.le_refl _
      · exact h2'.1 x q
    have e : x = y := Int.le_antisymm e1 e2
    subst e
    rw [up_one (p.cons_inv) h1'.2 h2'.2]
section
variable {prog : Program} {w : World} {A : Around} {E : Value → Shared → Prop} {s : Shared}
theorem collect_tup {l : Addr} {vs : List Value} {Q : List Value → Shared → Prop} (hl : IsTup s.heap l vs.toArray)
    (h : Q vs { s with heap := (s.heap.push (seqObj "list" #[] 0)).update s.heap.objs.size (Obj.mapSeq (· ++ vs.toArray)) }) (hsz : vs.length ≤ sizeLine) :
    wpAny (model prog w) A (collect (.ref l)) Q E s := by
  obtain ⟨o, ho, hc, n, hd⟩ := id hl
  unfold collect
  refine wpAny_bind (wpAny_runValue (codeAny_builtin entry_proto_collect' ?_))
  show wpAny _ _ (do again (.builtin "list.__iadd__" ⟨[← newList [], .ref l], []⟩)) _ _ s
  refine wpAny_bind (wpAny_newList (wpAny_pure ⟨Code.quiet_builtin _ (by decide +kernel), codeAny_builtin entry_list_iadd' ?_⟩))
  show wpAny _ _ (Builtin.List.listExtendWith (.ref s.heap.objs.size) (.ref l) (.ref s.heap.objs.size)) _ _ { s with heap := s.heap.push (seqObj "list" #[] 0) }
  unfold Builtin.List.listExtendWith
  have ho' : (s.heap.push (seqObj "list" #[] 0)).get? l = some o := Heap.get?_push_of_some _ ho
  refine wpAny_bind (wpAny_typeOf (T := "tuple") ⟨o, ho', hc⟩ ?_)
  have ht : (Value.type "tuple" == Value.type "tuple") = true := by rfl
  rw [if_pos (by rw [ht]; simp)]
  refine wpAny_bind (listItems_at ho' hd ?_)
  refine wpAny_bind (listItems_at (xs := #[]) (n := 0) (Heap.get?_push_size _ rfl) rfl ?_)
  rw [if_neg (by simp)]
  refine wpAny_bind (listUpdate_at (xs := #[]) (n := 0) (Heap.get?_push_size _ rfl) rfl ?_ (Nat.zero_le _) (by show (#[] ++ vs.toArray).size ≤ sizeLine + 1; simp only [Array.size_append, List.size_toArray, List.length_nil]; omega))
  refine wpAny_pure ?_
  show wpAny (model prog w) A (do
      let o ← load s.heap.objs.size
      match o.data with
      | .seq xs _ => pure xs.toList
      | _ => unsupported "internal:collect") Q E { s with heap := (s.heap.push (seqObj "list" #[] 0)).update s.heap.objs.size (Obj.mapSeq (· ++ vs.toArray)) }
  refine wpAny_bind (wpAny_load (get?_update_seq (Heap.get?_push_size _ rfl) _) ?_)
  show wpAny _ _ (pure ((#[] : Array Value) ++ vs.toArray).toList) Q E _
  rw [show ((#[] : Array Value) ++ vs.toArray).toList = vs by simp]
  exact wpAny_pure h
theorem sorted_tup {l : Addr} {vs : List Value} {ns : List Int} {Q : Value → Shared → Prop} (hl : IsTup s.heap l vs.toArray) (hI : IntsAre vs ns) (h64 : vs.length < 64)
    (h : ∀ (out : Array Value) (ns' : List Int), IntsAre out.toList ns' → ns'.Perm ns → ns'.Pairwise (· ≤ ·) → Q (.ref (s.heap.objs.size + 1)) { s with heap := sortedAll s.heap vs out }) :
    wpAny (model prog w) A (call (.builtin "sorted") [.ref l]) Q E s := by
  refine Calls.call_function_entry kind_sorted plain_sorted entry_sorted (args_sorted1 _) ?_
  unfold Builtin.«sorted»
  refine wpAny_bind (m := checkCount "sorted" 1 1 _) (wpAny_pure ?_)
  refine wpAny_bind (collect_tup hl ?_ (small64 h64))
  refine wpAny_bind (wpAny_newList ?_)
  have hsz : ((s.heap.push (seqObj "list" #[] 0)).update s.heap.objs.size (Obj.mapSeq (· ++ vs.toArray))).objs.size = s.heap.objs.size + 1 := by
    rw [Heap.size_update, size_push']
  have hoL : (((s.heap.push (seqObj "list" #[] 0)).update s.heap.objs.size (Obj.mapSeq (· ++ vs.toArray))).push (seqObj "list" vs.toArray 0)).get? (s.heap.objs.size + 1) = some (seqObj "list" vs.toArray 0) := by
    rw [← hsz]; exact Heap.get?_push_size _ rfl
  show wpAny _ _ _ _ _ { s with heap := ((s.heap.push (seqObj "list" #[] 0)).update s.heap.objs.size (Obj.mapSeq (· ++ vs.toArray))).push (seqObj "list" vs.toArray 0) }
  rw [hsz]
  refine wpAny_bind (wpAny_holding (wpAny_call_entry slot_list_sort ⟨_, hoL, rfl⟩ entry_list_sort (list_sort_tree hoL hI h64 fun out ns' a1 a2 a3 => ⟨_, rfl, ?_⟩) (args_list_sort _)))
  exact wpAny_pure ⟨_, rfl, h out ns' a1 a2 a3⟩
end
section
variable {X : Cx}
def rSortedTu (K : PySem.W.Frag) : List V → Hp → VK → Prop := fun vs H Q => ∃ (a : Addr) (ns : List Int), vs = [V.ref a] ∧ SqT K H a (ns.map V.int) ∧ ns.length < 64 ∧
  ∀ (ns' : List Int) (p : Addr), ns'.Perm ns → ns'.Pairwise (· ≤ ·) → H p = none → Q (.ref p) (upd H p (.lst (ns'.map V.int)))
theorem cr_sortedTu : CallR X (.builtin "sorted") (rSortedTu X.K) := by
  intro pins s σ H vs us Q I r h
  obtain ⟨a, ns, rfl, hs, h64, q⟩ := h
  obtain ⟨its, rv, hl, _⟩ := I.tuple hs
  rw [Vals.ref1 r]
  have hi := rv.ints
  refine sorted_tup hl hi (by rw [hi.length]; exact h64) fun out ns' h1 h2 h3 => ?_
  obtain ⟨ep, he'⟩ := PyProof.Rows.sortedAll_at s.heap its out
  have hlen : (ns'.map V.int).length ≤ sizeLine := by rw [List.length_map, h2.length_eq]; exact small64 h64
  exact ⟨.ref _, upd H (s.heap.objs.size + 1) (.lst (ns'.map V.int)), I.laid (t' := s.toks) (fun _ _ => PyProof.Rows.sortedAll_old) (Nat.le_succ _) ⟨hlen, out.toList, ep, vals_of_ints h1, he'⟩, rfl, q ns' _ h2 h3 (I.hok.fresh (Nat.le_succ _))⟩
theorem cdl_sortedT {ns : List Int} (h : ns.length < 64) : CDL X (.builtin "sorted") [.tuple (ns.map PyData.int)] ((srt ns).map PyData.int) := ⟨_, cr_sortedTu, fun H xs hx Q q => by
  obtain ⟨v, rfl, hv⟩ := hx.one_inv
  obtain ⟨a, ys, rfl, h1, h2⟩ := hv.tup_inv
  rw [h2.ints_inv] at h1
  refine ⟨a, ns, rfl, h1, h, fun ns' p hp hu hn => ?_⟩
  rw [up_one (hp.trans (srt_perm ns).symm) hu (srt_up ns)]
  exact q p _ _ hn (same_new hn) upd_same (HdA.ints _)⟩
theorem cdl_sortedL {ns : List Int} (h : ns.length < 64) : CDL X (.builtin "sorted") [.list (ns.map PyData.int)] ((srt ns).map PyData.int) := ⟨_, cr_sorted, fun H xs hx Q q => by
  obtain ⟨v, rfl, hv⟩ := hx.one_inv
  obtain ⟨a, ys, rfl, h1, h2⟩ := hv.list_inv
  rw [h2.ints_inv] at h1
  refine ⟨a, ns, rfl, SqL.of h1, h, fun ns' p hp hu hn => ?_⟩
  rw [up_one (hp.trans (srt_perm ns).symm) hu (srt_up ns)]
  exact q p _ _ hn (same_new hn) upd_same (HdA.ints _)⟩
/-! ### xs.index(n) -/
theorem ints_at {ns : List Int} {j : Nat} {z : V} (h : (ns.map V.int)[j]? = some z) : ∃ n, ns[j]? = some n ∧ z = .int n := by
  rw [List.getElem?_map] at h
  cases e : ns[j]? with
  | none => rw [e] at h; cases h
  | some n =>
    rw [e] at h
    exact ⟨n, rfl, (Option.some.inj h).symm⟩
theorem idx_at {ns : List Int} {n : Int} (h : n ∈ ns) : ns[ns.idxOf n]? = some n ∧ ∀ m, m < ns.idxOf n → ∀ z, ns[m]? = some z → z ≠ n := by
  refine ⟨?_, fun m hm z hz e => ?_⟩
  · have hl := List.idxOf_lt_length_iff.mpr h
    rw [List.getElem?_eq_getElem hl, List.getElem_idxOf hl]
  · subst e
    obtain ⟨hl, e⟩ := List.getElem?_eq_some_iff.mp hz
    have := List.not_of_lt_findIdx (p := fun x => x == z) (xs := ns) (i := m) (by exact hm)
    rw [e] at this
    simp at this
theorem md_index {ns : List Int} {n : Int} (h : n ∈ ns) : MD X "list" "list.index" (.list (ns.map PyData.int)) [.int n] (nD (ns.idxOf n)) := ⟨fun H x hx => by
    obtain ⟨a, ys, rfl, h1, h2⟩ := hx.list_inv
    exact Or.inl ⟨rfl, _, SqL.of h1⟩, _, mt_index, fun H x xs hx hxs Q q => by
    obtain ⟨a, ys, rfl, h1, h2⟩ := hx.list_inv
    obtain ⟨v, rfl, hv⟩ := hxs.one_inv
    cases hv
    rw [h2.ints_inv] at h1
    obtain ⟨e1, e2⟩ := idx_at h
    refine ⟨a, _, .int n, ns.idxOf n, .int n, rfl, rfl, SqL.of h1, rfl, ?_, ?_, ?_, fun m z' hm hz => ?_, q _ H (Same.refl H) (.int _)⟩
    · rw [List.all_map]
      exact List.all_eq_true.mpr fun _ _ => rfl
    · rw [List.getElem?_map, e1] <;> rfl
    · show decide _ = true
      simp
    · obtain ⟨k, hk, rfl⟩ := ints_at hz
      have := e2 m hm k hk
      show decide _ = false
      simpa using this⟩
end
section
variable {X : Cx} {e : Expr} {pos p : Pos} {Γ : Ev} {ds : List PyData}
/-- tuple([..]), len([..]) -/
theorem pd_tupL (h : PDL X e Γ ds) (hg : Gl X "tuple") (hm : X.mg "tuple" = none) (hs : starEach [e] X.env = (false, eval e X.env) :: starEach [] X.env) : PD X (.Call (.Name "tuple" p) [e] [] pos) Γ (.tuple ds) :=
  pd_callT cd_tupL hg hm bb_tuple (pad_cons h.pd pad_nil hs) (by decide) (by decide) hs rfl
theorem pd_lenL (h : PDL X e Γ ds) (hg : Gl X "len") (hm : X.mg "len" = none) (hs : starEach [e] X.env = (false, eval e X.env) :: starEach [] X.env) : PD X (.Call (.Name "len" p) [e] [] pos) Γ (nD ds.length) :=
  pd_callB cd_lenL hg hm bb_len (pad_cons h.pd pad_nil hs) (by decide) (by decide) hs rfl
end
end Tw
namespace Tw
open PySem PySem.Spec PyProof.Rows L2
/-! ### data compared -/
theorem lay_ints : ∀ ns : List Int, PyData.canLayAll0 (ns.map PyData.int) = true
  | [] => by simp [PyData.canLayAll0]
  | n :: ns => by
    show PyData.canLayAll0 (PyData.int n :: ns.map PyData.int) = true
    rw [PyData.canLayAll0, lay_ints ns]
    simp [PyData.canLay0]
theorem dep_ints : ∀ ns : List Int, PyData.depthAll (ns.map PyData.int) = 0
  | [] => by simp [PyData.depthAll]
  | n :: ns => by
    show PyData.depthAll (PyData.int n :: ns.map PyData.int) = 0
    rw [PyData.depthAll, dep_ints ns]
    simp [PyData.depth]
theorem eqvAll_ints : ∀ ns ms : List Int, PyData.eqvAll (ns.map PyData.int) (ms.map PyData.int) = decide (ns = ms)
  | [], [] => by simp [PyData.eqvAll]
  | [], m :: ms => by simp [PyData.eqvAll]
  | n :: ns, [] => by simp [PyData.eqvAll]
  | n :: ns, m :: ms => by
    show PyData.eqvAll (PyData.int n :: ns.map PyData.int) (PyData.int m :: ms.map PyData.int) = _
    rw [PyData.eqvAll, eqvAll_ints ns ms]
    by_cases h : n = m
    · subst h
      simp [PyData.eqv]
    · simp [PyData.eqv, h]
theorem shaped_tup {ds : List PyData} (h1 : PyData.canLayAll0 ds = true) (h2 : PyData.depthAll ds ≤ 63) : SeqAt.shaped (.tuple ds) = true := by
  unfold SeqAt.shaped
  rw [Bool.and_eq_true]
  refine ⟨by rw [PyData.canLay0]; exact h1, decide_eq_true ?_⟩
  rw [PyData.depth]
  omega
theorem shaped_list {ds : List PyData} (h1 : PyData.canLayAll0 ds = true) (h2 : PyData.depthAll ds ≤ 63) : SeqAt.shaped (.list ds) = true := by
  unfold SeqAt.shaped
  rw [Bool.and_eq_true]
  refine ⟨by rw [PyData.canLay0]; exact h1, decide_eq_true ?_⟩
  rw [PyData.depth]
  omega
theorem tup_shaped {ds : List PyData} (h : SeqAt.shaped (.tuple ds) = true) : PyData.canLayAll0 ds = true ∧ PyData.depthAll ds ≤ 63 := by
  unfold SeqAt.shaped at h
  rw [Bool.and_eq_true] at h
  obtain ⟨h1, h2⟩ := h
  have h2 := of_decide_eq_true h2
  rw [PyData.canLay0] at h1
  rw [PyData.depth] at h2
  exact ⟨h1, by omega⟩
theorem list_shaped {ds : List PyData} (h : SeqAt.shaped (.list ds) = true) : PyData.canLayAll0 ds = true ∧ PyData.depthAll ds ≤ 63 := by
  unfold SeqAt.shaped at h
  rw [Bool.and_eq_true] at h
  obtain ⟨h1, h2⟩ := h
  have h2 := of_decide_eq_true h2
  rw [PyData.canLay0] at h1
  rw [PyData.depth] at h2
  exact ⟨h1, by omega⟩
theorem layA_sub : ∀ {a b : List PyData}, (∀ d ∈ a, d ∈ b) → PyData.canLayAll0 b = true → PyData.canLayAll0 a = true
  | [], _, _, _ => by simp [PyData.canLayAll0]
  | x :: a, b, h, q => by
    rw [PyData.canLayAll0, layA_sub (fun d hd => h d (by simp [hd])) q, Bool.and_true]
    exact PyData.canLay0_of_mem b x q (h x (by simp))
theorem dep_mem : ∀ {b : List PyData} {d : PyData}, d ∈ b → PyData.depth d ≤ PyData.depthAll b
  | x :: b, d, h => by
    rw [PyData.depthAll]
    rcases List.mem_cons.mp h with e | e
    · rw [e]; exact Nat.le_max_left _ _
    · exact Nat.le_trans (dep_mem e) (Nat.le_max_right _ _)
theorem depA_sub : ∀ {a b : List PyData}, (∀ d ∈ a, d ∈ b) → PyData.depthAll a ≤ PyData.depthAll b
  | [], _, _ => by rw [PyData.depthAll]; exact Nat.zero_le _
  | x :: a, b, h => by
    rw [PyData.depthAll]
    exact Nat.max_le.mpr ⟨dep_mem (h x (by simp)), depA_sub fun d hd => h d (by simp [hd])⟩
theorem shaped_mem {ds : List PyData} {d : PyData} (h : SeqAt.shaped (.tuple ds) = true) (hd : d ∈ ds) : SeqAt.shaped d = true := by
  obtain ⟨h1, h2⟩ := tup_shaped h
  unfold SeqAt.shaped
  rw [Bool.and_eq_true]
  exact ⟨PyData.canLay0_of_mem ds d h1 hd, decide_eq_true (by have := dep_mem hd; omega)⟩
theorem shaped_nd {d : PyData} (h : SeqAt.shaped d = true) : ∀ kvs, d ≠ .dict kvs := fun kvs e => by
  subst e
  simp [SeqAt.shaped, PyData.canLay0] at h
theorem sh_ints (ns : List Int) : SeqAt.shaped (.tuple (ns.map PyData.int)) = true := shaped_tup (lay_ints ns) (by rw [dep_ints]; decide)
theorem sh_intsL (ns : List Int) : SeqAt.shaped (.list (ns.map PyData.int)) = true := shaped_list (lay_ints ns) (by rw [dep_ints]; decide)
theorem sh_row (xs : List Nat) : SeqAt.shaped (rowD xs) = true := by
  show SeqAt.shaped (.tuple (xs.map nD)) = true
  rw [nD_ints]
  exact sh_ints _
theorem sh_lst (xs : List Nat) : SeqAt.shaped (lstD xs) = true := by
  show SeqAt.shaped (.list (xs.map nD)) = true
  rw [nD_ints]
  exact sh_intsL _
theorem cast_inj {xs ys : List Nat} : (xs.map fun n : Nat => (n : Int)) = (ys.map fun n : Nat => (n : Int)) ↔ xs = ys :=
  ⟨fun h => (List.map_inj_right (fun a b e => by omega)).mp h, fun h => by rw [h]⟩
theorem eqvAll_row (xs ys : List Nat) : PyData.eqvAll (xs.map nD) (ys.map nD) = decide (xs = ys) := by
  rw [nD_ints, nD_ints, eqvAll_ints]
  exact decide_eq_decide.mpr cast_inj
section
variable {X : Cx} {a b c e : Expr} {pos p : Pos} {Γ : Ev} {d dx dy dz : PyData} {ds : List PyData}
theorem od_eqR {xs ys : List Nat} (hu : X.A.units + 64 < cLine) : OD X (compareOp .Eq) (.tuple (xs.map nD)) (.tuple (ys.map nD)) (.bool (decide (xs = ys))) := (od_eq hu (sh_row xs) (sh_row ys)).is (by rw [PyData.eqv, eqvAll_row])
theorem od_neR {xs ys : List Nat} (hu : X.A.units + 64 < cLine) : OD X (compareOp .NotEq) (.tuple (xs.map nD)) (.tuple (ys.map nD)) (.bool (!decide (xs = ys))) := (od_ne hu (sh_row xs) (sh_row ys)).is (by rw [PyData.eqv, eqvAll_row])
theorem od_eqLR {xs ys : List Nat} (hu : X.A.units + 64 < cLine) : OD X (compareOp .Eq) (.list (xs.map nD)) (.list (ys.map nD)) (.bool (decide (xs = ys))) := (od_eq hu (sh_lst xs) (sh_lst ys)).is (by rw [PyData.eqv, eqvAll_row])
theorem od_eqLI {ns : List Int} {ys : List Nat} (hu : X.A.units + 64 < cLine) : OD X (compareOp .Eq) (.list (ns.map PyData.int)) (.list (ys.map nD)) (.bool (decide (ns = ys.map fun n : Nat => (n : Int)))) := (od_eq hu (sh_intsL ns) (sh_lst ys)).is (by rw [PyData.eqv, nD_ints, eqvAll_ints])
theorem od_eqLI2 {ns ms : List Int} (hu : X.A.units + 64 < cLine) : OD X (compareOp .Eq) (.list (ns.map PyData.int)) (.list (ms.map PyData.int)) (.bool (decide (ns = ms))) := (od_eq hu (sh_intsL ns) (sh_intsL ms)).is (by rw [PyData.eqv, eqvAll_ints])
theorem od_eqLI3 {ns : List Int} {ys : List Nat} (hu : X.A.units + 64 < cLine) : OD X (compareOp .Eq) (.list (ys.map nD)) (.list (ns.map PyData.int)) (.bool (decide ((ys.map fun n : Nat => (n : Int)) = ns))) := (od_eq hu (sh_lst ys) (sh_intsL ns)).is (by rw [PyData.eqv, nD_ints, eqvAll_ints])
theorem od_neLI3 {ns : List Int} {ys : List Nat} (hu : X.A.units + 64 < cLine) : OD X (compareOp .NotEq) (.list (ys.map nD)) (.list (ns.map PyData.int)) (.bool (!decide ((ys.map fun n : Nat => (n : Int)) = ns))) := (od_ne hu (sh_lst ys) (sh_intsL ns)).is (by rw [PyData.eqv, nD_ints, eqvAll_ints])
/-- compared with (), [] -/
theorem eqvAll_nil (ds : List PyData) : PyData.eqvAll ds [] = ds.isEmpty := by cases ds <;> simp [PyData.eqvAll]
theorem od_eqT0 (hu : X.A.units + 64 < cLine) (h : SeqAt.shaped (.tuple ds) = true) : OD X (compareOp .Eq) (.tuple ds) (.tuple []) (.bool ds.isEmpty) := (od_eq hu h (by rfl)).is (by rw [PyData.eqv, eqvAll_nil])
theorem od_neT0 (hu : X.A.units + 64 < cLine) (h : SeqAt.shaped (.tuple ds) = true) : OD X (compareOp .NotEq) (.tuple ds) (.tuple []) (.bool (!ds.isEmpty)) := (od_ne hu h (by rfl)).is (by rw [PyData.eqv, eqvAll_nil])
theorem od_eqL0 (hu : X.A.units + 64 < cLine) (h : SeqAt.shaped (.list ds) = true) : OD X (compareOp .Eq) (.list ds) (.list []) (.bool ds.isEmpty) := (od_eq hu h (by rfl)).is (by rw [PyData.eqv, eqvAll_nil])
theorem od_neL0 (hu : X.A.units + 64 < cLine) (h : SeqAt.shaped (.list ds) = true) : OD X (compareOp .NotEq) (.list ds) (.list []) (.bool (!ds.isEmpty)) := (od_ne hu h (by rfl)).is (by rw [PyData.eqv, eqvAll_nil])
/-! ### kinds -/
def isIntB : PyData → Bool
  | .int _ | .bool _ => true
  | _ => false
def isBoolB : PyData → Bool
  | .bool _ => true
  | _ => false
def isTupB : PyData → Bool
  | .tuple _ => true
  | _ => false
def wholeB : PyData → Bool
  | .int _ => true
  | _ => false
theorem whole_eq (d : PyData) : (isIntB d && !isBoolB d) = wholeB d := by cases d <;> rfl
theorem kit_int (d : PyData) (nd : ∀ kvs, d ≠ .dict kvs) : kitB (kindOf d) "int" = some (isIntB d) := by
  cases d with
  | none => exact (by decide +kernel : kitB "NoneType" "int" = some false)
  | bool b => exact (by decide +kernel : kitB "bool" "int" = some true)
  | int i => exact (by decide +kernel : kitB "int" "int" = some true)
  | str i => exact (by decide +kernel : kitB "str" "int" = some false)
  | list i => exact (by decide +kernel : kitB "list" "int" = some false)
  | tuple i => exact (by decide +kernel : kitB "tuple" "int" = some false)
  | dict kvs => exact absurd rfl (nd kvs)
theorem kit_bool (d : PyData) (nd : ∀ kvs, d ≠ .dict kvs) : kitB (kindOf d) "bool" = some (isBoolB d) := by
  cases d with
  | none => exact (by decide +kernel : kitB "NoneType" "bool" = some false)
  | bool b => exact (by decide +kernel : kitB "bool" "bool" = some true)
  | int i => exact (by decide +kernel : kitB "int" "bool" = some false)
  | str i => exact (by decide +kernel : kitB "str" "bool" = some false)
  | list i => exact (by decide +kernel : kitB "list" "bool" = some false)
  | tuple i => exact (by decide +kernel : kitB "tuple" "bool" = some false)
  | dict kvs => exact absurd rfl (nd kvs)
theorem kit_tup (d : PyData) (nd : ∀ kvs, d ≠ .dict kvs) : kitB (kindOf d) "tuple" = some (isTupB d) := by
  cases d with
  | none => exact (by decide +kernel : kitB "NoneType" "tuple" = some false)
  | bool b => exact (by decide +kernel : kitB "bool" "tuple" = some false)
  | int i => exact (by decide +kernel : kitB "int" "tuple" = some false)
  | str i => exact (by decide +kernel : kitB "str" "tuple" = some false)
  | list i => exact (by decide +kernel : kitB "list" "tuple" = some false)
  | tuple i => exact (by decide +kernel : kitB "tuple" "tuple" = some true)
  | dict kvs => exact absurd rfl (nd kvs)
theorem pd_isInt {p1 p2 : Pos} (h : PD X e Γ d) (nd : ∀ kvs, d ≠ .dict kvs) (hg : Gl X "isinstance") (hm : X.mg "isinstance" = none) (hg2 : Gl X "int") (hm2 : X.mg "int" = none)
    (he : starEach [e, .Name "int" p2] X.env = (false, eval e X.env) :: starEach [.Name "int" p2] X.env) : PD X (.Call (.Name "isinstance" p1) [e, .Name "int" p2] [] pos) Γ (.bool (isIntB d)) := pd_isi h (kit_int d nd) nd hg hm hg2 hm2 bb_int (by decide) (by decide) he rfl rfl
theorem pd_isBool {p1 p2 : Pos} (h : PD X e Γ d) (nd : ∀ kvs, d ≠ .dict kvs) (hg : Gl X "isinstance") (hm : X.mg "isinstance" = none) (hg2 : Gl X "bool") (hm2 : X.mg "bool" = none)
    (he : starEach [e, .Name "bool" p2] X.env = (false, eval e X.env) :: starEach [.Name "bool" p2] X.env) : PD X (.Call (.Name "isinstance" p1) [e, .Name "bool" p2] [] pos) Γ (.bool (isBoolB d)) := pd_isi h (kit_bool d nd) nd hg hm hg2 hm2 bb_bool (by decide) (by decide) he rfl rfl
theorem pd_isTup {p1 p2 : Pos} (h : PD X e Γ d) (nd : ∀ kvs, d ≠ .dict kvs) (hg : Gl X "isinstance") (hm : X.mg "isinstance" = none) (hg2 : Gl X "tuple") (hm2 : X.mg "tuple" = none)
    (he : starEach [e, .Name "tuple" p2] X.env = (false, eval e X.env) :: starEach [.Name "tuple" p2] X.env) : PD X (.Call (.Name "isinstance" p1) [e, .Name "tuple" p2] [] pos) Γ (.bool (isTupB d)) := pd_isi h (kit_tup d nd) nd hg hm hg2 hm2 bb_tuple (by decide) (by decide) he rfl rfl
/-! ### list(range(n)), a module's number -/
theorem pdl_lrg {n : Nat} {p1 p2 pos2 : Pos} (h : PD X a Γ (.int (n : Int))) (hn : n ≤ 10000000) (hc : X.calm = true) (hg : Gl X "list") (hm : X.mg "list" = none) (hg2 : Gl X "range") (hm2 : X.mg "range" = none)
    (na : starEach [a] X.env = (false, eval a X.env) :: starEach [] X.env) (nb : starEach [.Call (.Name "range" p2) [a] [] pos2] X.env = (false, eval (.Call (.Name "range" p2) [a] [] pos2) X.env) :: starEach [] X.env) :
    PDL X (.Call (.Name "list" p1) [.Call (.Name "range" p2) [a] [] pos2] [] pos) Γ ((List.range n).map nD) := .mk fun σ H st Q q =>
  ⟨_, pe_listRg hc hg hm (prg_1 hg2 hm2 (wE_ok a) na) nb, h σ H st _ fun v H1 e1 hv => by
    cases hv
    refine ⟨(n : Int), rfl, ⟨by omega, by omega, by omega, by omega, by omega⟩, fun p hp => ?_⟩
    have e : rgV 0 (n : Int) = ((List.range n).map fun n : Nat => (n : Int)).map V.int := by
      unfold rgV
      rw [List.map_map]
      have e0 : ((n : Int) - 0).toNat = n := by omega
      rw [e0]
      refine List.map_congr_left fun i _ => ?_
      show V.int (0 + (i : Int)) = V.int (i : Int)
      rw [Int.zero_add]
    rw [e, nD_ints] at *
    exact q p _ _ (same_back e1 hp) (e1.trans (same_new hp)) upd_same (HdA.ints _)⟩
theorem pd_tuprg {n : Nat} {p1 p2 pos2 : Pos} (h : PD X a Γ (.int (n : Int))) (hn : n ≤ 10000000) (hc : X.calm = true) (hg : Gl X "tuple") (hm : X.mg "tuple" = none) (hg2 : Gl X "range") (hm2 : X.mg "range" = none)
    (na : starEach [a] X.env = (false, eval a X.env) :: starEach [] X.env) (nb : starEach [.Call (.Name "range" p2) [a] [] pos2] X.env = (false, eval (.Call (.Name "range" p2) [a] [] pos2) X.env) :: starEach [] X.env) :
    PD X (.Call (.Name "tuple" p1) [.Call (.Name "range" p2) [a] [] pos2] [] pos) Γ (.tuple ((List.range n).map nD)) := .mk fun σ H st Q q =>
  ⟨_, pe_tupRg hc hg hm (prg_1 hg2 hm2 (wE_ok a) na) nb, h σ H st _ fun v H1 e1 hv => by
    cases hv
    refine ⟨(n : Int), rfl, ⟨by omega, by omega, by omega, by omega, by omega⟩, fun p hp => ?_⟩
    have e : rgV 0 (n : Int) = ((List.range n).map fun n : Nat => (n : Int)).map V.int := by
      unfold rgV
      rw [List.map_map]
      have e0 : ((n : Int) - 0).toNat = n := by omega
      rw [e0]
      refine List.map_congr_left fun i _ => ?_
      show V.int (0 + (i : Int)) = V.int (i : Int)
      rw [Int.zero_add]
    rw [e, nD_ints] at *
    exact q _ _ (e1.trans (same_new hp)) (.tup (SqT.of upd_same) (HdA.ints _))⟩
theorem pd_gint {x : Str} {i : Int} (h : ∃ t, X.mg x = some (.int i t)) (hg : Gl X x) (hd : (x == ("__debug__" : Str)) = false) : PD X (.Name x pos) Γ (.int i) := .mk fun σ H st Q q => by
  obtain ⟨t, h⟩ := h
  exact ⟨_, pe_glob (v := .int i) hg h ⟨t, rfl⟩ hd, q _ H (Same.refl H) (.int i)⟩
end
end Tw
namespace Tw
open PySem PySem.Spec PyProof.Rows L2
/-! ### [x for x in t if c], whatever stands in t -/
section
variable {X : Cx} {c iter : Expr} {pos : Pos} {Γ : Ev} {ds : List PyData}
theorem pdl_lcV (keep : PyData → Bool) {scope : Scope} {x : Str} {j : Nat} {tp ep : Pos} (hi : PD X iter Γ (.tuple ds)) (hz : ds.length ≤ 16000000)
    (ht : ∀ (s : Shared) (H : Hp) (C : Addr) (cl : List (Str × Addr)) (fp : List Addr), ∀ d ∈ ds, PTD (Bk X scope s H C cl fp) c (Γ.set j (some d)) (keep d))
    (hv : ∀ (s : Shared) (H : Hp) (C : Addr) (cl : List (Str × Addr)) (fp : List Addr), PE (Bk X scope s H C cl fp) (.Name x ep) (tVar j)) (hjl : j < Γ.length)
    (hc : X.calm = true) (hN : X.N.Nodup) (ok : blkC X.N X.env.scope scope [(x, j)] = true)
    (hg : ∀ (s : Shared) (H : Hp) (C : Addr) (cl : List (Str × Addr)) (fp : List Addr), PG (Bk X scope s H C cl fp) (.Name x tp) (gName j)) (hs : ∀ x, foldedSetIterable iter X.env x = pure x := by intro _; rfl) :
    PDL X (.ListComp (.Name x ep) [⟨.Name x tp, iter, [c], 0⟩] scope pos) Γ (ds.filter keep) := .mk fun σ H st Q q =>
  ⟨_, pe_lc (own := [(x, j)]) (g := gName j) (te := tVar j) hc hN (pi_tup (wE_ok iter)) (blkOk_by ok) hg (fun s H C cl fp => bTs_ok [c] s H C cl fp) hv hs, hi σ H st _ fun v H1 e1 hv => by
    obtain ⟨a, xs, rfl, h1, h2⟩ := hv.tup_inv
    refine ⟨a, rfl, ⟨xs, h1⟩, fun D hD => ?_⟩
    have hlen := h2.length
    have st1 := (st.same e1)
    refine lc_tup (K := X.K) (a := a) (xs := xs) (fun i H2 => Same H1 H2 ∧ ∃ acc, H2 D = some (.lst acc) ∧ HdA X.K H1 acc ((ds.take i).filter keep)) ⟨same_mut (Same.refl _) hD, [], upd_same, by rw [List.take_zero]; exact .nil⟩ (fun i H2 _ p => Same.sqt p.1 h1) (fun i y H2 hy p => ?_) (fun H2 p => ?_)
    · obtain ⟨e2, acc, ha, hacc⟩ := p
      obtain ⟨d, hd, hyd⟩ := h2.getV hy
      have hdm : d ∈ ds := List.mem_of_getElem? hd
      have hil : i < ds.length := (List.getElem?_eq_some_iff.mp hd).1
      have tk : ds.take (i + 1) = ds.take i ++ [d] := by rw [List.take_add_one, hd] <;> rfl
      have hal : acc.length ≤ i := by
        rw [hacc.length]
        refine Nat.le_trans (List.length_filter_le _ _) ?_
        rw [List.length_take]
        exact Nat.min_le_left _ _
      have q1 := ((st1.same e2).wipe (own := [j])).set (i := j) (hyd.same e2)
      have e5 : ([j].foldr (fun i g => g.set i none) Γ).set j (some d) = Γ.set j (some d) := List.set_set ..
      rw [e5] at q1
      refine ⟨set_wipe, fun s H' C cl fp => ⟨_, pts_one (wT_ok c), ht s H' C cl fp d hdm _ _ q1 _ fun H4 e4 => ?_⟩⟩
      have hjs : j < (wipe σ [j]).length := by rw [wipe_length, ← st.1]; exact hjl
      cases hk : keep d with
      | true =>
        rw [if_pos rfl]
        refine ⟨y, (show ((wipe σ [j]).set j (some y))[j]? = _ from List.getElem?_set_self hjs), acc, e4 _ _ ha, Nat.lt_of_le_of_lt hal (Nat.lt_of_lt_of_le hil (sz_of hz)), same_mut (e2.trans e4) hD, _, upd_same, ?_⟩
        rw [tk, List.filter_append, List.filter_cons, if_pos hk]
        exact hacc.snoc hyd
      | false =>
        rw [if_neg (by decide)]
        refine ⟨e2.trans e4, acc, e4 _ _ ha, ?_⟩
        rw [tk, List.filter_append, List.filter_cons, if_neg (by rw [hk]; decide)]
        show HdA X.K H1 acc (_ ++ [])
        rw [List.append_nil]
        exact hacc
    · obtain ⟨e2, acc, ha, hacc⟩ := p
      rw [hlen, List.take_length] at hacc
      exact q D acc H2 (same_back e1 hD) (e1.trans e2) ha (hacc.same e2)⟩
end
/-! ### tuple * 2 -/
end Tw
namespace Tw
open PySem PySem.Spec PyProof.Rows L2
open AutoSeq1 (wpAny_loadPart')
open MeetsSeq MeetsSeq2 MeetsSeq3 SeqRoads2
theorem tuple_mul0 (l : Addr) (n : Nat) (dd : Option Addr) (sl : Array (Option Value)) (x : Int) (u : Tok) (c0 : (decide (x < -(2 ^ 63)) || decide (x ≥ 2 ^ 63)) = false) :
    Meets (Builtin.«tuple.__mul__» ⟨[.ref l, .int x u], []⟩) (fun _ R s => s.heap.get? l = some { cls := .type "tuple", dict := dd, data := .seq #[] n, slots := sl } ∧
      R (.ok (.ret (Value.ref l))) s) :=
  .of_wp fun prog w A R s h => by
    obtain ⟨hp, g, d, tk, os⟩ := s
    obtain ⟨hl, h⟩ := h
    have f1 := AutoSeq1.idx_int
    wp_walk using wpAny_loadPart' hl
    (refine wpAny_ite_false (decide_eq_false (by rw [c0]; exact Bool.false_ne_true)) ?_; wp_walk using wpAny_loadPart' hl)
    exact ⟨_, rfl, h⟩
end Tw
namespace Tw
open PySem PySem.Spec PyProof.Rows L2
section
variable {X : Cx} {d : PyData} {ds : List PyData}
def rRepT0 (K : PySem.W.Frag) : R2 := fun x y H Q => ∃ l k, x = .ref l ∧ y = .int k ∧ SqT K H l [] ∧ -1000 ≤ k ∧ k ≤ 1000 ∧ Q (.ref l) H
theorem op_repT0 : OpR X (binaryOp .Mult) (rRepT0 X.K) := by
  intro pins s σ H x y v u Q I rx ry h
  obtain ⟨l, k, rfl, rfl, hT, h1, h2, q⟩ := h
  cases rx
  obtain ⟨t, rfl⟩ := ry
  obtain ⟨its, r, ⟨⟨cls, dd, data, sl⟩, ho, hc, n, hd⟩, hs⟩ := I.tuple hT
  simp only at hc hd
  subst hc hd
  cases r
  have c0 : (decide (k < -(2 ^ 63)) || decide (k ≥ 2 ^ 63)) = false := by
    rw [decide_eq_false (by omega), decide_eq_false (by omega)] <;> rfl
  exact wpAny_binaryOp_repeat_ref (T := "tuple") (U := "int") (by decide) ⟨_, ho, rfl⟩ (fun s' => typeIs_int s' k t) noFill_tuple_mul F.fills_int_mul F.slot_int_rmul repeat_tuple F.slot_int_index.lookup
    (call_meets F.slot_int_rmul (typeIs_int s k t) F.entry_int_rmul (F.args_int_rmul_2 _ _) (int_rmul_tuple k t l #[] n dd sl)
      ⟨ho, rfl, ⟨_, ho, rfl⟩, call_meets F.slot_tuple_mul ⟨_, ho, rfl⟩ F.entry_tuple_mul (F.args_tuple_mul_2 _ _) (tuple_mul0 l n dd sl k t c0) ⟨ho, ⟨.ref l, H, I, rfl, q⟩⟩⟩)
theorem od_repT {k : Int} (h1 : 2 ≤ k) (h2 : k ≤ 1000) (hz : ds.length ≤ 1000) : OD X (binaryOp .Mult) (.tuple ds) (.int k) (.tuple (List.replicate k.toNat ds).flatten) := by
  cases ds with
  | nil =>
    have e : (List.replicate k.toNat ([] : List PyData)).flatten = [] := by
      induction k.toNat with
      | zero => rfl
      | succ n ih => rw [List.replicate_succ, List.flatten_cons, ih] <;> rfl
    rw [e]
    refine ⟨_, op_repT0, fun H x y hx hy Q q => ?_⟩
    obtain ⟨a, xs, rfl, h3, h4⟩ := hx.tup_inv
    obtain rfl := hy.int_inv
    cases h4
    exact ⟨a, k, rfl, rfl, h3, by omega, h2, q _ H (Same.refl H) (.tup h3 .nil)⟩
  | cons d0 ds =>
    refine ⟨_, op_repT, fun H x y hx hy Q q => ?_⟩
    obtain ⟨a, xs, rfl, h3, h4⟩ := hx.tup_inv
    obtain rfl := hy.int_inv
    refine ⟨a, k, xs, rfl, rfl, h3, ?_, h1, h2, by rw [h4.length]; exact hz, fun p hp => q _ _ (same_new hp) (.tup (SqT.of upd_same) ((h4.rep _).same (same_new hp)))⟩
    intro e
    subst e
    cases h4
/-- n in (ints), n not in (ints) -/
theorem inV_ints (n : Int) : ∀ ns : List Int, inV (.int n) (ns.map V.int) = decide (n ∈ ns)
  | [] => by rfl
  | m :: ns => by
    have ih := inV_ints n ns
    unfold inV at ih ⊢
    rw [List.map_cons, List.any_cons, ih]
    show (decide (m = n) || decide (n ∈ ns)) = _
    by_cases h : m = n
    · subst h
      simp
    · have h' : n ≠ m := fun e => h e.symm
      simp [h, h']
theorem flat_ints (ns : List Int) : (ns.map V.int).all flatV = true := by
  rw [List.all_map]
  exact List.all_eq_true.mpr fun _ _ => rfl
theorem od_inT {n : Int} {ns : List Int} : OD X (compareOp .In) (.int n) (.tuple (ns.map PyData.int)) (.bool (decide (n ∈ ns))) := ⟨_, op_in_seq, fun H x y hx hy Q q => by
  obtain rfl := hx.int_inv
  obtain ⟨a, xs, rfl, h3, h4⟩ := hy.tup_inv
  rw [h4.ints_inv] at h3
  refine ⟨a, _, rfl, .inr h3, rfl, flat_ints ns, ?_⟩
  rw [if_neg (by decide), inV_ints]
  exact q _ H (Same.refl H) (.bl _)⟩
theorem od_notInT {n : Int} {ns : List Int} : OD X (compareOp .NotIn) (.int n) (.tuple (ns.map PyData.int)) (.bool (!decide (n ∈ ns))) := ⟨_, op_notIn_seq, fun H x y hx hy Q q => by
  obtain rfl := hx.int_inv
  obtain ⟨a, xs, rfl, h3, h4⟩ := hy.tup_inv
  rw [h4.ints_inv] at h3
  refine ⟨a, _, rfl, .inr h3, rfl, flat_ints ns, ?_⟩
  rw [if_pos rfl, inV_ints]
  exact q _ H (Same.refl H) (.bl _)⟩
end
section
variable {X : Cx} {c : Expr} {rest A : List Stmt} {pos : Pos} {Γ : Ev} {nx mid : Ev → Prop} {rt : PyData → Prop}
/-- if c: A; the rest, from what holds behind both -/
theorem rb_ifm {k : Bool} (mid : Ev → Prop) (hc : PTD X c Γ k) (h1 : k = true → RB X A Γ (fun Γ' => ∃ Γ2, Le Γ' Γ2 ∧ mid Γ2) rt) (h2 : k = false → ∃ Γ2, Le Γ Γ2 ∧ mid Γ2) (hr : ∀ Γ2, mid Γ2 → RB X rest Γ2 nx rt) : RB X (.If c A [] pos :: rest) Γ nx rt :=
  rb_if hc h1 (fun h => rb_nil (h2 h)) fun Γ' ⟨Γ2, l, m⟩ => (hr Γ2 m).le l
end
section
variable {X : Cx} {a : Expr} {pos : Pos} {Γ : Ev}
theorem pd_tuprgI {i : Int} {p1 p2 pos2 : Pos} (h : PD X a Γ (.int i)) (h0 : 0 ≤ i) (hn : i ≤ 10000000) (hc : X.calm = true) (hg : Gl X "tuple") (hm : X.mg "tuple" = none) (hg2 : Gl X "range") (hm2 : X.mg "range" = none)
    (na : starEach [a] X.env = (false, eval a X.env) :: starEach [] X.env) (nb : starEach [.Call (.Name "range" p2) [a] [] pos2] X.env = (false, eval (.Call (.Name "range" p2) [a] [] pos2) X.env) :: starEach [] X.env) :
    PD X (.Call (.Name "tuple" p1) [.Call (.Name "range" p2) [a] [] pos2] [] pos) Γ (.tuple ((List.range i.toNat).map nD)) := by
  refine pd_tuprg (n := i.toNat) ?_ (by omega) hc hg hm hg2 hm2 na nb
  have e : ((i.toNat : Nat) : Int) = i := by omega
  rw [e]
  exact h
end
/-- max, min of a list, of a tuple of numbers -/
theorem cd_maxL {X : Cx} {ns : List Int} {m : Int} (hc : X.calm = true) (hm : m ∈ ns) (hle : ∀ y ∈ ns, y ≤ m) : CD X (.builtin "max") [.list (ns.map PyData.int)] (.int m) := ⟨_, cr_max hc, fun H xs h Q q => by
  obtain ⟨v, rfl, hv⟩ := h.one_inv
  obtain ⟨a, ys, rfl, h1, h2⟩ := hv.list_inv
  rw [h2.ints_inv] at h1
  refine ⟨a, ns, rfl, SqL.of h1, List.length_pos_of_mem hm, fun m' h3 h4 => ?_⟩
  have e : m' = m := Int.le_antisymm (hle m' h3) (h4 m hm)
  rw [e]
  exact q _ H (Same.refl H) (.int _)⟩
theorem PAD.is {X : Cx} {es : List Expr} {Γ : Ev} {ds ds' : List PyData} (h : PAD X es Γ ds) (q : ds = ds') : PAD X es Γ ds' := by rw [← q]; exact h
/-! ### the end -/
def spLaw (K : PySem.W.Frag) : Sp := fun vs H Q _ => ∃ (a : Addr) (ns : List Int), vs = [.ref a] ∧ SqL K H a (ns.map V.int) ∧ ns.length ≤ 63 ∧ ∀ H', Q (.bl true) H'
def R_law : Rel := fun ds r => ∃ ns : List Int, ds = [scD ns] ∧ r = .bool true
theorem law_fn {P : Program} {w : World} {K : PySem.W.Frag} {mg : Str → Option Value} {base : Heap} {x : Str} {k : Nat} {ps : List Str} {fa : Addr} {fd : FuncData} {oc : Value} {od : Option Addr} {osl : Array (Option Value)} (h : Df P w K mg base x k ps R_law) (hfa : mg x = some (.ref fa)) (l : K.lookup fa = some ⟨oc, od, .func fd, osl⟩) :
    FnOk P w K mg base CX0 k fa fd ps (spLaw K) := by
  obtain ⟨f, fd', hm, _, _, ok, oc', od', osl', lk⟩ := h
  rw [hfa] at hm
  cases hm
  rw [l] at lk
  cases lk
  refine ok.imp fun vs H Q E q => ?_
  obtain ⟨a, ns, rfl, hs, _, q⟩ := q
  refine ⟨[scD ns], .bool true, .cons (.scr hs) .nil, ⟨ns, rfl, rfl⟩, fun v H' _ hv => ?_⟩
  cases hv
  exact q H'
end Tw
namespace Tw
open PySem PySem.Spec PyProof.Rows L2
/-! ### bodies that change lists of their own: the slots own hold lists that no one else holds -/
structure StO (K : PySem.W.Frag) (H0 : Hp) (own : List Nat) (Γ : Ev) (σ : L2.St) (H : Hp) : Prop where
  base : Same H0 H
  st : StV K Γ σ H
  mine : ∀ i ∈ own, ∃ b vs ds, σ[i]? = some (some (.ref b)) ∧ H0 b = none ∧ H b = some (.lst vs) ∧ Γ[i]? = some (some (.list ds)) ∧ HdA K H vs ds ∧ lfA ds = true
  apart : ∀ i ∈ own, ∀ j ∈ own, i ≠ j → ∀ b, σ[i]? = some (some (.ref b)) → σ[j]? ≠ some (some (.ref b))
  still : ∀ (i : Nat) (d : PyData), i ∉ own → Γ[i]? = some (some d) → lf d = true ∨ ∃ v, σ[i]? = some (some v) ∧ Hd K H0 v d
section
variable {K : PySem.W.Frag} {H0 H H' : Hp} {own own' : List Nat} {Γ Γ' : Ev} {σ : L2.St}
theorem StO.same (e : Same H H') (h : StO K H0 own Γ σ H) : StO K H0 own Γ σ H' :=
  ⟨h.base.trans e, h.st.same e, fun i hi => let ⟨b, vs, ds, a1, a2, a3, a4, a5, a6⟩ := h.mine i hi; ⟨b, vs, ds, a1, a2, e _ _ a3, a4, a5.same e, a6⟩, h.apart, h.still⟩
/-- less is known, less is one's own -/
theorem StO.le (l : Le Γ Γ') (ho : ∀ i ∈ own', i ∈ own ∧ ∃ ds, Γ'[i]? = some (some (.list ds))) (hs : ∀ (i : Nat) (d : PyData), i ∉ own' → i ∈ own → Γ'[i]? = some (some d) → False) (h : StO K H0 own Γ σ H) : StO K H0 own' Γ' σ H :=
  ⟨h.base, h.st.le l, fun i hi => by
    obtain ⟨h1, ds', hd'⟩ := ho i hi
    obtain ⟨b, vs, ds, a1, a2, a3, a4, a5, a6⟩ := h.mine i h1
    exact ⟨b, vs, ds, a1, a2, a3, by rw [← a4, l.2 _ _ hd', ← hd'], a5, a6⟩, fun i hi j hj => h.apart i (ho i hi).1 j (ho j hj).1, fun i d hi hd => by
    by_cases q : i ∈ own
    · exact (hs i d hi q hd).elim
    · exact h.still i d q (l.2 i d hd)⟩
theorem StO.start (h : StV K Γ σ H) : StO K H [] Γ σ H := ⟨Same.refl H, h, (fun i hi => nomatch hi), (fun i hi => nomatch hi), fun i d _ hd => .inr (h.2 i d hd)⟩
theorem get_set_ne {α : Type} {l : List α} {i j : Nat} {x : α} (h : i ≠ j) : (l.set i x)[j]? = l[j]? := List.getElem?_set_ne h
/-- a slot gets a thing that holds no list -/
theorem StO.put {i : Nat} {v : V} {d : PyData} (h : StO K H0 own Γ σ H) (q : Hd K H v d) (hl : lf d = true) (ho : ∀ j ∈ own', j ∈ own ∧ j ≠ i) (hs : ∀ j ∈ own, j ∉ own' → j = i) : StO K H0 own' (Γ.set i (some d)) (σ.set i (some v)) H :=
  ⟨h.base, h.st.set q, fun j hj => by
    obtain ⟨h1, h2⟩ := ho j hj
    obtain ⟨b, vs, ds, a1, a2, a3, a4, a5, a6⟩ := h.mine j h1
    exact ⟨b, vs, ds, by rw [get_set_ne (Ne.symm h2)]; exact a1, a2, a3, by rw [get_set_ne (Ne.symm h2)]; exact a4, a5, a6⟩, fun j hj k hk hjk b => by
    rw [get_set_ne (Ne.symm (ho j hj).2), get_set_ne (Ne.symm (ho k hk).2)]
    exact h.apart j (ho j hj).1 k (ho k hk).1 hjk b, fun j e hj he => by
    by_cases hij : i = j
    · subst hij
      by_cases hlt : i < Γ.length
      · rw [List.getElem?_set_self hlt] at he
        cases he
        exact .inl hl
      · rw [List.getElem?_eq_none (by rw [List.length_set]; omega)] at he
        cases he
    · rw [get_set_ne hij] at he ⊢
      refine h.still j e (fun q => ?_) he
      exact hij (hs j q hj).symm⟩
/-- a slot gets a new list -/
theorem StO.putL {i : Nat} {p : Addr} {vs : List V} {ds : List PyData} (h : StO K H0 own Γ σ H) (e : Same H H') (hp : H p = none) (h1 : H' p = some (.lst vs)) (h2 : HdA K H' vs ds) (hl : lfA ds = true) (hlt : i < Γ.length) (ho : ∀ j ∈ own', j = i ∨ (j ∈ own ∧ j ≠ i)) (hs : ∀ j ∈ own, j ∉ own' → j = i) (hi' : i ∈ own') :
    StO K H0 own' (Γ.set i (some (.list ds))) (σ.set i (some (.ref p))) H' := by
  have hσ : i < σ.length := by rw [← h.st.1]; exact hlt
  have hm := h.same e
  have ne : ∀ j ∈ own, ∀ b, σ[j]? = some (some (.ref b)) → b ≠ p := fun j hj b hb q => by
    obtain ⟨b', vs', ds', a1, a2, a3, _⟩ := h.mine j hj
    rw [a1] at hb
    cases hb
    rw [q, hp] at a3
    cases a3
  refine ⟨hm.base, hm.st.set (.lst h1 h2), fun j hj => ?_, fun j hj k hk hjk b => ?_, fun j d hj hd => ?_⟩
  · by_cases hij : j = i
    · subst hij
      exact ⟨p, vs, ds, List.getElem?_set_self hσ, same_back h.base hp, h1, List.getElem?_set_self hlt, h2, hl⟩
    · obtain ⟨b, vs', ds', a1, a2, a3, a4, a5, a6⟩ := hm.mine j ((ho j hj).resolve_left hij).1
      exact ⟨b, vs', ds', by rw [get_set_ne (Ne.symm hij)]; exact a1, a2, a3, by rw [get_set_ne (Ne.symm hij)]; exact a4, a5, a6⟩
  · by_cases hij : j = i
    · subst hij
      rw [List.getElem?_set_self hσ, get_set_ne hjk]
      intro q r
      cases q
      exact ne k ((ho k hk).resolve_left (Ne.symm hjk)).1 p r rfl
    · rw [get_set_ne (Ne.symm hij)]
      by_cases hik : k = i
      · subst hik
        rw [List.getElem?_set_self hσ]
        intro q r
        cases r
        exact ne j ((ho j hj).resolve_left hij).1 p q rfl
      · rw [get_set_ne (Ne.symm hik)]
        exact h.apart j ((ho j hj).resolve_left hij).1 k ((ho k hk).resolve_left hik).1 hjk b
  · have hij : i ≠ j := fun q => by subst q; exact hj hi'
    rw [get_set_ne hij] at hd ⊢
    exact h.still j d (fun q => hij (hs j q hj).symm) hd
/-- one of the own lists is rewritten -/
theorem StO.mut {i : Nat} {b : Addr} {vs vs' : List V} {es : List PyData} (h : StO K H0 own Γ σ H) (hi : i ∈ own) (hb : σ[i]? = some (some (.ref b))) (hH : H b = some (.lst vs)) (h2 : HdA K H vs' es) (hl : lfA es = true) :
    StO K H0 own (Γ.set i (some (.list es))) σ (upd H b (.lst vs')) := by
  have mt : SameT K H (upd H b (.lst vs')) := SameT.mut hH
  obtain ⟨b0, vs0, ds0, c1, c2, c3, c4, c5, c6⟩ := h.mine i hi
  rw [c1] at hb
  cases hb
  have hlt : i < Γ.length := (List.getElem?_eq_some_iff.mp c4).1
  have h2' : HdA K (upd H b (.lst vs')) vs' es := HdA.lf mt _ _ hl h2
  have bs : Same H0 (upd H b (.lst vs')) := same_mut h.base c2
  have ne : ∀ j ∈ own, j ≠ i → ∀ a, σ[j]? = some (some (.ref a)) → a ≠ b := fun j hj hji a ha q => h.apart j hj i hi hji a ha (by rw [q]; exact c1)
  refine ⟨bs, ⟨by rw [List.length_set]; exact h.st.1, fun j d hd => ?_⟩, fun j hj => ?_, h.apart, fun j d hj hd => ?_⟩
  · by_cases hij : i = j
    · subst hij
      rw [List.getElem?_set_self hlt] at hd
      cases hd
      exact ⟨_, c1, .lst upd_same h2'⟩
    · rw [get_set_ne hij] at hd
      obtain ⟨v, hv, hvd⟩ := h.st.2 j d hd
      by_cases hjo : j ∈ own
      · obtain ⟨a, vs1, ds1, a1, a2, a3, a4, a5, a6⟩ := h.mine j hjo
        rw [a4] at hd
        cases hd
        exact ⟨_, a1, .lst (by rw [upd_ne (ne j hjo (Ne.symm hij) a a1)]; exact a3) (HdA.lf mt _ _ a6 a5)⟩
      · rcases h.still j d hjo hd with q | ⟨v', hv', q⟩
        · exact ⟨v, hv, Hd.lf mt _ _ q hvd⟩
        · exact ⟨v', hv', q.same bs⟩
  · by_cases hij : i = j
    · subst hij
      exact ⟨b, vs', es, c1, c2, upd_same, List.getElem?_set_self hlt, h2', hl⟩
    · obtain ⟨a, vs1, ds1, a1, a2, a3, a4, a5, a6⟩ := h.mine j hj
      exact ⟨a, vs1, ds1, a1, a2, by rw [upd_ne (ne j hj (Ne.symm hij) a a1)]; exact a3, by rw [get_set_ne hij]; exact a4, HdA.lf mt _ _ a6 a5, a6⟩
  · have hij : i ≠ j := fun q => by subst q; exact hj hi
    rw [get_set_ne hij] at hd
    exact h.still j d hj hd
/-- the heap without one's own lists -/
def hide (own : List Nat) (σ : L2.St) (H : Hp) : Hp := fun b => if ∃ i ∈ own, σ[i]? = some (some (.ref b)) then none else H b
open Classical in
theorem hide_def (own : List Nat) (σ : L2.St) (H : Hp) (b : Addr) : hide own σ H b = if ∃ i ∈ own, σ[i]? = some (some (.ref b)) then none else H b := by
  unfold hide
  by_cases h : ∃ i ∈ own, σ[i]? = some (some (.ref b))
  · rw [if_pos h]
  · rw [if_neg h]
theorem hide_same : Same (hide own σ H) H := fun b o q => by
  rw [hide_def] at q
  split at q
  · cases q
  · exact q
theorem hide_base (h : StO K H0 own Γ σ H) : Same H0 (hide own σ H) := fun b o q => by
  rw [hide_def]
  rw [if_neg]
  · exact h.base _ _ q
  · rintro ⟨i, hi, e⟩
    obtain ⟨b', vs, ds, a1, a2, _⟩ := h.mine i hi
    rw [a1] at e
    cases e
    rw [a2] at q
    cases q
theorem hide_t (h : StO K H0 own Γ σ H) : SameT K H (hide own σ H) := fun a xs q => by
  have nn : ∀ o, H a = some o → (∀ vs, o ≠ .lst vs) → hide own σ H a = some o := fun o e no => by
    rw [hide_def, if_neg]
    · exact e
    · rintro ⟨i, hi, e2⟩
      obtain ⟨b', vs, ds, a1, a2, a3, _⟩ := h.mine i hi
      rw [a1] at e2
      cases e2
      rw [e] at a3
      cases a3
      exact no _ rfl
  rcases q with (q | ⟨o, q⟩) | q
  · exact .inl (.inl (nn _ q fun vs z => by cases z))
  · exact .inl (.inr ⟨o, nn _ q fun vs z => by cases z⟩)
  · exact .inr q
/-- the same state over the heap without one's own lists -/
theorem StO.rebase (h : StO K H0 own Γ σ H) : StO K (hide own σ H) own Γ σ H :=
  ⟨hide_same, h.st, fun i hi => by
    obtain ⟨b, vs, ds, a1, a2, a3, a4, a5, a6⟩ := h.mine i hi
    exact ⟨b, vs, ds, a1, by rw [hide_def, if_pos ⟨i, hi, a1⟩], a3, a4, a5, a6⟩, h.apart, fun i d hi hd => by
    rcases h.still i d hi hd with q | ⟨v, hv, q⟩
    · exact .inl q
    · exact .inr ⟨v, hv, q.same (hide_base h)⟩⟩
/-- back to a smaller base -/
theorem StO.down {Hb : Hp} (e : Same H0 Hb) (hl : ∀ (i : Nat) (d : PyData), i ∉ own → Γ[i]? = some (some d) → lf d = true) (h : StO K Hb own Γ σ H) : StO K H0 own Γ σ H :=
  ⟨e.trans h.base, h.st, fun i hi => let ⟨b, vs, ds, a1, a2, a3, a4, a5, a6⟩ := h.mine i hi; ⟨b, vs, ds, a1, same_back e a2, a3, a4, a5, a6⟩, h.apart, fun i d hi hd => .inl (hl i d hi hd)⟩
end
/-- a walk over what holds no list -/
structure PIT (X : Cx) (tg iter : Expr) (Γ : Ev) (ds : List PyData) : Prop where
  run : ∀ (σ : L2.St) (H : Hp), StV X.K Γ σ H → ∀ R : It → Hp → Prop, (∀ J H', Same H H' → (∀ Hb, SameT X.K H' Hb → WalkD X.K J Hb ds) → R J H') → wI X tg iter σ H R
/-- it holds no list, or is a new one -/
def Frs (H0 H' : Hp) (v : V) (d : PyData) : Prop := lf d = true ∨ ∃ p vs, v = .ref p ∧ H0 p = none ∧ H' p = some (.lst vs)
theorem Frs.down {H0 Hb H' : Hp} {v : V} {d : PyData} (e : Same H0 Hb) (h : Frs Hb H' v d) : Frs H0 H' v d := h.elim .inl fun ⟨p, vs, a, b, c⟩ => .inr ⟨p, vs, a, same_back e b, c⟩
structure RO (X : Cx) (sts : List Stmt) (own : List Nat) (Γ : Ev) (nx : List Nat → Ev → Prop) (rt : PyData → Prop) : Prop where
  run : ∀ (H0 : Hp) (σ : L2.St) (H : Hp), StO X.K H0 own Γ σ H → ∀ D : Ends, (∀ own' Γ' σ' H', nx own' Γ' → StO X.K H0 own' Γ' σ' H' → D.nx σ' H') → (∀ d v H', rt d → Same H0 H' → Hd X.K H' v d → Frs H0 H' v d → D.rt v H') → wB X sts D σ H
section
variable {X : Cx} {a b c e iter tg : Expr} {es : List Expr} {rest body A B : List Stmt} {pos p : Pos} {own own' : List Nat} {Γ Γ' : Ev} {d dx dy dz : PyData} {ds : List PyData} {nx mid : List Nat → Ev → Prop} {rt : PyData → Prop}
theorem pit_tup (h : PD X iter Γ (.tuple ds)) (hl : lfA ds = true) : PIT X tg iter Γ ds := ⟨fun σ H st R q => ⟨_, pi_tup (wE_ok iter), h σ H st _ fun v H1 e1 hv => by
  obtain ⟨a, xs, rfl, h1, h2⟩ := hv.tup_inv
  exact ⟨a, rfl, ⟨xs, h1⟩, q _ H1 e1 fun Hb et => walkD_tup (et _ _ h1) (HdA.lf et _ _ hl h2)⟩⟩⟩
theorem pit_range1 {n : Nat} (ha : PD X a Γ (.int (n : Int))) (hg : Gl X "range") (hm : X.mg "range" = none) (hn : n ≤ 100000000) (hs : starEach [a] X.env = (false, eval a X.env) :: starEach [] X.env := by rfl) : PIT X tg (.Call (.Name "range" p) [a] [] pos) Γ ((List.range n).map nD) := ⟨fun σ H st R q =>
  ⟨_, pi_range1 hg hm (pa_cons (wE_ok a) pa_nil hs) hs, ha σ H st _ fun v H1 e1 hv => by
    cases hv
    refine ⟨(n : Int), rfl, by omega, by omega, q _ H1 e1 fun Hb _ => ?_⟩
    rw [List.range_eq_range']
    exact walkD_rng 0 n⟩⟩
theorem pit_range2 {lo hi : Nat} (ha : PD X a Γ (.int (lo : Int))) (hb : PD X b Γ (.int (hi : Int))) (hg : Gl X "range") (hm : X.mg "range" = none) (hn : lo ≤ 100000000) (hn2 : hi ≤ 100000000)
    (hs : starEach [a, b] X.env = (false, eval a X.env) :: starEach [b] X.env := by rfl) (hs2 : starEach [b] X.env = (false, eval b X.env) :: starEach [] X.env := by rfl) (hs3 : starEach [a, b] X.env = [(false, eval a X.env), (false, eval b X.env)] := by rfl) : PIT X tg (.Call (.Name "range" p) [a, b] [] pos) Γ ((List.range' lo (hi - lo)).map nD) := ⟨fun σ H st R q =>
  ⟨_, pi_range2 hg hm (pa_cons (wE_ok a) (pa_cons (wE_ok b) pa_nil hs2) hs) hs3 hs2, ha σ H st _ fun v H1 e1 hv => hb σ H1 (st.same e1) _ fun u H2 e2 hu => by
    cases hv
    cases hu
    refine ⟨(lo : Int), (hi : Int), rfl, ⟨by omega, by omega, by omega, by omega⟩, q _ H2 (e1.trans e2) fun Hb _ => ?_⟩
    have e0 : ((hi : Int) - (lo : Int)).toNat = hi - lo := by omega
    rw [e0]
    exact walkD_rng lo (hi - lo)⟩⟩
theorem RO.le (l : Le Γ Γ') (ho : ∀ i ∈ own', i ∈ own ∧ ∃ ds, Γ'[i]? = some (some (.list ds))) (hs : ∀ (i : Nat) (d : PyData), i ∉ own' → i ∈ own → Γ'[i]? = some (some d) → False) (h : RO X body own' Γ' nx rt) : RO X body own Γ nx rt := ⟨fun H0 σ H st D h1 h2 => h.run H0 σ H (st.le l ho hs) D h1 h2⟩
theorem RO.imp {nx' : List Nat → Ev → Prop} {rt' : PyData → Prop} (h : RO X body own Γ nx rt) (h1 : ∀ o Γ', nx o Γ' → nx' o Γ') (h2 : ∀ d, rt d → rt' d) : RO X body own Γ nx' rt' := ⟨fun H0 σ H st D k1 k2 => h.run H0 σ H st D (fun o Γ' σ' H' n => k1 o Γ' σ' H' (h1 o Γ' n)) fun d v H' r => k2 d v H' (h2 d r)⟩
theorem rb_ro {nxb : Ev → Prop} (h : RO X body [] Γ nx rt) (hn : ∀ o Γ', nx o Γ' → nxb Γ') : RB X body Γ nxb rt := .mk fun σ H st D h1 h2 => h.run H σ H (.start st) D (fun o Γ' σ' H' n s => h1 Γ' σ' H' (hn o Γ' n) s.base s.st) fun d v H' r e hv _ => h2 d v H' r e hv
theorem ro_nil (h : nx own Γ) : RO X [] own Γ nx rt := ⟨fun H0 σ H st D h1 _ => ⟨_, pss_nil, h1 own Γ σ H h st⟩⟩
theorem ro_asg {x : Str} {i : Nat} {pos' : Pos} (own' : List Nat) (he : PD X e Γ d) (hl : lf d = true) (hr : RO X rest own' (Γ.set i (some d)) nx rt) (ho : ∀ j ∈ own', j ∈ own ∧ j ≠ i) (ho2 : ∀ j ∈ own, j ∉ own' → j = i) (hN : X.N.Nodup) (hi : X.N[i]? = some x) (hx : Loc X.env.scope x)
    (hs : swapsWith e (some (.Name x pos')) pos.line X.env = pure false := by rfl) (hf : X.fn x = true ∨ X.env.scope.names.lookup x = some .local := by first | exact .inl rfl | exact .inr rfl) : RO X (.Assign [.Name x pos'] e pos :: rest) own Γ nx rt := ⟨fun H0 σ H st D h1 h2 =>
  ⟨_, pss_cons (ps_set hN hi hx (wE_ok e) hs hf) (wB_ok rest), he σ H st.st _ fun v H1 e1 hv => hr.run H0 _ H1 ((st.same e1).put hv hl ho ho2) D h1 h2⟩⟩
theorem ro_asgS {x : Str} {i : Nat} {pos' : Pos} (he : PD X e Γ d) (hl : lf d = true) (hr : RO X rest own (Γ.set i (some d)) nx rt) (ho : ∀ j ∈ own, j ≠ i) (hN : X.N.Nodup) (hi : X.N[i]? = some x) (hx : Loc X.env.scope x)
    (hs : swapsWith e (some (.Name x pos')) pos.line X.env = pure false := by rfl) (hf : X.fn x = true ∨ X.env.scope.names.lookup x = some .local := by first | exact .inl rfl | exact .inr rfl) : RO X (.Assign [.Name x pos'] e pos :: rest) own Γ nx rt :=
  ro_asg own he hl hr (fun j hj => ⟨hj, ho j hj⟩) (fun j h1 h2 => absurd h1 h2) hN hi hx hs hf
theorem ro_asgL {x : Str} {i : Nat} {pos' : Pos} (own' : List Nat) (he : PDL X e Γ ds) (hl : lfA ds = true) (hr : RO X rest own' (Γ.set i (some (.list ds))) nx rt) (hlt : i < Γ.length) (ho : ∀ j ∈ own', j = i ∨ (j ∈ own ∧ j ≠ i)) (ho2 : ∀ j ∈ own, j ∉ own' → j = i) (hio : i ∈ own') (hN : X.N.Nodup) (hi : X.N[i]? = some x) (hx : Loc X.env.scope x)
    (hs : swapsWith e (some (.Name x pos')) pos.line X.env = pure false := by rfl) (hf : X.fn x = true ∨ X.env.scope.names.lookup x = some .local := by first | exact .inl rfl | exact .inr rfl) : RO X (.Assign [.Name x pos'] e pos :: rest) own Γ nx rt := ⟨fun H0 σ H st D h1 h2 =>
  ⟨_, pss_cons (ps_set hN hi hx (wE_ok e) hs hf) (wB_ok rest), he σ H st.st _ fun p vs H1 hp e1 h3 h4 => hr.run H0 _ H1 (st.putL e1 hp h3 h4 hl hlt ho ho2 hio) D h1 h2⟩⟩
theorem ro_ret (he : PD X e Γ d) (hl : lf d = true) (hr : rt d) : RO X [.Return (some e) pos] own Γ nx rt := ⟨fun H0 σ H st D _ h2 => ⟨_, pss_one (ps_ret (wE_ok e)), he σ H st.st _ fun v H1 e1 hv => h2 d v H1 hr (st.base.trans e1) hv (.inl hl)⟩⟩
theorem ro_retL (he : PDL X e Γ ds) (hr : rt (.list ds)) : RO X [.Return (some e) pos] own Γ nx rt := ⟨fun H0 σ H st D _ h2 => ⟨_, pss_one (ps_ret (wE_ok e)), he σ H st.st _ fun p vs H1 hp e1 h3 h4 => h2 _ _ H1 hr (st.base.trans e1) (.lst h3 h4) (.inr ⟨p, vs, rfl, same_back st.base hp, h3⟩)⟩⟩
theorem ro_retO {x : Str} {i : Nat} {px : Pos} (hi : i ∈ own) (hΓ : Γ[i]? = some (some (.list ds))) (hr : rt (.list ds)) (hN : X.N[i]? = some x) (hv : Vis X.env.scope x) (hd : (x == ("__debug__" : Str)) = false := by decide) (hcd : (x == ("__classdict__" : Str)) = false := by decide) : RO X [.Return (some (.Name x px)) pos] own Γ nx rt := ⟨fun H0 σ H st D _ h2 => by
  obtain ⟨b, vs, ds', a1, a2, a3, a4, a5, a6⟩ := st.mine i hi
  rw [hΓ] at a4
  cases a4
  exact ⟨_, pss_one (ps_ret (pe_var hN hv hd hcd)), _, a1, h2 _ _ H hr st.base (.lst a3 a5) (.inr ⟨b, vs, rfl, a2, a3⟩)⟩⟩
theorem ro_if {k : Bool} (hc : PTD X c Γ k) (h1 : k = true → RO X A own Γ mid rt) (h2 : k = false → RO X B own Γ mid rt) (hr : ∀ o Γ', mid o Γ' → RO X rest o Γ' nx rt) : RO X (.If c A B pos :: rest) own Γ nx rt := ⟨fun H0 σ H st D k1 k2 =>
  ⟨_, pss_cons (ps_if (wT_ok c) (wB_ok A) (wB_ok B)) (wB_ok rest), hc σ H st.st _ fun H1 e1 => by
    have fin : ∀ sts, RO X sts own Γ mid rt → wB X sts { D with nx := wB X rest D } σ H1 := fun sts h => h.run H0 σ H1 (st.same e1) { D with nx := wB X rest D } (fun o Γ' σ' H' m st2 => (hr o Γ' m).run H0 σ' H' st2 D k1 k2) k2
    cases k with
    | true =>
      rw [if_pos rfl]
      exact fin A (h1 rfl)
    | false =>
      rw [if_neg (by decide)]
      exact fin B (h2 rfl)⟩⟩
theorem ro_ifr {k : Bool} (hc : PTD X c Γ k) (h1 : k = true → RO X A own Γ (fun _ _ => False) rt) (hr : k = false → RO X rest own Γ nx rt) : RO X (.If c A [] pos :: rest) own Γ nx rt := by
  refine ro_if (mid := fun o Γ' => k = false ∧ o = own ∧ Γ' = Γ) hc (fun e => (h1 e).imp (fun _ _ z => z.elim) fun _ z => z) (fun e => ro_nil ⟨e, rfl, rfl⟩) ?_
  rintro o Γ' ⟨e, rfl, rfl⟩
  exact hr e
/-- xs.append(e) -/
theorem ro_app {x : Str} {i : Nat} {px apos cpos spos : Pos} (hi : i ∈ own) (hΓ : Γ[i]? = some (some (.list ds))) (he : PD X e Γ d) (hl : lf d = true) (hz : ds.length ≤ 10000000) (hr : RO X rest own (Γ.set i (some (.list (ds ++ [d])))) nx rt) (hN : X.N[i]? = some x) (hv : Vis X.env.scope x)
    (hd : (x == ("__debug__" : Str)) = false := by decide) (hcd : (x == ("__classdict__" : Str)) = false := by decide) (hs : starEach [e] X.env = (false, eval e X.env) :: starEach [] X.env := by rfl)
    (hb : attributeBase (.Name x px) "append" X.env (eval (.Name x px) X.env) = eval (.Name x px) X.env := by rfl)
    (hfew : ((backTo cpos (starEach [e] X.env)).all (fun x => !x.1) && (backToKw cpos (keywordEach [] X.env)).all (fun x => x.1.isSome)
      && decide ([e].length + ([] : List Keyword).length + (if ([] : List Keyword).isEmpty then 0 else 1) < 30)) = true := by rfl)
    (hline : (apos.endLine == cpos.line) = true := by rfl) (hsw : swapsWith (.Call (.Attribute (.Name x px) "append" apos) [e] [] cpos) none spos.line X.env = pure false := by rfl) :
    RO X (.Expr (.Call (.Attribute (.Name x px) "append" apos) [e] [] cpos) spos :: rest) own Γ nx rt := ⟨fun H0 σ H st D h1 h2 => by
  refine ⟨_, pss_cons (ps_expr (pe_bm PySem.F.plainAttrs_list PySem.F.slot_list_append PySem.F.type_list_append mt_append (pe_var hN hv hd hcd) (pa_cons (wE_ok e) pa_nil hs) hb hfew hline hs rfl) hsw) (wB_ok rest), ?_⟩
  obtain ⟨b, vs, ds', a1, a2, a3, a4, a5, a6⟩ := st.mine i hi
  rw [hΓ] at a4
  cases a4
  refine ⟨_, a1, .inl ⟨rfl, _, SqL.of a3⟩, he σ H st.st _ fun v H1 e1 hv1 => ⟨b, vs, v, rfl, rfl, e1 _ _ a3, ?_, ?_⟩⟩
  · rw [a5.length, sizeLine_eq]; omega
  · refine hr.run H0 σ _ ((st.same e1).mut hi a1 (e1 _ _ a3) ((a5.same e1).snoc hv1) (lfA_append a6 ?_)) D h1 h2
    rw [lfA, hl] <;> rfl⟩
/-- xs.extend(e) -/
theorem ro_ext {x : Str} {i : Nat} {px apos cpos spos : Pos} {es' : List PyData} (hi : i ∈ own) (hΓ : Γ[i]? = some (some (.list ds))) (he : PDL X e Γ es') (hl : lfA es' = true) (hz : ds.length + es'.length ≤ 10000000) (hr : RO X rest own (Γ.set i (some (.list (ds ++ es')))) nx rt) (hN : X.N[i]? = some x) (hv : Vis X.env.scope x)
    (hd : (x == ("__debug__" : Str)) = false := by decide) (hcd : (x == ("__classdict__" : Str)) = false := by decide) (hs : starEach [e] X.env = (false, eval e X.env) :: starEach [] X.env := by rfl)
    (hb : attributeBase (.Name x px) "extend" X.env (eval (.Name x px) X.env) = eval (.Name x px) X.env := by rfl)
    (hfew : ((backTo cpos (starEach [e] X.env)).all (fun x => !x.1) && (backToKw cpos (keywordEach [] X.env)).all (fun x => x.1.isSome)
      && decide ([e].length + ([] : List Keyword).length + (if ([] : List Keyword).isEmpty then 0 else 1) < 30)) = true := by rfl)
    (hline : (apos.endLine == cpos.line) = true := by rfl) (hsw : swapsWith (.Call (.Attribute (.Name x px) "extend" apos) [e] [] cpos) none spos.line X.env = pure false := by rfl) :
    RO X (.Expr (.Call (.Attribute (.Name x px) "extend" apos) [e] [] cpos) spos :: rest) own Γ nx rt := ⟨fun H0 σ H st D h1 h2 => by
  refine ⟨_, pss_cons (ps_expr (pe_bm PySem.F.plainAttrs_list PySem.F.slot_list_extend PySem.F.type_list_extend mt_extend (pe_var hN hv hd hcd) (pa_cons (wE_ok e) pa_nil hs) hb hfew hline hs rfl) hsw) (wB_ok rest), ?_⟩
  obtain ⟨b, vs, ds', a1, a2, a3, a4, a5, a6⟩ := st.mine i hi
  rw [hΓ] at a4
  cases a4
  refine ⟨_, a1, .inl ⟨rfl, _, SqL.of a3⟩, he σ H st.st _ fun p us H1 hp e1 h3 h4 => ⟨b, p, vs, us, rfl, rfl, e1 _ _ a3, h3, ?_, ?_⟩⟩
  · rw [a5.length, h4.length, sizeLine_eq]; omega
  · exact hr.run H0 σ _ ((st.same e1).mut hi a1 (e1 _ _ a3) ((a5.same e1).append h4) (lfA_append a6 hl)) D h1 h2⟩
/-- for x in iter, over what holds no list -/
theorem ro_for {x : Str} {j : Nat} {tp : Pos} (Inv : Nat → Ev → Prop) (hi : PIT X (.Name x tp) iter Γ ds) (hlf : lfA ds = true) (hjo : j ∉ own) (h0 : ∃ Γ', Le Γ Γ' ∧ (∀ i ∈ own, ∃ ds, Γ'[i]? = some (some (.list ds))) ∧ Inv 0 Γ')
    (hs : ∀ (i : Nat) (d : PyData) (Γ' : Ev), ds[i]? = some d → Inv i Γ' → RO X body own (Γ'.set j (some d)) (fun o Γ2 => o = own ∧ ∃ Γ3, Le Γ2 Γ3 ∧ (∀ i ∈ own, ∃ ds, Γ3[i]? = some (some (.list ds))) ∧ Inv (i + 1) Γ3) rt)
    (hd : ∀ Γ', Inv ds.length Γ' → RO X rest own Γ' nx rt) (hlf2 : ∀ (i : Nat) (Γ' : Ev), Inv ds.length Γ' → ∀ d, i ∉ own → Γ'[i]? = some (some d) → lf d = true) (hp : PassesOwn (model X.prog X.w) X.A X.env X.xe) (hc : X.calm = true) (hN : X.N.Nodup) (hj : X.N[j]? = some x) (hx : Loc X.env.scope x) (hf : X.fn x = true ∨ X.env.scope.names.lookup x = some .local := by first | exact .inl rfl | exact .inr rfl) (hsi : ∀ x, foldedSetIterable iter X.env x = pure x := by intro _; rfl) :
    RO X (.For (.Name x tp) iter body [] pos :: rest) own Γ nx rt := ⟨fun H0 σ H st D k1 k2 =>
  ⟨_, pss_cons (ps_for hp hc (wI_ok (.Name x tp) iter) (pg_name (i := j) hN hj hx hf) (wB_ok body) hsi) (wB_ok rest), hi.run σ H st.st _ fun J H1 e1 w => by
    obtain ⟨Γ0, l0, o0, i0⟩ := h0
    have st1 := st.same e1
    have stb := st1.rebase
    have eb := hide_base st1
    refine for_it (w _ (hide_t st1)) (fun i σ' H' => ∃ Γ', Inv i Γ' ∧ StO X.K (hide own σ H1) own Γ' σ' H') ⟨Γ0, i0, stb.le l0 (fun i hi => ⟨hi, o0 i hi⟩) fun i d h1 h2 => absurd h2 h1⟩ (fun i σ' H' _ ⟨_, _, q⟩ => q.base) (fun i v σ' H2 H3 hi' q y => ?_) (fun σ' H2 q => ?_)
    · obtain ⟨Γ', inv, st'⟩ := q
      obtain ⟨e3, d, hd', hv⟩ := y
      have hld : lf d = true := lf_of_mem hlf (List.mem_of_getElem? hd')
      refine (hs i d Γ' hd' inv).run (hide own σ H1) (σ'.set j (some v)) H3 ((st'.same e3).put hv hld (fun k hk => ⟨hk, fun e => hjo (e ▸ hk)⟩) fun k h1 h2 => absurd h1 h2) _ (fun o Γ2 σ2 H4 n st2 => ?_) (fun d2 v2 H4 r e4 hv2 fr => k2 d2 v2 H4 r (eb.trans e4) hv2 (fr.down eb))
      obtain ⟨rfl, Γ3, l3, o3, i3⟩ := n
      exact ⟨Γ3, i3, st2.le l3 (fun i hi => ⟨hi, o3 i hi⟩) fun i d h1 h2 => absurd h2 h1⟩
    · obtain ⟨Γ', inv, st'⟩ := q
      exact (hd Γ' inv).run H0 σ' H2 (st'.down eb fun i d h1 h2 => hlf2 i Γ' inv d h1 h2) D k1 k2⟩⟩
/-- for x in a new list -/
theorem ro_forL {x : Str} {j : Nat} {tp : Pos} (Inv : Nat → Ev → Prop) (hi : PDL X iter Γ ds) (hlf : lfA ds = true) (hjo : j ∉ own) (h0 : ∃ Γ', Le Γ Γ' ∧ (∀ i ∈ own, ∃ ds, Γ'[i]? = some (some (.list ds))) ∧ Inv 0 Γ')
    (hs : ∀ (i : Nat) (d : PyData) (Γ' : Ev), ds[i]? = some d → Inv i Γ' → RO X body own (Γ'.set j (some d)) (fun o Γ2 => o = own ∧ ∃ Γ3, Le Γ2 Γ3 ∧ (∀ i ∈ own, ∃ ds, Γ3[i]? = some (some (.list ds))) ∧ Inv (i + 1) Γ3) rt)
    (hd : ∀ Γ', Inv ds.length Γ' → RO X rest own Γ' nx rt) (hlf2 : ∀ (i : Nat) (Γ' : Ev), Inv ds.length Γ' → ∀ d, i ∉ own → Γ'[i]? = some (some d) → lf d = true) (hp : PassesOwn (model X.prog X.w) X.A X.env X.xe) (hc : X.calm = true) (hN : X.N.Nodup) (hj : X.N[j]? = some x) (hx : Loc X.env.scope x) (hf : X.fn x = true ∨ X.env.scope.names.lookup x = some .local := by first | exact .inl rfl | exact .inr rfl) (hsi : ∀ x, foldedSetIterable iter X.env x = pure x := by intro _; rfl) :
    RO X (.For (.Name x tp) iter body [] pos :: rest) own Γ nx rt := ⟨fun H0 σ H st D k1 k2 =>
  ⟨_, pss_cons (ps_for hp hc (pi_list (wE_ok iter)) (pg_name (i := j) hN hj hx hf) (wB_ok body) hsi) (wB_ok rest), hi.run σ H st.st _ fun p vs H1 hp1 e1 h3 h4 => by
    obtain ⟨Γ0, l0, o0, i0⟩ := h0
    have st1 := st.same e1
    have stb := st1.rebase
    have eb := hide_base st1
    have hpb : hide own σ H1 p = some (.lst vs) := by
      rw [hide_def, if_neg]
      · exact h3
      · rintro ⟨i, hi, e2⟩
        obtain ⟨b', vs', ds', a1, a2, a3, _⟩ := st.mine i hi
        rw [a1] at e2
        cases e2
        rw [hp1] at a3
        cases a3
    refine ⟨p, rfl, ⟨vs, SqL.of h3⟩, for_it (walkD_list hpb (HdA.lf (hide_t st1) _ _ hlf h4)) (fun i σ' H' => ∃ Γ', Inv i Γ' ∧ StO X.K (hide own σ H1) own Γ' σ' H') ⟨Γ0, i0, stb.le l0 (fun i hi => ⟨hi, o0 i hi⟩) fun i d h1 h2 => absurd h2 h1⟩ (fun i σ' H' _ ⟨_, _, q⟩ => q.base) (fun i v σ' H2 H3 hi' q y => ?_) (fun σ' H2 q => ?_)⟩
    · obtain ⟨Γ', inv, st'⟩ := q
      obtain ⟨e3, d, hd', hv⟩ := y
      have hld : lf d = true := lf_of_mem hlf (List.mem_of_getElem? hd')
      refine (hs i d Γ' hd' inv).run (hide own σ H1) (σ'.set j (some v)) H3 ((st'.same e3).put hv hld (fun k hk => ⟨hk, fun e => hjo (e ▸ hk)⟩) fun k h1 h2 => absurd h1 h2) _ (fun o Γ2 σ2 H4 n st2 => ?_) (fun d2 v2 H4 r e4 hv2 fr => k2 d2 v2 H4 r (eb.trans e4) hv2 (fr.down eb))
      obtain ⟨rfl, Γ3, l3, o3, i3⟩ := n
      exact ⟨Γ3, i3, st2.le l3 (fun i hi => ⟨hi, o3 i hi⟩) fun i d h1 h2 => absurd h2 h1⟩
    · obtain ⟨Γ', inv, st'⟩ := q
      exact (hd Γ' inv).run H0 σ' H2 (st'.down eb fun i d h1 h2 => hlf2 i Γ' inv d h1 h2) D k1 k2⟩⟩
end
/-! ### defs that hand back a new list -/
def spRL (K : PySem.W.Frag) (R : List PyData → List PyData → Prop) : Sp := fun vs H Q _ => ∃ ds es, HdA K H vs ds ∧ R ds es ∧ ∀ p us H', H p = none → Same H H' → H' p = some (.lst us) → HdA K H' us es → Q (.ref p) H'
structure DfL (P : Program) (w : World) (K : PySem.W.Frag) (mg : Str → Option Value) (base : Heap) (x : Str) (k : Nat) (ps : List Str) (R : List PyData → List PyData → Prop) : Prop where
  run : ∃ f fd, mg x = some (.ref f) ∧ PySem.W.keepIn K (.ref f) = true ∧ Binds K fd ps [] ∧ FnOk P w K mg base CX0 k f fd ps (spRL K R)
theorem DfL.mono {P : Program} {w : World} {K : PySem.W.Frag} {mg : Str → Option Value} {base : Heap} {x : Str} {j k : Nat} {ps : List Str} {R : List PyData → List PyData → Prop} (h : DfL P w K mg base x j ps R) (l : j ≤ k) : DfL P w K mg base x k ps R :=
  let ⟨f, fd, a, b, c, d⟩ := h; ⟨f, fd, a, b, c, d.mono l⟩
section
variable {X : Cx} {e : Expr} {es : List Expr} {pos p : Pos} {Γ : Ev} {ds : List PyData}
theorem pdl_call {x : Str} {k : Nat} {ps : List Str} {rs : List PyData} {R : List PyData → List PyData → Prop} (F : DfL X.prog X.w X.K X.mg X.base x k ps R) (hr : Room k X.A) (hg : Gl X x) (ha : PAD X (e :: es) Γ ds) (hR : R ds rs)
    (hdb : (x == ("__debug__" : Str)) = false := by decide) (he : starEach (e :: es) X.env = (false, eval e X.env) :: starEach es X.env := by rfl) (hpl : (backTo pos (starEach es X.env)).any (·.1) = false := by rfl) : PDL X (.Call (.Name x p) (e :: es) [] pos) Γ rs := .mk fun σ H st Q q => by
  obtain ⟨f, fd, hm, hk, hb, ok⟩ := F
  exact ⟨_, pe_call ok hr hg hm hk hb .nil pass0 (wA_ok (e :: es)) hdb he hpl, ha σ H st _ fun vs H1 e1 hvs => ⟨ds, rs, by rw [List.append_nil]; exact hvs, hR, fun p us H2 hp e2 h3 h4 => q p us H2 (same_back e1 hp) (e1.trans e2) h3 h4⟩⟩
end
section
variable {P : Program} {w : World} {K : PySem.W.Frag} {mg : Str → Option Value} {base : Heap}
theorem Dn.okL {x : Str} {st : Stmt} {N ps : List Str} {k : Nat} {R : List PyData → List PyData → Prop} (D : Dn K mg x st ps) (S : FnScope N ps (defScope st)) (hl : ∀ ds r, R ds r → ds.length = ps.length) (nlf : ∀ ds r, R ds r → True)
    (hb : ∀ (f : Addr) (cdv : Value) (A : Around) (outer : List Env) (s : Shared) (H : Hp) (E : XK), Room k (bx P w K mg base N x (defScope st) f cdv A outer s H E).A → ∀ ds r, R ds r →
      RO (bx P w K mg base N x (defScope st) f cdv A outer s H E) (defBody st) [] (ds.map some ++ List.replicate (N.length - ds.length) none) (fun _ _ => False) (fun d => d = .list r)) : DfL P w K mg base x (k + 1) ps R := by
  obtain ⟨f, fd, F, b, m⟩ := D.ex
  refine ⟨f, fd, m, F.kp, b, F.ok S (fun vs H Q E h => ?_) (fun cdv A outer s H vs Q E hr h => ?_)⟩
  · obtain ⟨ds, r, hd, hR, _⟩ := h
    rw [hd.length]
    exact hl ds r hR
  · obtain ⟨ds, r, hd, hR, q⟩ := h
    refine ⟨_, wB_ok _, (hb f cdv A outer s H E hr ds r hR).run H _ H (.start (StV.start hd)) _ (fun o Γ' σ' H' n e1 => n.elim) fun d v H' n e1 hv fr => ?_⟩
    subst n
    rcases fr with fr | ⟨p, us, rfl, hp, h3⟩
    · simp [lf] at fr
    · obtain ⟨a, xs, ea, h5, h6⟩ := hv.list_inv
      cases ea
      exact q _ _ H' hp e1 h5 h6
end
section
variable {X : Cx} {c e : Expr} {pos : Pos} {own : List Nat} {Γ : Ev} {rest A : List Stmt} {nx : List Nat → Ev → Prop} {rt : PyData → Prop}
/-- if c: x = e, an int before and behind -/
theorem ro_ifI {x : Str} {i : Nat} {pos' pos2 : Pos} {q : Prop} {dq : Decidable q} {u v : Int} (hc : PTD X c Γ (decide q)) (he : q → PD X e Γ (.int u)) (h0 : Γ[i]? = some (some (.int v))) (hr : RO X rest own (Γ.set i (some (.int (if q then u else v)))) nx rt) (hio : ∀ j ∈ own, j ≠ i) (hN : X.N.Nodup) (hi : X.N[i]? = some x) (hx : Loc X.env.scope x)
    (hs : swapsWith e (some (.Name x pos')) pos2.line X.env = pure false := by rfl) (hf : X.fn x = true ∨ X.env.scope.names.lookup x = some .local := by first | exact .inl rfl | exact .inr rfl) : RO X (.If c [.Assign [.Name x pos'] e pos2] [] pos :: rest) own Γ nx rt := by
  refine ro_if (mid := fun o Γ' => o = own ∧ Γ' = Γ.set i (some (.int (if q then u else v)))) hc (fun h => ?_) (fun h => ro_nil ⟨rfl, ?_⟩) ?_
  · have h' := of_decide_eq_true h
    refine ro_asg own (he h') rfl (ro_nil ⟨rfl, by rw [if_pos h']⟩) (fun j hj => ⟨hj, hio j hj⟩) (fun j h1 h2 => absurd h1 h2) hN hi hx hs hf
  · have h' := of_decide_eq_false h
    rw [if_neg h']
    obtain ⟨hl, e1⟩ := List.getElem?_eq_some_iff.mp h0
    rw [← e1, List.set_getElem_self]
  · rintro o Γ' ⟨rfl, rfl⟩
    exact hr
theorem ro_ifm {k : Bool} (mid : Ev → Prop) (hc : PTD X c Γ k) (h1 : k = true → RO X A own Γ (fun o Γ' => o = own ∧ mid Γ') rt) (h2 : k = false → mid Γ) (hr : ∀ Γ2, mid Γ2 → RO X rest own Γ2 nx rt) : RO X (.If c A [] pos :: rest) own Γ nx rt := by
  refine ro_if (mid := fun o Γ' => o = own ∧ mid Γ') hc h1 (fun h => ro_nil ⟨rfl, h2 h⟩) ?_
  rintro o Γ' ⟨rfl, m⟩
  exact hr Γ' m
end
end Tw
namespace Tw
open PySem PySem.Spec PyProof.Rows L2 HT
/-! ### t[::-1], t.index(n) -/
theorem pickRev (xs : Array Value) : ((List.range xs.size).filterMap fun (k : Nat) => xs[((xs.size : Int) - 1 + (k : Int) * (-1)).toNat]?).toArray = xs.toList.reverse.toArray := by
  have e : (fun (k : Nat) => xs[((xs.size : Int) - 1 + (k : Int) * (-1)).toNat]?) = (fun k => xs[k]?) ∘ fun k => xs.size - 1 - k := by
    funext k
    have e1 : ((xs.size : Int) - 1 + (k : Int) * (-1)).toNat = xs.size - 1 - k := by omega
    rw [e1] <;> rfl
  rw [e, ← List.filterMap_map, PySem.W.krv_range, List.filterMap_reverse]
  have h := PySem.W.krv_all xs
  rw [h]
section
variable {prog : Program} {w : World} {A : Around} {E : Value → Shared → Prop} {s : Shared}
theorem appliedRev {sl : Addr} {vs : Value} {n : Nat} {Q : Int × Int × Nat → Shared → Prop} (hs : s.heap.IsSliceOf sl .none .none vs) (ps : IsPart vs (some (-1)))
    (h : Q ((n : Int) - 1, -1, n) s) : wpAny (model prog w) A (Builtin.Slice.sliceApplied (.ref sl) (pure (n : Int))) Q E s := by
  obtain ⟨os, hos, hcs, hds⟩ := id hs
  unfold Builtin.Slice.sliceApplied Builtin.Slice.sliceFields
  refine wpAny_bind (wpAny_bind (wpAny_field hos hds (x := .none) rfl (wpAny_bind (wpAny_field hos hds (x := .none) rfl (wpAny_bind (wpAny_field hos hds (x := vs) rfl (wpAny_pure ?_)))))))
  refine wpAny_bind (slicePart_ ps ?_)
  show wpAny _ _ (if ((-1 : Int) == 0) = true then _ else _) _ _ s
  rw [if_neg (by decide)]
  refine wpAny_bind (slicePart_none (wpAny_bind (slicePart_none (wpAny_bind (wpAny_pure ?_)))))
  show wpAny _ _ (pure ((n : Int) - 1, (-1 : Int), Builtin.Slice.slicePlaces ((n : Int) - 1) (-1) (-1))) _ _ s
  have e : Builtin.Slice.slicePlaces ((n : Int) - 1) (-1) (-1) = n := by
    unfold Builtin.Slice.slicePlaces
    have h1 : ¬ ((-1 : Int) > 0) := by decide
    simp only [h1, if_false]
    rw [show (- -1 : Int) = 1 by decide, Int.ediv_one]
    split <;> omega
  rw [e]
  exact wpAny_pure h
theorem getItem_tuple_rev {t sl : Addr} {items : Array Value} {vs : Value} {Q : Value → Shared → Prop} (ht : IsTup s.heap t items) (hs : s.heap.IsSliceOf sl .none .none vs) (ps : IsPart vs (some (-1)))
    (h : Q (.ref s.heap.objs.size) { s with heap := s.heap.push { cls := .type "tuple", data := .seq items.toList.reverse.toArray } })
    (hsz : items.size ≤ sizeLine) : wpAny (model prog w) A (getItem (.ref t) (.ref sl)) Q E s := by
  have htake : sizeOk (.seq items.toList.reverse.toArray) := by
    show items.toList.reverse.toArray.size ≤ sizeLine
    rw [List.size_toArray, List.length_reverse, Array.length_toList]
    exact hsz
  obtain ⟨os, hos, hcs, hds⟩ := id hs
  have hTs : s.TypeIs (.ref sl) "slice" := ⟨os, hos, hcs⟩
  unfold getItem
  try with_reducible refine wpAny_holding ?_
  first | refine wpAny_bind (wpAny_pure ?_) | skip
  refine wpAny_bind (wpAny_sequenceKey ht.typeIs (by decide) ?_)
  refine wpAny_bind (wpAny_callSpecial?_slot (name := Str.ofString "__getitem__") ht.typeIs PyProof.Rows.slot_tuple_getitem
    (wpAny_call_entry PyProof.Rows.slot_tuple_getitem ht.typeIs entry_tuple_getitem ?_ (args_tuple_getitem _ _)))
  show wpAny _ _ (Builtin.Tuple.tupleItemsOf (.ref t) >>= _) _ _ s
  refine wpAny_bind (tupleItemsOf_ ht ?_)
  refine wpAny_bind (wpAny_typeOf hTs ?_)
  rw [if_pos (by decide)]
  refine wpAny_bind (appliedRev hs ps ?_)
  have hno : ¬ ((((items.size : Int) - 1) == 0 && (-1 : Int) == 1 && items.size == items.size) = true) := by
    intro q
    rw [Bool.and_eq_true, Bool.and_eq_true] at q
    exact absurd q.1.2 (by decide)
  show wpAny _ _ (if (((items.size : Int) - 1) == 0 && (-1 : Int) == 1 && items.size == items.size) = true then _ else _) _ _ s
  rw [if_neg hno, pickRev]
  first
    | exact wpAny_bind (m := Builtin.Tuple.tupleExact _) (wpAny_newObj_type (wpAny_pure ⟨_, rfl, wpAny_pure h⟩) htake)
    | exact wpAny_bind (m := Builtin.Tuple.tupleExact _) (wpAny_newObj_type (wpAny_bind (wpAny_pure (wpAny_pure ⟨_, rfl, wpAny_pure h⟩))) htake)
    | exact wpAny_bind (wpAny_bind (m := Builtin.Tuple.tupleExact _) (wpAny_newObj_type (wpAny_pure (wpAny_pure ⟨_, rfl, wpAny_pure h⟩)) htake))
    | exact wpAny_bind (wpAny_bind (m := Builtin.Tuple.tupleExact _) (wpAny_newObj_type (wpAny_pure ⟨_, rfl, wpAny_pure h⟩) htake))
end
section
variable {X : Cx}
def tRevT (K : PySem.W.Frag) (te : TE) : TE := fun σ H Q => te σ H fun x H1 => ∃ a xs, x = .ref a ∧ SqT K H1 a xs ∧ ∀ p, H1 p = none → Q (.ref p) (upd H1 p (.tup xs.reverse))
theorem pe_revT {e : Expr} {te : TE} {k : Nat} {p1 p2 p3 pos : Pos} (he : PE X e te) : PE X (.Subscript e (.Slice none none (some (.UnaryOp .USub (.Constant (.int 1) k p1) p2)) p3) pos) (tRevT X.K te) := by
  refine ⟨fun pins s σ H Q I h => ?_⟩
  refine Subscript_ (thn (he.run pins s σ H _ I h) fun v s1 ⟨x, H1, I1, r1, q1⟩ => ?_)
  obtain ⟨a, xs, ex, hx, q⟩ := q1
  subst ex
  cases r1
  have hst : PO X (some (.UnaryOp .USub (.Constant (.int 1) k p1) p2)) (tPart (tUn (rU fun i => .int (-i)) (tC (.int 1)))) := po_some (pe_un un_neg pe_int)
  refine wpAny_Slice (thn (po_none.run pins s1 σ H1 (fun o H2 => o = none ∧ H2 = H1) I1 ⟨rfl, rfl⟩) fun vl s2 ⟨l, H2, I2, pl, el, e2⟩ => ?_)
  subst el e2
  refine thn (po_none.run pins s2 σ H2 (fun o H3 => o = none ∧ H3 = H2) I2 ⟨rfl, rfl⟩) fun vu s3 ⟨u, H3, I3, pu, eu, e3⟩ => ?_
  subst eu e3
  refine thn (hst.run pins s3 σ H3 (fun o H4 => o = some (-1) ∧ H4 = H3) I3 ⟨1, rfl, -1, rfl, rfl, rfl⟩) fun vs s4 ⟨o, H4, I4, ps, eo, e4⟩ => ?_
  subst eo e4
  have I5 : Inv X pins σ H4 { s4 with heap := s4.heap.push { cls := .type "slice", data := .fields #[vl, vu, vs] } } := I4.kept (t' := s4.toks) fun b ob q => Heap.get?_push_of_some _ q
  obtain ⟨its, r, ht, hz⟩ := I5.tuple hx
  have hlen := r.length
  cases pl
  cases pu
  show wpAny (model X.prog X.w) X.A (subscriptTail e (.Slice none none (some (.UnaryOp .USub (.Constant (.int 1) k p1) p2)) p3) (.ref a) (.ref s4.heap.objs.size)) (EP X pins σ Q) X.xe { s4 with heap := s4.heap.push { cls := .type "slice", data := .fields #[.none, .none, vs] } }
  refine tail_any (ops := [.ref a, .ref s4.heap.objs.size]) ht.typeIs (PyProof.Rows.slot_tuple_getitem.lookup) ?_ (by with_unfolding_all rfl)
  refine getItem_tuple_rev ht (Heap.IsSliceOf.new _ .none .none vs) ps ?_ (by rw [List.size_toArray]; omega)
  refine ⟨.ref _, _, I5.laid (t' := s4.toks) (o := .tup xs.reverse) (fun b ob q => Heap.get?_push_of_some _ q) (Nat.le_refl _) ?_, rfl, q _ (I5.hok.fresh (Nat.le_refl _))⟩
  exact ⟨by rw [List.length_reverse]; exact hz, _, r.reverse, IsTup.new _ _⟩
/-- t.index(n), the first place -/
theorem mt_tup_indexI : MtR X "tuple.index" (fun x xs H Q => ∃ p, ∃ ys : List Int, ∃ z j, x = .ref p ∧ xs = [.int z] ∧ SqT X.K H p (ys.map V.int) ∧ ys[j]? = some z ∧ (∀ m, m < j → ys[m]? ≠ some z) ∧ Q (.int (j : Nat)) H) := by
  intro pins s σ H x xs v us Q I rx rs h
  obtain ⟨p, ys, z, j, rfl, rfl, hq, hy, hno, q⟩ := h
  cases rx
  obtain ⟨u, rfl, t, rfl⟩ := vals1 rs
  obtain ⟨its, r, pl, hz⟩ := I.tuple hq
  obtain ⟨⟨cls, dd, dt, sl⟩, ho, hc, n, hd⟩ := pl
  simp only at hc hd
  subst hc
  subst hd
  have hl : its.toArray.size = ys.length := by rw [List.size_toArray, ← r.length, List.length_map]
  have hj : j < its.toArray.size := by rw [hl]; exact (List.getElem?_eq_some_iff.mp hy).1
  have at' : ∀ (m : Nat) (hm : m < its.toArray.size), ∃ y t', ys[m]? = some y ∧ its.toArray[m] = Value.int y t' := fun m hm => by
    have hm' : m < ys.length := by rw [← hl]; exact hm
    obtain ⟨w, hw, t', hw'⟩ := r.get (i := m) (x := .int ys[m]) (by simp [hm'])
    refine ⟨ys[m], t', List.getElem?_eq_getElem hm', ?_⟩
    have e := (List.getElem?_eq_some_iff.mp hw).2
    rw [← hw', ← e]
    simp
  have fi : (ys.map V.int).all flatV = true := by
    rw [List.all_map]
    exact List.all_eq_true.mpr fun _ _ => rfl
  refine call_meets PySem.F.slot_tuple_index ⟨_, ho, rfl⟩ PySem.F.entry_tuple_index (PySem.F.args_tuple_index_2 _ _) (TI.tuple_indexAt p its.toArray n dd sl (.int z t) (eqU (.int z)) j hj ?_ ?_)
    ⟨ho, fun w hw => mem_eqAt (x := .int z) ⟨t, rfl⟩ rfl r fi w (by simpa using hw), ⟨.int (j : Nat), H, I.tok _, ⟨_, rfl⟩, q⟩⟩
  · obtain ⟨y, t', h1, h2⟩ := at' j hj
    rw [hy] at h1
    cases h1
    rw [h2]
    show decide _ = true
    simp
  · intro m hm hmj
    obtain ⟨y, t', h1, h2⟩ := at' m hm
    rw [h2]
    have hne : y ≠ z := fun e => hno m hmj (e ▸ h1)
    show decide _ = false
    simpa using hne
end
section
variable {X : Cx} {e : Expr} {pos p : Pos} {Γ : Ev} {ds : List PyData}
theorem pd_revT {k : Nat} {p1 p2 p3 : Pos} (h : PD X e Γ (.tuple ds)) : PD X (.Subscript e (.Slice none none (some (.UnaryOp .USub (.Constant (.int 1) k p1) p2)) p3) pos) Γ (.tuple ds.reverse) := .mk fun σ H st Q q =>
  ⟨_, pe_revT (wE_ok e), h σ H st _ fun v H1 e1 hv => by
    obtain ⟨a, xs, rfl, h1, h2⟩ := hv.tup_inv
    exact ⟨a, xs, rfl, h1, fun p hp => q _ _ (e1.trans (same_new hp)) (.tup (SqT.of upd_same) (h2.reverse.same (same_new hp)))⟩⟩
theorem pdl_revL {k : Nat} {p1 p2 p3 : Pos} (h : PD X e Γ (.list ds)) : PDL X (.Subscript e (.Slice none none (some (.UnaryOp .USub (.Constant (.int 1) k p1) p2)) p3) pos) Γ ds.reverse := .mk fun σ H st Q q =>
  ⟨_, pe_revL (wE_ok e), h σ H st _ fun v H1 e1 hv => by
    obtain ⟨a, xs, rfl, h1, h2⟩ := hv.list_inv
    exact ⟨a, xs, rfl, SqL.of h1, fun p hp => q p _ _ (same_back e1 hp) (e1.trans (same_new hp)) upd_same (h2.reverse.same (same_new hp))⟩⟩
theorem PD.pl {ns : List Int} (h : PD X e Γ (plnD ns)) : PD X e Γ (.tuple (ns.map PyData.int)) := .mk fun σ H st Q q => h σ H st Q fun v H' e1 hv => q v H' e1 hv.pl_tup
theorem pd_varP {i : Nat} {x : Str} {ns : List Int} (hN : X.N[i]? = some x) (hΓ : Γ[i]? = some (some (plnD ns))) (hv : Vis X.env.scope x) (hd : (x == ("__debug__" : Str)) = false)
    (hcd : (x == ("__classdict__" : Str)) = false) : PD X (.Name x pos) Γ (.tuple (ns.map PyData.int)) := (pd_var hN hΓ hv hd hcd).pl
abbrev plnR (xs : List Nat) : PyData := plnD (xs.map fun n : Nat => (n : Int))
theorem Hd.plR {K : PySem.W.Frag} {H : Hp} {v : V} {xs : List Nat} (h : Hd K H v (plnR xs)) : Hd K H v (rowD xs) := by
  show Hd K H v (.tuple (xs.map nD))
  rw [nD_ints]
  exact h.pl_tup
theorem PD.plR {xs : List Nat} (h : PD X e Γ (plnR xs)) : PD X e Γ (rowD xs) := .mk fun σ H st Q q => h σ H st Q fun v H' e1 hv => q v H' e1 hv.plR
theorem pd_varR {i : Nat} {x : Str} {xs : List Nat} (hN : X.N[i]? = some x) (hΓ : Γ[i]? = some (some (plnR xs))) (hv : Vis X.env.scope x) (hd : (x == ("__debug__" : Str)) = false)
    (hcd : (x == ("__classdict__" : Str)) = false) : PD X (.Name x pos) Γ (rowD xs) := (pd_var hN hΓ hv hd hcd).plR
/-- tuple(list): an exact tuple -/
theorem call_tuple_ofP : CallR X (.type "tuple") (fun xs H Q => ∃ p ys, xs = [.ref p] ∧ SqL X.K H p ys ∧ ∀ (l : Addr) (o : Obj), H l = none → o.dict = none → Q (.ref l) (upd H l (.frz o (.tup ys)))) := by
  intro pins s σ H xs us Q I r h
  obtain ⟨p, ys, rfl, hq, q⟩ := h
  obtain ⟨u, rfl, rx⟩ := vals1 r
  cases rx
  obtain ⟨its, r', pl, hz⟩ := I.list hq
  have hlen := r'.length
  refine call_tuple_list pl.isList (fun h' kp => ?_) (by simp only [List.size_toArray] <;> omega)
  have I1 : Inv X pins σ H { s with heap := h' } := I.kept (t' := s.toks) kp
  have I2 : Inv X pins σ (upd H h'.objs.size (.frz { cls := .type "tuple", data := .seq its.toArray } (.tup ys))) { s with heap := h'.push { cls := .type "tuple", data := .seq its.toArray } } :=
    I1.laid (t' := s.toks) (fun b o e => Heap.get?_push_of_some _ e) (Nat.le_refl _) (show ObjOk X.prog X.w _ _ _ (.frz _ (.tup ys)) from ⟨Heap.get?_push_size _ rfl, hz, its, r', IsTup.new _ _⟩)
  exact ⟨.ref h'.objs.size, _, I2, rfl, q _ _ (I1.hok.fresh (Nat.le_refl _)) rfl⟩
theorem cd_tupP {ns : List Int} : CD X (.type "tuple") [.list (ns.map PyData.int)] (plnD ns) := ⟨_, call_tuple_ofP, fun H xs h Q q => by
  obtain ⟨v, rfl, hv⟩ := h.one_inv
  obtain ⟨a, ys, rfl, h1, h2⟩ := hv.list_inv
  rw [h2.ints_inv] at h1
  exact ⟨a, _, rfl, SqL.of h1, fun l o hl hd => q _ _ (same_new hl) (.pln upd_same hd)⟩⟩
theorem pd_tupP {ns : List Int} (h : PD X e Γ (.list (ns.map PyData.int))) (hg : Gl X "tuple") (hm : X.mg "tuple" = none) (hs : starEach [e] X.env = (false, eval e X.env) :: starEach [] X.env) : PD X (.Call (.Name "tuple" p) [e] [] pos) Γ (plnD ns) :=
  pd_callT cd_tupP hg hm bb_tuple (pad_cons h pad_nil hs) (by decide) (by decide) hs rfl
end
/-! a method of an exact tuple -/
section
variable {X : Cx} {o e : Expr} {es : List Expr} {to : TE} {t : TA} {name : Str} {apos cpos : Pos} {id : String} {r : V → List V → Hp → VK → Prop}
def tBMT (r : V → List V → Hp → VK → Prop) (to : TE) (t : TA) : TE := fun σ H Q => to σ H fun x H1 => (∃ p ob xs, x = .ref p ∧ H1 p = some (.frz ob (.tup xs)) ∧ ob.dict = none) ∧ t σ H1 fun xs H2 => r x xs H2 Q
theorem pe_bmT (slot : Slot "tuple" name id) (hty : typeOf (.builtin id) = pure (.type "method_descriptor")) (hm : MtR X id r) (ho : PE X o to) (ha : PA X (e :: es) t)
    (hbase : attributeBase o name X.env (eval o X.env) = eval o X.env)
    (hfew : ((backTo cpos (starEach (e :: es) X.env)).all (fun x => !x.1) && (backToKw cpos (keywordEach [] X.env)).all (fun x => x.1.isSome)
      && decide ((e :: es).length + ([] : List Keyword).length + (if ([] : List Keyword).isEmpty then 0 else 1) < 30)) = true)
    (hline : (apos.endLine == cpos.line) = true) (hs : starEach (e :: es) X.env = (false, eval e X.env) :: starEach es X.env) (hplain : (backTo cpos (starEach es X.env)).any (·.1) = false) :
    PE X (.Call (.Attribute o name apos) (e :: es) [] cpos) (tBMT r to t) := by
  refine ⟨fun pins s σ H Q I h => ?_⟩
  refine wpAny_Call_method_late hbase hfew hline rfl (thn (ho.run pins s σ H _ I h) fun v s1 ⟨x, H1, I1, r1, ty, q1⟩ => ?_)
  obtain ⟨p, ob, xs, rfl, hp, hd⟩ := ty
  cases r1
  obtain ⟨e1, hz, its, rv, ob', e2, hc, _⟩ := I1.hok _ _ hp
  rw [e1] at e2
  cases e2
  refine ⟨"tuple", id, PySem.F.plainAttrs_tuple, slot, hty, ⟨ob, e1, hc⟩, fun a ea => by cases ea; exact ⟨ob, e1, hd⟩, ?_⟩
  have hA := ha.run cpos pins s1 σ H1 _ I1 q1
  rw [hs] at hA ⊢
  refine Calls.callWith_builtin (by show (false || (backTo cpos (starEach es X.env)).any (·.1)) = false; rw [hplain] <;> rfl) (Calls.evalArgs_plain ?_)
  exact thn hA fun us s2 ⟨vs, H2, I2, r2, q2⟩ => hm pins s2 σ H2 (.ref p) vs (.ref p) us Q I2 (show RelV (.ref p) (Value.ref p) from rfl) r2 q2
/-- t.index(n) -/
theorem pd_tindex {Γ : Ev} {ns : List Int} {n : Int} (hn : n ∈ ns) (ho : PD X o Γ (plnD ns)) (ha : PD X e Γ (.int n)) (hs : starEach [e] X.env = (false, eval e X.env) :: starEach [] X.env)
    (hbase : attributeBase o "index" X.env (eval o X.env) = eval o X.env)
    (hfew : ((backTo cpos (starEach [e] X.env)).all (fun x => !x.1) && (backToKw cpos (keywordEach [] X.env)).all (fun x => x.1.isSome)
      && decide ([e].length + ([] : List Keyword).length + (if ([] : List Keyword).isEmpty then 0 else 1) < 30)) = true)
    (hline : (apos.endLine == cpos.line) = true) : PD X (.Call (.Attribute o "index" apos) [e] [] cpos) Γ (nD (ns.idxOf n)) := .mk fun σ H st Q q => by
  refine ⟨_, pe_bmT PySem.F.slot_tuple_index PySem.F.type_tuple_index mt_tup_indexI (wE_ok o) (pa_cons (wE_ok e) pa_nil hs) hbase hfew hline hs rfl, ho σ H st _ fun v H1 e1 hv => ?_⟩
  obtain ⟨a, ob, rfl, h1, h2⟩ := hv.pl_inv
  refine ⟨⟨a, ob, _, rfl, h1, h2⟩, ha σ H1 (st.same e1) _ fun u H2 e2 hu => ?_⟩
  obtain rfl := hu.int_inv
  obtain ⟨i1, i2⟩ := idx_at hn
  exact ⟨a, ns, n, ns.idxOf n, rfl, rfl, .inl (.inr ⟨ob, e2 _ _ h1⟩), i1, fun m hm hz => i2 m hm n hz rfl, q _ H2 (e1.trans e2) (.int _)⟩
end
/-- a promise of something weaker -/
theorem Df.weak {P : Program} {w : World} {K : PySem.W.Frag} {mg : Str → Option Value} {base : Heap} {x : Str} {k : Nat} {ps : List Str} {R R' : List PyData → PyData → Prop} (h : Df P w K mg base x k ps R)
    (hw : ∀ ds r', R' ds r' → ∃ r, R ds r ∧ ∀ (H : Hp) (v : V), Hd K H v r → Hd K H v r') : Df P w K mg base x k ps R' := by
  obtain ⟨f, fd, a, b, c, ok, e⟩ := h
  refine ⟨f, fd, a, b, c, ok.imp fun vs H Q E q => ?_, e⟩
  obtain ⟨ds, r', h1, h2, q⟩ := q
  obtain ⟨r, h3, h4⟩ := hw ds r' h2
  exact ⟨ds, r, h1, h3, fun v H' e1 hv => q v H' e1 (h4 H' v hv)⟩
end Tw
namespace Tw
open PySem PySem.Spec PyProof.Rows L2
/-! ### while, pop, walks over lists: bodies that change lists of their own -/
theorem HdA.snoc_inv {K : PySem.W.Frag} {H : Hp} : ∀ {es : List PyData} {d : PyData} {vs : List V}, HdA K H vs (es ++ [d]) → ∃ us y, vs = us ++ [y] ∧ HdA K H us es ∧ Hd K H y d
  | [], d, vs, h => by
    obtain ⟨v, rfl, hv⟩ := HdA.one_inv h
    exact ⟨[], v, rfl, .nil, hv⟩
  | e :: es, d, vs, h => by
    rw [List.cons_append] at h
    cases h with
    | cons h1 h2 =>
      obtain ⟨us, y, rfl, a, b⟩ := HdA.snoc_inv h2
      exact ⟨_ :: us, y, rfl, .cons h1 a, b⟩
theorem lfA_snoc {es : List PyData} {d : PyData} (h : lfA (es ++ [d]) = true) : lfA es = true ∧ lf d = true := by
  refine ⟨lfA_of fun x hx => lf_of_mem h (List.mem_append_left _ hx), lf_of_mem h (List.mem_append_right _ (List.mem_singleton.mpr rfl))⟩
section
variable {X : Cx} {a b c e iter tg : Expr} {es : List Expr} {rest body A B : List Stmt} {pos p : Pos} {own own' : List Nat} {Γ Γ' : Ev} {d dx dy dz : PyData} {ds : List PyData} {nx mid : List Nat → Ev → Prop} {rt : PyData → Prop}
theorem ro_while (W : Nat → Ev → Prop) (h0 : ∃ m Γ', Le Γ Γ' ∧ (∀ i ∈ own, ∃ ds, Γ'[i]? = some (some (.list ds))) ∧ W m Γ')
    (hs : ∀ (m : Nat) (Γ' : Ev), W m Γ' → ∃ k, PTD X c Γ' k ∧ (k = true → RO X body own Γ' (fun o Γ2 => o = own ∧ ∃ m' Γ3, m' < m ∧ Le Γ2 Γ3 ∧ (∀ i ∈ own, ∃ ds, Γ3[i]? = some (some (.list ds))) ∧ W m' Γ3) rt) ∧ (k = false → RO X rest own Γ' nx rt))
    (hp : PassesOwn (model X.prog X.w) X.A X.env X.xe) : RO X (.While c body [] pos :: rest) own Γ nx rt := ⟨fun H0 σ H st D k1 k2 =>
  ⟨_, pss_cons (ps_while hp (wT_ok c) (wB_ok body)) (wB_ok rest), by
    obtain ⟨m0, Γ0, l0, o0, w0⟩ := h0
    refine ⟨fun m σ' H' => ∃ Γ', W m Γ' ∧ StO X.K H0 own Γ' σ' H', ⟨m0, Γ0, w0, st.le l0 (fun i hi => ⟨hi, o0 i hi⟩) fun i d h1 h2 => absurd h2 h1⟩, fun m σ' H1 q => ?_⟩
    obtain ⟨Γ', w, st'⟩ := q
    obtain ⟨k, hk, hb, hr⟩ := hs m Γ' w
    refine hk σ' H1 st'.st _ fun H2 e2 => ?_
    cases k with
    | true =>
      refine ⟨fun σ2 H3 => ∃ m', m' < m ∧ ∃ Γ3, W m' Γ3 ∧ StO X.K H0 own Γ3 σ2 H3, fun σ2 H3 z => z, ?_⟩
      exact (hb rfl).run H0 σ' H2 (st'.same e2) _ (fun o Γ2 σ2 H3 n st2 => by
        obtain ⟨rfl, m', Γ3, lt, l3, o3, w3⟩ := n
        exact ⟨m', lt, Γ3, w3, st2.le l3 (fun i hi => ⟨hi, o3 i hi⟩) fun i d h1 h2 => absurd h2 h1⟩) k2
    | false => exact (hr rfl).run H0 σ' H2 (st'.same e2) D k1 k2⟩⟩
/-- xs.pop() -/
theorem ro_pop {x : Str} {i : Nat} {px apos cpos spos : Pos} {es' : List PyData} (hi : i ∈ own) (hΓ : Γ[i]? = some (some (.list (es' ++ [d])))) (hr : RO X rest own (Γ.set i (some (.list es'))) nx rt) (hN : X.N[i]? = some x) (hv : Vis X.env.scope x)
    (hd : (x == ("__debug__" : Str)) = false := by decide) (hcd : (x == ("__classdict__" : Str)) = false := by decide)
    (hb : attributeBase (.Name x px) "pop" X.env (eval (.Name x px) X.env) = eval (.Name x px) X.env := by rfl) (hline : (apos.endLine == cpos.line) = true := by rfl)
    (hsw : swapsWith (.Call (.Attribute (.Name x px) "pop" apos) [] [] cpos) none spos.line X.env = pure false := by rfl) :
    RO X (.Expr (.Call (.Attribute (.Name x px) "pop" apos) [] [] cpos) spos :: rest) own Γ nx rt := ⟨fun H0 σ H st D h1 h2 => by
  refine ⟨_, pss_cons (ps_expr (pe_bm0 PySem.F.plainAttrs_list PySem.F.slot_list_pop PySem.F.type_list_pop mt_pop (pe_var hN hv hd hcd) hb hline) hsw) (wB_ok rest), ?_⟩
  obtain ⟨b, vs, ds', a1, a2, a3, a4, a5, a6⟩ := st.mine i hi
  rw [hΓ] at a4
  cases a4
  obtain ⟨us, y, rfl, u1, u2⟩ := a5.snoc_inv
  refine ⟨_, a1, .inl ⟨rfl, _, SqL.of a3⟩, b, _, y, rfl, rfl, a3, by simp, ?_⟩
  rw [List.dropLast_concat]
  exact hr.run H0 σ _ (st.mut hi a1 a3 u1 (lfA_snoc a6).1) D h1 h2⟩
/-- xs.append(ys.pop()) -/
theorem ro_appPop {x y : Str} {i j : Nat} {px py apos cpos apos2 cpos2 spos : Pos} {es' : List PyData} (hi : i ∈ own) (hj : j ∈ own) (hij : i ≠ j) (hΓ : Γ[i]? = some (some (.list ds))) (hΓ2 : Γ[j]? = some (some (.list (es' ++ [d])))) (hz : ds.length ≤ 10000000)
    (hr : RO X rest own ((Γ.set j (some (.list es'))).set i (some (.list (ds ++ [d])))) nx rt) (hN : X.N[i]? = some x) (hv : Vis X.env.scope x) (hN2 : X.N[j]? = some y) (hv2 : Vis X.env.scope y)
    (hd : (x == ("__debug__" : Str)) = false := by decide) (hcd : (x == ("__classdict__" : Str)) = false := by decide) (hd2 : (y == ("__debug__" : Str)) = false := by decide) (hcd2 : (y == ("__classdict__" : Str)) = false := by decide)
    (hs : starEach [.Call (.Attribute (.Name y py) "pop" apos2) [] [] cpos2] X.env = (false, eval (.Call (.Attribute (.Name y py) "pop" apos2) [] [] cpos2) X.env) :: starEach [] X.env := by rfl)
    (hb : attributeBase (.Name x px) "append" X.env (eval (.Name x px) X.env) = eval (.Name x px) X.env := by rfl)
    (hb2 : attributeBase (.Name y py) "pop" X.env (eval (.Name y py) X.env) = eval (.Name y py) X.env := by rfl)
    (hfew : ((backTo cpos (starEach [.Call (.Attribute (.Name y py) "pop" apos2) [] [] cpos2] X.env)).all (fun x => !x.1) && (backToKw cpos (keywordEach [] X.env)).all (fun x => x.1.isSome)
      && decide ([Expr.Call (.Attribute (.Name y py) "pop" apos2) [] [] cpos2].length + ([] : List Keyword).length + (if ([] : List Keyword).isEmpty then 0 else 1) < 30)) = true := by rfl)
    (hline : (apos.endLine == cpos.line) = true := by rfl) (hline2 : (apos2.endLine == cpos2.line) = true := by rfl) (hsw : swapsWith (.Call (.Attribute (.Name x px) "append" apos) [.Call (.Attribute (.Name y py) "pop" apos2) [] [] cpos2] [] cpos) none spos.line X.env = pure false := by rfl) :
    RO X (.Expr (.Call (.Attribute (.Name x px) "append" apos) [.Call (.Attribute (.Name y py) "pop" apos2) [] [] cpos2] [] cpos) spos :: rest) own Γ nx rt := ⟨fun H0 σ H st D h1 h2 => by
  refine ⟨_, pss_cons (ps_expr (pe_bm PySem.F.plainAttrs_list PySem.F.slot_list_append PySem.F.type_list_append mt_append (pe_var hN hv hd hcd)
    (pa_cons (pe_bm0 PySem.F.plainAttrs_list PySem.F.slot_list_pop PySem.F.type_list_pop mt_pop (pe_var hN2 hv2 hd2 hcd2) hb2 hline2) pa_nil hs) hb hfew hline hs rfl) hsw) (wB_ok rest), ?_⟩
  obtain ⟨b, vs, ds', a1, a2, a3, a4, a5, a6⟩ := st.mine i hi
  rw [hΓ] at a4
  cases a4
  obtain ⟨b2, vs2, ds2, c1, c2, c3, c4, c5, c6⟩ := st.mine j hj
  rw [hΓ2] at c4
  cases c4
  obtain ⟨us, y', rfl, u1, u2⟩ := c5.snoc_inv
  obtain ⟨l1, l2⟩ := lfA_snoc c6
  have hne : b ≠ b2 := fun q => st.apart i hi j hj hij b a1 (by rw [q]; exact c1)
  have st1 := st.mut hj c1 c3 u1 l1
  have mt : SameT X.K H (upd H b2 (.lst us)) := SameT.mut c3
  have hb' : (upd H b2 (.lst us)) b = some (.lst vs) := by rw [upd_ne hne]; exact a3
  refine ⟨_, a1, .inl ⟨rfl, _, SqL.of a3⟩, _, c1, .inl ⟨rfl, _, SqL.of c3⟩, b2, _, y', rfl, rfl, c3, by simp, ?_⟩
  rw [List.dropLast_concat]
  refine ⟨b, vs, y', rfl, rfl, hb', ?_, ?_⟩
  · rw [a5.length, sizeLine_eq]; omega
  · refine hr.run H0 σ _ (st1.mut hi a1 hb' ((HdA.lf mt _ _ a6 a5).snoc (Hd.lf mt _ _ l2 u2)) (lfA_append a6 ?_)) D h1 h2
    rw [lfA, l2] <;> rfl⟩
/-- xs.append(ys.pop(0)) -/
theorem ro_appPop0 {x y : Str} {i j k0 : Nat} {px py apos cpos apos2 cpos2 spos p0 : Pos} {es' : List PyData} (hi : i ∈ own) (hj : j ∈ own) (hij : i ≠ j) (hΓ : Γ[i]? = some (some (.list ds))) (hΓ2 : Γ[j]? = some (some (.list (d :: es')))) (hz : ds.length ≤ 10000000)
    (hr : RO X rest own ((Γ.set j (some (.list es'))).set i (some (.list (ds ++ [d])))) nx rt) (hN : X.N[i]? = some x) (hv : Vis X.env.scope x) (hN2 : X.N[j]? = some y) (hv2 : Vis X.env.scope y)
    (hd : (x == ("__debug__" : Str)) = false := by decide) (hcd : (x == ("__classdict__" : Str)) = false := by decide) (hd2 : (y == ("__debug__" : Str)) = false := by decide) (hcd2 : (y == ("__classdict__" : Str)) = false := by decide)
    (hs : starEach [.Call (.Attribute (.Name y py) "pop" apos2) [.Constant (.int 0) k0 p0] [] cpos2] X.env = (false, eval (.Call (.Attribute (.Name y py) "pop" apos2) [.Constant (.int 0) k0 p0] [] cpos2) X.env) :: starEach [] X.env := by rfl)
    (hs2 : starEach [.Constant (.int 0) k0 p0] X.env = (false, eval (.Constant (.int 0) k0 p0) X.env) :: starEach [] X.env := by rfl)
    (hb : attributeBase (.Name x px) "append" X.env (eval (.Name x px) X.env) = eval (.Name x px) X.env := by rfl)
    (hb2 : attributeBase (.Name y py) "pop" X.env (eval (.Name y py) X.env) = eval (.Name y py) X.env := by rfl)
    (hfew : ((backTo cpos (starEach [.Call (.Attribute (.Name y py) "pop" apos2) [.Constant (.int 0) k0 p0] [] cpos2] X.env)).all (fun x => !x.1) && (backToKw cpos (keywordEach [] X.env)).all (fun x => x.1.isSome)
      && decide ([Expr.Call (.Attribute (.Name y py) "pop" apos2) [.Constant (.int 0) k0 p0] [] cpos2].length + ([] : List Keyword).length + (if ([] : List Keyword).isEmpty then 0 else 1) < 30)) = true := by rfl)
    (hfew2 : ((backTo cpos2 (starEach [.Constant (.int 0) k0 p0] X.env)).all (fun x => !x.1) && (backToKw cpos2 (keywordEach [] X.env)).all (fun x => x.1.isSome)
      && decide ([Expr.Constant (.int 0) k0 p0].length + ([] : List Keyword).length + (if ([] : List Keyword).isEmpty then 0 else 1) < 30)) = true := by rfl)
    (hline : (apos.endLine == cpos.line) = true := by rfl) (hline2 : (apos2.endLine == cpos2.line) = true := by rfl) (hsw : swapsWith (.Call (.Attribute (.Name x px) "append" apos) [.Call (.Attribute (.Name y py) "pop" apos2) [.Constant (.int 0) k0 p0] [] cpos2] [] cpos) none spos.line X.env = pure false := by rfl) :
    RO X (.Expr (.Call (.Attribute (.Name x px) "append" apos) [.Call (.Attribute (.Name y py) "pop" apos2) [.Constant (.int 0) k0 p0] [] cpos2] [] cpos) spos :: rest) own Γ nx rt := ⟨fun H0 σ H st D h1 h2 => by
  refine ⟨_, pss_cons (ps_expr (pe_bm PySem.F.plainAttrs_list PySem.F.slot_list_append PySem.F.type_list_append mt_append (pe_var hN hv hd hcd)
    (pa_cons (pe_bm PySem.F.plainAttrs_list PySem.F.slot_list_pop PySem.F.type_list_pop mt_popAt (pe_var hN2 hv2 hd2 hcd2) (pa_cons pe_int pa_nil hs2) hb2 hfew2 hline2 hs2 rfl) pa_nil hs) hb hfew hline hs rfl) hsw) (wB_ok rest), ?_⟩
  obtain ⟨b, vs, ds', a1, a2, a3, a4, a5, a6⟩ := st.mine i hi
  rw [hΓ] at a4
  cases a4
  obtain ⟨b2, vs2, ds2, c1, c2, c3, c4, c5, c6⟩ := st.mine j hj
  rw [hΓ2] at c4
  cases c4
  cases c5 with
  | cons u2 u1 =>
    rename_i y' us
    have l2 : lf d = true := lf_of_mem c6 (by simp)
    have l1 : lfA es' = true := lfA_of fun z hz => lf_of_mem c6 (by simp [hz])
    have hne : b ≠ b2 := fun q => st.apart i hi j hj hij b a1 (by rw [q]; exact c1)
    have st1 := st.mut hj c1 c3 u1 l1
    have mt : SameT X.K H (upd H b2 (.lst us)) := SameT.mut c3
    have hb' : (upd H b2 (.lst us)) b = some (.lst vs) := by rw [upd_ne hne]; exact a3
    have hsq : seqIndex? 0 (y' :: us).length = some 0 := by
      unfold seqIndex?
      simp
    refine ⟨_, a1, .inl ⟨rfl, _, SqL.of a3⟩, _, c1, .inl ⟨rfl, _, SqL.of c3⟩, b2, _, 0, 0, y', rfl, rfl, c3, by decide, by decide, hsq, rfl, ?_⟩
    refine ⟨b, vs, y', rfl, rfl, hb', ?_, ?_⟩
    · rw [a5.length, sizeLine_eq]; omega
    · refine hr.run H0 σ _ (st1.mut hi a1 hb' ((HdA.lf mt _ _ a6 a5).snoc (Hd.lf mt _ _ l2 u2)) (lfA_append a6 ?_)) D h1 h2
      rw [lfA, l2] <;> rfl⟩
/-- for x in xs, a list that is not one's own -/
theorem ro_forS {x y : Str} {i0 j : Nat} {tp py : Pos} (Inv : Nat → Ev → Prop) (hio : i0 ∉ own) (hΓ : Γ[i0]? = some (some (.list ds))) (hN0 : X.N[i0]? = some y) (hv0 : Vis X.env.scope y) (hlf : lfA ds = true) (hjo : j ∉ own) (h0 : ∃ Γ', Le Γ Γ' ∧ (∀ i ∈ own, ∃ ds, Γ'[i]? = some (some (.list ds))) ∧ Inv 0 Γ')
    (hs : ∀ (i : Nat) (d : PyData) (Γ' : Ev), ds[i]? = some d → Inv i Γ' → RO X body own (Γ'.set j (some d)) (fun o Γ2 => o = own ∧ ∃ Γ3, Le Γ2 Γ3 ∧ (∀ i ∈ own, ∃ ds, Γ3[i]? = some (some (.list ds))) ∧ Inv (i + 1) Γ3) rt)
    (hd : ∀ Γ', Inv ds.length Γ' → RO X rest own Γ' nx rt) (hlf2 : ∀ (i : Nat) (Γ' : Ev), Inv ds.length Γ' → ∀ d, i ∉ own → Γ'[i]? = some (some d) → lf d = true) (hp : PassesOwn (model X.prog X.w) X.A X.env X.xe) (hc : X.calm = true) (hN : X.N.Nodup) (hj : X.N[j]? = some x) (hx : Loc X.env.scope x) (hf : X.fn x = true ∨ X.env.scope.names.lookup x = some .local := by first | exact .inl rfl | exact .inr rfl) (hsi : ∀ z, foldedSetIterable (.Name y py) X.env z = pure z := by intro _; rfl)
    (hd0 : (y == ("__debug__" : Str)) = false := by decide) (hcd0 : (y == ("__classdict__" : Str)) = false := by decide) :
    RO X (.For (.Name x tp) (.Name y py) body [] pos :: rest) own Γ nx rt := ⟨fun H0 σ H st D k1 k2 => by
  refine ⟨_, pss_cons (ps_for hp hc (pi_list (pe_var hN0 hv0 hd0 hcd0)) (pg_name (i := j) hN hj hx hf) (wB_ok body) hsi) (wB_ok rest), ?_⟩
  have hst : ∃ v, σ[i0]? = some (some v) ∧ Hd X.K H0 v (.list ds) := by
    rcases st.still i0 _ hio hΓ with q | q
    · simp [lf] at q
    · exact q
  obtain ⟨v, hv, hvd⟩ := hst
  obtain ⟨b, vs, rfl, h3, h4⟩ := hvd.list_inv
  obtain ⟨Γ0, l0, o0, i0'⟩ := h0
  have stb := st.rebase
  have eb := hide_base st
  refine ⟨_, hv, b, rfl, ⟨vs, SqL.of (st.base _ _ h3)⟩, for_it (walkD_list (eb _ _ h3) (h4.same eb)) (fun i σ' H' => ∃ Γ', Inv i Γ' ∧ StO X.K (hide own σ H) own Γ' σ' H') ⟨Γ0, i0', stb.le l0 (fun i hi => ⟨hi, o0 i hi⟩) fun i d h1 h2 => absurd h2 h1⟩ (fun i σ' H' _ ⟨_, _, q⟩ => q.base) (fun i v σ' H2 H3 hi' q y => ?_) (fun σ' H2 q => ?_)⟩
  · obtain ⟨Γ', inv, st'⟩ := q
    obtain ⟨e3, d, hd', hv⟩ := y
    have hld : lf d = true := lf_of_mem hlf (List.mem_of_getElem? hd')
    refine (hs i d Γ' hd' inv).run (hide own σ H) (σ'.set j (some v)) H3 ((st'.same e3).put hv hld (fun k hk => ⟨hk, fun e => hjo (e ▸ hk)⟩) fun k h1 h2 => absurd h1 h2) _ (fun o Γ2 σ2 H4 n st2 => ?_) (fun d2 v2 H4 r e4 hv2 fr => k2 d2 v2 H4 r (eb.trans e4) hv2 (fr.down eb))
    obtain ⟨rfl, Γ3, l3, o3, i3⟩ := n
    exact ⟨Γ3, i3, st2.le l3 (fun i hi => ⟨hi, o3 i hi⟩) fun i d h1 h2 => absurd h2 h1⟩
  · obtain ⟨Γ', inv, st'⟩ := q
    exact (hd Γ' inv).run H0 σ' H2 (st'.down eb fun i d h1 h2 => hlf2 i Γ' inv d h1 h2) D k1 k2⟩
/-- a tuple of the module -/
def GTup (K : PySem.W.Frag) (mg : Str → Option Value) (x : Str) (ns : List Int) : Prop := ∃ b, mg x = some (.ref b) ∧ ∃ o its n, K.lookup b = some o ∧ o.cls = .type "tuple" ∧ o.data = .seq its n ∧ its.size ≤ sizeLine ∧ Vals (ns.map V.int) its.toList
theorem pd_gtup {x : Str} {ns : List Int} (h : GTup X.K X.mg x ns) (hg : Gl X x) (hd : (x == ("__debug__" : Str)) = false := by decide) : PD X (.Name x pos) Γ (.tuple (ns.map PyData.int)) := .mk fun σ H st Q q => by
  obtain ⟨b, hm, hk⟩ := h
  exact ⟨_, pe_glob (v := .ref b) hg hm rfl hd, q _ H (Same.refl H) (.tup (.inr hk) (HdA.ints ns))⟩
end
/-- a def's promise, over an own body that hands back no list -/
theorem Dn.okO {P : Program} {w : World} {K : PySem.W.Frag} {mg : Str → Option Value} {base : Heap} {x : Str} {st : Stmt} {N ps : List Str} {k : Nat} {R : Rel} (D : Dn K mg x st ps) (S : FnScope N ps (defScope st)) (hl : ∀ ds r, R ds r → ds.length = ps.length)
    (hb : ∀ (f : Addr) (cdv : Value) (A : Around) (outer : List Env) (s : Shared) (H : Hp) (E : XK), Room k (bx P w K mg base N x (defScope st) f cdv A outer s H E).A → ∀ ds r, R ds r →
      RO (bx P w K mg base N x (defScope st) f cdv A outer s H E) (defBody st) [] (ds.map some ++ List.replicate (N.length - ds.length) none) (fun _ _ => r = .none) (fun d => d = r)) : Df P w K mg base x (k + 1) ps R :=
  D.ok S hl fun f cdv A outer s H E hr ds r h => rb_ro (hb f cdv A outer s H E hr ds r h) fun _ _ n => n
end Tw
namespace Tw
open PySem PySem.Spec PyProof.Rows L2
/-! ### enumerate(t), t a tuple -/
theorem meets_enum1 {v : Value} {o : Obj} {H : Heap → Prop} (B : Begins v o H) :
    Meets (Builtin.«enumerate.__new__» ⟨[.type "enumerate", v], []⟩) (fun _ R s => H s.heap ∧
      R (.ok (.ret (.ref (s.heap.push o).objs.size))) { s with heap := (s.heap.push o).push { cls := .type "enumerate", data := .fields #[.none, .bool false, .ref s.heap.objs.size, rawInt 0, .none, .none] } }) :=
  .of_wp fun prog w A R s h => by
    obtain ⟨hp, g, d, tk, os⟩ := s; obtain ⟨h1, h⟩ := h
    have hsub := sub_enumerate
    have q1 : ∀ {A' : Around} {E : Value → Shared → Prop} {Q : Value → Shared → Prop}, Q (.ref hp.objs.size) ⟨hp.push o, g, d, tk, os⟩ → wpAny (model prog w) A' (pyIter v) Q E ⟨hp, g, d, tk, os⟩ :=
      fun q => B.iter prog w _ _ ⟨hp, g, d, tk, os⟩ _ h1 q
    wp_walk using q1
    refine wpAny_stack_any fun st => wpAny_pure ?_
    split
    · rename_i c _ _ _ _ _
      cases (c == Value.type "enumerate")
      · wp_walk using q1
        exact ⟨_, rfl, h⟩
      · wp_walk using q1
        exact ⟨_, rfl, h⟩
    · wp_walk using q1
      exact ⟨_, rfl, h⟩
section
variable {prog : Program} {w : World} {A : Around} {E : Value → Shared → Prop} {s : Shared}
theorem enum_begins1 {v : Value} {o : Obj} {H : Heap → Prop} {Q : Value → Shared → Prop} (B : Begins v o H) (h1 : H s.heap)
    (h : ∀ h', IsEnum h' (s.heap.objs.size + 1) s.heap.objs.size 0 .none → h'.get? s.heap.objs.size = some o → h'.objs.size = s.heap.objs.size + 2 →
      (∀ b o, s.heap.get? b = some o → h'.get? b = some o) → Q (.ref (s.heap.objs.size + 1)) { s with heap := h' }) :
    wpAny (model prog w) A (call (.type "enumerate") [v]) Q E s := by
  refine callType_new F.called_enumerate (by decide) (F.typeCall_enumerate_1 _) (F.newCall_enumerate_1 _) (fun obj => F.args_object_init_2 obj _) F.entry_enumerate_new
    (meets_enum1 B) ⟨h1, ?_⟩
  have hz : (s.heap.push o).objs.size = s.heap.objs.size + 1 := Heap.size_push ..
  show _ ∧ _
  rw [hz]
  have he : IsEnum ((s.heap.push o).push { cls := .type "enumerate", data := .fields #[.none, .bool false, .ref s.heap.objs.size, rawInt 0, .none, .none] }) (s.heap.objs.size + 1) s.heap.objs.size 0 .none := by
    have := Heap.get?_push_size (s.heap.push o) (o := { cls := .type "enumerate", data := .fields #[.none, .bool false, .ref s.heap.objs.size, rawInt 0, .none, .none] }) rfl
    rw [hz] at this; exact this
  refine ⟨⟨_, he, rfl⟩, h _ he (Heap.get?_push_of_some _ (Heap.get?_push_size _ B.free)) (by rw [Heap.size_push, hz]) fun b o x => Heap.get?_push_of_some _ (Heap.get?_push_of_some _ x)⟩
end
def IteT (K : PySem.W.Frag) (a : Addr) : It :=
  ⟨fun i H => ∃ (xs : List V) (x : V), SqT K H a xs ∧ xs[i]? = some x, fun i H v H' => ∃ T x, v = .ref T ∧ H T = none ∧ H' = upd H T (.tup [.int (i : Nat), x]) ∧ ∀ xs, SqT K H a xs → xs[i]? = some x, fun i H => ∃ xs : List V, SqT K H a xs ∧ xs.length ≤ i⟩
theorem turn_enumT {P : Program} {w : World} {K : PySem.W.Frag} {elts : List Expr} {kk : Nat} {tpos : Pos} (a e it : Addr) (items : Array Value) :
    Turn P w K (.Tuple elts kk tpos) (IteT K a) [e, it] e (fun i h => (∃ old, IsEnum h e it ((i : Nat) : Int) old) ∧ h.IsTupleIter it a i ∧ e ≠ it) where
  mem := by simp
  obj := fun i h st b hb => by
    obtain ⟨⟨old, he⟩, ⟨o, ho, hc, hd⟩, _⟩ := st
    have e' : b = e ∨ b = it := by simpa using hb
    rcases e' with z | z
    · rw [z]; exact ⟨_, he, fun v q => nomatch q⟩
    · rw [z]; exact ⟨o, ho, fun v q => by rw [hd] at q; cases q⟩
  keep := fun i h h' st k => let ⟨⟨old, he⟩, hi, hne⟩ := st; ⟨⟨old, k e (by simp) _ he⟩, hi.at fun o q => k it (by simp) o q, hne⟩
  item := by
    intro X hP hw hK hc i pins s σ H E I hf st hg
    subst hP hw hK
    obtain ⟨⟨old, he⟩, hit, hne⟩ := st
    obtain ⟨xs, x, hq, hx⟩ := hg
    obtain ⟨its, rv, p, hz⟩ := I.tuple hq
    obtain ⟨u, hu, ru⟩ := rv.get hx
    have hel : e < s.heap.objs.size := Heap.lt_size he
    have hil : it < s.heap.objs.size := by obtain ⟨_, q, _⟩ := hit; exact Heap.lt_size q
    have hai : a ≠ it := fun q => by
      obtain ⟨o1, q1, c1, _⟩ := p
      obtain ⟨o2, q2, c2, _⟩ := hit
      rw [q, q2] at q1
      cases q1
      rw [c2] at c1
      exact absurd c1 (by decide)
    have hae : a ≠ e := fun q => by
      obtain ⟨o1, q1, c1, _⟩ := p
      rw [q, he] at q1
      cases q1
      exact absurd (show Value.type "enumerate" = .type "tuple" from c1) (by decide)
    have hef : e ∉ [it, a] := fun q => by
      rcases List.mem_cons.mp q with z | z
      · exact hne z
      · exact hae (List.mem_singleton.mp z).symm
    have hlt : i < its.toArray.size := by
      have := (List.getElem?_eq_some_iff.mp hu).1
      rw [List.size_toArray]
      exact this
    refine wpAny_pyNext_enum_itemC (Draws.tuple (A := X.A.in1) (show X.A.in1.handled = none from I.ok.hd hc) it a hai its.toArray) he ⟨hit, p⟩ hlt hne hef fun y h' tk hP ho hit' hT hsz hk => ?_
    have hyu : y = u := by
      have h1 : its[i]? = some y := by simpa using hP
      rw [hu] at h1
      exact (Option.some.inj h1).symm
    subst hyu
    refine ⟨_, rfl, wpAny_letOwnedTupleGo_enum (s := { s with heap := h', toks := tk + 1 }) ho fun h'' he' sb => ?_⟩
    have hT2 : h''.get? s.heap.objs.size = some { cls := .type "tuple", data := .seq #[.int i tk, y] } := (sb.2 _ (Nat.ne_of_gt hel)).trans hT
    have new : ObjOk X.prog X.w (upd H s.heap.objs.size (.tup [.int (i : Nat), x])) h'' s.heap.objs.size (.tup [.int (i : Nat), x]) :=
      ⟨by show 2 ≤ sizeLine; decide, [.int i tk, y], .cons ⟨_, rfl⟩ (.cons ru .nil), ⟨_, hT2, rfl, _, rfl⟩⟩
    have I1 : Inv X pins σ (upd H s.heap.objs.size (.tup [.int (i : Nat), x])) { s with heap := h'', toks := tk + 1 } :=
      I.turnedNew (ch := [e, it]) (fun b ob hb q => (sb.2 b (fun z => hb (by simp [z]))).trans (hk b ob (fun z => hb (by simp [z])) (fun z => hb (by simp [z])) q)) hf (Nat.le_refl _) new
    refine ⟨.ref s.heap.objs.size, _, I1, rfl, ⟨_, x, rfl, I.hok.fresh (Nat.le_refl _), rfl, fun ys hy => by rw [I.tuple_inj hy hq]; exact hx⟩, ⟨⟨y, ?_⟩, hit'.1.at fun o q => (sb.2 it (Ne.symm hne)).trans q, hne⟩, fun b hb => ?_⟩
    · have e1 : ((i + 1 : Nat) : Int) = (i : Int) + 1 := by omega
      rw [e1]; exact he'
    · have hb' : b < s.heap.objs.size := by
        have e' : b = e ∨ b = it := by simpa using hb
        rcases e' with z | z
        · rw [z]; exact hel
        · rw [z]; exact hil
      rw [upd_ne (Nat.ne_of_lt hb')]
      exact (hf b hb).1
  done := by
    intro X hP hw hK hc i pins s σ H E I hf st hg
    subst hP hw hK
    obtain ⟨⟨old, he⟩, hit, hne⟩ := st
    obtain ⟨xs, hq, hx⟩ := hg
    obtain ⟨its, rv, p, hz⟩ := I.tuple hq
    obtain ⟨f0, f1, f2, f3, f4, f5⟩ := hf it (by simp)
    have hl := rv.length
    have hai : a ≠ it := fun q => by
      obtain ⟨o1, q1, c1, _⟩ := p
      obtain ⟨o2, q2, c2, _⟩ := hit
      rw [q, q2] at q1
      cases q1
      rw [c2] at c1
      exact absurd c1 (by decide)
    have hT : s.TypeIs (.ref e) "enumerate" := ⟨_, he, rfl⟩
    unfold pyNext
    refine wpAny_bind (wpAny_attempt (wpAny_callSpecial?_slot (name := Str.ofString "__next__") hT F.slot_enumerate_next
      (wpAny_call_entry F.slot_enumerate_next hT F.entry_enumerate_next ?_ (F.args_enumerate_next_1 _))))
    show wpAny _ _ (field (.ref e) 2 >>= _) _ _ _
    refine wpAny_bind (wpAny_field he rfl (x := .ref it) rfl ?_)
    refine wpAny_bind (wpAny_nextOf_tuple_end (I.ok.hd hc) hit p (Array.getElem?_eq_none (by rw [List.size_toArray]; omega)) fun h' x eb hx' => ?_)
    obtain ⟨o, ho, hc'⟩ := hx'
    refine wpAny_bind (wpAny_isInstance (T := "StopIteration") (b := true) ⟨o, ho, hc'⟩ isSubtype_stop ?_)
    exact wpAny_pure ⟨rfl, I.turned (t' := s.toks) (fun b o hb q => eb b o hb q) f0 f1 f3 f4 f5⟩
  self := fun A i s Q E st h => let ⟨⟨_, he⟩, _⟩ := st; wpAny_pyIter_enum he h
def iEnumT (K : PySem.W.Frag) (ta : TA) : TI := fun σ H R => ta σ H fun vs H1 => ∃ a xs, vs = [.ref a] ∧ SqT K H1 a xs ∧ R (IteT K a) H1
theorem pi_enumT {X : Cx} {e : Expr} {ta : TA} {p pos tpos : Pos} {elts : List Expr} {kk : Nat} (hg : Gl X "enumerate") (hm : X.mg "enumerate" = none) (ha : PA X [e] ta) (hs : starEach [e] X.env = [(false, eval e X.env)]) :
    PI X (.Tuple elts kk tpos) (.Call (.Name "enumerate" p) [e] [] pos) (iEnumT X.K ta) := by
  refine ⟨fun pins s σ H R I h => ?_⟩
  refine Call_ (ld_blt I hg hm boot_enumerate (PyProof.Rows.callWith_type1 (thn (ha.run pos pins s σ H _ I h) fun us s1 ⟨vs, H1, I1, r1, q1⟩ => ?_) hs rfl))
  obtain ⟨a, xs, ex, hq, q⟩ := q1
  subst ex
  cases r1 with
  | cons r rr =>
    cases rr
    cases r
    obtain ⟨its, rv, p', hz⟩ := I1.tuple hq
    refine enum_begins1 (begins_tuple a its.toArray) p' fun h' he hit hsz hk => wpAny_pyIter_enum he ?_
    have I2 : Inv X pins σ H1 { s1 with heap := h' } := I1.kept (t' := s1.toks) hk
    refine ⟨s1.heap.objs.size + 1, [s1.heap.objs.size + 1, s1.heap.objs.size], _, _, H1, rfl, I2, turn_enumT a (s1.heap.objs.size + 1) s1.heap.objs.size its.toArray, ⟨⟨.none, he⟩, ⟨_, hit, rfl, rfl⟩, Nat.succ_ne_self _⟩, fun b hb => ?_, q⟩
    have e' : b = s1.heap.objs.size + 1 ∨ b = s1.heap.objs.size := by simpa using hb
    have hle : s1.heap.objs.size ≤ b := by
      rcases e' with z | z
      · rw [z]; exact Nat.le_add_right _ _
      · rw [z]; exact Nat.le_refl _
    exact I1.fpOk hle (I1.hok.fresh hle)
theorem walk_enumT {K : PySem.W.Frag} {a : Addr} {xs : List V} : Walk (IteT K a) xs.length (fun H => SqT K H a xs) (YPair (fun i => some (.int (i : Nat))) (fun i => xs[i]?)) := by
  refine ⟨fun i _ hi q => ⟨xs, xs[i], q, by simp [hi]⟩, fun _ q => ⟨xs, q, Nat.le_refl _⟩, fun i H v H' _ q y => ?_⟩
  obtain ⟨T, x, h1, h2, h3, h4⟩ := y
  exact ⟨T, .int (i : Nat), x, h1, h2, h3, rfl, h4 xs q⟩
/-- the pairs that enumerate gives -/
def enumD (ds : List PyData) : List PyData := (List.range ds.length).map fun i => .tuple [nD i, ds.getD i .none]
section
variable {X : Cx} {e iter : Expr} {elts : List Expr} {pos p tpos : Pos} {kk : Nat} {Γ : Ev} {ds : List PyData}
theorem pit_enumT (h : PD X e Γ (.tuple ds)) (hl : lfA ds = true) (hg : Gl X "enumerate") (hm : X.mg "enumerate" = none) (hs : starEach [e] X.env = (false, eval e X.env) :: starEach [] X.env) (hs2 : starEach [e] X.env = [(false, eval e X.env)]) :
    PIT X (.Tuple elts kk tpos) (.Call (.Name "enumerate" p) [e] [] pos) Γ (enumD ds) := ⟨fun σ H st R q => ⟨_, pi_enumT hg hm (pa_cons (wE_ok e) pa_nil hs) hs2, h σ H st _ fun v H1 e1 hv => by
  obtain ⟨a, xs, rfl, h1, h2⟩ := hv.tup_inv
  refine ⟨a, xs, rfl, h1, q _ H1 e1 fun Hb et => ?_⟩
  unfold WalkD
  have hlen : (enumD ds).length = xs.length := by
    unfold enumD
    rw [List.length_map, List.length_range, h2.length]
  rw [hlen]
  have hb := HdA.lf et _ _ hl h2
  refine walk_enumT.mono (fun H2 e2 => Same.sqt e2 (et _ _ h1)) fun i H2 x H3 hi e2 y => ?_
  obtain ⟨T, y1, y2, rfl, hT, rfl, h5, h6⟩ := y
  cases h5
  obtain ⟨d, hd, hvd⟩ := hb.getV h6
  refine ⟨same_new hT, .tuple [nD i, d], ?_, .tup (SqT.of upd_same) (.cons (.int _) (.cons ((hvd.same e2).same (same_new hT)) .nil))⟩
  have hi2 : i < ds.length := (List.getElem?_eq_some_iff.mp hd).1
  unfold enumD
  rw [List.getElem?_map, List.getElem?_range hi2]
  show some (PyData.tuple [nD i, ds.getD i .none]) = _
  rw [List.getD_eq_getElem?_getD, hd] <;> rfl⟩⟩
end
/-! ### for (x, y) in .. -/
section
variable {X : Cx} {iter : Expr} {rest body : List Stmt} {pos p1 p2 tpos : Pos} {kk : Nat} {own : List Nat} {Γ : Ev} {nx : List Nat → Ev → Prop} {rt : PyData → Prop}
theorem ro_for2 {x y : Str} {j k : Nat} (ps : List (PyData × PyData)) (Inv : Nat → Ev → Prop) (hi : PIT X (.Tuple [.Name x p1, .Name y p2] kk tpos) iter Γ (ps.map fun p => .tuple [p.1, p.2])) (hlf : ∀ p ∈ ps, lf p.1 = true ∧ lf p.2 = true) (hjo : j ∉ own) (hko : k ∉ own) (h0 : ∃ Γ', Le Γ Γ' ∧ (∀ i ∈ own, ∃ ds, Γ'[i]? = some (some (.list ds))) ∧ Inv 0 Γ')
    (hs : ∀ (i : Nat) (p : PyData × PyData) (Γ' : Ev), ps[i]? = some p → Inv i Γ' → RO X body own ((Γ'.set j (some p.1)).set k (some p.2)) (fun o Γ2 => o = own ∧ ∃ Γ3, Le Γ2 Γ3 ∧ (∀ i ∈ own, ∃ ds, Γ3[i]? = some (some (.list ds))) ∧ Inv (i + 1) Γ3) rt)
    (hd : ∀ Γ', Inv ps.length Γ' → RO X rest own Γ' nx rt) (hlf2 : ∀ (i : Nat) (Γ' : Ev), Inv ps.length Γ' → ∀ d, i ∉ own → Γ'[i]? = some (some d) → lf d = true) (hp : PassesOwn (model X.prog X.w) X.A X.env X.xe) (hc : X.calm = true) (hN : X.N.Nodup)
    (hj : X.N[j]? = some x) (hx : Loc X.env.scope x) (hf : X.fn x = true ∨ X.env.scope.names.lookup x = some .local) (hk : X.N[k]? = some y) (hy : Loc X.env.scope y) (hf2 : X.fn y = true ∨ X.env.scope.names.lookup y = some .local)
    (hsi : ∀ z, foldedSetIterable iter X.env z = pure z)
    (ha1 : (assignEach [.Name x p1, .Name y p2] X.env).map (·.2) = assign (.Name x p1) X.env :: (assignEach [.Name y p2] X.env).map (·.2)) (ha2 : (assignEach [.Name y p2] X.env).map (·.2) = assign (.Name y p2) X.env :: (assignEach [] X.env).map (·.2))
    (hn2 : (assignEach [.Name x p1, .Name y p2] X.env).length = 2) (hst : (assignEach [.Name x p1, .Name y p2] X.env).findIdx? (·.1) = none) :
    RO X (.For (.Tuple [.Name x p1, .Name y p2] kk tpos) iter body [] pos :: rest) own Γ nx rt := ⟨fun H0 σ H st D k1 k2 =>
  ⟨_, pss_cons (ps_for hp hc (wI_ok _ iter) (pg_tup hc (pgs_cons (pg_name (i := j) hN hj hx hf) (pgs_cons (pg_name (i := k) hN hk hy hf2) pgs_nil ha2) ha1) hn2 hst) (wB_ok body) hsi) (wB_ok rest), hi.run σ H st.st _ fun J H1 e1 w => by
    obtain ⟨Γ0, l0, o0, i0⟩ := h0
    have st1 := st.same e1
    have stb := st1.rebase
    have eb := hide_base st1
    have w' := w _ (hide_t st1)
    unfold WalkD at w'
    rw [List.length_map] at w'
    refine for_it w' (fun i σ' H' => ∃ Γ', Inv i Γ' ∧ StO X.K (hide own σ H1) own Γ' σ' H') ⟨Γ0, i0, stb.le l0 (fun i hi => ⟨hi, o0 i hi⟩) fun i d h1 h2 => absurd h2 h1⟩ (fun i σ' H' _ ⟨_, _, q⟩ => q.base) (fun i v σ' H2 H3 hi' q y => ?_) (fun σ' H2 q => ?_)
    · obtain ⟨Γ', inv, st'⟩ := q
      obtain ⟨e3, d, hd', hv⟩ := y
      rw [List.getElem?_map, List.getElem?_eq_getElem hi'] at hd'
      have ed : PyData.tuple [(ps[i]).1, (ps[i]).2] = d := Option.some.inj hd'
      subst ed
      have hld := hlf _ (List.getElem_mem hi')
      obtain ⟨a, xs, rfl, h3, h4⟩ := hv.tup_inv
      obtain ⟨v1, v2, rfl, hv1, hv2⟩ := h4.two_inv
      have s1 := (st'.same e3).put (i := j) hv1 hld.1 (fun z hz => ⟨hz, fun e => hjo (e ▸ hz)⟩) fun z h1 h2 => absurd h1 h2
      have s2 := s1.put (i := k) hv2 hld.2 (fun z hz => ⟨hz, fun e => hko (e ▸ hz)⟩) fun z h1 h2 => absurd h1 h2
      refine ⟨a, _, rfl, h3, rfl, v1, [v2], rfl, v2, [], rfl, rfl, ?_⟩
      refine (hs i ps[i] Γ' (List.getElem?_eq_getElem hi') inv).run (hide own σ H1) _ H3 s2 _ (fun o Γ2 σ2 H4 n st2 => ?_) (fun d2 v2 H4 r e4 hv2 fr => k2 d2 v2 H4 r (eb.trans e4) hv2 (fr.down eb))
      obtain ⟨rfl, Γ3, l3, o3, i3⟩ := n
      exact ⟨Γ3, i3, st2.le l3 (fun i hi => ⟨hi, o3 i hi⟩) fun i d h1 h2 => absurd h2 h1⟩
    · obtain ⟨Γ', inv, st'⟩ := q
      exact (hd Γ' inv).run H0 σ' H2 (st'.down eb fun i d h1 h2 => hlf2 i Γ' inv d h1 h2) D k1 k2⟩⟩
end
/-! ### [elt for x, y in iter] -/
section
variable {X : Cx} {elt iter : Expr} {pos p1 p2 tpos : Pos} {kk : Nat} {Γ : Ev}
theorem set_wipe2 {σ : L2.St} {j k : Nat} {v u : Option V} (h : j ≠ k) : wipe (((wipe σ [j, k]).set j v).set k u) [j, k] = wipe σ [j, k] := by
  show ((((((σ.set k none).set j none).set j v).set k u).set k none).set j none) = (σ.set k none).set j none
  rw [List.set_set, List.set_set, List.set_comm _ _ h, List.set_set, List.set_set]
theorem pdl_lc2 {α : Type} (e1 e2 out : α → PyData) (xs : List α) {scope : Scope} {x y : Str} {j k : Nat} (hi : PID X (.Tuple [.Name x p1, .Name y p2] kk tpos) iter Γ (xs.map fun a => .tuple [e1 a, e2 a])) (hz : xs.length ≤ 16000000) (hlf : ∀ a ∈ xs, lf (out a) = true) (hjk : j ≠ k)
    (he : ∀ (s : Shared) (H : Hp) (C : Addr) (cl : List (Str × Addr)) (fp : List Addr), ∀ a ∈ xs, PD (Bk X scope s H C cl fp) elt ((Γ.set j (some (e1 a))).set k (some (e2 a))) (out a))
    (hc : X.calm = true) (hN : X.N.Nodup) (ok : blkC X.N X.env.scope scope [(x, j), (y, k)] = true)
    (hg : ∀ (s : Shared) (H : Hp) (C : Addr) (cl : List (Str × Addr)) (fp : List Addr), PG (Bk X scope s H C cl fp) (.Tuple [.Name x p1, .Name y p2] kk tpos) (gTup X.K 2 (gCons (gName j) (gCons (gName k) gNil)))) (hs : ∀ x, foldedSetIterable iter X.env x = pure x) :
    PDL X (.ListComp elt [⟨.Tuple [.Name x p1, .Name y p2] kk tpos, iter, [], 0⟩] scope pos) Γ (xs.map out) := .mk fun σ H st Q q =>
  ⟨_, pe_lc (own := [(x, j), (y, k)]) (tt := tYes) hc hN (wI_ok _ iter) (blkOk_by ok) hg (fun _ _ _ _ _ => pts_nil) (fun s H C cl fp => bE_ok elt s H C cl fp) hs, hi σ H st _ fun J H1 e3 w => fun D hD =>
    lc_main (enc := fun a => .tuple [e1 a, e2 a]) (out := out) (keep := fun _ => true) (xs := xs) (K := X.K) w hD hz hlf (fun a v H2 H3 ha e4 e5 hv R r1 _ => by
        obtain ⟨b, vs, rfl, h3, h4⟩ := hv.tup_inv
        obtain ⟨v1, v2, rfl, hv1, hv2⟩ := h4.two_inv
        refine ⟨b, _, rfl, h3, rfl, v1, [v2], rfl, v2, [], rfl, rfl, set_wipe2 hjk, fun s H' C cl fp => he s H' C cl fp a ha _ _ ?_ _ fun y H4 e6 hy => r1 y H4 rfl e6 hy⟩
        have q1 := (((st.same (e3.trans (e4.trans e5))).wipe (own := [j, k])).set (i := j) hv1).set (i := k) hv2
        have e7 : (([j, k].foldr (fun i g => g.set i none) Γ).set j (some (e1 a))).set k (some (e2 a)) = (Γ.set j (some (e1 a))).set k (some (e2 a)) := by
          show ((((Γ.set k none).set j none).set j (some (e1 a))).set k (some (e2 a))) = _
          rw [List.set_set, List.set_comm _ _ hjk, List.set_set, List.set_comm _ _ (Ne.symm hjk)]
        rw [e7] at q1
        exact q1)
      (fun H2 acc e4 h2 h3 => q D acc H2 (same_back e3 hD) (e3.trans e4) h2 (by
        have e6 : xs.filter (fun _ => true) = xs := List.filter_eq_self.mpr fun _ _ => rfl
        rw [e6] at h3
        exact h3))⟩
end
/-! ### max(xs, default=d); max, min of a tuple -/
theorem reads_intsAre {h : Heap} : ∀ {vs : List Value} {ns : List Int}, IntsAre vs ns → ReadsAll h vs (ns.map .int) []
  | _, _, .nil => .nil
  | _, _, .cons n t r => .cons (as := []) (bs := []) (.int n t) (reads_intsAre r)
theorem alikeInts (ns : List Int) : PySem.W.AlikeAll (ns.map PyData.int) := by
  refine ⟨fun x hx y hy => ?_, fun x hx => ?_⟩
  · obtain ⟨n, _, rfl⟩ := List.mem_map.mp hx
    obtain ⟨m, _, rfl⟩ := List.mem_map.mp hy
    rfl
  · obtain ⟨n, _, rfl⟩ := List.mem_map.mp hx
    intro q
    cases q
def maxOr (d : Int) : List Int → Int
  | [] => d
  | n :: ns => ns.foldl max n
section
variable {X : Cx}
theorem cr_maxDef (hc : X.calm = true) (hu : X.A.units + 64 < cLine) : CallRK X (.builtin "max") [Str.ofString "default"] (fun vs zs H Q => ∃ (a : Addr) (ns : List Int) (d : Int), vs = [.ref a] ∧ zs = [.int d] ∧ SqL X.K H a (ns.map V.int) ∧ Q (.int (maxOr d ns)) H) := by
  intro pins s σ H vs zs us ws Q I r rz h
  obtain ⟨a, ns, d, rfl, rfl, hs, q⟩ := h
  obtain rfl := Vals.ref1 r
  obtain ⟨w1, rfl, t, rfl⟩ := vals1 rz
  obtain ⟨its, rv, hl, _⟩ := I.list hs
  have hr := reads_intsAre (h := s.heap) rv.ints
  have hr' : ReadsAll s.heap its.toArray.toList (ns.map .int) [] := hr
  refine PySem.W.max_list_default (I.ok.hd hc) hl.isList hr' (alikeInts ns) (by rw [dep_ints]; omega) (fun h0 h' tk hk => ?_) fun y ys i v h' tk bs e hv hrd hk => ?_
  · have e : ns = [] := by
      cases ns with
      | nil => rfl
      | cons a b => cases h0
    subst e
    exact ⟨.int _, H, I.kept hk, ⟨_, rfl⟩, q⟩
  · cases ns with
    | nil => cases e
    | cons n ns =>
      injection e with e1 e2
      subst e1
      subst e2
      rw [PySem.W.maxD_ints] at hrd
      cases hrd
      exact ⟨.int _, H, I.kept hk, ⟨_, rfl⟩, q⟩
theorem cr_maxT (hc : X.calm = true) (hu : X.A.units + 64 < cLine) : CallR X (.builtin "max") (fun vs H Q => ∃ (a : Addr) (n : Int) (ns : List Int), vs = [.ref a] ∧ SqT X.K H a ((n :: ns).map V.int) ∧ Q (.int (ns.foldl max n)) H) := by
  intro pins s σ H vs us Q I r h
  obtain ⟨a, n, ns, rfl, hs, q⟩ := h
  obtain rfl := Vals.ref1 r
  obtain ⟨its, rv, hl, _⟩ := I.tuple hs
  have hr' : ReadsAll s.heap its.toArray.toList (.int n :: ns.map .int) [] := reads_intsAre (h := s.heap) (ns := n :: ns) rv.ints
  refine PySem.W.max_tuple_data (I.ok.hd hc) hl hr' (alikeInts (n :: ns)) (by rw [show PyData.int n :: ns.map PyData.int = (n :: ns).map PyData.int from rfl, dep_ints]; omega) fun i v h' tk bs hv hrd hk => ?_
  rw [PySem.W.maxD_ints] at hrd
  cases hrd
  exact ⟨.int _, H, I.kept hk, ⟨_, rfl⟩, q⟩
theorem cr_minT (hc : X.calm = true) (hu : X.A.units + 64 < cLine) : CallR X (.builtin "min") (fun vs H Q => ∃ (a : Addr) (n : Int) (ns : List Int), vs = [.ref a] ∧ SqT X.K H a ((n :: ns).map V.int) ∧ Q (.int (ns.foldl min n)) H) := by
  intro pins s σ H vs us Q I r h
  obtain ⟨a, n, ns, rfl, hs, q⟩ := h
  obtain rfl := Vals.ref1 r
  obtain ⟨its, rv, hl, _⟩ := I.tuple hs
  have hr' : ReadsAll s.heap its.toArray.toList (.int n :: ns.map .int) [] := reads_intsAre (h := s.heap) (ns := n :: ns) rv.ints
  refine PySem.W.min_tuple_data (I.ok.hd hc) hl hr' (alikeInts (n :: ns)) (by rw [show PyData.int n :: ns.map PyData.int = (n :: ns).map PyData.int from rfl, dep_ints]; omega) fun i v h' tk bs hv hrd hk => ?_
  rw [PySem.W.minD_ints] at hrd
  cases hrd
  exact ⟨.int _, H, I.kept hk, ⟨_, rfl⟩, q⟩
theorem cd_maxT {n : Int} {ns : List Int} (hc : X.calm = true) (hu : X.A.units + 64 < cLine) : CD X (.builtin "max") [.tuple ((n :: ns).map PyData.int)] (.int (ns.foldl max n)) := ⟨_, cr_maxT hc hu, fun H xs h Q q => by
  obtain ⟨v, rfl, hv⟩ := h.one_inv
  obtain ⟨a, ys, rfl, h1, h2⟩ := hv.tup_inv
  rw [h2.ints_inv] at h1
  exact ⟨a, n, ns, rfl, h1, q _ H (Same.refl H) (.int _)⟩⟩
theorem cd_minT {n : Int} {ns : List Int} (hc : X.calm = true) (hu : X.A.units + 64 < cLine) : CD X (.builtin "min") [.tuple ((n :: ns).map PyData.int)] (.int (ns.foldl min n)) := ⟨_, cr_minT hc hu, fun H xs h Q q => by
  obtain ⟨v, rfl, hv⟩ := h.one_inv
  obtain ⟨a, ys, rfl, h1, h2⟩ := hv.tup_inv
  rw [h2.ints_inv] at h1
  exact ⟨a, n, ns, rfl, h1, q _ H (Same.refl H) (.int _)⟩⟩
/-- max(e, default=d) -/
theorem pd_maxDef {e e2 : Expr} {Γ : Ev} {p pos kpos : Pos} {ns : List Int} {d : Int} (hc : X.calm = true) (hu : X.A.units + 64 < cLine) (hg : Gl X "max") (hm : X.mg "max" = none) (h : PD X e Γ (.list (ns.map PyData.int))) (h2 : PD X e2 Γ (.int d))
    (hs : starEach [e] X.env = (false, eval e X.env) :: starEach [] X.env)
    (he : backTo pos (starEach [e] X.env) = (false, eval e X.env) :: backTo pos (starEach [] X.env)) (hpl : (backTo pos (starEach [e] X.env)).any (·.1) = false)
    (hall : (backToKw pos (keywordEach [⟨some (Str.ofString "default"), e2, kpos⟩] X.env)).all (·.1.isSome) = true) (hnone : (backToKw pos (keywordEach [⟨some (Str.ofString "default"), e2, kpos⟩] X.env)).any (·.1.isNone) = false) (hks : (backToKw pos (keywordEach [⟨some (Str.ofString "default"), e2, kpos⟩] X.env)).filterMap (·.1) = [Str.ofString "default"]) :
    PD X (.Call (.Name "max" p) [e] [⟨some (Str.ofString "default"), e2, kpos⟩] pos) Γ (.int (maxOr d ns)) := .mk fun σ H st Q q =>
  ⟨_, pe_callBK (cr_maxDef hc hu) hg hm bb_max (pa_cons (wE_ok e) pa_nil hs) (pk_cons (wE_ok e2) pk_nil) (by decide) (by decide) he hpl hall hnone hks, h σ H st _ fun v H1 e1 hv => h2 σ H1 (st.same e1) _ fun u H2 e3 hu2 => by
    obtain ⟨a, ys, rfl, h3, h4⟩ := hv.list_inv
    obtain rfl := hu2.int_inv
    rw [h4.ints_inv] at h3
    exact ⟨a, ns, d, rfl, rfl, SqL.of (e3 _ _ h3), q _ H2 (e1.trans e3) (.int _)⟩⟩
end
/-! ### name = [elt for x in iter] on one row, the name a local -/
section
variable {X : Cx} {elt iter : Expr} {pos spos : Pos} {Γ : Ev} {rest : List Stmt} {nx : Ev → Prop} {rt : PyData → Prop}
theorem rb_setLc {α : Type} (enc out : α → PyData) (xs : List α) {scope : Scope} {x y : Str} {i j : Nat} {tp py : Pos} (hi : PID X (.Name x tp) iter Γ (xs.map enc)) (hz : xs.length ≤ 16000000) (hlf : ∀ a ∈ xs, lf (out a) = true)
    (he : ∀ (s : Shared) (H : Hp) (C : Addr) (cl : List (Str × Addr)) (fp : List Addr), ∀ a ∈ xs, PD (Bk X scope s H C cl fp) elt (Γ.set j (some (enc a))) (out a))
    (hr : RB X rest (Γ.set i (some (.list (xs.map out)))) nx rt)
    (hc : X.calm = true) (hN : X.N.Nodup) (ok : blkC X.N X.env.scope scope [(x, j)] = true)
    (hg : ∀ (s : Shared) (H : Hp) (C : Addr) (cl : List (Str × Addr)) (fp : List Addr), PG (Bk X scope s H C cl fp) (.Name x tp) (gName j)) (hs : ∀ x, foldedSetIterable iter X.env x = pure x)
    (hy : X.N[i]? = some y) (hyl : X.env.scope.names.lookup y = some .local) (hsw : swapsWith (.ListComp elt [⟨.Name x tp, iter, [], 0⟩] scope pos) (some (.Name y py)) spos.line X.env = pure true) :
    RB X (.Assign [.Name y py] (.ListComp elt [⟨.Name x tp, iter, [], 0⟩] scope pos) spos :: rest) Γ nx rt := .mk fun σ H st D k1 k2 =>
  ⟨_, pss_cons (ps_setLc (own := [(x, j)]) (g := gName j) (tt := tYes) hc hN hy hyl hsw (wI_ok (.Name x tp) iter) (blkOk_by ok) hg (fun _ _ _ _ _ => pts_nil) (fun s H C cl fp => bE_ok elt s H C cl fp) hs) (wB_ok rest), hi σ H st _ fun J H1 e1 w => fun E hE =>
    lc_main (enc := enc) (out := out) (keep := fun _ => true) (xs := xs) (K := X.K) w hE hz hlf (fun a v H2 H3 ha e2 e3 hv R r1 _ => ⟨set_wipe, fun s H' C cl fp => he s H' C cl fp a ha _ _ (by
        have q1 := ((st.same (e1.trans (e2.trans e3))).wipe (own := [j])).set (i := j) hv
        have e5 : ([j].foldr (fun i g => g.set i none) Γ).set j (some (enc a)) = Γ.set j (some (enc a)) := List.set_set ..
        rw [e5] at q1
        exact q1) _ fun y H4 e4 hy => r1 y H4 rfl e4 hy⟩)
      (fun H2 acc e2 h2 h3 => by
        have e6 : xs.filter (fun _ => true) = xs := List.filter_eq_self.mpr fun _ _ => rfl
        rw [e6] at h3
        exact hr _ H2 ((st.same (e1.trans e2)).set (.lst h2 h3)) D (fun Γ' σ' H' n e4 => k1 Γ' σ' H' n ((e1.trans e2).trans e4)) fun d v H' r e4 => k2 d v H' r ((e1.trans e2).trans e4))⟩
end
end Tw
namespace Tw
open PySem PySem.Spec PyProof.Rows L2
/-! ### d in t, d not in t: t a tuple of any data -/
section
variable {X : Cx} {dx : PyData} {ds : List PyData}
theorem op_inTD (hu : X.A.units + 65 < cLine) : OpR X (compareOp .In) (fun x y H Q => ∃ d ds, Dp X.K H x d ∧ Dp X.K H y (.tuple ds) ∧ SeqAt.shaped d = true ∧ SeqAt.shaped (.tuple ds) = true ∧ Q (.bl (ds.any fun z => PyData.eqv z d)) H) := by
  intro pins s σ H x y v u Q I rx ry h
  obtain ⟨d, ds, hd, he, sd, se, q⟩ := h
  obtain ⟨as, r1⟩ := Dp.reads I d x v hd rx
  obtain ⟨bs, r2⟩ := Dp.reads I (.tuple ds) y u he ry
  exact SeqAt.in_tuple_reads r2 r1 (SeqAt.canLay_of_shaped se) (SeqAt.canLay_of_shaped sd) (room_in_shaped sd hu) ⟨.bl _, H, I, rfl, q⟩
theorem op_notInTD (hu : X.A.units + 65 < cLine) : OpR X (compareOp .NotIn) (fun x y H Q => ∃ d ds, Dp X.K H x d ∧ Dp X.K H y (.tuple ds) ∧ SeqAt.shaped d = true ∧ SeqAt.shaped (.tuple ds) = true ∧ Q (.bl (!ds.any fun z => PyData.eqv z d)) H) := by
  intro pins s σ H x y v u Q I rx ry h
  obtain ⟨d, ds, hd, he, sd, se, q⟩ := h
  obtain ⟨as, r1⟩ := Dp.reads I d x v hd rx
  obtain ⟨bs, r2⟩ := Dp.reads I (.tuple ds) y u he ry
  exact SeqAt.notIn_tuple_reads r2 r1 (SeqAt.canLay_of_shaped se) (SeqAt.canLay_of_shaped sd) (room_in_shaped sd hu) ⟨.bl _, H, I, rfl, q⟩
theorem od_inTD (hu : X.A.units + 65 < cLine) (h1 : SeqAt.shaped dx = true) (h2 : SeqAt.shaped (.tuple ds) = true) : OD X (compareOp .In) dx (.tuple ds) (.bool (ds.any fun z => PyData.eqv z dx)) := ⟨_, op_inTD hu, fun H x y hx hy Q q =>
  ⟨dx, ds, Hd.dp dx x (shaped_lay h1) hx, Hd.dp (.tuple ds) y (shaped_lay h2) hy, h1, h2, q _ H (Same.refl H) (.bl _)⟩⟩
theorem od_notInTD (hu : X.A.units + 65 < cLine) (h1 : SeqAt.shaped dx = true) (h2 : SeqAt.shaped (.tuple ds) = true) : OD X (compareOp .NotIn) dx (.tuple ds) (.bool (!ds.any fun z => PyData.eqv z dx)) := ⟨_, op_notInTD hu, fun H x y hx hy Q q =>
  ⟨dx, ds, Hd.dp dx x (shaped_lay h1) hx, Hd.dp (.tuple ds) y (shaped_lay h2) hy, h1, h2, q _ H (Same.refl H) (.bl _)⟩⟩
/-- a thing of the module -/
def GD (K : PySem.W.Frag) (mg : Str → Option Value) (x : Str) (d : PyData) : Prop := ∃ b, mg x = some (.ref b) ∧ ∀ H, Hd K H (.ref b) d
theorem pd_gd {x : Str} {pos : Pos} {Γ : Ev} (h : GD X.K X.mg x dx) (hg : Gl X x) (hd : (x == ("__debug__" : Str)) = false) : PD X (.Name x pos) Γ dx := .mk fun σ H st Q q => by
  obtain ⟨b, hm, hk⟩ := h
  exact ⟨_, pe_glob (v := .ref b) hg hm rfl hd, q _ H (Same.refl H) (hk H)⟩
end
end Tw
namespace Tw
open PySem PySem.Spec PyProof.Rows L2
/-! ### a walk over a list of one's own; a list of one's own gets another name -/
theorem StO.move {K : PySem.W.Frag} {H0 H : Hp} {own own' : List Nat} {Γ : Ev} {σ : L2.St} {i j : Nat} {b : Addr} {ds : List PyData} (h : StO K H0 own Γ σ H) (hj : j ∈ own) (hij : i ≠ j) (hb : σ[j]? = some (some (.ref b))) (hΓ : Γ[j]? = some (some (.list ds))) (hlt : i < Γ.length)
    (ho : ∀ k ∈ own', k = i ∨ (k ∈ own ∧ k ≠ i ∧ k ≠ j)) (hs : ∀ k ∈ own, k ∉ own' → k = j ∨ k = i) (hi' : i ∈ own') : StO K H0 own' ((Γ.set j none).set i (some (.list ds))) (σ.set i (some (.ref b))) H := by
  obtain ⟨b0, vs, ds0, c1, c2, c3, c4, c5, c6⟩ := h.mine j hj
  rw [c1] at hb
  cases hb
  rw [hΓ] at c4
  cases c4
  have hσ : i < σ.length := by rw [← h.st.1]; exact hlt
  refine ⟨h.base, ⟨by rw [List.length_set, List.length_set, List.length_set]; exact h.st.1, fun k d hk => ?_⟩, fun k hk => ?_, fun k hk l hl hkl c => ?_, fun k d hk hd => ?_⟩
  · by_cases e : i = k
    · subst e
      rw [List.getElem?_set_self (by rw [List.length_set]; exact hlt)] at hk
      cases hk
      exact ⟨_, List.getElem?_set_self hσ, .lst c3 c5⟩
    · rw [get_set_ne e] at hk ⊢
      by_cases e2 : j = k
      · subst e2
        by_cases hjl : j < Γ.length
        · rw [List.getElem?_set_self hjl] at hk
          cases hk
        · rw [List.getElem?_eq_none (by rw [List.length_set]; omega)] at hk
          cases hk
      · rw [get_set_ne e2] at hk
        exact h.st.2 k d hk
  · rcases ho k hk with e | ⟨k1, k2, k3⟩
    · subst e
      exact ⟨_, vs, ds, List.getElem?_set_self hσ, c2, c3, List.getElem?_set_self (by rw [List.length_set]; exact hlt), c5, c6⟩
    · obtain ⟨a, ws, es, a1, a2, a3, a4, a5, a6⟩ := h.mine k k1
      exact ⟨a, ws, es, by rw [get_set_ne (Ne.symm k2)]; exact a1, a2, a3, by rw [get_set_ne (Ne.symm k2), get_set_ne (Ne.symm k3)]; exact a4, a5, a6⟩
  · rcases ho k hk with e | ⟨k1, k2, k3⟩
    · subst e
      rw [List.getElem?_set_self hσ, get_set_ne hkl]
      intro q r
      cases q
      rcases ho l hl with e | ⟨l1, l2, l3⟩
      · exact hkl e.symm
      · exact h.apart j hj l l1 (Ne.symm l3) _ c1 r
    · rw [get_set_ne (Ne.symm k2)]
      rcases ho l hl with e | ⟨l1, l2, l3⟩
      · subst e
        rw [List.getElem?_set_self hσ]
        intro q r
        cases r
        exact h.apart j hj k k1 (Ne.symm k3) _ c1 q
      · rw [get_set_ne (Ne.symm l2)]
        exact h.apart k k1 l l1 hkl c
  · have hik : i ≠ k := fun q => by subst q; exact hk hi'
    rw [get_set_ne hik] at hd ⊢
    by_cases e2 : j = k
    · subst e2
      by_cases hjl : j < Γ.length
      · rw [List.getElem?_set_self hjl] at hd
        cases hd
      · rw [List.getElem?_eq_none (by rw [List.length_set]; omega)] at hd
        cases hd
    · rw [get_set_ne e2] at hd
      refine h.still k d (fun q => ?_) hd
      rcases hs k q hk with z | z
      · exact e2 z.symm
      · exact hik z.symm
section
variable {X : Cx} {rest body : List Stmt} {pos : Pos} {own own' : List Nat} {Γ : Ev} {ds : List PyData} {nx : List Nat → Ev → Prop} {rt : PyData → Prop}
theorem ro_move {x y : Str} {i j : Nat} {px py : Pos} (own' : List Nat) (hj : j ∈ own) (hij : i ≠ j) (hΓ : Γ[j]? = some (some (.list ds))) (hlt : i < Γ.length) (ho : ∀ k ∈ own', k = i ∨ (k ∈ own ∧ k ≠ i ∧ k ≠ j)) (hs : ∀ k ∈ own, k ∉ own' → k = j ∨ k = i) (hi' : i ∈ own')
    (hr : RO X rest own' ((Γ.set j none).set i (some (.list ds))) nx rt) (hN : X.N.Nodup) (hi : X.N[i]? = some x) (hx : Loc X.env.scope x) (hN2 : X.N[j]? = some y) (hv2 : Vis X.env.scope y)
    (hsw : swapsWith (.Name y py) (some (.Name x px)) pos.line X.env = pure false) (hf : X.fn x = true ∨ X.env.scope.names.lookup x = some .local) (hd : (y == ("__debug__" : Str)) = false) (hcd : (y == ("__classdict__" : Str)) = false) :
    RO X (.Assign [.Name x px] (.Name y py) pos :: rest) own Γ nx rt := ⟨fun H0 σ H st D h1 h2 => by
  obtain ⟨b, vs, ds0, c1, c2, c3, c4, c5, c6⟩ := st.mine j hj
  exact ⟨_, pss_cons (ps_set hN hi hx (pe_var hN2 hv2 hd hcd) hsw hf) (wB_ok rest), _, c1, hr.run H0 _ H (st.move hj hij c1 hΓ hlt ho hs hi') D h1 h2⟩⟩
theorem ro_forO {x y : Str} {i0 j : Nat} {tp py : Pos} (own' : List Nat) (Inv : Nat → Ev → Prop) (hi0 : i0 ∈ own) (ho1 : ∀ i ∈ own', i ∈ own ∧ i ≠ i0) (ho2 : ∀ i ∈ own, i ∉ own' → i = i0) (hΓ : Γ[i0]? = some (some (.list ds))) (hN0 : X.N[i0]? = some y) (hv0 : Vis X.env.scope y) (hjo : j ∉ own')
    (h0 : ∃ Γ', Le Γ Γ' ∧ (∀ d, Γ'[i0]? ≠ some (some d)) ∧ (∀ i ∈ own', ∃ ds, Γ'[i]? = some (some (.list ds))) ∧ Inv 0 Γ')
    (hs : ∀ (i : Nat) (d : PyData) (Γ' : Ev), ds[i]? = some d → Inv i Γ' → RO X body own' (Γ'.set j (some d)) (fun o Γ2 => o = own' ∧ ∃ Γ3, Le Γ2 Γ3 ∧ (∀ i ∈ own', ∃ ds, Γ3[i]? = some (some (.list ds))) ∧ Inv (i + 1) Γ3) rt)
    (hd : ∀ Γ', Inv ds.length Γ' → RO X rest own' Γ' nx rt) (hlf2 : ∀ (i : Nat) (Γ' : Ev), Inv ds.length Γ' → ∀ d, i ∉ own' → Γ'[i]? = some (some d) → lf d = true) (hp : PassesOwn (model X.prog X.w) X.A X.env X.xe) (hc : X.calm = true) (hN : X.N.Nodup) (hj : X.N[j]? = some x) (hx : Loc X.env.scope x) (hf : X.fn x = true ∨ X.env.scope.names.lookup x = some .local) (hsi : ∀ z, foldedSetIterable (.Name y py) X.env z = pure z)
    (hd0 : (y == ("__debug__" : Str)) = false) (hcd0 : (y == ("__classdict__" : Str)) = false) :
    RO X (.For (.Name x tp) (.Name y py) body [] pos :: rest) own Γ nx rt := ⟨fun H0 σ H st D k1 k2 => by
  refine ⟨_, pss_cons (ps_for hp hc (pi_list (pe_var hN0 hv0 hd0 hcd0)) (pg_name (i := j) hN hj hx hf) (wB_ok body) hsi) (wB_ok rest), ?_⟩
  obtain ⟨b, vs, ds0, c1, c2, c3, c4, c5, c6⟩ := st.mine i0 hi0
  rw [hΓ] at c4
  cases c4
  obtain ⟨Γ0, l0, d0, o0, inv0⟩ := h0
  have stL : StO X.K H0 own' Γ0 σ H := st.le l0 (fun i hi => ⟨(ho1 i hi).1, o0 i hi⟩) fun i d h1 h2 h3 => by
    have e := ho2 i h2 h1
    subst e
    exact d0 d h3
  have stb := stL.rebase
  have eb := hide_base stL
  have hpb : hide own' σ H b = some (.lst vs) := by
    rw [hide_def, if_neg]
    · exact c3
    · rintro ⟨i, hi, e2⟩
      obtain ⟨q1, q2⟩ := ho1 i hi
      exact st.apart i q1 i0 hi0 q2 b e2 c1
  refine ⟨_, c1, b, rfl, ⟨vs, SqL.of c3⟩, for_it (walkD_list hpb (HdA.lf (hide_t stL) _ _ c6 c5)) (fun i σ' H' => ∃ Γ', Inv i Γ' ∧ StO X.K (hide own' σ H) own' Γ' σ' H') ⟨Γ0, inv0, stb⟩ (fun i σ' H' _ ⟨_, _, q⟩ => q.base) (fun i v σ' H2 H3 hi' q y => ?_) (fun σ' H2 q => ?_)⟩
  · obtain ⟨Γ', inv, st'⟩ := q
    obtain ⟨e3, d, hd', hv⟩ := y
    have hld : lf d = true := lf_of_mem c6 (List.mem_of_getElem? hd')
    refine (hs i d Γ' hd' inv).run (hide own' σ H) (σ'.set j (some v)) H3 ((st'.same e3).put hv hld (fun k hk => ⟨hk, fun e => hjo (e ▸ hk)⟩) fun k h1 h2 => absurd h1 h2) _ (fun o Γ2 σ2 H4 n st2 => ?_) (fun d2 v2 H4 r e4 hv2 fr => k2 d2 v2 H4 r (eb.trans e4) hv2 (fr.down eb))
    obtain ⟨rfl, Γ3, l3, o3, i3⟩ := n
    exact ⟨Γ3, i3, st2.le l3 (fun i hi => ⟨hi, o3 i hi⟩) fun i d h1 h2 => absurd h2 h1⟩
  · obtain ⟨Γ', inv, st'⟩ := q
    exact (hd Γ' inv).run H0 σ' H2 (st'.down eb fun i d h1 h2 => hlf2 i Γ' inv d h1 h2) D k1 k2⟩
/-- from here on nothing of one's own is changed -/
theorem ro_of_rb {sts : List Stmt} (h : RB X sts Γ (fun _ => False) rt) (hl : ∀ d, rt d → lf d = true) : RO X sts own Γ nx rt := ⟨fun H0 σ H st D h1 h2 => h.run σ H st.st D (fun Γ' σ' H' n => n.elim) fun d v H' r e hv => h2 d v H' r (st.base.trans e) hv (.inl (hl d r))⟩
end
end Tw
namespace Tw
open PySem PySem.Spec PyProof.Rows L2
/-! ### a for over a range, in a body with lists of its own: what else stands, stands -/
structure PIR (X : Cx) (tg iter : Expr) (Γ : Ev) (ds : List PyData) : Prop where
  run : ∀ (σ : L2.St) (H : Hp), StV X.K Γ σ H → ∀ R : It → Hp → Prop, (∀ J H', Same H H' → (∀ Hb, WalkD X.K J Hb ds) → R J H') → wI X tg iter σ H R
section
variable {X : Cx} {a iter tg : Expr} {rest body : List Stmt} {pos p : Pos} {own : List Nat} {Γ : Ev} {ds : List PyData} {nx : List Nat → Ev → Prop} {rt : PyData → Prop}
theorem pir_range1 {n : Nat} (ha : PD X a Γ (.int (n : Int))) (hg : Gl X "range") (hm : X.mg "range" = none) (hn : n ≤ 100000000) (hs : starEach [a] X.env = (false, eval a X.env) :: starEach [] X.env) : PIR X tg (.Call (.Name "range" p) [a] [] pos) Γ ((List.range n).map nD) := ⟨fun σ H st R q =>
  ⟨_, pi_range1 hg hm (pa_cons (wE_ok a) pa_nil hs) hs, ha σ H st _ fun v H1 e1 hv => by
    cases hv
    refine ⟨(n : Int), rfl, by omega, by omega, q _ H1 e1 fun Hb => ?_⟩
    rw [List.range_eq_range']
    exact walkD_rng 0 n⟩⟩
theorem ro_for0 {x : Str} {j : Nat} {tp : Pos} (Inv : Nat → Ev → Prop) (hi : PIR X (.Name x tp) iter Γ ds) (hlf : lfA ds = true) (hjo : j ∉ own) (h0 : ∃ Γ', Le Γ Γ' ∧ (∀ i ∈ own, ∃ ds, Γ'[i]? = some (some (.list ds))) ∧ Inv 0 Γ')
    (hs : ∀ (i : Nat) (d : PyData) (Γ' : Ev), ds[i]? = some d → Inv i Γ' → RO X body own (Γ'.set j (some d)) (fun o Γ2 => o = own ∧ ∃ Γ3, Le Γ2 Γ3 ∧ (∀ i ∈ own, ∃ ds, Γ3[i]? = some (some (.list ds))) ∧ Inv (i + 1) Γ3) rt)
    (hd : ∀ Γ', Inv ds.length Γ' → RO X rest own Γ' nx rt) (hp : PassesOwn (model X.prog X.w) X.A X.env X.xe) (hc : X.calm = true) (hN : X.N.Nodup) (hj : X.N[j]? = some x) (hx : Loc X.env.scope x) (hf : X.fn x = true ∨ X.env.scope.names.lookup x = some .local) (hsi : ∀ x, foldedSetIterable iter X.env x = pure x) :
    RO X (.For (.Name x tp) iter body [] pos :: rest) own Γ nx rt := ⟨fun H0 σ H st D k1 k2 =>
  ⟨_, pss_cons (ps_for hp hc (wI_ok (.Name x tp) iter) (pg_name (i := j) hN hj hx hf) (wB_ok body) hsi) (wB_ok rest), hi.run σ H st.st _ fun J H1 e1 w => by
    obtain ⟨Γ0, l0, o0, i0⟩ := h0
    have st1 := st.same e1
    refine for_it (w H0) (fun i σ' H' => ∃ Γ', Inv i Γ' ∧ StO X.K H0 own Γ' σ' H') ⟨Γ0, i0, st1.le l0 (fun i hi => ⟨hi, o0 i hi⟩) fun i d h1 h2 => absurd h2 h1⟩ (fun i σ' H' _ ⟨_, _, q⟩ => q.base) (fun i v σ' H2 H3 hi' q y => ?_) (fun σ' H2 q => ?_)
    · obtain ⟨Γ', inv, st'⟩ := q
      obtain ⟨e3, d, hd', hv⟩ := y
      have hld : lf d = true := lf_of_mem hlf (List.mem_of_getElem? hd')
      refine (hs i d Γ' hd' inv).run H0 (σ'.set j (some v)) H3 ((st'.same e3).put hv hld (fun k hk => ⟨hk, fun e => hjo (e ▸ hk)⟩) fun k h1 h2 => absurd h1 h2) _ (fun o Γ2 σ2 H4 n st2 => ?_) k2
      obtain ⟨rfl, Γ3, l3, o3, i3⟩ := n
      exact ⟨Γ3, i3, st2.le l3 (fun i hi => ⟨hi, o3 i hi⟩) fun i d h1 h2 => absurd h2 h1⟩
    · obtain ⟨Γ', inv, st'⟩ := q
      exact (hd Γ' inv).run H0 σ' H2 st' D k1 k2⟩⟩
end
end Tw
namespace Tw
open PySem PySem.Spec PyProof.Rows L2
/-! what is tried at an expression, a test, an operation -/
local macro_rules | `(tactic| walk_at "vis") => `(tactic| first | exact Or.inl rfl | exact Or.inr (Or.inl rfl) | exact Or.inr (Or.inr rfl))
local macro_rules | `(tactic| walk_at "side") => `(tactic| first | decide | assumption | omega)
local macro_rules | `(tactic| walk_at "od") => `(tactic| first
  | (with_reducible exact od_add) | (with_reducible exact od_sub)
  | ((with_reducible refine' od_mod ?q); (case q => walk_at "side"))
  | ((with_reducible refine' od_fdiv ?q); (case q => exact ⟨by walk_at "side", by walk_at "side"⟩))
  | ((with_reducible refine' od_mul ?q); (case q => first | exact .inr ⟨by walk_at "side", by walk_at "side"⟩ | exact .inl ⟨by walk_at "side", by walk_at "side"⟩))
  | (with_reducible exact od_lt) | (with_reducible exact od_le) | (with_reducible exact od_gt) | (with_reducible exact od_ge) | (with_reducible exact od_eqI) | (with_reducible exact od_neI) | (with_reducible exact od_eqB) | (with_reducible exact od_neB) | (with_reducible exact od_eqS) | (with_reducible exact od_neS) | (with_reducible exact od_isN) | (with_reducible exact od_notN)
  | ((with_reducible refine' (odl_cat ?q).od); (case q => walk_at "size"))
  | ((with_reducible refine' od_catT ?q); (case q => walk_at "size"))
  | ((with_reducible refine' od_repT ?q1 ?q2 ?q3); (case q1 => decide); (case q2 => decide); (case q3 => walk_at "size"))
  | (with_reducible exact od_inT) | (with_reducible exact od_notInT)
  | (with_reducible exact od_eqR (Room.units (by assumption))) | (with_reducible exact od_neR (Room.units (by assumption))) | (with_reducible exact od_eqLR (Room.units (by assumption))) | (with_reducible exact od_eqLI (Room.units (by assumption)))
  | (with_reducible exact od_eqLI2 (Room.units (by assumption))) | (with_reducible exact od_eqLI3 (Room.units (by assumption))) | (with_reducible exact od_neLI3 (Room.units (by assumption)))
  | ((with_reducible refine' od_eqT0 ?hu ?q); (case hu => exact Room.units (by assumption)); (case q => walk_at "shaped")) | ((with_reducible refine' od_neT0 ?hu ?q); (case hu => exact Room.units (by assumption)); (case q => walk_at "shaped"))
  | ((with_reducible refine' od_eqL0 ?hu ?q); (case hu => exact Room.units (by assumption)); (case q => walk_at "shaped")) | ((with_reducible refine' od_neL0 ?hu ?q); (case hu => exact Room.units (by assumption)); (case q => walk_at "shaped"))
  | exact od_add | exact od_sub | exact od_lt | exact od_le | exact od_gt | exact od_ge | exact od_eqI | exact od_neI)
local macro_rules | `(tactic| walk_at "size") => `(tactic| first | decide | assumption | omega | (simp only [List.length_append, List.length_map, List.length_cons, List.length_nil, List.length_take, List.length_drop, List.length_range]; omega))
local macro_rules | `(tactic| walk_at "cd") => `(tactic| first
  | (with_reducible exact cd_lenL) | (with_reducible exact cd_lenT) | (with_reducible exact cd_lenS) | (with_reducible exact cd_tupL) | (with_reducible exact cd_tupT) | (with_reducible exact cdl_listL.cd) | (with_reducible exact cdl_listT.cd) | ((with_reducible refine' (cdl_sortedT ?q).cd); (case q => walk_at "size")) | ((with_reducible refine' (cdl_sortedL ?q).cd); (case q => walk_at "size"))
  | ((with_reducible refine' cd_max2 ?q); (case q => rfl)) | ((with_reducible refine' cd_min2 ?q); (case q => rfl)) | ((with_reducible refine' cd_sum ?q); (case q => rfl)) | ((with_reducible refine' cd_all ?q); (case q => rfl)))
local macro_rules | `(tactic| walk_at "args") => `(tactic| first
  | (with_reducible exact pad_nil)
  | ((with_reducible refine' pad_cons ?ha ?hb ?hs); (case hs => rfl); (case ha => walk_at "ev"); (case hb => walk_at "args")))
local macro_rules | `(tactic| walk_at "mark") => `(tactic| first | rfl | exact nomark _)
local macro_rules | `(tactic| walk_at "bi") => `(tactic| first
  | ((with_reducible refine' pd_callB (id := "len") ?ho ?hg ?hm (hv := bb_len) ?ha ?hn ?hd ?he ?hp); (case hm => exact (by assumption : Bl _).len))
  | ((with_reducible refine' pd_callT (id := "tuple") ?ho ?hg ?hm (hv := bb_tuple) ?ha ?hn ?hd ?he ?hp); (case hm => exact (by assumption : Bl _).tuple))
  | ((with_reducible refine' pd_callT (id := "list") ?ho ?hg ?hm (hv := bb_list) ?ha ?hn ?hd ?he ?hp); (case hm => exact (by assumption : Bl _).list))
  | ((with_reducible refine' pd_callB (id := "max") ?ho ?hg ?hm (hv := bb_max) ?ha ?hn ?hd ?he ?hp); (case hm => exact (by assumption : Bl _).max))
  | ((with_reducible refine' pd_callB (id := "min") ?ho ?hg ?hm (hv := bb_min) ?ha ?hn ?hd ?he ?hp); (case hm => exact (by assumption : Bl _).min))
  | ((with_reducible refine' pd_callB (id := "sorted") ?ho ?hg ?hm (hv := bb_sorted) ?ha ?hn ?hd ?he ?hp); (case hm => exact (by assumption : Bl _).sorted))
  | ((with_reducible refine' pd_callB (id := "sum") ?ho ?hg ?hm (hv := bb_sum) ?ha ?hn ?hd ?he ?hp); (case hm => exact (by assumption : Bl _).sum))
  | ((with_reducible refine' pd_callB (id := "all") ?ho ?hg ?hm (hv := bb_all) ?ha ?hn ?hd ?he ?hp); (case hm => exact (by assumption : Bl _).all)))
local macro_rules | `(tactic| walk_at "ev") => `(tactic| first
  | (with_reducible exact pd_int)
  | (with_reducible exact pd_bl)
  | (with_reducible exact pd_non)
  | (with_reducible exact pd_str)
  | walk_at "slot"
  | ((with_reducible refine' pd_bin ?ha ?hb ?ho); (case ha => walk_at "ev"); (case hb => walk_at "ev"); (case ho => walk_at "od"))
  | ((with_reducible refine' pd_cmp ?ha ?hb ?ho ?hm); (case hm => walk_at "mark"); (case ha => walk_at "ev"); (case hb => walk_at "ev"); (case ho => walk_at "od"))
  | ((with_reducible refine' pd_chain ?ha ?hb ?hc ?ho ?ho2 ?hm); (case hm => rfl); (case ha => walk_at "ev"); (case hb => walk_at "ev"); (case hc => walk_at "ev"); (case ho => walk_at "od"); (case ho2 => walk_at "od"))
  | ((with_reducible refine' pd_neg ?ha); (case ha => walk_at "ev"))
  | ((with_reducible refine' pd_not ?ha); (case ha => walk_at "ev"))
  | ((with_reducible refine' pd_one ?ha); (case ha => walk_at "ev"))
  | ((with_reducible refine' pd_tup ?ha ?hz); (case ha => walk_at "args"); (case hz => exact Nat.le_of_ble_eq_true rfl))
  | ((with_reducible refine' (pdl_lst ?ha ?hz).pd); (case ha => walk_at "args"); (case hz => exact Nat.le_of_ble_eq_true rfl))
  | ((with_reducible refine' pd_isInt ?ha ?hn ?hg ?hm ?hg2 ?hm2 ?he); (case hg => rfl); (case hg2 => rfl); (case hm => exact (by assumption : Bl _).isinstance); (case hm2 => exact (by assumption : Bl _).int); (case he => rfl); (case ha => walk_at "ev"); (case hn => walk_at "nd"))
  | ((with_reducible refine' pd_isBool ?ha ?hn ?hg ?hm ?hg2 ?hm2 ?he); (case hg => rfl); (case hg2 => rfl); (case hm => exact (by assumption : Bl _).isinstance); (case hm2 => exact (by assumption : Bl _).bool); (case he => rfl); (case ha => walk_at "ev"); (case hn => walk_at "nd"))
  | ((with_reducible refine' pd_isTup ?ha ?hn ?hg ?hm ?hg2 ?hm2 ?he); (case hg => rfl); (case hg2 => rfl); (case hm => exact (by assumption : Bl _).isinstance); (case hm2 => exact (by assumption : Bl _).tuple); (case he => rfl); (case ha => walk_at "ev"); (case hn => walk_at "nd"))
  | ((with_reducible refine' (pdl_lrg ?ha ?hn ?hc ?hg ?hm ?hg2 ?hm2 ?na ?nb).pd); (case hc => rfl); (case hg => rfl); (case hg2 => rfl); (case hm => exact (by assumption : Bl _).list); (case hm2 => exact (by assumption : Bl _).range); (case na => rfl); (case nb => rfl); (case ha => walk_at "ev"); (case hn => walk_at "size"))
  | ((with_reducible refine' pd_tuprg ?ha ?hn ?hc ?hg ?hm ?hg2 ?hm2 ?na ?nb); (case hc => rfl); (case hg => rfl); (case hg2 => rfl); (case hm => exact (by assumption : Bl _).tuple); (case hm2 => exact (by assumption : Bl _).range); (case na => rfl); (case nb => rfl); (case ha => walk_at "ev"); (case hn => walk_at "size"))
  | ((with_reducible refine' pd_tuprgI ?ha ?h0 ?hn ?hc ?hg ?hm ?hg2 ?hm2 ?na ?nb); (case hc => rfl); (case hg => rfl); (case hg2 => rfl); (case hm => exact (by assumption : Bl _).tuple); (case hm2 => exact (by assumption : Bl _).range); (case na => rfl); (case nb => rfl); (case ha => walk_at "ev"); (case h0 => decide); (case hn => decide))
  | (walk_at "bi"; (case hg => rfl); (case hn => decide); (case hd => decide); (case he => rfl); (case hp => rfl); (case ha => walk_at "args"); (case ho => walk_at "cd"))
  | ((with_reducible refine' pd_call ?hf ?hr ?hg ?ha ?hR ?hd ?he ?hp); (case hf => assumption); (case hg => rfl); (case hd => decide); (case he => rfl); (case hp => rfl); (case hr => exact Room.mono (by assumption) (by decide)); (case ha => walk_at "args"); (case hR => walk_at "R"))
  | ((with_reducible refine' pd_meth (name := Str.ofString "index") (T := "list") (id := "list.index") PySem.F.plainAttrs_list PySem.F.slot_list_index PySem.F.type_list_index ?hm ?ho ?ha ?hb ?hf ?hl ?hs ?hp); (case hb => rfl); (case hf => rfl); (case hl => rfl); (case hs => rfl); (case hp => rfl); (case ho => walk_at "ev"); (case ha => walk_at "args"); (case hm => walk_at "index"))
  | ((with_reducible refine' (pdl_slTo ?ha ?h1 ?h2).pd); (case ha => walk_at "ev"); (case h1 => walk_at "ev"); (case h2 => walk_at "side"))
  | ((with_reducible refine' (pdl_slFrom ?ha ?h1 ?h2).pd); (case ha => walk_at "ev"); (case h1 => walk_at "ev"); (case h2 => walk_at "side"))
  | ((with_reducible refine' pd_slTTo ?ha ?h1 ?h2); (case ha => walk_at "ev"); (case h1 => walk_at "ev"); (case h2 => walk_at "side"))
  | ((with_reducible refine' pd_slTFrom ?ha ?h1 ?h2); (case ha => walk_at "ev"); (case h1 => walk_at "ev"); (case h2 => walk_at "side"))
  | ((with_reducible refine' pd_revT ?ha); (case ha => walk_at "ev"))
  | ((with_reducible refine' (pdl_revL ?ha).pd); (case ha => walk_at "ev"))
  | ((with_reducible refine' pd_slT ?ha ?h1 ?h2); (case ha => walk_at "ev"); (case h1 => walk_at "part"); (case h2 => walk_at "part"))
  | ((with_reducible refine' (pdl_sl ?ha ?h1 ?h2).pd); (case ha => walk_at "ev"); (case h1 => walk_at "part"); (case h2 => walk_at "part"))
  | ((with_reducible refine' pd_ix ?ha ?hb ?ho ?hs); (case hs => exact fun _ _ => rfl); (case ha => walk_at "ev"); (case hb => walk_at "ev"); (case ho => walk_at "ix"))
  )
local macro_rules | `(tactic| walk_at "part") => `(tactic| first
  | (with_reducible exact pod_none)
  | ((with_reducible refine' pod_some ?ha); (case ha => walk_at "ev")))
local macro_rules | `(tactic| walk_at "test") => `(tactic| first
  | ((with_reducible refine' ptd_cmp ?ha ?hb ?ho ?hm); (case hm => walk_at "mark"); (case ha => walk_at "ev"); (case hb => walk_at "ev"); (case ho => walk_at "od"))
  | ((with_reducible refine' ptd_chain ?ha ?hb ?hc ?ho ?ho2 ?hm); (case hm => rfl); (case ha => walk_at "ev"); (case hb => walk_at "ev"); (case hc => walk_at "ev"); (case ho => walk_at "od"); (case ho2 => walk_at "od"))
  | ((with_reducible refine' ptd_not ?ha); (case ha => walk_at "test"))
  | ((with_reducible refine' ptd_val ?ha ?he); (case he => intro _; rfl); (case ha => walk_at "ev")))
local macro_rules | `(tactic| walk_at "loc") => `(tactic| first | exact Or.inl rfl | exact Or.inr rfl)
local macro_rules | `(tactic| walk_at "set") => `(tactic| (walk_at "asg"; (case hN => assumption); (case hi => rfl); (case hx => walk_at "loc"); (case hs => rfl); (case hf => walk_at "loc"); (case he => walk_at "ev"); walk_at "tidy"))
local macro_rules | `(tactic| walk_at "ret") => `(tactic| ((with_reducible refine' rb_ret ?he ?hr); (case he => walk_at "ev")))
local macro_rules | `(tactic| walk_at "open") => `(tactic| ((show RB _ (_ :: _) _ _ _); walk_at "tidy"))
local macro_rules | `(tactic| walk_at "if") => `(tactic| ((with_reducible refine' rb_ifr ?hc ?h1 ?hr); (case hc => walk_at "test")))
local macro_rules | `(tactic| walk_at "ifset") => `(tactic| (walk_at "ifasg"; (case hN => assumption); (case hi => rfl); (case hx => walk_at "loc"); (case hs => rfl); (case hf => walk_at "loc"); (case h0 => rfl); (case hc => walk_at "test"); (case he => intro _; walk_at "ev"); walk_at "tidy"))
local macro_rules | `(tactic| walk_at "for1") => `(tactic| ((case hp => exact PassesOwn.never); (case hc => rfl); (case hN => assumption); (case hj => rfl); (case hx => walk_at "loc"); (case hf => walk_at "loc"); (case hsi => intro _; rfl)))
local macro_rules | `(tactic| walk_at "lc") => `(tactic| ((case hc => rfl); (case hN => assumption); (case ok => walk_at "blk"); (case hg => (intro s H C cl fp; first | exact pg_name (by assumption) rfl (Or.inl rfl) | exact pg_name (by assumption) rfl (Or.inr rfl))); (case hs => intro _; rfl)))
local macro_rules | `(tactic| walk_at "tup") => `(tactic| ((with_reducible refine' pd_tupL ?hl ?hg ?hm ?hs); (case hg => rfl); (case hm => exact (by assumption : Bl _).tuple); (case hs => rfl)))
local macro_rules | `(tactic| walk_at "len") => `(tactic| ((with_reducible refine' pd_lenL ?hl ?hg ?hm ?hs); (case hg => rfl); (case hm => exact (by assumption : Bl _).len); (case hs => rfl)))
local macro_rules | `(tactic| walk_at "shaped") => `(tactic| first | assumption | exact sh_row _ | exact sh_lst _ | rfl | exact sh_ints _)
local macro_rules | `(tactic| walk_at "nd") => `(tactic| first | exact shaped_nd (by assumption) | (intro _ q; cases q))
local macro_rules | `(tactic| walk_at "lc2") => `(tactic| ((case hc => rfl); (case hN => assumption); (case ok => kernel_rfl); (case hg => (intro s H C cl fp; first | exact pg_name (by assumption) rfl (Or.inl rfl) | exact pg_name (by assumption) rfl (Or.inr rfl))); (case hs => intro _; rfl)))
/-! bodies that change lists of their own -/
local macro_rules | `(tactic| walk_at "ropen") => `(tactic| ((show RO _ (_ :: _) _ _ _ _); walk_at "rtidy"))
local macro_rules | `(tactic| walk_at "lf") => `(tactic| first | rfl | assumption | exact lfA_ints _)
local macro_rules | `(tactic| walk_at "rset") => `(tactic| (walk_at "rasg"; (case hN => assumption); (case hi => rfl); (case hx => walk_at "loc"); (case hs => rfl); (case hf => walk_at "loc"); (case ho => decide); (case he => walk_at "ev"); (case hl => walk_at "lf"); walk_at "rtidy"))
local macro_rules | `(tactic| walk_at "rifset") => `(tactic| (walk_at "rifasg"; (case hN => assumption); (case hi => rfl); (case hx => walk_at "loc"); (case hs => rfl); (case hf => walk_at "loc"); (case h0 => rfl); (case hio => decide); (case hc => walk_at "test"); (case he => intro _; walk_at "ev"); walk_at "rtidy"))
local macro_rules | `(tactic| walk_at "rfor1") => `(tactic| ((case hp => exact PassesOwn.never); (case hc => rfl); (case hN => assumption); (case hj => rfl); (case hx => walk_at "loc"); (case hf => walk_at "loc"); (case hsi => intro _; rfl); (case hjo => decide)))
local macro_rules | `(tactic| walk_at "rif") => `(tactic| ((with_reducible refine' ro_ifr ?hc ?h1 ?hr); (case hc => walk_at "test")))
local macro_rules | `(tactic| walk_at "rret") => `(tactic| ((with_reducible refine' ro_ret ?he ?hl ?hr); (case he => walk_at "ev"); (case hl => walk_at "lf")))
def topS (i : Nat) : Stmt := PySem.Challenge.pw_twistyard_k50_whole_counted.main.body.getD i (.Pass ⟨0, 0, 0, 0⟩)
section
variable {P : Program} {w : World} {K : PySem.W.Frag} {mg : Str → Option Value} {base : Heap}
def flatI (ns : List Int) : List Nat := ns.map fun n => (srt ns).idxOf n
def flatN (xs : List Nat) : List Nat := flatI (xs.map fun n : Nat => (n : Int))
abbrev s_flat : Stmt := topS 1
abbrev p_flat : List Str := ["numbers"]
abbrev n_flat : List Str := ["numbers", "order", "number"]
theorem sc_flat : FnScope n_flat p_flat (defScope s_flat) := ⟨rfl, rfl, rfl, by decide +kernel, rfl, by decide +kernel, by decide +kernel⟩
local macro_rules | `(tactic| walk_at "slot") => `(tactic| first

  | ((with_reducible refine' pd_var (x := Str.ofString "numbers") (i := 0) ?hN ?hΓ ?hv ?hd ?hcd); (case hN => rfl); (case hΓ => rfl); (case hv => walk_at "vis"); (case hd => decide); (case hcd => decide))
  | ((with_reducible refine' pd_var (x := Str.ofString "order") (i := 1) ?hN ?hΓ ?hv ?hd ?hcd); (case hN => rfl); (case hΓ => rfl); (case hv => walk_at "vis"); (case hd => decide); (case hcd => decide))
  | ((with_reducible refine' pd_var (x := Str.ofString "number") (i := 2) ?hN ?hΓ ?hv ?hd ?hcd); (case hN => rfl); (case hΓ => rfl); (case hv => walk_at "vis"); (case hd => decide); (case hcd => decide)))
local macro_rules | `(tactic| walk_at "asg") => `(tactic| first
  | (with_reducible refine' rb_asg (x := Str.ofString "numbers") (i := 0) ?he ?hr ?hN ?hi ?hx ?hs ?hf)
  | (with_reducible refine' rb_asg (x := Str.ofString "order") (i := 1) ?he ?hr ?hN ?hi ?hx ?hs ?hf)
  | (with_reducible refine' rb_asg (x := Str.ofString "number") (i := 2) ?he ?hr ?hN ?hi ?hx ?hs ?hf))
local macro_rules | `(tactic| walk_at "rasg") => `(tactic| first
  | (with_reducible refine' ro_asgS (x := Str.ofString "numbers") (i := 0) ?he ?hl ?hr ?ho ?hN ?hi ?hx ?hs ?hf)
  | (with_reducible refine' ro_asgS (x := Str.ofString "order") (i := 1) ?he ?hl ?hr ?ho ?hN ?hi ?hx ?hs ?hf)
  | (with_reducible refine' ro_asgS (x := Str.ofString "number") (i := 2) ?he ?hl ?hr ?ho ?hN ?hi ?hx ?hs ?hf))
local macro_rules | `(tactic| walk_at "rasgL") => `(tactic| first
  | (with_reducible refine' ro_asgL (x := Str.ofString "numbers") (i := 0) _ ?he ?hl ?hr ?hlt ?ho ?ho2 ?hio ?hN ?hi ?hx ?hs ?hf)
  | (with_reducible refine' ro_asgL (x := Str.ofString "order") (i := 1) _ ?he ?hl ?hr ?hlt ?ho ?ho2 ?hio ?hN ?hi ?hx ?hs ?hf)
  | (with_reducible refine' ro_asgL (x := Str.ofString "number") (i := 2) _ ?he ?hl ?hr ?hlt ?ho ?ho2 ?hio ?hN ?hi ?hx ?hs ?hf))
local macro_rules | `(tactic| walk_at "rifasg") => `(tactic| first
  | (with_reducible refine' ro_ifI (x := Str.ofString "numbers") (i := 0) ?hc ?he ?h0 ?hr ?hio ?hN ?hi ?hx ?hs ?hf)
  | (with_reducible refine' ro_ifI (x := Str.ofString "order") (i := 1) ?hc ?he ?h0 ?hr ?hio ?hN ?hi ?hx ?hs ?hf)
  | (with_reducible refine' ro_ifI (x := Str.ofString "number") (i := 2) ?hc ?he ?h0 ?hr ?hio ?hN ?hi ?hx ?hs ?hf))
local macro_rules | `(tactic| walk_at "rtidy") => `(tactic| (show RO _ _ _ [_, _, _] _ _))
local macro_rules | `(tactic| walk_at "blk") => `(tactic| ((show blkC n_flat (defScope s_flat) _ _ = true); decide +kernel))
local macro_rules | `(tactic| walk_at "tidy") => `(tactic| (show RB _ _ [_, _, _] _ _))
local macro_rules | `(tactic| walk_at "ifasg") => `(tactic| first
  | (with_reducible refine' rb_ifI (x := Str.ofString "numbers") (i := 0) ?hc ?he ?h0 ?hr ?hN ?hi ?hx ?hs ?hf)
  | (with_reducible refine' rb_ifI (x := Str.ofString "order") (i := 1) ?hc ?he ?h0 ?hr ?hN ?hi ?hx ?hs ?hf)
  | (with_reducible refine' rb_ifI (x := Str.ofString "number") (i := 2) ?hc ?he ?h0 ?hr ?hN ?hi ?hx ?hs ?hf))
def R_flat : Rel := fun ds r => ∃ ns : List Int, ds = [.tuple (ns.map PyData.int)] ∧ ns.length < 64 ∧ r = rowD (flatI ns)
theorem R_flat_i {xs : List Nat} (h : xs.length < 64) : R_flat [.tuple (xs.map nD)] (rowD (flatN xs)) := ⟨_, by rw [nD_ints], by rw [List.length_map]; exact h, rfl⟩
local macro_rules | `(tactic| walk_at "R") => `(tactic| exact R_flat_i (by walk_at "size"))
local macro_rules | `(tactic| walk_at "index") => `(tactic| exact md_index ((srt_perm _).symm.subset (by assumption)))
theorem ok_flat (D : Dn K mg "flat" s_flat p_flat) (B : Bl mg) : Df P w K mg base "flat" 1 p_flat R_flat := by
  refine D.ok sc_flat (fun ds r ⟨ns, e, _⟩ => by rw [e] <;> rfl) fun f cdv A outer s H E hr ds r h => ?_
  obtain ⟨ns, rfl, h64, rfl⟩ := h
  have nd := sc_flat.nd
  walk_at "open"
  walk_at "set"
  refine' rb_ret ?he ?hr
  case he =>
    walk_at "tup"
    case hl =>
      refine' pdl_lc (j := 2) PyData.int (fun n => nD ((srt ns).idxOf n)) ns ?hi ?hz ?hlf ?he ?hc ?hN ?ok ?hg ?hs
      walk_at "lc"
      case hi => exact pid_tup (by walk_at "ev")
      case hz => omega
      case hlf => intro a ha; rfl
      case he =>
        intro s H C cl fp a ha
        walk_at "ev"
  case hr =>
    show PyData.tuple _ = PyData.tuple ((ns.map fun n => (srt ns).idxOf n).map nD)
    rw [List.map_map] <;> rfl
def firstF (rest : List Nat) : Nat := match rest.getLast? with
  | none => 0
  | some x => x + 1
def stepP (n : Nat) (rest : List Nat) : List (List Nat) := (List.range' (firstF rest) (n - firstF rest)).map fun p => rest ++ [p]
def placesF (n : Nat) : Nat → List (List Nat)
  | 0 => [[]]
  | m + 1 => (placesF n m).flatMap (stepP n)
theorem stepP_len (n : Nat) (rest : List Nat) : (stepP n rest).length ≤ n := by
  unfold stepP
  rw [List.length_map, List.length_range']
  omega
theorem flatP_len (n : Nat) : ∀ xs : List (List Nat), (xs.flatMap (stepP n)).length ≤ n * xs.length
  | [] => by simp
  | x :: xs => by
    rw [List.flatMap_cons, List.length_append, List.length_cons, Nat.mul_add]
    have h1 := stepP_len n x
    have h2 := flatP_len n xs
    omega
theorem placesF_len {n : Nat} (h : n ≤ 10) : ∀ m, (placesF n m).length ≤ 10 ^ m
  | 0 => Nat.le_refl _
  | m + 1 => by
    rw [placesF, Nat.pow_succ, Nat.mul_comm]
    refine Nat.le_trans (flatP_len n _) (Nat.mul_le_mul h (placesF_len h m))
theorem stepP_mem {n : Nat} {rest ps : List Nat} (h : ps ∈ stepP n rest) : ∃ p, ps = rest ++ [p] ∧ firstF rest ≤ p ∧ p < n := by
  unfold stepP at h
  obtain ⟨p, hp, rfl⟩ := List.mem_map.mp h
  rw [List.mem_range'_1] at hp
  exact ⟨p, rfl, by omega, by omega⟩
theorem places_mem {n : Nat} : ∀ {m : Nat} {ps : List Nat}, ps ∈ placesF n m → ps.Pairwise (· < ·) ∧ ps.length = m ∧ ∀ p ∈ ps, p < n
  | 0, ps, h => by
    rw [placesF, List.mem_singleton] at h
    subst h
    exact ⟨.nil, rfl, fun p hp => nomatch hp⟩
  | m + 1, ps, h => by
    rw [placesF, List.mem_flatMap] at h
    obtain ⟨rest, hr, hps⟩ := h
    obtain ⟨h1, h2, h3⟩ := places_mem hr
    obtain ⟨p, rfl, hp1, hp2⟩ := stepP_mem hps
    refine ⟨List.pairwise_append.mpr ⟨h1, by simp, fun a ha b hb => ?_⟩, by rw [List.length_append, h2] <;> rfl, fun q hq => ?_⟩
    · rw [List.mem_singleton] at hb
      subst hb
      refine Nat.lt_of_lt_of_le ?_ hp1
      have hne : rest ≠ [] := List.ne_nil_of_mem ha
      unfold firstF
      rw [List.getLast?_eq_getLast hne]
      show a < rest.getLast hne + 1
      have e := List.dropLast_concat_getLast hne
      rw [← e] at ha h1
      rcases List.mem_append.mp ha with q | q
      · have := (List.pairwise_append.mp h1).2.2 a q _ (List.mem_singleton.mpr rfl)
        omega
      · rw [List.mem_singleton] at q
        omega
    · rcases List.mem_append.mp hq with q | q
      · exact h3 _ q
      · rw [List.mem_singleton] at q
        omega
theorem firstF_le {n m : Nat} {ps : List Nat} (h : ps ∈ placesF n m) : firstF ps ≤ n := by
  obtain ⟨_, _, h3⟩ := places_mem h
  unfold firstF
  split
  · exact Nat.zero_le _
  · rename_i x hx
    have := h3 x (List.mem_of_getLast? hx)
    omega
theorem rowsD_lf : ∀ xs : List (List Nat), lfA (xs.map rowD) = true
  | [] => by simp [lfA]
  | x :: xs => by
    rw [List.map_cons, lfA, rowsD_lf xs, Bool.and_true]
    show lf (.tuple (x.map nD)) = true
    rw [lf, nD_ints]
    exact lfA_ints _
theorem lf_row (xs : List Nat) : lf (rowD xs) = true := by
  show lf (.tuple (xs.map nD)) = true
  rw [lf, nD_ints]
  exact lfA_ints _
abbrev s_some_places : Stmt := topS 2
abbrev p_some_places : List Str := ["length", "many"]
abbrev n_some_places : List Str := ["length", "many", "found", "rest", "first", "place"]
theorem sc_some_places : FnScope n_some_places p_some_places (defScope s_some_places) := ⟨rfl, rfl, rfl, by decide +kernel, rfl, by decide +kernel, by decide +kernel⟩
local macro_rules | `(tactic| walk_at "slot") => `(tactic| first

  | ((with_reducible refine' pd_var (x := Str.ofString "length") (i := 0) ?hN ?hΓ ?hv ?hd ?hcd); (case hN => rfl); (case hΓ => rfl); (case hv => walk_at "vis"); (case hd => decide); (case hcd => decide))
  | ((with_reducible refine' pd_var (x := Str.ofString "many") (i := 1) ?hN ?hΓ ?hv ?hd ?hcd); (case hN => rfl); (case hΓ => rfl); (case hv => walk_at "vis"); (case hd => decide); (case hcd => decide))
  | ((with_reducible refine' pd_var (x := Str.ofString "found") (i := 2) ?hN ?hΓ ?hv ?hd ?hcd); (case hN => rfl); (case hΓ => rfl); (case hv => walk_at "vis"); (case hd => decide); (case hcd => decide))
  | ((with_reducible refine' pd_var (x := Str.ofString "rest") (i := 3) ?hN ?hΓ ?hv ?hd ?hcd); (case hN => rfl); (case hΓ => rfl); (case hv => walk_at "vis"); (case hd => decide); (case hcd => decide))
  | ((with_reducible refine' pd_var (x := Str.ofString "first") (i := 4) ?hN ?hΓ ?hv ?hd ?hcd); (case hN => rfl); (case hΓ => rfl); (case hv => walk_at "vis"); (case hd => decide); (case hcd => decide))
  | ((with_reducible refine' pd_var (x := Str.ofString "place") (i := 5) ?hN ?hΓ ?hv ?hd ?hcd); (case hN => rfl); (case hΓ => rfl); (case hv => walk_at "vis"); (case hd => decide); (case hcd => decide)))
local macro_rules | `(tactic| walk_at "asg") => `(tactic| first
  | (with_reducible refine' rb_asg (x := Str.ofString "length") (i := 0) ?he ?hr ?hN ?hi ?hx ?hs ?hf)
  | (with_reducible refine' rb_asg (x := Str.ofString "many") (i := 1) ?he ?hr ?hN ?hi ?hx ?hs ?hf)
  | (with_reducible refine' rb_asg (x := Str.ofString "found") (i := 2) ?he ?hr ?hN ?hi ?hx ?hs ?hf)
  | (with_reducible refine' rb_asg (x := Str.ofString "rest") (i := 3) ?he ?hr ?hN ?hi ?hx ?hs ?hf)
  | (with_reducible refine' rb_asg (x := Str.ofString "first") (i := 4) ?he ?hr ?hN ?hi ?hx ?hs ?hf)
  | (with_reducible refine' rb_asg (x := Str.ofString "place") (i := 5) ?he ?hr ?hN ?hi ?hx ?hs ?hf))
local macro_rules | `(tactic| walk_at "rasg") => `(tactic| first
  | (with_reducible refine' ro_asgS (x := Str.ofString "length") (i := 0) ?he ?hl ?hr ?ho ?hN ?hi ?hx ?hs ?hf)
  | (with_reducible refine' ro_asgS (x := Str.ofString "many") (i := 1) ?he ?hl ?hr ?ho ?hN ?hi ?hx ?hs ?hf)
  | (with_reducible refine' ro_asgS (x := Str.ofString "found") (i := 2) ?he ?hl ?hr ?ho ?hN ?hi ?hx ?hs ?hf)
  | (with_reducible refine' ro_asgS (x := Str.ofString "rest") (i := 3) ?he ?hl ?hr ?ho ?hN ?hi ?hx ?hs ?hf)
  | (with_reducible refine' ro_asgS (x := Str.ofString "first") (i := 4) ?he ?hl ?hr ?ho ?hN ?hi ?hx ?hs ?hf)
  | (with_reducible refine' ro_asgS (x := Str.ofString "place") (i := 5) ?he ?hl ?hr ?ho ?hN ?hi ?hx ?hs ?hf))
local macro_rules | `(tactic| walk_at "rasgL") => `(tactic| first
  | (with_reducible refine' ro_asgL (x := Str.ofString "length") (i := 0) _ ?he ?hl ?hr ?hlt ?ho ?ho2 ?hio ?hN ?hi ?hx ?hs ?hf)
  | (with_reducible refine' ro_asgL (x := Str.ofString "many") (i := 1) _ ?he ?hl ?hr ?hlt ?ho ?ho2 ?hio ?hN ?hi ?hx ?hs ?hf)
  | (with_reducible refine' ro_asgL (x := Str.ofString "found") (i := 2) _ ?he ?hl ?hr ?hlt ?ho ?ho2 ?hio ?hN ?hi ?hx ?hs ?hf)
  | (with_reducible refine' ro_asgL (x := Str.ofString "rest") (i := 3) _ ?he ?hl ?hr ?hlt ?ho ?ho2 ?hio ?hN ?hi ?hx ?hs ?hf)
  | (with_reducible refine' ro_asgL (x := Str.ofString "first") (i := 4) _ ?he ?hl ?hr ?hlt ?ho ?ho2 ?hio ?hN ?hi ?hx ?hs ?hf)
  | (with_reducible refine' ro_asgL (x := Str.ofString "place") (i := 5) _ ?he ?hl ?hr ?hlt ?ho ?ho2 ?hio ?hN ?hi ?hx ?hs ?hf))
local macro_rules | `(tactic| walk_at "rifasg") => `(tactic| first
  | (with_reducible refine' ro_ifI (x := Str.ofString "length") (i := 0) ?hc ?he ?h0 ?hr ?hio ?hN ?hi ?hx ?hs ?hf)
  | (with_reducible refine' ro_ifI (x := Str.ofString "many") (i := 1) ?hc ?he ?h0 ?hr ?hio ?hN ?hi ?hx ?hs ?hf)
  | (with_reducible refine' ro_ifI (x := Str.ofString "found") (i := 2) ?hc ?he ?h0 ?hr ?hio ?hN ?hi ?hx ?hs ?hf)
  | (with_reducible refine' ro_ifI (x := Str.ofString "rest") (i := 3) ?hc ?he ?h0 ?hr ?hio ?hN ?hi ?hx ?hs ?hf)
  | (with_reducible refine' ro_ifI (x := Str.ofString "first") (i := 4) ?hc ?he ?h0 ?hr ?hio ?hN ?hi ?hx ?hs ?hf)
  | (with_reducible refine' ro_ifI (x := Str.ofString "place") (i := 5) ?hc ?he ?h0 ?hr ?hio ?hN ?hi ?hx ?hs ?hf))
local macro_rules | `(tactic| walk_at "rtidy") => `(tactic| (show RO _ _ _ [_, _, _, _, _, _] _ _))
local macro_rules | `(tactic| walk_at "blk") => `(tactic| ((show blkC n_some_places (defScope s_some_places) _ _ = true); decide +kernel))
local macro_rules | `(tactic| walk_at "tidy") => `(tactic| (show RB _ _ [_, _, _, _, _, _] _ _))
local macro_rules | `(tactic| walk_at "ifasg") => `(tactic| first
  | (with_reducible refine' rb_ifI (x := Str.ofString "length") (i := 0) ?hc ?he ?h0 ?hr ?hN ?hi ?hx ?hs ?hf)
  | (with_reducible refine' rb_ifI (x := Str.ofString "many") (i := 1) ?hc ?he ?h0 ?hr ?hN ?hi ?hx ?hs ?hf)
  | (with_reducible refine' rb_ifI (x := Str.ofString "found") (i := 2) ?hc ?he ?h0 ?hr ?hN ?hi ?hx ?hs ?hf)
  | (with_reducible refine' rb_ifI (x := Str.ofString "rest") (i := 3) ?hc ?he ?h0 ?hr ?hN ?hi ?hx ?hs ?hf)
  | (with_reducible refine' rb_ifI (x := Str.ofString "first") (i := 4) ?hc ?he ?h0 ?hr ?hN ?hi ?hx ?hs ?hf)
  | (with_reducible refine' rb_ifI (x := Str.ofString "place") (i := 5) ?hc ?he ?h0 ?hr ?hN ?hi ?hx ?hs ?hf))
def R_sp (M : Nat) : List PyData → List PyData → Prop := fun ds es => ∃ n m : Nat, ds = [nD n, nD m] ∧ n ≤ 10 ∧ m ≤ M ∧ m ≤ 6 ∧ es = (placesF n m).map rowD
theorem ok_sp_0 {k : Nat} (M : Nat) (m0 : M = 0 ∨ ∃ M', M = M' + 1 ∧ k = M' + 1 ∧ DfL P w K mg base "some_places" (M' + 1) p_some_places (R_sp M')) (D : Dn K mg "some_places" s_some_places p_some_places) (B : Bl mg) : DfL P w K mg base "some_places" (k + 1) p_some_places (R_sp M) := by
  refine D.okL sc_some_places (fun ds r ⟨n, m, e, _⟩ => by rw [e] <;> rfl) (fun _ _ _ => trivial) fun f cdv A outer s H E hr ds r h => ?_
  obtain ⟨n, m, rfl, hn, hm, hm6, rfl⟩ := h
  have nd := sc_some_places.nd
  walk_at "ropen"
  refine' ro_ifr (k := decide ((m : Int) = 0)) ?g1 ?g2 ?g3
  case g1 => walk_at "test"
  case g2 =>
    intro hk
    have hk' := of_decide_eq_true hk
    have hm0 : m = 0 := by omega
    subst hm0
    refine' ro_retL (ds := [.tuple []]) ?g4 rfl
    case g4 =>
      refine' pdl_lst ?g5 ?g6
      case g5 => walk_at "args"
      case g6 => decide
  case g3 =>
    intro hk
    have hk' := of_decide_eq_false hk
    obtain ⟨M', hM, hkM, ih⟩ : ∃ M', M = M' + 1 ∧ k = M' + 1 ∧ DfL P w K mg base "some_places" (M' + 1) p_some_places (R_sp M') := by
      rcases m0 with q | q
      · omega
      · exact q
    subst hM
    subst hkM
    obtain ⟨m', rfl⟩ : ∃ m', m = m' + 1 := ⟨m - 1, by omega⟩
    refine' ro_asgL (x := Str.ofString "found") (i := 2) (ds := []) [2] ?g4 rfl ?g5 (Nat.le_of_ble_eq_true rfl) (by decide) (by decide) (by decide) nd rfl (by walk_at "loc") rfl (by walk_at "loc")
    case g4 =>
      refine' pdl_lst ?g6 ?g7
      case g6 => walk_at "args"
      case g7 => decide
    case g5 =>
      walk_at "rtidy"
      refine' ro_forL (j := 3) (ds := (placesF n m').map rowD) (fun i Γ => Γ = [some (nD n), some (nD (m' + 1)), some (.list ((((placesF n m').take i).flatMap (stepP n)).map rowD)), none, none, none]) ?h1 (rowsD_lf _) ?hjo ?h2 ?h3 ?h4 ?h5 ?hp ?hc ?hN ?hj ?hx ?hf ?hsi
      walk_at "rfor1"
      case h1 =>
        refine' pdl_call (ds := [nD n, nD m']) ih ?j1 rfl ?j2 ⟨n, m', rfl, hn, by omega, by omega, rfl⟩
        case j1 => exact hr
        case j2 =>
          refine' pad_cons ?j3 (pad_cons ?j4 pad_nil)
          case j3 => walk_at "ev"
          case j4 =>
            refine' PD.is ?j5 ?j6
            case j5 => walk_at "ev"
            case j6 => exact congrArg PyData.int (by omega)
      case h2 => exact ⟨_, .cons (.cons (.cons (.drop (.drop (.drop .nil))))), by intro i hi; rw [List.mem_singleton] at hi; subst hi; exact ⟨_, rfl⟩, rfl⟩
      case h3 =>
        rintro i d Γ' hd' rfl
        obtain ⟨rest, hrest, rfl⟩ := mapG_at hd'
        walk_at "rtidy"
        have hi : i < (placesF n m').length := (List.getElem?_eq_some_iff.mp hrest).1
        have hil := placesF_len hn m'
        have h5 : 10 ^ m' ≤ 10 ^ 5 := Nat.pow_le_pow_right (by decide) (by omega)
        walk_at "rset"
        refine' ro_ifI (x := Str.ofString "first") (i := 4) (q := 0 < (rest.length : Int)) (u := (firstF rest : Int)) (v := 0) ?a1 ?a2 rfl ?a3 (by decide) nd rfl (by walk_at "loc") rfl (by walk_at "loc")
        case a1 =>
          refine' PTD.is ?a4 ?a5
          case a4 => walk_at "test"
          case a5 => rw [List.length_map]
        case a2 =>
          intro hq
          obtain ⟨y, hy⟩ : ∃ y, rest.getLast? = some y := by
            cases rest with
            | nil => simp at hq
            | cons a b => exact ⟨_, List.getLast?_eq_getLast (List.cons_ne_nil a b)⟩
          have eF : (firstF rest : Int) = (y : Int) + 1 := by
            unfold firstF
            rw [hy] <;> rfl
          rw [eF]
          have hz : rest.map nD = rest.dropLast.map nD ++ [nD y] := by
            have h7 : rest ≠ [] := by intro e; subst e; simp at hy
            have h8 : rest.getLast h7 = y := by
              rw [List.getLast?_eq_getLast h7] at hy
              exact Option.some.inj hy
            rw [← h8, ← List.map_singleton, ← List.map_append, List.dropLast_concat_getLast]
          refine' pd_bin (dx := nD y) (pd_ix (dx := .tuple (rest.map nD)) ?a6 ?a7 (id_tup (i := -1) ?a8)) pd_int od_add
          case a6 => walk_at "ev"
          case a7 => walk_at "ev"
          case a8 =>
            rw [hz]
            exact atI_last _ _
        case a3 =>
          have eF : (if 0 < (rest.length : Int) then (firstF rest : Int) else 0) = ((firstF rest : Nat) : Int) := by
            by_cases q : 0 < (rest.length : Int)
            · rw [if_pos q]
            · rw [if_neg q]
              have : rest = [] := List.eq_nil_of_length_eq_zero (by omega)
              subst this
              rfl
          rw [eF]
          walk_at "rtidy"
          have hFn := firstF_le (List.mem_of_getElem? hrest)
          have hrl : rest.length = m' := (places_mem (List.mem_of_getElem? hrest)).2.1
          have hFb : firstF rest ≤ 100000000 := by omega
          have elen : ((placesF n m').take i).length ≤ 10 ^ 5 := by rw [List.length_take]; omega
          have efl := flatP_len n ((placesF n m').take i)
          have efl2 : n * ((placesF n m').take i).length ≤ 10 * 10 ^ 5 := Nat.mul_le_mul hn elen
          have est := stepP_len n rest
          refine' ro_ext (x := Str.ofString "found") (i := 2) (es' := (stepP n rest).map rowD) (by decide) rfl ?b1 (rowsD_lf _) ?b2 ?b3 rfl (Or.inl rfl)
          case b1 =>
            have e0 : (stepP n rest).map rowD = (List.range' (firstF rest) (n - firstF rest)).map (fun p => rowD (rest ++ [p])) := by
              unfold stepP
              rw [List.map_map] <;> rfl
            rw [e0]
            refine' pdl_lc (j := 5) nD (fun p => rowD (rest ++ [p])) (List.range' (firstF rest) (n - firstF rest)) ?hi ?hz ?hlf ?he ?hc ?hN ?ok ?hg ?hs
            walk_at "lc"
            case hi =>
              refine' pid_range2 ?c1 ?c2 rfl B.range ?c3 (by omega)
              case c1 => walk_at "ev"
              case c2 => walk_at "ev"
              case c3 => exact hFb
            case hz =>
              rw [List.length_range']
              omega
            case hlf => intro a ha; exact lf_row _
            case he =>
              intro s H C cl fp q hq
              refine' PD.is ?d1 ?d2
              case d1 => walk_at "ev"
              case d2 =>
                show PyData.tuple _ = PyData.tuple ((rest ++ [q]).map nD)
                rw [List.map_append] <;> rfl
          case b2 =>
            rw [List.length_map, List.length_map]
            omega
          case b3 =>
            have e1 : ((((placesF n m').take i).flatMap (stepP n)).map rowD ++ (stepP n rest).map rowD) = (((placesF n m').take (i + 1)).flatMap (stepP n)).map rowD := by
              rw [List.take_add_one, hrest, ← List.map_append]
              show _ = (((placesF n m').take i ++ [rest]).flatMap (stepP n)).map rowD
              rw [List.flatMap_append, List.flatMap_singleton]
            rw [e1]
            walk_at "rtidy"
            refine ro_nil ⟨rfl, _, .cons (.cons (.cons (.drop (.drop (.drop .nil))))), ?_, rfl⟩
            intro i hi
            rw [List.mem_singleton] at hi
            subst hi
            exact ⟨_, rfl⟩
      case h4 =>
        rintro Γ' rfl
        rw [List.length_map, List.take_length]
        exact ro_retO (x := Str.ofString "found") (i := 2) (by decide) rfl rfl rfl (Or.inl rfl)
      case h5 =>
        rintro i Γ' rfl d hd1 hd2
        match i, hd2 with
        | 0, hd2 => cases hd2; rfl
        | 1, hd2 => cases hd2; rfl
        | 2, hd2 => exact absurd (by decide) hd1
        | 3, hd2 => cases hd2
        | 4, hd2 => cases hd2
        | 5, hd2 => cases hd2
        | k + 6, hd2 => cases hd2
theorem ok_some_places (D : Dn K mg "some_places" s_some_places p_some_places) (B : Bl mg) : ∀ M, DfL P w K mg base "some_places" (M + 1) p_some_places (R_sp M)
  | 0 => ok_sp_0 0 (.inl rfl) D B
  | M + 1 => ok_sp_0 (M + 1) (.inr ⟨M, rfl, rfl, ok_some_places D B M⟩) D B
def optD : Option (List Nat) → PyData
  | none => .none
  | some ps => rowD ps
def pickF (row ps : List Nat) : List Nat := ps.map fun p => row.getD p 0
def standsF (row pat : List Nat) : Option (List Nat) := (placesF row.length pat.length).find? fun ps => decide (flatN (pickF row ps) = pat)
theorem find_at {α : Type} {f : α → Bool} : ∀ {xs : List α} {i : Nat} {a : α}, xs[i]? = some a → f a = true → (∀ b ∈ xs.take i, f b = false) → xs.find? f = some a
  | x :: xs, 0, a, h, ha, _ => by
    have e : x = a := by simpa using h
    subst e
    rw [List.find?_cons, ha]
  | x :: xs, i + 1, a, h, ha, hb => by
    have hx : f x = false := hb x (by simp)
    rw [List.find?_cons, hx]
    exact find_at (i := i) (by simpa using h) ha fun b hm => hb b (by simp [hm])
theorem row_at {row : List Nat} {p : Nat} (h : p < row.length) : atI (row.map nD) (p : Int) = some (nD (row.getD p 0)) := by
  refine atI_nat ?_
  rw [List.getElem?_map, List.getElem?_eq_getElem h, List.getD_eq_getElem?_getD, List.getElem?_eq_getElem h] <;> rfl
abbrev s_stands_at : Stmt := topS 3
abbrev p_stands_at : List Str := ["row", "pattern"]
abbrev n_stands_at : List Str := ["row", "pattern", "places", "place"]
theorem sc_stands_at : FnScope n_stands_at p_stands_at (defScope s_stands_at) := ⟨rfl, rfl, rfl, by decide +kernel, rfl, by decide +kernel, by decide +kernel⟩
local macro_rules | `(tactic| walk_at "slot") => `(tactic| first

  | ((with_reducible refine' pd_var (x := Str.ofString "row") (i := 0) ?hN ?hΓ ?hv ?hd ?hcd); (case hN => rfl); (case hΓ => rfl); (case hv => walk_at "vis"); (case hd => decide); (case hcd => decide))
  | ((with_reducible refine' pd_var (x := Str.ofString "pattern") (i := 1) ?hN ?hΓ ?hv ?hd ?hcd); (case hN => rfl); (case hΓ => rfl); (case hv => walk_at "vis"); (case hd => decide); (case hcd => decide))
  | ((with_reducible refine' pd_var (x := Str.ofString "places") (i := 2) ?hN ?hΓ ?hv ?hd ?hcd); (case hN => rfl); (case hΓ => rfl); (case hv => walk_at "vis"); (case hd => decide); (case hcd => decide))
  | ((with_reducible refine' pd_var (x := Str.ofString "place") (i := 3) ?hN ?hΓ ?hv ?hd ?hcd); (case hN => rfl); (case hΓ => rfl); (case hv => walk_at "vis"); (case hd => decide); (case hcd => decide)))
local macro_rules | `(tactic| walk_at "asg") => `(tactic| first
  | (with_reducible refine' rb_asg (x := Str.ofString "row") (i := 0) ?he ?hr ?hN ?hi ?hx ?hs ?hf)
  | (with_reducible refine' rb_asg (x := Str.ofString "pattern") (i := 1) ?he ?hr ?hN ?hi ?hx ?hs ?hf)
  | (with_reducible refine' rb_asg (x := Str.ofString "places") (i := 2) ?he ?hr ?hN ?hi ?hx ?hs ?hf)
  | (with_reducible refine' rb_asg (x := Str.ofString "place") (i := 3) ?he ?hr ?hN ?hi ?hx ?hs ?hf))
local macro_rules | `(tactic| walk_at "rasg") => `(tactic| first
  | (with_reducible refine' ro_asgS (x := Str.ofString "row") (i := 0) ?he ?hl ?hr ?ho ?hN ?hi ?hx ?hs ?hf)
  | (with_reducible refine' ro_asgS (x := Str.ofString "pattern") (i := 1) ?he ?hl ?hr ?ho ?hN ?hi ?hx ?hs ?hf)
  | (with_reducible refine' ro_asgS (x := Str.ofString "places") (i := 2) ?he ?hl ?hr ?ho ?hN ?hi ?hx ?hs ?hf)
  | (with_reducible refine' ro_asgS (x := Str.ofString "place") (i := 3) ?he ?hl ?hr ?ho ?hN ?hi ?hx ?hs ?hf))
local macro_rules | `(tactic| walk_at "rasgL") => `(tactic| first
  | (with_reducible refine' ro_asgL (x := Str.ofString "row") (i := 0) _ ?he ?hl ?hr ?hlt ?ho ?ho2 ?hio ?hN ?hi ?hx ?hs ?hf)
  | (with_reducible refine' ro_asgL (x := Str.ofString "pattern") (i := 1) _ ?he ?hl ?hr ?hlt ?ho ?ho2 ?hio ?hN ?hi ?hx ?hs ?hf)
  | (with_reducible refine' ro_asgL (x := Str.ofString "places") (i := 2) _ ?he ?hl ?hr ?hlt ?ho ?ho2 ?hio ?hN ?hi ?hx ?hs ?hf)
  | (with_reducible refine' ro_asgL (x := Str.ofString "place") (i := 3) _ ?he ?hl ?hr ?hlt ?ho ?ho2 ?hio ?hN ?hi ?hx ?hs ?hf))
local macro_rules | `(tactic| walk_at "rifasg") => `(tactic| first
  | (with_reducible refine' ro_ifI (x := Str.ofString "row") (i := 0) ?hc ?he ?h0 ?hr ?hio ?hN ?hi ?hx ?hs ?hf)
  | (with_reducible refine' ro_ifI (x := Str.ofString "pattern") (i := 1) ?hc ?he ?h0 ?hr ?hio ?hN ?hi ?hx ?hs ?hf)
  | (with_reducible refine' ro_ifI (x := Str.ofString "places") (i := 2) ?hc ?he ?h0 ?hr ?hio ?hN ?hi ?hx ?hs ?hf)
  | (with_reducible refine' ro_ifI (x := Str.ofString "place") (i := 3) ?hc ?he ?h0 ?hr ?hio ?hN ?hi ?hx ?hs ?hf))
local macro_rules | `(tactic| walk_at "rtidy") => `(tactic| (show RO _ _ _ [_, _, _, _] _ _))
local macro_rules | `(tactic| walk_at "blk") => `(tactic| ((show blkC n_stands_at (defScope s_stands_at) _ _ = true); decide +kernel))
local macro_rules | `(tactic| walk_at "tidy") => `(tactic| (show RB _ _ [_, _, _, _] _ _))
local macro_rules | `(tactic| walk_at "ifasg") => `(tactic| first
  | (with_reducible refine' rb_ifI (x := Str.ofString "row") (i := 0) ?hc ?he ?h0 ?hr ?hN ?hi ?hx ?hs ?hf)
  | (with_reducible refine' rb_ifI (x := Str.ofString "pattern") (i := 1) ?hc ?he ?h0 ?hr ?hN ?hi ?hx ?hs ?hf)
  | (with_reducible refine' rb_ifI (x := Str.ofString "places") (i := 2) ?hc ?he ?h0 ?hr ?hN ?hi ?hx ?hs ?hf)
  | (with_reducible refine' rb_ifI (x := Str.ofString "place") (i := 3) ?hc ?he ?h0 ?hr ?hN ?hi ?hx ?hs ?hf))
def R_stands_at : Rel := fun ds r => ∃ row pat : List Nat, ds = [rowD row, rowD pat] ∧ row.length ≤ 10 ∧ pat.length ≤ 6 ∧ r = optD (standsF row pat)
theorem R_stands_at_i {row pat : List Nat} (h1 : row.length ≤ 10) (h2 : pat.length ≤ 6) : R_stands_at [.tuple (row.map nD), .tuple (pat.map nD)] (optD (standsF row pat)) := ⟨row, pat, rfl, h1, h2, rfl⟩
local macro_rules | `(tactic| walk_at "R") => `(tactic| exact R_stands_at_i (by walk_at "size") (by walk_at "size"))
theorem ok_stands_at (D : Dn K mg "stands_at" s_stands_at p_stands_at) (B : Bl mg) (D_flat : Df P w K mg base "flat" 1 p_flat R_flat) (D_sp : ∀ M, DfL P w K mg base "some_places" (M + 1) p_some_places (R_sp M)) : Df P w K mg base "stands_at" 8 p_stands_at R_stands_at := by
  refine D.ok sc_stands_at (fun ds r ⟨n, m, e, _⟩ => by rw [e] <;> rfl) fun f cdv A outer s H E hr ds r h => ?_
  obtain ⟨row, pat, rfl, hrow, hpat, rfl⟩ := h
  have nd := sc_stands_at.nd
  have D6 := D_sp 6
  walk_at "open"
  let xs := placesF row.length pat.length
  let f : List Nat → Bool := fun ps => decide (flatN (pickF row ps) = pat)
  refine' rb_for (j := 2) (ds := xs.map rowD) (fun i Γ => Γ = [some (rowD row), some (rowD pat), none, none] ∧ ∀ b ∈ xs.take i, f b = false) ?g1 ?g2 ?g3 ?g4 ?hp ?hc ?hN ?hj ?hx ?hf ?hsi
  walk_at "for1"
  case g1 =>
    refine' pid_list (PDL.pd (pdl_call (ds := [nD row.length, nD pat.length]) D6 ?h1 rfl ?h2 ⟨row.length, pat.length, rfl, hrow, hpat, hpat, rfl⟩))
    case h1 => exact hr
    case h2 =>
      refine' PAD.is ?h3 ?h4
      case h3 => walk_at "args"
      case h4 => rw [List.length_map, List.length_map]
  case g2 => exact ⟨_, .cons (.cons (.drop (.drop .nil))), rfl, fun b hb => by rw [List.take_zero] at hb; cases hb⟩
  case g3 =>
    rintro i d Γ' hd' ⟨rfl, hno⟩
    obtain ⟨ps, hps, rfl⟩ := mapG_at hd'
    obtain ⟨p1, p2, p3⟩ := places_mem (List.mem_of_getElem? hps)
    walk_at "tidy"
    have hpl : ps.length ≤ 6 := by omega
    have hpk : (pickF row ps).length < 64 := by unfold pickF; rw [List.length_map]; omega
    refine' rb_ifr (k := f ps) ?a1 ?a2 ?a3
    case a1 =>
      refine' ptd_cmp (dx := rowD (flatN (pickF row ps))) (dy := rowD pat) ?b1 ?b2 (od_eqR (Room.units hr)) (by walk_at "mark")
      case b1 =>
        refine' pd_call (ds := [rowD (pickF row ps)]) D_flat ?b3 rfl (pad_cons ?b4 pad_nil) (R_flat_i hpk)
        case b3 => exact Room.mono hr (by decide)
        case b4 =>
          walk_at "tup"
          case hl =>
            show PDL _ _ _ ((ps.map fun p => row.getD p 0).map nD)
            rw [List.map_map]
            refine' pdl_lc (j := 3) nD (fun p => nD (row.getD p 0)) ps ?hi ?hz ?hlf ?he ?hc ?hN ?ok ?hg ?hs
            walk_at "lc"
            case hi => exact pid_tup (by walk_at "ev")
            case hz => omega
            case hlf => intro a ha; rfl
            case he =>
              intro s H C cl fp p hp
              refine' pd_ix (dx := rowD row) (dy := nD p) ?c1 ?c2 (id_tup (row_at (p3 p hp)))
              case c1 => walk_at "ev"
              case c2 => walk_at "ev"
      case b2 => walk_at "ev"
    case a2 =>
      intro hk
      walk_at "ret"
      show rowD ps = optD (standsF row pat)
      have e : standsF row pat = some ps := find_at hps hk hno
      rw [e] <;> rfl
    case a3 =>
      intro hk
      refine rb_nil ⟨_, .cons (.cons (.drop (.drop .nil))), rfl, fun b hb => ?_⟩
      rw [List.take_add_one, hps] at hb
      rcases List.mem_append.mp hb with q | q
      · exact hno b q
      · have e : b = ps := by simpa using q
        rw [e]
        exact hk
  case g4 =>
    rintro Γ' ⟨rfl, hno⟩
    rw [List.length_map, List.take_length] at hno
    walk_at "ret"
    show PyData.none = optD (standsF row pat)
    have e : standsF row pat = none := List.find?_eq_none.mpr fun b hb q => by
      have := hno b hb
      rw [show f b = true from q] at this
      cases this
    rw [e] <;> rfl
def insP (n : Nat) (row : List Nat) : List (List Nat) := (List.range (n + 1)).map fun k => row.take k ++ [n] ++ row.drop k
def rowsF : Nat → List (List Nat)
  | 0 => [[]]
  | n + 1 => (rowsF n).flatMap (insP n)
def factN : Nat → Nat
  | 0 => 1
  | n + 1 => factN n * (n + 1)
theorem insP_len (n : Nat) (row : List Nat) : (insP n row).length = n + 1 := by
  unfold insP
  rw [List.length_map, List.length_range]
theorem flat_ins_len (n : Nat) : ∀ xs : List (List Nat), (xs.flatMap (insP n)).length = xs.length * (n + 1)
  | [] => by simp
  | x :: xs => by
    rw [List.flatMap_cons, List.length_append, insP_len, flat_ins_len n xs, List.length_cons, Nat.add_mul, Nat.one_mul]
    omega
theorem rowsF_len : ∀ n, (rowsF n).length = factN n
  | 0 => rfl
  | n + 1 => by
    rw [rowsF, flat_ins_len, rowsF_len n] <;> rfl
theorem fact_le {n : Nat} (h : n ≤ 6) : factN n ≤ 720 := by
  have e : n = 0 ∨ n = 1 ∨ n = 2 ∨ n = 3 ∨ n = 4 ∨ n = 5 ∨ n = 6 := by omega
  rcases e with e | e | e | e | e | e | e <;> subst e <;> decide
theorem rows_ok : ∀ {n : Nat} {row : List Nat}, row ∈ rowsF n → row.Perm (List.range n)
  | 0, row, h => by
    rw [rowsF, List.mem_singleton] at h
    subst h
    exact .nil
  | n + 1, row, h => by
    rw [rowsF, List.mem_flatMap] at h
    obtain ⟨r, hr, h2⟩ := h
    obtain ⟨k, _, rfl⟩ := List.mem_map.mp h2
    have ih := rows_ok hr
    rw [List.range_succ]
    have h3 : (r.take k ++ [n] ++ r.drop k).Perm (r.take k ++ r.drop k ++ [n]) := by
      rw [List.append_assoc, List.append_assoc]
      exact List.Perm.append_left _ List.perm_append_comm
    rw [List.take_append_drop] at h3
    exact h3.trans (ih.append_right [n])
theorem rows_len {n : Nat} {row : List Nat} (h : row ∈ rowsF n) : row.length = n := by rw [(rows_ok h).length_eq, List.length_range]
abbrev mvD (b : Bool) : PyData := .str (if b = true then Str.ofString "in" else Str.ofString "out")
theorem lfA_mv (ms : List Bool) : lfA (ms.map mvD) = true := lfA_of fun d hd => by
  obtain ⟨b, _, rfl⟩ := List.mem_map.mp hd
  cases b <;> rfl
theorem lfA_row (xs : List Nat) : lfA (xs.map nD) = true := by
  rw [nD_ints]
  exact lfA_ints _
theorem own1 {P : Nat → Prop} {a : Nat} (h : P a) : ∀ i ∈ [a], P i := fun i hi => by
  rw [List.mem_singleton] at hi
  subst hi
  exact h
theorem own2 {P : Nat → Prop} {a b : Nat} (h : P a) (h2 : P b) : ∀ i ∈ [a, b], P i := fun i hi => by
  rcases List.mem_cons.mp hi with e | e
  · subst e; exact h
  · exact own1 h2 i e
theorem own3 {P : Nat → Prop} {a b c : Nat} (h : P a) (h2 : P b) (h3 : P c) : ∀ i ∈ [a, b, c], P i := fun i hi => by
  rcases List.mem_cons.mp hi with e | e
  · subst e; exact h
  · exact own2 h2 h3 i e
theorem is_in (b : Bool) : ((if b = true then Str.ofString "in" else Str.ofString "out") == Str.ofString "in") = b := by cases b <;> decide
theorem is_out (b : Bool) : ((if b = true then Str.ofString "in" else Str.ofString "out") == Str.ofString "out") = !b := by cases b <;> decide
theorem len_pos {α : Type} (xs : List α) : decide ((0 : Int) < (xs.length : Int)) = !xs.isEmpty := by cases xs <;> simp <;> omega
theorem lf_optD (o : Option (List Nat)) : lf (optD o) = true := by
  cases o with
  | none => rfl
  | some ps => exact lf_row ps
abbrev s_rows_of : Stmt := topS 5
abbrev p_rows_of : List Str := ["size"]
abbrev n_rows_of : List Str := ["size", "found", "number", "longer", "row", "at"]
theorem sc_rows_of : FnScope n_rows_of p_rows_of (defScope s_rows_of) := ⟨rfl, rfl, rfl, by decide +kernel, rfl, by decide +kernel, by decide +kernel⟩
local macro_rules | `(tactic| walk_at "slot") => `(tactic| first

  | ((with_reducible refine' pd_var (x := Str.ofString "size") (i := 0) ?hN ?hΓ ?hv ?hd ?hcd); (case hN => rfl); (case hΓ => rfl); (case hv => walk_at "vis"); (case hd => decide); (case hcd => decide))
  | ((with_reducible refine' pd_var (x := Str.ofString "found") (i := 1) ?hN ?hΓ ?hv ?hd ?hcd); (case hN => rfl); (case hΓ => rfl); (case hv => walk_at "vis"); (case hd => decide); (case hcd => decide))
  | ((with_reducible refine' pd_var (x := Str.ofString "number") (i := 2) ?hN ?hΓ ?hv ?hd ?hcd); (case hN => rfl); (case hΓ => rfl); (case hv => walk_at "vis"); (case hd => decide); (case hcd => decide))
  | ((with_reducible refine' pd_var (x := Str.ofString "longer") (i := 3) ?hN ?hΓ ?hv ?hd ?hcd); (case hN => rfl); (case hΓ => rfl); (case hv => walk_at "vis"); (case hd => decide); (case hcd => decide))
  | ((with_reducible refine' pd_var (x := Str.ofString "row") (i := 4) ?hN ?hΓ ?hv ?hd ?hcd); (case hN => rfl); (case hΓ => rfl); (case hv => walk_at "vis"); (case hd => decide); (case hcd => decide))
  | ((with_reducible refine' pd_var (x := Str.ofString "at") (i := 5) ?hN ?hΓ ?hv ?hd ?hcd); (case hN => rfl); (case hΓ => rfl); (case hv => walk_at "vis"); (case hd => decide); (case hcd => decide)))
local macro_rules | `(tactic| walk_at "asg") => `(tactic| first
  | (with_reducible refine' rb_asg (x := Str.ofString "size") (i := 0) ?he ?hr ?hN ?hi ?hx ?hs ?hf)
  | (with_reducible refine' rb_asg (x := Str.ofString "found") (i := 1) ?he ?hr ?hN ?hi ?hx ?hs ?hf)
  | (with_reducible refine' rb_asg (x := Str.ofString "number") (i := 2) ?he ?hr ?hN ?hi ?hx ?hs ?hf)
  | (with_reducible refine' rb_asg (x := Str.ofString "longer") (i := 3) ?he ?hr ?hN ?hi ?hx ?hs ?hf)
  | (with_reducible refine' rb_asg (x := Str.ofString "row") (i := 4) ?he ?hr ?hN ?hi ?hx ?hs ?hf)
  | (with_reducible refine' rb_asg (x := Str.ofString "at") (i := 5) ?he ?hr ?hN ?hi ?hx ?hs ?hf))
local macro_rules | `(tactic| walk_at "rasg") => `(tactic| first
  | (with_reducible refine' ro_asgS (x := Str.ofString "size") (i := 0) ?he ?hl ?hr ?ho ?hN ?hi ?hx ?hs ?hf)
  | (with_reducible refine' ro_asgS (x := Str.ofString "found") (i := 1) ?he ?hl ?hr ?ho ?hN ?hi ?hx ?hs ?hf)
  | (with_reducible refine' ro_asgS (x := Str.ofString "number") (i := 2) ?he ?hl ?hr ?ho ?hN ?hi ?hx ?hs ?hf)
  | (with_reducible refine' ro_asgS (x := Str.ofString "longer") (i := 3) ?he ?hl ?hr ?ho ?hN ?hi ?hx ?hs ?hf)
  | (with_reducible refine' ro_asgS (x := Str.ofString "row") (i := 4) ?he ?hl ?hr ?ho ?hN ?hi ?hx ?hs ?hf)
  | (with_reducible refine' ro_asgS (x := Str.ofString "at") (i := 5) ?he ?hl ?hr ?ho ?hN ?hi ?hx ?hs ?hf))
local macro_rules | `(tactic| walk_at "rasgL") => `(tactic| first
  | (with_reducible refine' ro_asgL (x := Str.ofString "size") (i := 0) _ ?he ?hl ?hr ?hlt ?ho ?ho2 ?hio ?hN ?hi ?hx ?hs ?hf)
  | (with_reducible refine' ro_asgL (x := Str.ofString "found") (i := 1) _ ?he ?hl ?hr ?hlt ?ho ?ho2 ?hio ?hN ?hi ?hx ?hs ?hf)
  | (with_reducible refine' ro_asgL (x := Str.ofString "number") (i := 2) _ ?he ?hl ?hr ?hlt ?ho ?ho2 ?hio ?hN ?hi ?hx ?hs ?hf)
  | (with_reducible refine' ro_asgL (x := Str.ofString "longer") (i := 3) _ ?he ?hl ?hr ?hlt ?ho ?ho2 ?hio ?hN ?hi ?hx ?hs ?hf)
  | (with_reducible refine' ro_asgL (x := Str.ofString "row") (i := 4) _ ?he ?hl ?hr ?hlt ?ho ?ho2 ?hio ?hN ?hi ?hx ?hs ?hf)
  | (with_reducible refine' ro_asgL (x := Str.ofString "at") (i := 5) _ ?he ?hl ?hr ?hlt ?ho ?ho2 ?hio ?hN ?hi ?hx ?hs ?hf))
local macro_rules | `(tactic| walk_at "rifasg") => `(tactic| first
  | (with_reducible refine' ro_ifI (x := Str.ofString "size") (i := 0) ?hc ?he ?h0 ?hr ?hio ?hN ?hi ?hx ?hs ?hf)
  | (with_reducible refine' ro_ifI (x := Str.ofString "found") (i := 1) ?hc ?he ?h0 ?hr ?hio ?hN ?hi ?hx ?hs ?hf)
  | (with_reducible refine' ro_ifI (x := Str.ofString "number") (i := 2) ?hc ?he ?h0 ?hr ?hio ?hN ?hi ?hx ?hs ?hf)
  | (with_reducible refine' ro_ifI (x := Str.ofString "longer") (i := 3) ?hc ?he ?h0 ?hr ?hio ?hN ?hi ?hx ?hs ?hf)
  | (with_reducible refine' ro_ifI (x := Str.ofString "row") (i := 4) ?hc ?he ?h0 ?hr ?hio ?hN ?hi ?hx ?hs ?hf)
  | (with_reducible refine' ro_ifI (x := Str.ofString "at") (i := 5) ?hc ?he ?h0 ?hr ?hio ?hN ?hi ?hx ?hs ?hf))
local macro_rules | `(tactic| walk_at "rtidy") => `(tactic| (show RO _ _ _ [_, _, _, _, _, _] _ _))
local macro_rules | `(tactic| walk_at "blk") => `(tactic| ((show blkC n_rows_of (defScope s_rows_of) _ _ = true); decide +kernel))
local macro_rules | `(tactic| walk_at "tidy") => `(tactic| (show RB _ _ [_, _, _, _, _, _] _ _))
local macro_rules | `(tactic| walk_at "ifasg") => `(tactic| first
  | (with_reducible refine' rb_ifI (x := Str.ofString "size") (i := 0) ?hc ?he ?h0 ?hr ?hN ?hi ?hx ?hs ?hf)
  | (with_reducible refine' rb_ifI (x := Str.ofString "found") (i := 1) ?hc ?he ?h0 ?hr ?hN ?hi ?hx ?hs ?hf)
  | (with_reducible refine' rb_ifI (x := Str.ofString "number") (i := 2) ?hc ?he ?h0 ?hr ?hN ?hi ?hx ?hs ?hf)
  | (with_reducible refine' rb_ifI (x := Str.ofString "longer") (i := 3) ?hc ?he ?h0 ?hr ?hN ?hi ?hx ?hs ?hf)
  | (with_reducible refine' rb_ifI (x := Str.ofString "row") (i := 4) ?hc ?he ?h0 ?hr ?hN ?hi ?hx ?hs ?hf)
  | (with_reducible refine' rb_ifI (x := Str.ofString "at") (i := 5) ?hc ?he ?h0 ?hr ?hN ?hi ?hx ?hs ?hf))
def R_rows_of : List PyData → List PyData → Prop := fun ds r => ∃ n : Nat, ds = [nD n] ∧ n ≤ 6 ∧ r = (rowsF n).map rowD
theorem ok_rows_of (D : Dn K mg "rows_of" s_rows_of p_rows_of) (B : Bl mg) : DfL P w K mg base "rows_of" 1 p_rows_of R_rows_of := by
  refine D.okL sc_rows_of (fun ds r ⟨n, e, _⟩ => by rw [e] <;> rfl) (fun _ _ _ => trivial) fun f cdv A outer s H E hr ds r h => ?_
  obtain ⟨n, rfl, hn, rfl⟩ := h
  have nd := sc_rows_of.nd
  walk_at "ropen"
  refine' ro_asgL (x := Str.ofString "found") (i := 1) (ds := [.tuple []]) [1] ?a1 rfl ?a2 (Nat.le_of_ble_eq_true rfl) (by decide) (by decide) (by decide) nd rfl (by walk_at "loc") rfl (by walk_at "loc")
  case a1 =>
    refine' pdl_lst ?b1 (by decide)
    case b1 => walk_at "args"
  case a2 =>
    walk_at "rtidy"
    refine' ro_for (j := 2) (ds := (List.range n).map nD) (fun i Γ => Γ = [some (nD n), some (.list ((rowsF i).map rowD)), none, none, none, none]) (pit_range1 ?i1 rfl B.range (by omega)) (lfA_row _) ?hjo ?h0 ?hs ?hd ?hlf2 ?hp ?hc ?hN ?hj ?hx ?hf ?hsi
    walk_at "rfor1"
    case i1 => walk_at "ev"
    case h0 => exact ⟨_, .cons (.cons (.drop (.drop (.drop (.drop .nil))))), own1 ⟨_, rfl⟩, rfl⟩
    case hs =>
      rintro i d Γ' hd' rfl
      obtain ⟨hi, rfl⟩ := range_at hd'
      have hrl := rowsF_len i
      have hfl := fact_le (n := i) (by omega)
      walk_at "rtidy"
      refine' ro_asgL (x := Str.ofString "longer") (i := 3) (ds := []) [1, 3] ?c1 rfl ?c2 (Nat.le_of_ble_eq_true rfl) (by decide) (by decide) (by decide) nd rfl (by walk_at "loc") rfl (by walk_at "loc")
      case c1 =>
        refine' pdl_lst ?b1 (by decide)
        case b1 => walk_at "args"
      case c2 =>
        walk_at "rtidy"
        refine' ro_forO (i0 := 1) (y := Str.ofString "found") (j := 4) (ds := (rowsF i).map rowD) [3] (fun k Γ => Γ = [some (nD n), none, some (nD i), some (.list ((((rowsF i).take k).flatMap (insP i)).map rowD)), none, none]) (by decide) (by decide) (by decide) rfl rfl (Or.inl rfl) ?kjo ?k0 ?ks ?kd ?klf PassesOwn.never rfl nd rfl (by walk_at "loc") (by walk_at "loc") (fun _ => rfl) (by decide) (by decide)
        case kjo => decide
        case k0 => exact ⟨_, .cons (.drop (.cons (.cons (.drop (.drop .nil))))), (fun d q => by cases q), own1 ⟨_, rfl⟩, rfl⟩
        case ks =>
          rintro k d Γ' hd' rfl
          obtain ⟨row, hrow, rfl⟩ := mapG_at hd'
          have hrowl := rows_len (List.mem_of_getElem? hrow)
          have hk : k < (rowsF i).length := (List.getElem?_eq_some_iff.mp hrow).1
          have efl := flat_ins_len i ((rowsF i).take k)
          have elen : ((rowsF i).take k).length ≤ 720 := by rw [List.length_take]; omega
          have emul : ((rowsF i).take k).length * (i + 1) ≤ 720 * 7 := Nat.mul_le_mul elen (by omega)
          walk_at "rtidy"
          refine' ro_ext (x := Str.ofString "longer") (i := 3) (es' := (insP i row).map rowD) (by decide) rfl ?e1 (rowsD_lf _) ?e2 ?e3 rfl (Or.inl rfl)
          case e1 =>
            have e0 : (insP i row).map rowD = (List.range (i + 1)).map (fun q => rowD (row.take q ++ [i] ++ row.drop q)) := by
              unfold insP
              rw [List.map_map] <;> rfl
            rw [e0]
            refine' pdl_lc (j := 5) nD (fun q => rowD (row.take q ++ [i] ++ row.drop q)) (List.range (i + 1)) ?hi ?hz ?hlf ?he ?hc ?hN ?ok ?hg ?hs2
            case hs2 => intro _; rfl
            case hc => rfl
            case hN => assumption
            case ok => walk_at "blk"
            case hg => (intro s H C cl fp; first | exact pg_name (by assumption) rfl (Or.inl rfl) | exact pg_name (by assumption) rfl (Or.inr rfl))
            case hi =>
              refine' pid_range1 (n := i + 1) ?f1 rfl B.range (by omega)
              case f1 =>
                refine' PD.is ?f2 ?f3
                case f2 => walk_at "ev"
                case f3 => exact congrArg PyData.int (by omega)
            case hz => rw [List.length_range]; omega
            case hlf => intro a ha; exact lf_row _
            case he =>
              intro s H C cl fp q hq
              refine' PD.is ?g1 ?g2
              case g1 => walk_at "ev"
              case g2 =>
                show PyData.tuple ((row.map nD).take q ++ [nD i] ++ (row.map nD).drop q) = PyData.tuple ((row.take q ++ [i] ++ row.drop q).map nD)
                rw [List.map_append, List.map_append, List.map_take, List.map_drop] <;> rfl
          case e2 => rw [List.length_map, List.length_map, efl, insP_len]; omega
          case e3 =>
            have e4 : ((((rowsF i).take k).flatMap (insP i)).map rowD ++ (insP i row).map rowD) = (((rowsF i).take (k + 1)).flatMap (insP i)).map rowD := by
              rw [List.take_add_one, hrow, ← List.map_append]
              show _ = (((rowsF i).take k ++ [row]).flatMap (insP i)).map rowD
              rw [List.flatMap_append, List.flatMap_singleton]
            rw [e4]
            walk_at "rtidy"
            exact ro_nil ⟨rfl, _, .cons (.cons (.cons (.cons (.drop (.drop .nil))))), own1 ⟨_, rfl⟩, rfl⟩
        case kd =>
          rintro Γ' rfl
          rw [List.length_map, List.take_length]
          refine' ro_move (x := Str.ofString "found") (y := Str.ofString "longer") (i := 1) (j := 3) (ds := ((rowsF i).flatMap (insP i)).map rowD) [1] (by decide) (by decide) rfl (Nat.le_of_ble_eq_true rfl) (by decide) (by decide) (by decide) ?m1 nd rfl (by walk_at "loc") rfl (Or.inl rfl) rfl (by walk_at "loc") (by decide) (by decide)
          case m1 =>
            walk_at "rtidy"
            exact ro_nil ⟨rfl, _, .cons (.cons (.drop (.drop (.drop (.drop .nil))))), own1 ⟨_, rfl⟩, rfl⟩
        case klf =>
          rintro i' Γ' rfl d hd1 hd2
          match i', hd2 with
          | 0, hd2 => cases hd2; rfl
          | 1, hd2 => cases hd2
          | 2, hd2 => cases hd2; rfl
          | 3, hd2 => exact absurd (by decide) hd1
          | 4, hd2 => cases hd2
          | 5, hd2 => cases hd2
          | k + 6, hd2 => cases hd2
    case hd =>
      rintro Γ' rfl
      rw [List.length_map, List.length_range]
      exact ro_retO (x := Str.ofString "found") (i := 1) (by decide) rfl rfl rfl (Or.inl rfl)
    case hlf2 =>
      rintro i' Γ' rfl d hd1 hd2
      match i', hd2 with
      | 0, hd2 => cases hd2; rfl
      | 1, hd2 => exact absurd (by decide) hd1
      | 2, hd2 => cases hd2
      | 3, hd2 => cases hd2
      | 4, hd2 => cases hd2
      | 5, hd2 => cases hd2
      | k + 6, hd2 => cases hd2
abbrev s_count_without : Stmt := topS 6
abbrev p_count_without : List Str := ["size", "pattern"]
abbrev n_count_without : List Str := ["size", "pattern", "row"]
theorem sc_count_without : FnScope n_count_without p_count_without (defScope s_count_without) := ⟨rfl, rfl, rfl, by decide +kernel, rfl, by decide +kernel, by decide +kernel⟩
local macro_rules | `(tactic| walk_at "slot") => `(tactic| first

  | ((with_reducible refine' pd_var (x := Str.ofString "size") (i := 0) ?hN ?hΓ ?hv ?hd ?hcd); (case hN => rfl); (case hΓ => rfl); (case hv => walk_at "vis"); (case hd => decide); (case hcd => decide))
  | ((with_reducible refine' pd_var (x := Str.ofString "pattern") (i := 1) ?hN ?hΓ ?hv ?hd ?hcd); (case hN => rfl); (case hΓ => rfl); (case hv => walk_at "vis"); (case hd => decide); (case hcd => decide))
  | ((with_reducible refine' pd_var (x := Str.ofString "row") (i := 2) ?hN ?hΓ ?hv ?hd ?hcd); (case hN => rfl); (case hΓ => rfl); (case hv => walk_at "vis"); (case hd => decide); (case hcd => decide)))
local macro_rules | `(tactic| walk_at "asg") => `(tactic| first
  | (with_reducible refine' rb_asg (x := Str.ofString "size") (i := 0) ?he ?hr ?hN ?hi ?hx ?hs ?hf)
  | (with_reducible refine' rb_asg (x := Str.ofString "pattern") (i := 1) ?he ?hr ?hN ?hi ?hx ?hs ?hf)
  | (with_reducible refine' rb_asg (x := Str.ofString "row") (i := 2) ?he ?hr ?hN ?hi ?hx ?hs ?hf))
local macro_rules | `(tactic| walk_at "rasg") => `(tactic| first
  | (with_reducible refine' ro_asgS (x := Str.ofString "size") (i := 0) ?he ?hl ?hr ?ho ?hN ?hi ?hx ?hs ?hf)
  | (with_reducible refine' ro_asgS (x := Str.ofString "pattern") (i := 1) ?he ?hl ?hr ?ho ?hN ?hi ?hx ?hs ?hf)
  | (with_reducible refine' ro_asgS (x := Str.ofString "row") (i := 2) ?he ?hl ?hr ?ho ?hN ?hi ?hx ?hs ?hf))
local macro_rules | `(tactic| walk_at "rasgL") => `(tactic| first
  | (with_reducible refine' ro_asgL (x := Str.ofString "size") (i := 0) _ ?he ?hl ?hr ?hlt ?ho ?ho2 ?hio ?hN ?hi ?hx ?hs ?hf)
  | (with_reducible refine' ro_asgL (x := Str.ofString "pattern") (i := 1) _ ?he ?hl ?hr ?hlt ?ho ?ho2 ?hio ?hN ?hi ?hx ?hs ?hf)
  | (with_reducible refine' ro_asgL (x := Str.ofString "row") (i := 2) _ ?he ?hl ?hr ?hlt ?ho ?ho2 ?hio ?hN ?hi ?hx ?hs ?hf))
local macro_rules | `(tactic| walk_at "rifasg") => `(tactic| first
  | (with_reducible refine' ro_ifI (x := Str.ofString "size") (i := 0) ?hc ?he ?h0 ?hr ?hio ?hN ?hi ?hx ?hs ?hf)
  | (with_reducible refine' ro_ifI (x := Str.ofString "pattern") (i := 1) ?hc ?he ?h0 ?hr ?hio ?hN ?hi ?hx ?hs ?hf)
  | (with_reducible refine' ro_ifI (x := Str.ofString "row") (i := 2) ?hc ?he ?h0 ?hr ?hio ?hN ?hi ?hx ?hs ?hf))
local macro_rules | `(tactic| walk_at "rtidy") => `(tactic| (show RO _ _ _ [_, _, _] _ _))
local macro_rules | `(tactic| walk_at "blk") => `(tactic| ((show blkC n_count_without (defScope s_count_without) _ _ = true); decide +kernel))
local macro_rules | `(tactic| walk_at "tidy") => `(tactic| (show RB _ _ [_, _, _] _ _))
local macro_rules | `(tactic| walk_at "ifasg") => `(tactic| first
  | (with_reducible refine' rb_ifI (x := Str.ofString "size") (i := 0) ?hc ?he ?h0 ?hr ?hN ?hi ?hx ?hs ?hf)
  | (with_reducible refine' rb_ifI (x := Str.ofString "pattern") (i := 1) ?hc ?he ?h0 ?hr ?hN ?hi ?hx ?hs ?hf)
  | (with_reducible refine' rb_ifI (x := Str.ofString "row") (i := 2) ?hc ?he ?h0 ?hr ?hN ?hi ?hx ?hs ?hf))
def cntW (n : Nat) (pat : List Nat) : Nat := ((rowsF n).filter fun row => (standsF row pat).isNone).length
def R_count_without : Rel := fun ds r => ∃ (n : Nat) (pat : List Nat), ds = [nD n, rowD pat] ∧ n ≤ 6 ∧ pat.length ≤ 6 ∧ r = nD (cntW n pat)
theorem R_count_without_i {n : Nat} {pat : List Nat} (h : n ≤ 6) (h2 : pat.length ≤ 6) : R_count_without [nD n, .tuple (pat.map nD)] (nD (cntW n pat)) := ⟨n, pat, rfl, h, h2, rfl⟩
local macro_rules | `(tactic| walk_at "R") => `(tactic| exact R_count_without_i (by walk_at "size") (by walk_at "size"))
theorem isNo_opt (o : Option (List Nat)) : isNo (optD o) = o.isNone := by cases o <;> rfl
theorem ok_count_without (D : Dn K mg "count_without" s_count_without p_count_without) (B : Bl mg) (D1 : DfL P w K mg base "rows_of" 1 p_rows_of R_rows_of) (D2 : Df P w K mg base "stands_at" 8 p_stands_at R_stands_at) : Df P w K mg base "count_without" 9 p_count_without R_count_without := by
  refine D.ok sc_count_without (fun ds r ⟨n, m, e, _⟩ => by rw [e] <;> rfl) fun f cdv A outer s H E hr ds r h => ?_
  obtain ⟨n, pat, rfl, hn, hp, rfl⟩ := h
  have nd := sc_count_without.nd
  have hrl := rowsF_len n
  have hfl := fact_le hn
  walk_at "open"
  refine' rb_ret ?g1 ?g2
  case g1 =>
    walk_at "len"
    case hl =>
      refine' pdl_lcF (j := 2) rowD rowD (fun row => (standsF row pat).isNone) (rowsF n) ?hi ?hz ?hlf ?ht ?he ?hc ?hN ?ok ?hg ?hs
      walk_at "lc"
      case hi =>
        refine' pid_list (PDL.pd (pdl_call (ds := [nD n]) D1 (Room.mono hr (by decide)) rfl ?a1 ⟨n, rfl, hn, rfl⟩))
        case a1 => walk_at "args"
      case hz => omega
      case hlf => intro a ha; exact lf_row _
      case ht =>
        intro s H C cl fp row hrow
        have hl := rows_len hrow
        refine' PTD.is ?b1 (isNo_opt _)
        case b1 => walk_at "test"
      case he =>
        intro s H C cl fp row hrow hk
        walk_at "ev"
  case g2 =>
    unfold cntW
    rw [List.length_map]
abbrev s__law_cell_at : Stmt := topS 8
abbrev p__law_cell_at : List Str := ["_law_script", "_law_k"]
abbrev n__law_cell_at : List Str := ["_law_script", "_law_k"]
theorem sc__law_cell_at : FnScope n__law_cell_at p__law_cell_at (defScope s__law_cell_at) := ⟨rfl, rfl, rfl, by decide +kernel, rfl, by decide +kernel, by decide +kernel⟩
local macro_rules | `(tactic| walk_at "slot") => `(tactic| first

  | ((with_reducible refine' pd_var (x := Str.ofString "_law_script") (i := 0) ?hN ?hΓ ?hv ?hd ?hcd); (case hN => rfl); (case hΓ => rfl); (case hv => walk_at "vis"); (case hd => decide); (case hcd => decide))
  | ((with_reducible refine' pd_var (x := Str.ofString "_law_k") (i := 1) ?hN ?hΓ ?hv ?hd ?hcd); (case hN => rfl); (case hΓ => rfl); (case hv => walk_at "vis"); (case hd => decide); (case hcd => decide)))
local macro_rules | `(tactic| walk_at "asg") => `(tactic| first
  | (with_reducible refine' rb_asg (x := Str.ofString "_law_script") (i := 0) ?he ?hr ?hN ?hi ?hx ?hs ?hf)
  | (with_reducible refine' rb_asg (x := Str.ofString "_law_k") (i := 1) ?he ?hr ?hN ?hi ?hx ?hs ?hf))
local macro_rules | `(tactic| walk_at "rasg") => `(tactic| first
  | (with_reducible refine' ro_asgS (x := Str.ofString "_law_script") (i := 0) ?he ?hl ?hr ?ho ?hN ?hi ?hx ?hs ?hf)
  | (with_reducible refine' ro_asgS (x := Str.ofString "_law_k") (i := 1) ?he ?hl ?hr ?ho ?hN ?hi ?hx ?hs ?hf))
local macro_rules | `(tactic| walk_at "rasgL") => `(tactic| first
  | (with_reducible refine' ro_asgL (x := Str.ofString "_law_script") (i := 0) _ ?he ?hl ?hr ?hlt ?ho ?ho2 ?hio ?hN ?hi ?hx ?hs ?hf)
  | (with_reducible refine' ro_asgL (x := Str.ofString "_law_k") (i := 1) _ ?he ?hl ?hr ?hlt ?ho ?ho2 ?hio ?hN ?hi ?hx ?hs ?hf))
local macro_rules | `(tactic| walk_at "rifasg") => `(tactic| first
  | (with_reducible refine' ro_ifI (x := Str.ofString "_law_script") (i := 0) ?hc ?he ?h0 ?hr ?hio ?hN ?hi ?hx ?hs ?hf)
  | (with_reducible refine' ro_ifI (x := Str.ofString "_law_k") (i := 1) ?hc ?he ?h0 ?hr ?hio ?hN ?hi ?hx ?hs ?hf))
local macro_rules | `(tactic| walk_at "rtidy") => `(tactic| (show RO _ _ _ [_, _] _ _))
local macro_rules | `(tactic| walk_at "blk") => `(tactic| ((show blkC n__law_cell_at (defScope s__law_cell_at) _ _ = true); decide +kernel))
local macro_rules | `(tactic| walk_at "tidy") => `(tactic| (show RB _ _ [_, _] _ _))
local macro_rules | `(tactic| walk_at "ifasg") => `(tactic| first
  | (with_reducible refine' rb_ifI (x := Str.ofString "_law_script") (i := 0) ?hc ?he ?h0 ?hr ?hN ?hi ?hx ?hs ?hf)
  | (with_reducible refine' rb_ifI (x := Str.ofString "_law_k") (i := 1) ?hc ?he ?h0 ?hr ?hN ?hi ?hx ?hs ?hf))
def cellF (ns : List Int) (k : Int) : Int := if k < (ns.length : Int) then ns.getD k.toNat 0 else 0
def R__law_cell_at : Rel := fun ds r => ∃ (ns : List Int) (k : Int), ds = [scD ns, .int k] ∧ 0 ≤ k ∧ r = .int (cellF ns k)
theorem R__law_cell_at_i {ns : List Int} {k : Int} (h : 0 ≤ k) : R__law_cell_at [scD ns, .int k] (.int (cellF ns k)) := ⟨ns, k, rfl, h, rfl⟩
local macro_rules | `(tactic| walk_at "R") => `(tactic| exact R__law_cell_at_i (by walk_at "side"))
theorem ok__law_cell_at (D : Dn K mg "_law_cell_at" s__law_cell_at p__law_cell_at) (B : Bl mg) : Df P w K mg base "_law_cell_at" 1 p__law_cell_at R__law_cell_at := by
  refine D.ok sc__law_cell_at (fun ds r ⟨ns, k, e, _⟩ => by rw [e] <;> rfl) fun f cdv A outer s H E hr ds r h => ?_
  obtain ⟨ns, k, rfl, h0, rfl⟩ := h
  refine rb_ifr (k := decide (k < (ns.length : Int))) ?_ (fun hk => ?_) (fun hk => ?_)
  · walk_at "test"
  · have hk' := of_decide_eq_true hk
    have e : atI ns k = some (cellF ns k) := by
      unfold cellF
      rw [if_pos hk']
      unfold atI ixN
      rw [if_pos h0, if_pos hk']
      show ns[k.toNat]? = _
      rw [List.getD_eq_getElem?_getD, List.getElem?_eq_getElem (by omega)] <;> rfl
    refine rb_ret (pd_ix ?_ ?_ (id_scr e)) rfl
    · walk_at "ev"
    · walk_at "ev"
  · have hk' := of_decide_eq_false hk
    refine rb_ret pd_int ?_
    show PyData.int 0 = PyData.int (cellF ns k)
    unfold cellF
    rw [if_neg hk']
abbrev s__law_mixed : Stmt := topS 9
abbrev p__law_mixed : List Str := ["_law_script", "_law_k"]
abbrev n__law_mixed : List Str := ["_law_script", "_law_k", "_law_drawn_here"]
theorem sc__law_mixed : FnScope n__law_mixed p__law_mixed (defScope s__law_mixed) := ⟨rfl, rfl, rfl, by decide +kernel, rfl, by decide +kernel, by decide +kernel⟩
local macro_rules | `(tactic| walk_at "slot") => `(tactic| first

  | ((with_reducible refine' pd_var (x := Str.ofString "_law_script") (i := 0) ?hN ?hΓ ?hv ?hd ?hcd); (case hN => rfl); (case hΓ => rfl); (case hv => walk_at "vis"); (case hd => decide); (case hcd => decide))
  | ((with_reducible refine' pd_var (x := Str.ofString "_law_k") (i := 1) ?hN ?hΓ ?hv ?hd ?hcd); (case hN => rfl); (case hΓ => rfl); (case hv => walk_at "vis"); (case hd => decide); (case hcd => decide))
  | ((with_reducible refine' pd_var (x := Str.ofString "_law_drawn_here") (i := 2) ?hN ?hΓ ?hv ?hd ?hcd); (case hN => rfl); (case hΓ => rfl); (case hv => walk_at "vis"); (case hd => decide); (case hcd => decide)))
local macro_rules | `(tactic| walk_at "asg") => `(tactic| first
  | (with_reducible refine' rb_asg (x := Str.ofString "_law_script") (i := 0) ?he ?hr ?hN ?hi ?hx ?hs ?hf)
  | (with_reducible refine' rb_asg (x := Str.ofString "_law_k") (i := 1) ?he ?hr ?hN ?hi ?hx ?hs ?hf)
  | (with_reducible refine' rb_asg (x := Str.ofString "_law_drawn_here") (i := 2) ?he ?hr ?hN ?hi ?hx ?hs ?hf))
local macro_rules | `(tactic| walk_at "rasg") => `(tactic| first
  | (with_reducible refine' ro_asgS (x := Str.ofString "_law_script") (i := 0) ?he ?hl ?hr ?ho ?hN ?hi ?hx ?hs ?hf)
  | (with_reducible refine' ro_asgS (x := Str.ofString "_law_k") (i := 1) ?he ?hl ?hr ?ho ?hN ?hi ?hx ?hs ?hf)
  | (with_reducible refine' ro_asgS (x := Str.ofString "_law_drawn_here") (i := 2) ?he ?hl ?hr ?ho ?hN ?hi ?hx ?hs ?hf))
local macro_rules | `(tactic| walk_at "rasgL") => `(tactic| first
  | (with_reducible refine' ro_asgL (x := Str.ofString "_law_script") (i := 0) _ ?he ?hl ?hr ?hlt ?ho ?ho2 ?hio ?hN ?hi ?hx ?hs ?hf)
  | (with_reducible refine' ro_asgL (x := Str.ofString "_law_k") (i := 1) _ ?he ?hl ?hr ?hlt ?ho ?ho2 ?hio ?hN ?hi ?hx ?hs ?hf)
  | (with_reducible refine' ro_asgL (x := Str.ofString "_law_drawn_here") (i := 2) _ ?he ?hl ?hr ?hlt ?ho ?ho2 ?hio ?hN ?hi ?hx ?hs ?hf))
local macro_rules | `(tactic| walk_at "rifasg") => `(tactic| first
  | (with_reducible refine' ro_ifI (x := Str.ofString "_law_script") (i := 0) ?hc ?he ?h0 ?hr ?hio ?hN ?hi ?hx ?hs ?hf)
  | (with_reducible refine' ro_ifI (x := Str.ofString "_law_k") (i := 1) ?hc ?he ?h0 ?hr ?hio ?hN ?hi ?hx ?hs ?hf)
  | (with_reducible refine' ro_ifI (x := Str.ofString "_law_drawn_here") (i := 2) ?hc ?he ?h0 ?hr ?hio ?hN ?hi ?hx ?hs ?hf))
local macro_rules | `(tactic| walk_at "rtidy") => `(tactic| (show RO _ _ _ [_, _, _] _ _))
local macro_rules | `(tactic| walk_at "blk") => `(tactic| ((show blkC n__law_mixed (defScope s__law_mixed) _ _ = true); decide +kernel))
local macro_rules | `(tactic| walk_at "tidy") => `(tactic| (show RB _ _ [_, _, _] _ _))
local macro_rules | `(tactic| walk_at "ifasg") => `(tactic| first
  | (with_reducible refine' rb_ifI (x := Str.ofString "_law_script") (i := 0) ?hc ?he ?h0 ?hr ?hN ?hi ?hx ?hs ?hf)
  | (with_reducible refine' rb_ifI (x := Str.ofString "_law_k") (i := 1) ?hc ?he ?h0 ?hr ?hN ?hi ?hx ?hs ?hf)
  | (with_reducible refine' rb_ifI (x := Str.ofString "_law_drawn_here") (i := 2) ?hc ?he ?h0 ?hr ?hN ?hi ?hx ?hs ?hf))
def mixF (ns : List Int) (k : Int) : Int :=
  let d := (cellF ns k + 7919 * k + 1) * 48271 % 2147483647
  (d * d + 7 * d + k) % 2147483629
theorem mod_bd {x : Int} {m : Int} (h : 0 < m) : 0 ≤ x % m ∧ x % m < m := ⟨Int.emod_nonneg _ (by omega), Int.emod_lt_of_pos _ h⟩
theorem mixF_nn (ns : List Int) (k : Int) : 0 ≤ mixF ns k := (mod_bd (by decide)).1
def R__law_mixed : Rel := fun ds r => ∃ (ns : List Int) (k : Int), ds = [scD ns, .int k] ∧ 0 ≤ k ∧ r = .int (mixF ns k)
theorem R__law_mixed_i {ns : List Int} {k : Int} (h : 0 ≤ k) : R__law_mixed [scD ns, .int k] (.int (mixF ns k)) := ⟨ns, k, rfl, h, rfl⟩
local macro_rules | `(tactic| walk_at "R") => `(tactic| exact R__law_mixed_i (by walk_at "side"))
theorem ok__law_mixed (D : Dn K mg "_law_mixed" s__law_mixed p__law_mixed) (B : Bl mg) (D_cell_at : Df P w K mg base "_law_cell_at" 1 p__law_cell_at R__law_cell_at) : Df P w K mg base "_law_mixed" 2 p__law_mixed R__law_mixed := by
  refine D.ok sc__law_mixed (fun ds r ⟨ns, k, e, _⟩ => by rw [e] <;> rfl) fun f cdv A outer s H E hr ds r h => ?_
  obtain ⟨ns, k, rfl, h0, rfl⟩ := h
  have nd := sc__law_mixed.nd
  walk_at "open"
  walk_at "set"
  have hb := mod_bd (x := (cellF ns k + 7919 * k + 1) * 48271) (m := 2147483647) (by decide)
  walk_at "ret"
  rfl
def lessI (ns : List Int) : List Nat := ns.map fun n => (ns.filter fun m => decide (m < n)).length
def lessN (xs : List Nat) : List Nat := lessI (xs.map fun n : Nat => (n : Int))
abbrev s__law_flat : Stmt := topS 12
abbrev p__law_flat : List Str := ["_law_numbers"]
abbrev n__law_flat : List Str := ["_law_numbers", "_law_other", "_law_number"]
theorem sc__law_flat : FnScope n__law_flat p__law_flat (defScope s__law_flat) := ⟨rfl, rfl, rfl, by decide +kernel, rfl, by decide +kernel, by decide +kernel⟩
local macro_rules | `(tactic| walk_at "slot") => `(tactic| first

  | ((with_reducible refine' pd_var (x := Str.ofString "_law_numbers") (i := 0) ?hN ?hΓ ?hv ?hd ?hcd); (case hN => rfl); (case hΓ => rfl); (case hv => walk_at "vis"); (case hd => decide); (case hcd => decide))
  | ((with_reducible refine' pd_var (x := Str.ofString "_law_other") (i := 1) ?hN ?hΓ ?hv ?hd ?hcd); (case hN => rfl); (case hΓ => rfl); (case hv => walk_at "vis"); (case hd => decide); (case hcd => decide))
  | ((with_reducible refine' pd_var (x := Str.ofString "_law_number") (i := 2) ?hN ?hΓ ?hv ?hd ?hcd); (case hN => rfl); (case hΓ => rfl); (case hv => walk_at "vis"); (case hd => decide); (case hcd => decide)))
local macro_rules | `(tactic| walk_at "asg") => `(tactic| first
  | (with_reducible refine' rb_asg (x := Str.ofString "_law_numbers") (i := 0) ?he ?hr ?hN ?hi ?hx ?hs ?hf)
  | (with_reducible refine' rb_asg (x := Str.ofString "_law_other") (i := 1) ?he ?hr ?hN ?hi ?hx ?hs ?hf)
  | (with_reducible refine' rb_asg (x := Str.ofString "_law_number") (i := 2) ?he ?hr ?hN ?hi ?hx ?hs ?hf))
local macro_rules | `(tactic| walk_at "rasg") => `(tactic| first
  | (with_reducible refine' ro_asgS (x := Str.ofString "_law_numbers") (i := 0) ?he ?hl ?hr ?ho ?hN ?hi ?hx ?hs ?hf)
  | (with_reducible refine' ro_asgS (x := Str.ofString "_law_other") (i := 1) ?he ?hl ?hr ?ho ?hN ?hi ?hx ?hs ?hf)
  | (with_reducible refine' ro_asgS (x := Str.ofString "_law_number") (i := 2) ?he ?hl ?hr ?ho ?hN ?hi ?hx ?hs ?hf))
local macro_rules | `(tactic| walk_at "rasgL") => `(tactic| first
  | (with_reducible refine' ro_asgL (x := Str.ofString "_law_numbers") (i := 0) _ ?he ?hl ?hr ?hlt ?ho ?ho2 ?hio ?hN ?hi ?hx ?hs ?hf)
  | (with_reducible refine' ro_asgL (x := Str.ofString "_law_other") (i := 1) _ ?he ?hl ?hr ?hlt ?ho ?ho2 ?hio ?hN ?hi ?hx ?hs ?hf)
  | (with_reducible refine' ro_asgL (x := Str.ofString "_law_number") (i := 2) _ ?he ?hl ?hr ?hlt ?ho ?ho2 ?hio ?hN ?hi ?hx ?hs ?hf))
local macro_rules | `(tactic| walk_at "rifasg") => `(tactic| first
  | (with_reducible refine' ro_ifI (x := Str.ofString "_law_numbers") (i := 0) ?hc ?he ?h0 ?hr ?hio ?hN ?hi ?hx ?hs ?hf)
  | (with_reducible refine' ro_ifI (x := Str.ofString "_law_other") (i := 1) ?hc ?he ?h0 ?hr ?hio ?hN ?hi ?hx ?hs ?hf)
  | (with_reducible refine' ro_ifI (x := Str.ofString "_law_number") (i := 2) ?hc ?he ?h0 ?hr ?hio ?hN ?hi ?hx ?hs ?hf))
local macro_rules | `(tactic| walk_at "rtidy") => `(tactic| (show RO _ _ _ [_, _, _] _ _))
local macro_rules | `(tactic| walk_at "blk") => `(tactic| ((show blkC n__law_flat (defScope s__law_flat) _ _ = true); decide +kernel))
local macro_rules | `(tactic| walk_at "tidy") => `(tactic| (show RB _ _ [_, _, _] _ _))
local macro_rules | `(tactic| walk_at "ifasg") => `(tactic| first
  | (with_reducible refine' rb_ifI (x := Str.ofString "_law_numbers") (i := 0) ?hc ?he ?h0 ?hr ?hN ?hi ?hx ?hs ?hf)
  | (with_reducible refine' rb_ifI (x := Str.ofString "_law_other") (i := 1) ?hc ?he ?h0 ?hr ?hN ?hi ?hx ?hs ?hf)
  | (with_reducible refine' rb_ifI (x := Str.ofString "_law_number") (i := 2) ?hc ?he ?h0 ?hr ?hN ?hi ?hx ?hs ?hf))
def seqD (t : Bool) (ds : List PyData) : PyData := if t = true then .tuple ds else .list ds
def R__law_flat : Rel := fun ds r => ∃ (t : Bool) (ns : List Int), ds = [seqD t (ns.map PyData.int)] ∧ ns.length ≤ 10000 ∧ r = rowD (lessI ns)
theorem R__law_flat_t {xs : List Nat} (h : xs.length ≤ 10000) : R__law_flat [.tuple (xs.map nD)] (rowD (lessN xs)) := ⟨true, _, by rw [nD_ints] <;> rfl, by rw [List.length_map]; exact h, rfl⟩
theorem R__law_flat_l {xs : List Nat} (h : xs.length ≤ 10000) : R__law_flat [.list (xs.map nD)] (rowD (lessN xs)) := ⟨false, _, by rw [nD_ints] <;> rfl, by rw [List.length_map]; exact h, rfl⟩
theorem R__law_flat_ti {ns : List Int} (h : ns.length ≤ 10000) : R__law_flat [.tuple (ns.map PyData.int)] (rowD (lessI ns)) := ⟨true, ns, rfl, h, rfl⟩
local macro_rules | `(tactic| walk_at "R") => `(tactic| first | exact R__law_flat_t (by walk_at "size") | exact R__law_flat_l (by walk_at "size") | exact R__law_flat_ti (by walk_at "size"))
theorem pid_seq {X : Cx} {tg iter : Expr} {Γ : Ev} {t : Bool} {ds : List PyData} (h : PD X iter Γ (seqD t ds)) : PID X tg iter Γ ds := by
  cases t with
  | true => exact pid_tup h
  | false => exact pid_list h
theorem ok__law_flat (D : Dn K mg "_law_flat" s__law_flat p__law_flat) (B : Bl mg) : Df P w K mg base "_law_flat" 1 p__law_flat R__law_flat := by
  refine D.ok sc__law_flat (fun ds r ⟨t, ns, e, _⟩ => by rw [e] <;> rfl) fun f cdv A outer s H E hr ds r h => ?_
  obtain ⟨t, ns, rfl, hlen, rfl⟩ := h
  have nd := sc__law_flat.nd
  walk_at "open"
  refine' rb_ret ?g1 ?g2
  case g1 =>
    walk_at "tup"
    case hl =>
      refine' pdl_lc (j := 2) PyData.int (fun n => nD (ns.filter fun m => decide (m < n)).length) ns ?hi ?hz ?hlf ?he ?hc ?hN ?ok ?hg ?hs
      walk_at "lc"
      case hi => exact pid_seq (by walk_at "ev")
      case hz => omega
      case hlf => intro a ha; rfl
      case he =>
        intro s H C cl fp n hn
        refine' PD.is ?g3 ?g4
        case g3 =>
          walk_at "len"
          case hl =>
            refine' pdl_lcF (j := 1) PyData.int PyData.int (fun m => decide (m < n)) ns ?hi2 ?hz2 ?hlf2 ?ht2 ?he2 ?hc ?hN ?ok ?hg ?hs
            walk_at "lc2"
            case hi2 => exact pid_seq (by walk_at "ev")
            case hz2 => omega
            case hlf2 => intro a ha; rfl
            case ht2 =>
              intro s H C cl fp m hm
              walk_at "test"
            case he2 =>
              intro s H C cl fp m hm hk
              walk_at "ev"
        case g4 => rw [List.length_map]
  case g2 =>
    show PyData.tuple _ = PyData.tuple ((ns.map fun n => (ns.filter fun m => decide (m < n)).length).map nD)
    rw [List.map_map] <;> rfl
abbrev s__law_some : Stmt := topS 13
abbrev p__law_some : List Str := ["_law_length", "_law_many"]
abbrev n__law_some : List Str := ["_law_length", "_law_many", "_law_found", "_law_k", "_law_longer", "_law_some_here", "_law_low", "_law_place"]
theorem sc__law_some : FnScope n__law_some p__law_some (defScope s__law_some) := ⟨rfl, rfl, rfl, by decide +kernel, rfl, by decide +kernel, by decide +kernel⟩
local macro_rules | `(tactic| walk_at "slot") => `(tactic| first

  | ((with_reducible refine' pd_var (x := Str.ofString "_law_length") (i := 0) ?hN ?hΓ ?hv ?hd ?hcd); (case hN => rfl); (case hΓ => rfl); (case hv => walk_at "vis"); (case hd => decide); (case hcd => decide))
  | ((with_reducible refine' pd_var (x := Str.ofString "_law_many") (i := 1) ?hN ?hΓ ?hv ?hd ?hcd); (case hN => rfl); (case hΓ => rfl); (case hv => walk_at "vis"); (case hd => decide); (case hcd => decide))
  | ((with_reducible refine' pd_var (x := Str.ofString "_law_found") (i := 2) ?hN ?hΓ ?hv ?hd ?hcd); (case hN => rfl); (case hΓ => rfl); (case hv => walk_at "vis"); (case hd => decide); (case hcd => decide))
  | ((with_reducible refine' pd_var (x := Str.ofString "_law_k") (i := 3) ?hN ?hΓ ?hv ?hd ?hcd); (case hN => rfl); (case hΓ => rfl); (case hv => walk_at "vis"); (case hd => decide); (case hcd => decide))
  | ((with_reducible refine' pd_var (x := Str.ofString "_law_longer") (i := 4) ?hN ?hΓ ?hv ?hd ?hcd); (case hN => rfl); (case hΓ => rfl); (case hv => walk_at "vis"); (case hd => decide); (case hcd => decide))
  | ((with_reducible refine' pd_var (x := Str.ofString "_law_some_here") (i := 5) ?hN ?hΓ ?hv ?hd ?hcd); (case hN => rfl); (case hΓ => rfl); (case hv => walk_at "vis"); (case hd => decide); (case hcd => decide))
  | ((with_reducible refine' pd_var (x := Str.ofString "_law_low") (i := 6) ?hN ?hΓ ?hv ?hd ?hcd); (case hN => rfl); (case hΓ => rfl); (case hv => walk_at "vis"); (case hd => decide); (case hcd => decide))
  | ((with_reducible refine' pd_var (x := Str.ofString "_law_place") (i := 7) ?hN ?hΓ ?hv ?hd ?hcd); (case hN => rfl); (case hΓ => rfl); (case hv => walk_at "vis"); (case hd => decide); (case hcd => decide)))
local macro_rules | `(tactic| walk_at "asg") => `(tactic| first
  | (with_reducible refine' rb_asg (x := Str.ofString "_law_length") (i := 0) ?he ?hr ?hN ?hi ?hx ?hs ?hf)
  | (with_reducible refine' rb_asg (x := Str.ofString "_law_many") (i := 1) ?he ?hr ?hN ?hi ?hx ?hs ?hf)
  | (with_reducible refine' rb_asg (x := Str.ofString "_law_found") (i := 2) ?he ?hr ?hN ?hi ?hx ?hs ?hf)
  | (with_reducible refine' rb_asg (x := Str.ofString "_law_k") (i := 3) ?he ?hr ?hN ?hi ?hx ?hs ?hf)
  | (with_reducible refine' rb_asg (x := Str.ofString "_law_longer") (i := 4) ?he ?hr ?hN ?hi ?hx ?hs ?hf)
  | (with_reducible refine' rb_asg (x := Str.ofString "_law_some_here") (i := 5) ?he ?hr ?hN ?hi ?hx ?hs ?hf)
  | (with_reducible refine' rb_asg (x := Str.ofString "_law_low") (i := 6) ?he ?hr ?hN ?hi ?hx ?hs ?hf)
  | (with_reducible refine' rb_asg (x := Str.ofString "_law_place") (i := 7) ?he ?hr ?hN ?hi ?hx ?hs ?hf))
local macro_rules | `(tactic| walk_at "rasg") => `(tactic| first
  | (with_reducible refine' ro_asgS (x := Str.ofString "_law_length") (i := 0) ?he ?hl ?hr ?ho ?hN ?hi ?hx ?hs ?hf)
  | (with_reducible refine' ro_asgS (x := Str.ofString "_law_many") (i := 1) ?he ?hl ?hr ?ho ?hN ?hi ?hx ?hs ?hf)
  | (with_reducible refine' ro_asgS (x := Str.ofString "_law_found") (i := 2) ?he ?hl ?hr ?ho ?hN ?hi ?hx ?hs ?hf)
  | (with_reducible refine' ro_asgS (x := Str.ofString "_law_k") (i := 3) ?he ?hl ?hr ?ho ?hN ?hi ?hx ?hs ?hf)
  | (with_reducible refine' ro_asgS (x := Str.ofString "_law_longer") (i := 4) ?he ?hl ?hr ?ho ?hN ?hi ?hx ?hs ?hf)
  | (with_reducible refine' ro_asgS (x := Str.ofString "_law_some_here") (i := 5) ?he ?hl ?hr ?ho ?hN ?hi ?hx ?hs ?hf)
  | (with_reducible refine' ro_asgS (x := Str.ofString "_law_low") (i := 6) ?he ?hl ?hr ?ho ?hN ?hi ?hx ?hs ?hf)
  | (with_reducible refine' ro_asgS (x := Str.ofString "_law_place") (i := 7) ?he ?hl ?hr ?ho ?hN ?hi ?hx ?hs ?hf))
local macro_rules | `(tactic| walk_at "rasgL") => `(tactic| first
  | (with_reducible refine' ro_asgL (x := Str.ofString "_law_length") (i := 0) _ ?he ?hl ?hr ?hlt ?ho ?ho2 ?hio ?hN ?hi ?hx ?hs ?hf)
  | (with_reducible refine' ro_asgL (x := Str.ofString "_law_many") (i := 1) _ ?he ?hl ?hr ?hlt ?ho ?ho2 ?hio ?hN ?hi ?hx ?hs ?hf)
  | (with_reducible refine' ro_asgL (x := Str.ofString "_law_found") (i := 2) _ ?he ?hl ?hr ?hlt ?ho ?ho2 ?hio ?hN ?hi ?hx ?hs ?hf)
  | (with_reducible refine' ro_asgL (x := Str.ofString "_law_k") (i := 3) _ ?he ?hl ?hr ?hlt ?ho ?ho2 ?hio ?hN ?hi ?hx ?hs ?hf)
  | (with_reducible refine' ro_asgL (x := Str.ofString "_law_longer") (i := 4) _ ?he ?hl ?hr ?hlt ?ho ?ho2 ?hio ?hN ?hi ?hx ?hs ?hf)
  | (with_reducible refine' ro_asgL (x := Str.ofString "_law_some_here") (i := 5) _ ?he ?hl ?hr ?hlt ?ho ?ho2 ?hio ?hN ?hi ?hx ?hs ?hf)
  | (with_reducible refine' ro_asgL (x := Str.ofString "_law_low") (i := 6) _ ?he ?hl ?hr ?hlt ?ho ?ho2 ?hio ?hN ?hi ?hx ?hs ?hf)
  | (with_reducible refine' ro_asgL (x := Str.ofString "_law_place") (i := 7) _ ?he ?hl ?hr ?hlt ?ho ?ho2 ?hio ?hN ?hi ?hx ?hs ?hf))
local macro_rules | `(tactic| walk_at "rifasg") => `(tactic| first
  | (with_reducible refine' ro_ifI (x := Str.ofString "_law_length") (i := 0) ?hc ?he ?h0 ?hr ?hio ?hN ?hi ?hx ?hs ?hf)
  | (with_reducible refine' ro_ifI (x := Str.ofString "_law_many") (i := 1) ?hc ?he ?h0 ?hr ?hio ?hN ?hi ?hx ?hs ?hf)
  | (with_reducible refine' ro_ifI (x := Str.ofString "_law_found") (i := 2) ?hc ?he ?h0 ?hr ?hio ?hN ?hi ?hx ?hs ?hf)
  | (with_reducible refine' ro_ifI (x := Str.ofString "_law_k") (i := 3) ?hc ?he ?h0 ?hr ?hio ?hN ?hi ?hx ?hs ?hf)
  | (with_reducible refine' ro_ifI (x := Str.ofString "_law_longer") (i := 4) ?hc ?he ?h0 ?hr ?hio ?hN ?hi ?hx ?hs ?hf)
  | (with_reducible refine' ro_ifI (x := Str.ofString "_law_some_here") (i := 5) ?hc ?he ?h0 ?hr ?hio ?hN ?hi ?hx ?hs ?hf)
  | (with_reducible refine' ro_ifI (x := Str.ofString "_law_low") (i := 6) ?hc ?he ?h0 ?hr ?hio ?hN ?hi ?hx ?hs ?hf)
  | (with_reducible refine' ro_ifI (x := Str.ofString "_law_place") (i := 7) ?hc ?he ?h0 ?hr ?hio ?hN ?hi ?hx ?hs ?hf))
local macro_rules | `(tactic| walk_at "rtidy") => `(tactic| (show RO _ _ _ [_, _, _, _, _, _, _, _] _ _))
local macro_rules | `(tactic| walk_at "blk") => `(tactic| ((show blkC n__law_some (defScope s__law_some) _ _ = true); decide +kernel))
local macro_rules | `(tactic| walk_at "tidy") => `(tactic| (show RB _ _ [_, _, _, _, _, _, _, _] _ _))
local macro_rules | `(tactic| walk_at "ifasg") => `(tactic| first
  | (with_reducible refine' rb_ifI (x := Str.ofString "_law_length") (i := 0) ?hc ?he ?h0 ?hr ?hN ?hi ?hx ?hs ?hf)
  | (with_reducible refine' rb_ifI (x := Str.ofString "_law_many") (i := 1) ?hc ?he ?h0 ?hr ?hN ?hi ?hx ?hs ?hf)
  | (with_reducible refine' rb_ifI (x := Str.ofString "_law_found") (i := 2) ?hc ?he ?h0 ?hr ?hN ?hi ?hx ?hs ?hf)
  | (with_reducible refine' rb_ifI (x := Str.ofString "_law_k") (i := 3) ?hc ?he ?h0 ?hr ?hN ?hi ?hx ?hs ?hf)
  | (with_reducible refine' rb_ifI (x := Str.ofString "_law_longer") (i := 4) ?hc ?he ?h0 ?hr ?hN ?hi ?hx ?hs ?hf)
  | (with_reducible refine' rb_ifI (x := Str.ofString "_law_some_here") (i := 5) ?hc ?he ?h0 ?hr ?hN ?hi ?hx ?hs ?hf)
  | (with_reducible refine' rb_ifI (x := Str.ofString "_law_low") (i := 6) ?hc ?he ?h0 ?hr ?hN ?hi ?hx ?hs ?hf)
  | (with_reducible refine' rb_ifI (x := Str.ofString "_law_place") (i := 7) ?hc ?he ?h0 ?hr ?hN ?hi ?hx ?hs ?hf))
theorem first_max {rest : List Nat} (h : rest.Pairwise (· < ·)) : ((firstF rest : Int) - 1) ∈ (-1 : Int) :: rest.map (fun n : Nat => (n : Int)) ∧ ∀ y ∈ (-1 : Int) :: rest.map (fun n : Nat => (n : Int)), y ≤ (firstF rest : Int) - 1 := by
  by_cases hne : rest = []
  · subst hne
    exact ⟨by simp [firstF], fun y hy => by simp at hy; subst hy; simp [firstF]⟩
  · have e1 : (firstF rest : Int) - 1 = (rest.getLast hne : Int) := by
      unfold firstF
      rw [List.getLast?_eq_getLast hne]
      show ((rest.getLast hne + 1 : Nat) : Int) - 1 = _
      omega
    rw [e1]
    refine ⟨List.mem_cons_of_mem _ (List.mem_map.mpr ⟨_, List.getLast_mem hne, rfl⟩), fun y hy => ?_⟩
    rcases List.mem_cons.mp hy with q | q
    · omega
    · obtain ⟨z, hz, rfl⟩ := List.mem_map.mp q
      have e := List.dropLast_concat_getLast hne
      rw [← e] at hz h
      rcases List.mem_append.mp hz with q | q
      · have := (List.pairwise_append.mp h).2.2 z q _ (List.mem_singleton.mpr rfl)
        omega
      · rw [List.mem_singleton] at q
        omega
def R__law_some : Rel := fun ds r => ∃ n m : Nat, ds = [nD n, nD m] ∧ n ≤ 10 ∧ m ≤ 6 ∧ r = .list ((placesF n m).map rowD)
theorem R__law_some_i {n m : Nat} (h1 : n ≤ 10) (h2 : m ≤ 6) : R__law_some [nD n, nD m] (.list ((placesF n m).map rowD)) := ⟨n, m, rfl, h1, h2, rfl⟩
local macro_rules | `(tactic| walk_at "R") => `(tactic| exact R__law_some_i (by walk_at "size") (by walk_at "size"))
theorem ok__law_some (D : Dn K mg "_law_some" s__law_some p__law_some) (B : Bl mg) : Df P w K mg base "_law_some" 1 p__law_some R__law_some := by
  refine D.ok sc__law_some (fun ds r ⟨n, m, e, _⟩ => by rw [e] <;> rfl) fun f cdv A outer s H E hr ds r h => ?_
  obtain ⟨n, m, rfl, hn, hm, rfl⟩ := h
  have nd := sc__law_some.nd
  walk_at "open"
  walk_at "set"
  refine' rb_for (j := 3) (ds := (List.range m).map nD) (fun i Γ => Γ = [some (nD n), some (nD m), some (.list ((placesF n i).map rowD)), none, none, none, none, none]) ?g1 ?g2 ?g3 ?g4 ?hp ?hc ?hN ?hj ?hx ?hf ?hsi
  walk_at "for1"
  case g1 =>
    refine' pid_range1 ?h1 rfl B.range (by omega)
    case h1 => walk_at "ev"
  case g2 => exact ⟨_, .cons (.cons (.cons (.drop (.drop (.drop (.drop (.drop .nil))))))), rfl⟩
  case g3 =>
    rintro i d Γ' hd' rfl
    obtain ⟨hi, rfl⟩ := range_at hd'
    walk_at "tidy"
    walk_at "set"
    have hil := placesF_len hn i
    have h5 : 10 ^ i ≤ 10 ^ 5 := Nat.pow_le_pow_right (by decide) (by omega)
    refine' rb_for (j := 5) (ds := (placesF n i).map rowD) (fun j Γ => Γ = [some (nD n), some (nD m), some (.list ((placesF n i).map rowD)), some (nD i), some (.list ((((placesF n i).take j).flatMap (stepP n)).map rowD)), none, none, none]) ?k1 ?k2 ?k3 ?k4 ?hp2 ?hc2 ?hN2 ?hj2 ?hx2 ?hf2 ?hsi2
    case hp2 => exact PassesOwn.never
    case hc2 => rfl
    case hN2 => assumption
    case hj2 => rfl
    case hx2 => walk_at "loc"
    case hf2 => walk_at "loc"
    case hsi2 => intro _; rfl
    case k1 => exact pid_list (by walk_at "ev")
    case k2 => exact ⟨_, .cons (.cons (.cons (.cons (.cons (.drop (.drop (.drop .nil))))))), rfl⟩
    case k3 =>
      rintro j d Γ' hd' rfl
      obtain ⟨rest, hrest, rfl⟩ := mapG_at hd'
      walk_at "tidy"
      obtain ⟨r1, r2, r3⟩ := places_mem (List.mem_of_getElem? hrest)
      have hF := firstF_le (List.mem_of_getElem? hrest)
      have hFb : firstF rest ≤ 100000000 := by omega
      have hj : j < (placesF n i).length := (List.getElem?_eq_some_iff.mp hrest).1
      have efl := flatP_len n ((placesF n i).take j)
      have elen : ((placesF n i).take j).length ≤ 10 ^ 5 := by rw [List.length_take]; omega
      have efl2 : n * ((placesF n i).take j).length ≤ 10 * 10 ^ 5 := Nat.mul_le_mul hn elen
      have est := stepP_len n rest
      have eF : ((firstF rest : Int) - 1) + 1 = (firstF rest : Int) := by omega
      walk_at "asg"
      case hN => assumption
      case hi => rfl
      case hx => walk_at "loc"
      case hs => rfl
      case hf => walk_at "loc"
      case he =>
        refine' pd_bin (dx := .int ((firstF rest : Int) - 1)) ?l1 pd_int od_add
        case l1 =>
          refine' pd_callB (ds := [.list (((-1 : Int) :: rest.map (fun n : Nat => (n : Int))).map PyData.int)]) (cd_maxL rfl (first_max r1).1 (first_max r1).2) rfl B.max bb_max (pad_cons ?l2 pad_nil)
          case l2 =>
            refine' PD.is ?l3 ?l4
            case l3 => walk_at "ev"
            case l4 =>
              show PyData.list ([PyData.int (-1)] ++ rest.map nD) = _
              rw [nD_ints] <;> rfl
      case hr =>
        rw [eF]
        walk_at "tidy"
        walk_at "asg"
        case hN => assumption
        case hi => rfl
        case hx => walk_at "loc"
        case hs => rfl
        case hf => walk_at "loc"
        case he =>
          refine' pd_bin (dy := .list ((stepP n rest).map rowD)) ?m1 (PDL.pd ?m2) (odl_cat ?m3).od
          case m1 => walk_at "ev"
          case m2 =>
            have e0 : (stepP n rest).map rowD = (List.range' (firstF rest) (n - firstF rest)).map (fun p => rowD (rest ++ [p])) := by
              unfold stepP
              rw [List.map_map] <;> rfl
            rw [e0]
            refine' pdl_lc (j := 7) nD (fun p => rowD (rest ++ [p])) (List.range' (firstF rest) (n - firstF rest)) ?hi ?hz ?hlf ?he ?hc ?hN ?ok ?hg ?hs
            walk_at "lc"
            case hi =>
              refine' pid_range2 ?c1 ?c2 rfl B.range ?c3 (by omega)
              case c1 => walk_at "ev"
              case c2 => walk_at "ev"
              case c3 => exact hFb
            case hz =>
              rw [List.length_range']
              omega
            case hlf => intro a ha; exact lf_row _
            case he =>
              intro s H C cl fp q hq
              refine' PD.is ?d1 ?d2
              case d1 => walk_at "ev"
              case d2 =>
                show PyData.tuple _ = PyData.tuple ((rest ++ [q]).map nD)
                rw [List.map_append] <;> rfl
          case m3 =>
            rw [List.length_map, List.length_map]
            omega
        case hr =>
          have e1 : ((((placesF n i).take j).flatMap (stepP n)).map rowD ++ (stepP n rest).map rowD) = (((placesF n i).take (j + 1)).flatMap (stepP n)).map rowD := by
            rw [List.take_add_one, hrest, ← List.map_append]
            show _ = (((placesF n i).take j ++ [rest]).flatMap (stepP n)).map rowD
            rw [List.flatMap_append, List.flatMap_singleton]
          rw [e1]
          exact rb_nil ⟨_, .cons (.cons (.cons (.cons (.cons (.drop (.drop (.drop .nil))))))), rfl⟩
    case k4 =>
      rintro Γ' rfl
      rw [List.length_map, List.take_length]
      walk_at "set"
      exact rb_nil ⟨_, .cons (.cons (.cons (.drop (.drop (.drop (.drop (.drop .nil))))))), rfl⟩
  case g4 =>
    rintro Γ' rfl
    rw [List.length_map, List.length_range]
    walk_at "ret"
    rfl
abbrev s__law_stands : Stmt := topS 14
abbrev p__law_stands : List Str := ["_law_row_here", "_law_pattern"]
abbrev n__law_stands : List Str := ["_law_row_here", "_law_pattern", "_law_some_here", "_law_place"]
theorem sc__law_stands : FnScope n__law_stands p__law_stands (defScope s__law_stands) := ⟨rfl, rfl, rfl, by decide +kernel, rfl, by decide +kernel, by decide +kernel⟩
local macro_rules | `(tactic| walk_at "slot") => `(tactic| first

  | ((with_reducible refine' pd_var (x := Str.ofString "_law_row_here") (i := 0) ?hN ?hΓ ?hv ?hd ?hcd); (case hN => rfl); (case hΓ => rfl); (case hv => walk_at "vis"); (case hd => decide); (case hcd => decide))
  | ((with_reducible refine' pd_var (x := Str.ofString "_law_pattern") (i := 1) ?hN ?hΓ ?hv ?hd ?hcd); (case hN => rfl); (case hΓ => rfl); (case hv => walk_at "vis"); (case hd => decide); (case hcd => decide))
  | ((with_reducible refine' pd_var (x := Str.ofString "_law_some_here") (i := 2) ?hN ?hΓ ?hv ?hd ?hcd); (case hN => rfl); (case hΓ => rfl); (case hv => walk_at "vis"); (case hd => decide); (case hcd => decide))
  | ((with_reducible refine' pd_var (x := Str.ofString "_law_place") (i := 3) ?hN ?hΓ ?hv ?hd ?hcd); (case hN => rfl); (case hΓ => rfl); (case hv => walk_at "vis"); (case hd => decide); (case hcd => decide)))
local macro_rules | `(tactic| walk_at "asg") => `(tactic| first
  | (with_reducible refine' rb_asg (x := Str.ofString "_law_row_here") (i := 0) ?he ?hr ?hN ?hi ?hx ?hs ?hf)
  | (with_reducible refine' rb_asg (x := Str.ofString "_law_pattern") (i := 1) ?he ?hr ?hN ?hi ?hx ?hs ?hf)
  | (with_reducible refine' rb_asg (x := Str.ofString "_law_some_here") (i := 2) ?he ?hr ?hN ?hi ?hx ?hs ?hf)
  | (with_reducible refine' rb_asg (x := Str.ofString "_law_place") (i := 3) ?he ?hr ?hN ?hi ?hx ?hs ?hf))
local macro_rules | `(tactic| walk_at "rasg") => `(tactic| first
  | (with_reducible refine' ro_asgS (x := Str.ofString "_law_row_here") (i := 0) ?he ?hl ?hr ?ho ?hN ?hi ?hx ?hs ?hf)
  | (with_reducible refine' ro_asgS (x := Str.ofString "_law_pattern") (i := 1) ?he ?hl ?hr ?ho ?hN ?hi ?hx ?hs ?hf)
  | (with_reducible refine' ro_asgS (x := Str.ofString "_law_some_here") (i := 2) ?he ?hl ?hr ?ho ?hN ?hi ?hx ?hs ?hf)
  | (with_reducible refine' ro_asgS (x := Str.ofString "_law_place") (i := 3) ?he ?hl ?hr ?ho ?hN ?hi ?hx ?hs ?hf))
local macro_rules | `(tactic| walk_at "rasgL") => `(tactic| first
  | (with_reducible refine' ro_asgL (x := Str.ofString "_law_row_here") (i := 0) _ ?he ?hl ?hr ?hlt ?ho ?ho2 ?hio ?hN ?hi ?hx ?hs ?hf)
  | (with_reducible refine' ro_asgL (x := Str.ofString "_law_pattern") (i := 1) _ ?he ?hl ?hr ?hlt ?ho ?ho2 ?hio ?hN ?hi ?hx ?hs ?hf)
  | (with_reducible refine' ro_asgL (x := Str.ofString "_law_some_here") (i := 2) _ ?he ?hl ?hr ?hlt ?ho ?ho2 ?hio ?hN ?hi ?hx ?hs ?hf)
  | (with_reducible refine' ro_asgL (x := Str.ofString "_law_place") (i := 3) _ ?he ?hl ?hr ?hlt ?ho ?ho2 ?hio ?hN ?hi ?hx ?hs ?hf))
local macro_rules | `(tactic| walk_at "rifasg") => `(tactic| first
  | (with_reducible refine' ro_ifI (x := Str.ofString "_law_row_here") (i := 0) ?hc ?he ?h0 ?hr ?hio ?hN ?hi ?hx ?hs ?hf)
  | (with_reducible refine' ro_ifI (x := Str.ofString "_law_pattern") (i := 1) ?hc ?he ?h0 ?hr ?hio ?hN ?hi ?hx ?hs ?hf)
  | (with_reducible refine' ro_ifI (x := Str.ofString "_law_some_here") (i := 2) ?hc ?he ?h0 ?hr ?hio ?hN ?hi ?hx ?hs ?hf)
  | (with_reducible refine' ro_ifI (x := Str.ofString "_law_place") (i := 3) ?hc ?he ?h0 ?hr ?hio ?hN ?hi ?hx ?hs ?hf))
local macro_rules | `(tactic| walk_at "rtidy") => `(tactic| (show RO _ _ _ [_, _, _, _] _ _))
local macro_rules | `(tactic| walk_at "blk") => `(tactic| ((show blkC n__law_stands (defScope s__law_stands) _ _ = true); decide +kernel))
local macro_rules | `(tactic| walk_at "tidy") => `(tactic| (show RB _ _ [_, _, _, _] _ _))
local macro_rules | `(tactic| walk_at "ifasg") => `(tactic| first
  | (with_reducible refine' rb_ifI (x := Str.ofString "_law_row_here") (i := 0) ?hc ?he ?h0 ?hr ?hN ?hi ?hx ?hs ?hf)
  | (with_reducible refine' rb_ifI (x := Str.ofString "_law_pattern") (i := 1) ?hc ?he ?h0 ?hr ?hN ?hi ?hx ?hs ?hf)
  | (with_reducible refine' rb_ifI (x := Str.ofString "_law_some_here") (i := 2) ?hc ?he ?h0 ?hr ?hN ?hi ?hx ?hs ?hf)
  | (with_reducible refine' rb_ifI (x := Str.ofString "_law_place") (i := 3) ?hc ?he ?h0 ?hr ?hN ?hi ?hx ?hs ?hf))
def standsL (row pat : List Nat) : Option (List Nat) := (placesF row.length pat.length).find? fun ps => decide (lessN (pickF row ps) = pat)
def R__law_stands : Rel := fun ds r => ∃ row pat : List Nat, ds = [rowD row, rowD pat] ∧ row.length ≤ 10 ∧ pat.length ≤ 6 ∧ r = optD (standsL row pat)
theorem R__law_stands_i {row pat : List Nat} (h1 : row.length ≤ 10) (h2 : pat.length ≤ 6) : R__law_stands [.tuple (row.map nD), .tuple (pat.map nD)] (optD (standsL row pat)) := ⟨row, pat, rfl, h1, h2, rfl⟩
local macro_rules | `(tactic| walk_at "R") => `(tactic| exact R__law_stands_i (by walk_at "size") (by walk_at "size"))
theorem ok__law_stands (D : Dn K mg "_law_stands" s__law_stands p__law_stands) (B : Bl mg) (D_flat : Df P w K mg base "_law_flat" 1 p__law_flat R__law_flat) (D_some : Df P w K mg base "_law_some" 1 p__law_some R__law_some) : Df P w K mg base "_law_stands" 2 p__law_stands R__law_stands := by
  refine D.ok sc__law_stands (fun ds r ⟨n, m, e, _⟩ => by rw [e] <;> rfl) fun f cdv A outer s H E hr ds r h => ?_
  obtain ⟨row, pat, rfl, hrow, hpat, rfl⟩ := h
  have nd := sc__law_stands.nd
  walk_at "open"
  let xs := placesF row.length pat.length
  let f : List Nat → Bool := fun ps => decide (lessN (pickF row ps) = pat)
  refine' rb_for (j := 2) (ds := xs.map rowD) (fun i Γ => Γ = [some (rowD row), some (rowD pat), none, none] ∧ ∀ b ∈ xs.take i, f b = false) ?g1 ?g2 ?g3 ?g4 ?hp ?hc ?hN ?hj ?hx ?hf ?hsi
  walk_at "for1"
  case g1 =>
    refine' pid_list (pd_call (ds := [nD row.length, nD pat.length]) D_some ?h1 rfl ?h2 ⟨row.length, pat.length, rfl, hrow, hpat, rfl⟩)
    case h1 => exact Room.mono hr (by decide)
    case h2 =>
      refine' PAD.is ?h3 ?h4
      case h3 => walk_at "args"
      case h4 => rw [List.length_map, List.length_map]
  case g2 => exact ⟨_, .cons (.cons (.drop (.drop .nil))), rfl, fun b hb => by rw [List.take_zero] at hb; cases hb⟩
  case g3 =>
    rintro i d Γ' hd' ⟨rfl, hno⟩
    obtain ⟨ps, hps, rfl⟩ := mapG_at hd'
    obtain ⟨p1, p2, p3⟩ := places_mem (List.mem_of_getElem? hps)
    walk_at "tidy"
    have hpl : ps.length ≤ 6 := by omega
    have hpk : (pickF row ps).length ≤ 10000 := by unfold pickF; rw [List.length_map]; omega
    refine' rb_ifr (k := f ps) ?a1 ?a2 ?a3
    case a1 =>
      refine' ptd_cmp (dx := rowD (lessN (pickF row ps))) (dy := rowD pat) ?b1 ?b2 (od_eqR (Room.units hr)) (by walk_at "mark")
      case b1 =>
        refine' pd_call (ds := [lstD (pickF row ps)]) D_flat ?b3 rfl (pad_cons (PDL.pd ?b4) pad_nil) (R__law_flat_l hpk)
        case b3 => exact Room.mono hr (by decide)
        case b4 =>
          show PDL _ _ _ ((ps.map fun p => row.getD p 0).map nD)
          rw [List.map_map]
          refine' pdl_lc (j := 3) nD (fun p => nD (row.getD p 0)) ps ?hi ?hz ?hlf ?he ?hc ?hN ?ok ?hg ?hs
          walk_at "lc"
          case hi => exact pid_tup (by walk_at "ev")
          case hz => omega
          case hlf => intro a ha; rfl
          case he =>
            intro s H C cl fp p hp
            refine' pd_ix (dx := rowD row) (dy := nD p) ?c1 ?c2 (id_tup (row_at (p3 p hp)))
            case c1 => walk_at "ev"
            case c2 => walk_at "ev"
      case b2 => walk_at "ev"
    case a2 =>
      intro hk
      walk_at "ret"
      show rowD ps = optD (standsL row pat)
      have e : standsL row pat = some ps := find_at hps hk hno
      rw [e] <;> rfl
    case a3 =>
      intro hk
      refine rb_nil ⟨_, .cons (.cons (.drop (.drop .nil))), rfl, fun b hb => ?_⟩
      rw [List.take_add_one, hps] at hb
      rcases List.mem_append.mp hb with q | q
      · exact hno b q
      · have e : b = ps := by simpa using q
        rw [e]
        exact hk
  case g4 =>
    rintro Γ' ⟨rfl, hno⟩
    rw [List.length_map, List.take_length] at hno
    walk_at "ret"
    show PyData.none = optD (standsL row pat)
    have e : standsL row pat = none := List.find?_eq_none.mpr fun b hb q => by
      have := hno b hb
      rw [show f b = true from q] at this
      cases this
    rw [e] <;> rfl
abbrev s__law_rows : Stmt := topS 15
abbrev p__law_rows : List Str := ["_law_size"]
abbrev n__law_rows : List Str := ["_law_size", "_law_found", "_law_number", "_law_longer", "_law_row_here", "_law_at"]
theorem sc__law_rows : FnScope n__law_rows p__law_rows (defScope s__law_rows) := ⟨rfl, rfl, rfl, by decide +kernel, rfl, by decide +kernel, by decide +kernel⟩
local macro_rules | `(tactic| walk_at "slot") => `(tactic| first

  | ((with_reducible refine' pd_var (x := Str.ofString "_law_size") (i := 0) ?hN ?hΓ ?hv ?hd ?hcd); (case hN => rfl); (case hΓ => rfl); (case hv => walk_at "vis"); (case hd => decide); (case hcd => decide))
  | ((with_reducible refine' pd_var (x := Str.ofString "_law_found") (i := 1) ?hN ?hΓ ?hv ?hd ?hcd); (case hN => rfl); (case hΓ => rfl); (case hv => walk_at "vis"); (case hd => decide); (case hcd => decide))
  | ((with_reducible refine' pd_var (x := Str.ofString "_law_number") (i := 2) ?hN ?hΓ ?hv ?hd ?hcd); (case hN => rfl); (case hΓ => rfl); (case hv => walk_at "vis"); (case hd => decide); (case hcd => decide))
  | ((with_reducible refine' pd_var (x := Str.ofString "_law_longer") (i := 3) ?hN ?hΓ ?hv ?hd ?hcd); (case hN => rfl); (case hΓ => rfl); (case hv => walk_at "vis"); (case hd => decide); (case hcd => decide))
  | ((with_reducible refine' pd_var (x := Str.ofString "_law_row_here") (i := 4) ?hN ?hΓ ?hv ?hd ?hcd); (case hN => rfl); (case hΓ => rfl); (case hv => walk_at "vis"); (case hd => decide); (case hcd => decide))
  | ((with_reducible refine' pd_var (x := Str.ofString "_law_at") (i := 5) ?hN ?hΓ ?hv ?hd ?hcd); (case hN => rfl); (case hΓ => rfl); (case hv => walk_at "vis"); (case hd => decide); (case hcd => decide)))
local macro_rules | `(tactic| walk_at "asg") => `(tactic| first
  | (with_reducible refine' rb_asg (x := Str.ofString "_law_size") (i := 0) ?he ?hr ?hN ?hi ?hx ?hs ?hf)
  | (with_reducible refine' rb_asg (x := Str.ofString "_law_found") (i := 1) ?he ?hr ?hN ?hi ?hx ?hs ?hf)
  | (with_reducible refine' rb_asg (x := Str.ofString "_law_number") (i := 2) ?he ?hr ?hN ?hi ?hx ?hs ?hf)
  | (with_reducible refine' rb_asg (x := Str.ofString "_law_longer") (i := 3) ?he ?hr ?hN ?hi ?hx ?hs ?hf)
  | (with_reducible refine' rb_asg (x := Str.ofString "_law_row_here") (i := 4) ?he ?hr ?hN ?hi ?hx ?hs ?hf)
  | (with_reducible refine' rb_asg (x := Str.ofString "_law_at") (i := 5) ?he ?hr ?hN ?hi ?hx ?hs ?hf))
local macro_rules | `(tactic| walk_at "rasg") => `(tactic| first
  | (with_reducible refine' ro_asgS (x := Str.ofString "_law_size") (i := 0) ?he ?hl ?hr ?ho ?hN ?hi ?hx ?hs ?hf)
  | (with_reducible refine' ro_asgS (x := Str.ofString "_law_found") (i := 1) ?he ?hl ?hr ?ho ?hN ?hi ?hx ?hs ?hf)
  | (with_reducible refine' ro_asgS (x := Str.ofString "_law_number") (i := 2) ?he ?hl ?hr ?ho ?hN ?hi ?hx ?hs ?hf)
  | (with_reducible refine' ro_asgS (x := Str.ofString "_law_longer") (i := 3) ?he ?hl ?hr ?ho ?hN ?hi ?hx ?hs ?hf)
  | (with_reducible refine' ro_asgS (x := Str.ofString "_law_row_here") (i := 4) ?he ?hl ?hr ?ho ?hN ?hi ?hx ?hs ?hf)
  | (with_reducible refine' ro_asgS (x := Str.ofString "_law_at") (i := 5) ?he ?hl ?hr ?ho ?hN ?hi ?hx ?hs ?hf))
local macro_rules | `(tactic| walk_at "rasgL") => `(tactic| first
  | (with_reducible refine' ro_asgL (x := Str.ofString "_law_size") (i := 0) _ ?he ?hl ?hr ?hlt ?ho ?ho2 ?hio ?hN ?hi ?hx ?hs ?hf)
  | (with_reducible refine' ro_asgL (x := Str.ofString "_law_found") (i := 1) _ ?he ?hl ?hr ?hlt ?ho ?ho2 ?hio ?hN ?hi ?hx ?hs ?hf)
  | (with_reducible refine' ro_asgL (x := Str.ofString "_law_number") (i := 2) _ ?he ?hl ?hr ?hlt ?ho ?ho2 ?hio ?hN ?hi ?hx ?hs ?hf)
  | (with_reducible refine' ro_asgL (x := Str.ofString "_law_longer") (i := 3) _ ?he ?hl ?hr ?hlt ?ho ?ho2 ?hio ?hN ?hi ?hx ?hs ?hf)
  | (with_reducible refine' ro_asgL (x := Str.ofString "_law_row_here") (i := 4) _ ?he ?hl ?hr ?hlt ?ho ?ho2 ?hio ?hN ?hi ?hx ?hs ?hf)
  | (with_reducible refine' ro_asgL (x := Str.ofString "_law_at") (i := 5) _ ?he ?hl ?hr ?hlt ?ho ?ho2 ?hio ?hN ?hi ?hx ?hs ?hf))
local macro_rules | `(tactic| walk_at "rifasg") => `(tactic| first
  | (with_reducible refine' ro_ifI (x := Str.ofString "_law_size") (i := 0) ?hc ?he ?h0 ?hr ?hio ?hN ?hi ?hx ?hs ?hf)
  | (with_reducible refine' ro_ifI (x := Str.ofString "_law_found") (i := 1) ?hc ?he ?h0 ?hr ?hio ?hN ?hi ?hx ?hs ?hf)
  | (with_reducible refine' ro_ifI (x := Str.ofString "_law_number") (i := 2) ?hc ?he ?h0 ?hr ?hio ?hN ?hi ?hx ?hs ?hf)
  | (with_reducible refine' ro_ifI (x := Str.ofString "_law_longer") (i := 3) ?hc ?he ?h0 ?hr ?hio ?hN ?hi ?hx ?hs ?hf)
  | (with_reducible refine' ro_ifI (x := Str.ofString "_law_row_here") (i := 4) ?hc ?he ?h0 ?hr ?hio ?hN ?hi ?hx ?hs ?hf)
  | (with_reducible refine' ro_ifI (x := Str.ofString "_law_at") (i := 5) ?hc ?he ?h0 ?hr ?hio ?hN ?hi ?hx ?hs ?hf))
local macro_rules | `(tactic| walk_at "rtidy") => `(tactic| (show RO _ _ _ [_, _, _, _, _, _] _ _))
local macro_rules | `(tactic| walk_at "blk") => `(tactic| ((show blkC n__law_rows (defScope s__law_rows) _ _ = true); decide +kernel))
local macro_rules | `(tactic| walk_at "tidy") => `(tactic| (show RB _ _ [_, _, _, _, _, _] _ _))
local macro_rules | `(tactic| walk_at "ifasg") => `(tactic| first
  | (with_reducible refine' rb_ifI (x := Str.ofString "_law_size") (i := 0) ?hc ?he ?h0 ?hr ?hN ?hi ?hx ?hs ?hf)
  | (with_reducible refine' rb_ifI (x := Str.ofString "_law_found") (i := 1) ?hc ?he ?h0 ?hr ?hN ?hi ?hx ?hs ?hf)
  | (with_reducible refine' rb_ifI (x := Str.ofString "_law_number") (i := 2) ?hc ?he ?h0 ?hr ?hN ?hi ?hx ?hs ?hf)
  | (with_reducible refine' rb_ifI (x := Str.ofString "_law_longer") (i := 3) ?hc ?he ?h0 ?hr ?hN ?hi ?hx ?hs ?hf)
  | (with_reducible refine' rb_ifI (x := Str.ofString "_law_row_here") (i := 4) ?hc ?he ?h0 ?hr ?hN ?hi ?hx ?hs ?hf)
  | (with_reducible refine' rb_ifI (x := Str.ofString "_law_at") (i := 5) ?hc ?he ?h0 ?hr ?hN ?hi ?hx ?hs ?hf))
def R__law_rows : Rel := fun ds r => ∃ n : Nat, ds = [nD n] ∧ n ≤ 6 ∧ r = .list ((rowsF n).map rowD)
theorem R__law_rows_i {n : Nat} (h : n ≤ 6) : R__law_rows [nD n] (.list ((rowsF n).map rowD)) := ⟨n, rfl, h, rfl⟩
local macro_rules | `(tactic| walk_at "R") => `(tactic| exact R__law_rows_i (by walk_at "size"))
theorem ok__law_rows (D : Dn K mg "_law_rows" s__law_rows p__law_rows) (B : Bl mg) : Df P w K mg base "_law_rows" 1 p__law_rows R__law_rows := by
  refine D.ok sc__law_rows (fun ds r ⟨n, e, _⟩ => by rw [e] <;> rfl) fun f cdv A outer s H E hr ds r h => ?_
  obtain ⟨n, rfl, hn, rfl⟩ := h
  have nd := sc__law_rows.nd
  walk_at "open"
  walk_at "set"
  refine' rb_for (j := 2) (ds := (List.range n).map nD) (fun i Γ => Γ = [some (nD n), some (.list ((rowsF i).map rowD)), none, none, none, none]) ?g1 ?g2 ?g3 ?g4 ?hp ?hc ?hN ?hj ?hx ?hf ?hsi
  walk_at "for1"
  case g1 =>
    refine' pid_range1 ?h1 rfl B.range (by omega)
    case h1 => walk_at "ev"
  case g2 => exact ⟨_, .cons (.cons (.drop (.drop (.drop (.drop .nil))))), rfl⟩
  case g3 =>
    rintro i d Γ' hd' rfl
    obtain ⟨hi, rfl⟩ := range_at hd'
    have hrl := rowsF_len i
    have hfl := fact_le (n := i) (by omega)
    walk_at "tidy"
    walk_at "set"
    refine' rb_for (j := 4) (ds := (rowsF i).map rowD) (fun k Γ => Γ = [some (nD n), some (.list ((rowsF i).map rowD)), some (nD i), some (.list ((((rowsF i).take k).flatMap (insP i)).map rowD)), none, none]) ?k1 ?k2 ?k3 ?k4 ?hp2 ?hc2 ?hN2 ?hj2 ?hx2 ?hf2 ?hsi2
    case hp2 => exact PassesOwn.never
    case hc2 => rfl
    case hN2 => assumption
    case hj2 => rfl
    case hx2 => walk_at "loc"
    case hf2 => walk_at "loc"
    case hsi2 => intro _; rfl
    case k1 => exact pid_list (by walk_at "ev")
    case k2 => exact ⟨_, .cons (.cons (.cons (.cons (.drop (.drop .nil))))), rfl⟩
    case k3 =>
      rintro k d Γ' hd' rfl
      obtain ⟨row, hrow, rfl⟩ := mapG_at hd'
      have hrowl := rows_len (List.mem_of_getElem? hrow)
      have hk : k < (rowsF i).length := (List.getElem?_eq_some_iff.mp hrow).1
      have efl := flat_ins_len i ((rowsF i).take k)
      have elen : ((rowsF i).take k).length ≤ 720 := by rw [List.length_take]; omega
      have emul : ((rowsF i).take k).length * (i + 1) ≤ 720 * 7 := Nat.mul_le_mul elen (by omega)
      walk_at "tidy"
      refine' rb_asg (x := Str.ofString "_law_longer") (i := 3) (d := .list ((((rowsF i).take (k + 1)).flatMap (insP i)).map rowD)) ?m1 ?m2 nd rfl (by walk_at "loc") rfl (by walk_at "loc")
      case m1 =>
        refine' PD.is (pd_bin (dx := .list ((((rowsF i).take k).flatMap (insP i)).map rowD)) (dy := .list ((insP i row).map rowD)) ?n1 (PDL.pd ?n2) (odl_cat ?n3).od) ?n4
        case n1 => walk_at "ev"
        case n2 =>
          have e0 : (insP i row).map rowD = (List.range (i + 1)).map (fun q => rowD (row.take q ++ [i] ++ row.drop q)) := by
            unfold insP
            rw [List.map_map] <;> rfl
          rw [e0]
          refine' pdl_lc (j := 5) nD (fun q => rowD (row.take q ++ [i] ++ row.drop q)) (List.range (i + 1)) ?hi ?hz ?hlf ?he ?hc ?hN ?ok ?hg ?hs
          walk_at "lc"
          case hi =>
            refine' pid_range1 (n := i + 1) ?f1 rfl B.range (by omega)
            case f1 =>
              refine' PD.is ?f2 ?f3
              case f2 => walk_at "ev"
              case f3 => exact congrArg PyData.int (by omega)
          case hz => rw [List.length_range]; omega
          case hlf => intro a ha; exact lf_row _
          case he =>
            intro s H C cl fp q hq
            refine' PD.is ?o1 ?o2
            case o1 => walk_at "ev"
            case o2 =>
              show PyData.tuple ((row.map nD).take q ++ [nD i] ++ (row.map nD).drop q) = PyData.tuple ((row.take q ++ [i] ++ row.drop q).map nD)
              rw [List.map_append, List.map_append, List.map_take, List.map_drop] <;> rfl
        case n3 => rw [List.length_map, List.length_map, efl, insP_len]; omega
        case n4 =>
          rw [List.take_add_one, hrow, ← List.map_append]
          show _ = PyData.list ((((rowsF i).take k ++ [row]).flatMap (insP i)).map rowD)
          rw [List.flatMap_append, List.flatMap_singleton]
      case m2 => exact rb_nil ⟨_, .cons (.cons (.cons (.cons (.drop (.drop .nil))))), rfl⟩
    case k4 =>
      rintro Γ' rfl
      rw [List.length_map, List.take_length]
      walk_at "set"
      exact rb_nil ⟨_, .cons (.cons (.drop (.drop (.drop (.drop .nil))))), rfl⟩
  case g4 =>
    rintro Γ' rfl
    rw [List.length_map, List.length_range]
    walk_at "ret"
    rfl
theorem gd {xs : List Nat} {a : Nat} (h : a < xs.length) : xs.getD a 0 = xs[a] := by
  rw [List.getD_eq_getElem?_getD, List.getElem?_eq_getElem h] <;> rfl
theorem gd_mem {xs : List Nat} {a : Nat} (h : a < xs.length) : xs.getD a 0 ∈ xs := by
  rw [gd h]
  exact List.getElem_mem h
theorem gd_map {xs : List Nat} {f : Nat → Nat} {a : Nat} (h : a < xs.length) : (xs.map f).getD a 0 = f (xs.getD a 0) := by
  rw [gd h, gd (by rw [List.length_map]; exact h), List.getElem_map]
theorem gd_rev {xs : List Nat} {a : Nat} (h : a < xs.length) : xs.reverse.getD a 0 = xs.getD (xs.length - 1 - a) 0 := by
  rw [gd (by rw [List.length_reverse]; exact h), gd (by omega), List.getElem_reverse]
theorem mem_gd {xs : List Nat} {x : Nat} (h : x ∈ xs) : ∃ a, a < xs.length ∧ xs.getD a 0 = x := by
  obtain ⟨a, ha, e⟩ := List.getElem_of_mem h
  exact ⟨a, ha, by rw [gd ha, e]⟩
theorem gd_ext {xs ys : List Nat} (hl : xs.length = ys.length) (h : ∀ a, a < ys.length → xs.getD a 0 = ys.getD a 0) : xs = ys := by
  refine List.ext_getElem hl fun a h1 h2 => ?_
  have := h a h2
  rw [gd h1, gd h2] at this
  exact this
theorem gd_inj {xs : List Nat} (h : xs.Nodup) {a b : Nat} (ha : a < xs.length) (hb : b < xs.length) (e : xs.getD a 0 = xs.getD b 0) : a = b := by
  rw [gd ha, gd hb] at e
  exact (List.getElem_inj h).mp e
theorem up_gd {xs : List Nat} (h : xs.Pairwise (· < ·)) {a b : Nat} (ha : a < xs.length) (hb : b < xs.length) : xs.getD a 0 < xs.getD b 0 ↔ a < b := by
  have hp := List.pairwise_iff_getElem.mp h
  rw [gd ha, gd hb]
  refine ⟨fun q => ?_, fun q => hp a b ha hb q⟩
  rcases Nat.lt_trichotomy a b with r | r | r
  · exact r
  · subst r; omega
  · have := hp b a hb ha r
    omega
theorem up_of_gd {xs : List Nat} (h : ∀ a b, a < b → b < xs.length → xs.getD a 0 < xs.getD b 0) : xs.Pairwise (· < ·) := by
  refine List.pairwise_iff_getElem.mpr fun a b ha hb hab => ?_
  have := h a b hab hb
  rw [gd ha, gd hb] at this
  exact this
/-- a row of numbers -/
def IsR (xs : List Nat) : Prop := xs.Perm (List.range xs.length)
theorem IsR.nd {xs : List Nat} (h : IsR xs) : xs.Nodup := h.symm.nodup List.nodup_range
theorem IsR.lt {xs : List Nat} (h : IsR xs) {x : Nat} (hx : x ∈ xs) : x < xs.length := List.mem_range.mp (h.subset hx)
theorem IsR.mem {xs : List Nat} (h : IsR xs) {x : Nat} (hx : x < xs.length) : x ∈ xs := h.symm.subset (List.mem_range.mpr hx)
theorem nd_le : ∀ (n : Nat) (xs : List Nat), xs.Nodup → (∀ x ∈ xs, x < n) → xs.length ≤ n
  | 0, xs, _, h => by
    cases xs with
    | nil => exact Nat.le_refl _
    | cons x xs => exact absurd (h x (by simp)) (by omega)
  | n + 1, xs, hn, h => by
    have h1 := nd_le n (xs.erase n) (hn.erase n) fun x hx => by
      have h2 := h x (List.mem_of_mem_erase hx)
      have h3 : x ≠ n := fun e => by
        subst e
        exact absurd hx (List.Nodup.not_mem_erase hn)
      omega
    by_cases hm : n ∈ xs
    · rw [List.length_erase_of_mem hm] at h1
      omega
    · rw [List.erase_of_not_mem hm] at h1
      omega
theorem isR_of {xs : List Nat} (hn : xs.Nodup) (h : ∀ x ∈ xs, x < xs.length) : IsR xs := by
  refine (List.perm_ext_iff_of_nodup hn List.nodup_range).mpr fun k => ⟨fun hk => List.mem_range.mpr (h k hk), fun hk => ?_⟩
  have hk' := List.mem_range.mp hk
  by_cases hm : k ∈ xs
  · exact hm
  · have := nd_le xs.length (k :: xs) (List.nodup_cons.mpr ⟨hm, hn⟩) fun x hx => by
      rcases List.mem_cons.mp hx with e | e
      · subst e; exact hk'
      · exact h x e
    rw [List.length_cons] at this
    omega
theorem nd_map {xs : List Nat} {f : Nat → Nat} (h : xs.Nodup) (hf : ∀ x ∈ xs, ∀ y ∈ xs, f x = f y → x = y) : (xs.map f).Nodup := by
  rw [List.Nodup, List.pairwise_map]
  exact List.Pairwise.imp_of_mem (fun {a b} ha hb hab e => hab (hf a ha b hb e)) h
theorem idx_count : ∀ {s : List Int} {n : Int}, s.Pairwise (· < ·) → n ∈ s → s.idxOf n = (s.filter fun m => decide (m < n)).length
  | a :: t, n, h, hn => by
    obtain ⟨h1, h2⟩ := List.pairwise_cons.mp h
    by_cases e : a = n
    · subst e
      have e1 : (a :: t).filter (fun m => decide (m < a)) = [] := by
        refine List.filter_eq_nil_iff.mpr fun m hm => ?_
        rcases List.mem_cons.mp hm with e | e
        · subst e; simp
        · have := h1 m e
          simp only [decide_eq_true_eq]
          omega
      rw [e1, List.idxOf_cons_self] <;> rfl
    · have ht : n ∈ t := by
        rcases List.mem_cons.mp hn with q | q
        · exact absurd q.symm e
        · exact q
      have ha := h1 n ht
      have e2 : (a == n) = false := beq_eq_false_iff_ne.mpr e
      rw [List.idxOf_cons, e2, idx_count h2 ht, List.filter_cons, if_pos (by simpa using ha), List.length_cons] <;> rfl
theorem srt_strict {ns : List Int} (h : ns.Nodup) : (srt ns).Pairwise (· < ·) := by
  have h1 := srt_up ns
  have h2 : (srt ns).Nodup := (srt_perm ns).symm.nodup h
  exact (List.pairwise_and_iff.mpr ⟨h1, h2⟩).imp fun ⟨a, b⟩ => by omega
theorem flat_less {ns : List Int} (h : ns.Nodup) : flatI ns = lessI ns := by
  unfold flatI lessI
  refine List.map_congr_left fun n hn => ?_
  rw [idx_count (srt_strict h) ((srt_perm ns).symm.subset hn)]
  exact ((srt_perm ns).filter _).length_eq
theorem idx_range : ∀ {s : List Int}, s.Nodup → s.map (fun n => s.idxOf n) = List.range s.length := by
  intro s h
  refine List.ext_getElem (by simp) fun i h1 h2 => ?_
  rw [List.getElem_map, List.getElem_range]
  exact List.Nodup.idxOf_getElem h i (by simpa using h1)
theorem flat_perm {ns : List Int} (h : ns.Nodup) : (flatI ns).Perm (List.range ns.length) := by
  have h2 : (srt ns).Nodup := (srt_perm ns).symm.nodup h
  have e := idx_range h2
  rw [(srt_perm ns).length_eq] at e
  rw [← e]
  exact (srt_perm ns).symm.map _
theorem cast_nodup {xs : List Nat} (h : xs.Nodup) : (xs.map fun n : Nat => (n : Int)).Nodup := by
  rw [List.Nodup, List.pairwise_map]
  exact h.imp fun h e => h (by omega)
theorem flatN_less {xs : List Nat} (h : xs.Nodup) : flatN xs = lessN xs := flat_less (cast_nodup h)
theorem pick_nodup {row ps : List Nat} (h : row.Nodup) (h1 : ps.Pairwise (· < ·)) (h2 : ∀ p ∈ ps, p < row.length) : (pickF row ps).Nodup := by
  unfold pickF
  rw [List.Nodup, List.pairwise_map]
  refine List.Pairwise.imp_of_mem ?_ h1
  intro a b ha hb hab e
  rw [List.getD_eq_getElem?_getD, List.getD_eq_getElem?_getD, List.getElem?_eq_getElem (h2 a ha), List.getElem?_eq_getElem (h2 b hb)] at e
  have := (List.getElem_inj h).mp (show row[a]'(h2 a ha) = row[b]'(h2 b hb) from e)
  omega
theorem eqv_optD (o : Option (List Nat)) : PyData.eqv (optD o) (optD o) = true := by
  cases o with
  | none => rfl
  | some ps =>
    show PyData.eqv (.tuple (ps.map nD)) (.tuple (ps.map nD)) = true
    rw [PyData.eqv, eqvAll_row]
    exact decide_eq_true rfl
theorem sh_optD (o : Option (List Nat)) : SeqAt.shaped (optD o) = true := by
  cases o with
  | none => rfl
  | some ps => exact sh_row ps
theorem places_all {n : Nat} : ∀ (m : Nat) (ps : List Nat), ps.length = m → ps.Pairwise (· < ·) → (∀ p ∈ ps, p < n) → ps ∈ placesF n m
  | 0, ps, h, _, _ => by
    have e := List.eq_nil_of_length_eq_zero h
    subst e
    simp [placesF]
  | m + 1, ps, h, hu, hl => by
    have hne : ps ≠ [] := by intro e; subst e; simp at h
    have e := List.dropLast_concat_getLast hne
    obtain ⟨rest, hr⟩ : ∃ r, ps.dropLast = r := ⟨_, rfl⟩
    obtain ⟨p, hp⟩ : ∃ p, ps.getLast hne = p := ⟨_, rfl⟩
    rw [hr, hp] at e
    have hrl : rest.length = m := by rw [← hr, List.length_dropLast]; omega
    rw [← e] at hu hl ⊢
    have hu2 := List.pairwise_append.mp hu
    have ih := places_all m rest hrl hu2.1 fun q hq => hl q (List.mem_append_left _ hq)
    rw [placesF, List.mem_flatMap]
    refine ⟨rest, ih, ?_⟩
    unfold stepP
    have hpn := hl p (List.mem_append_right _ (List.mem_singleton.mpr rfl))
    have hfp : firstF rest ≤ p := by
      unfold firstF
      split
      · exact Nat.zero_le _
      · rename_i x hx
        exact hu2.2.2 x (List.mem_of_getLast? hx) p (List.mem_singleton.mpr rfl)
    exact List.mem_map.mpr ⟨p, List.mem_range'_1.mpr ⟨hfp, by omega⟩, rfl⟩
/-- how many are less -/
def cntN (xs : List Nat) : List Nat := xs.map fun x => (xs.filter fun y => decide (y < x)).length
theorem lessN_cnt (xs : List Nat) : lessN xs = cntN xs := by
  unfold lessN lessI cntN
  rw [List.map_map]
  refine List.map_congr_left fun x _ => ?_
  show (List.filter (fun m : Int => decide (m < (x : Int))) (xs.map fun n : Nat => (n : Int))).length = _
  rw [List.filter_map, List.length_map]
  refine congrArg List.length (List.filter_congr fun y _ => ?_)
  show decide ((y : Int) < (x : Int)) = decide (y < x)
  exact decide_eq_decide.mpr (by omega)
theorem flt_le {p q : Nat → Bool} : ∀ {xs : List Nat}, (∀ z ∈ xs, p z = true → q z = true) → (xs.filter p).length ≤ (xs.filter q).length
  | [], _ => Nat.le_refl _
  | x :: xs, h => by
    have ih := flt_le (xs := xs) fun z hz => h z (List.mem_cons_of_mem _ hz)
    rw [List.filter_cons, List.filter_cons]
    have hx := h x (by simp)
    cases hp : p x with
    | true =>
      rw [hx hp]
      simp only [if_true, List.length_cons]
      omega
    | false =>
      cases q x with
      | true => simp only [if_true, Bool.false_eq_true, if_false, List.length_cons]; omega
      | false => simpa using ih
theorem flt_lt {p q : Nat → Bool} : ∀ {xs : List Nat}, (∀ z ∈ xs, p z = true → q z = true) → (∃ z ∈ xs, q z = true ∧ p z = false) → (xs.filter p).length < (xs.filter q).length
  | [], _, h => by obtain ⟨z, hz, _⟩ := h; cases hz
  | x :: xs, h, h2 => by
    have hs : ∀ z ∈ xs, p z = true → q z = true := fun z hz => h z (List.mem_cons_of_mem _ hz)
    have ih0 := flt_le hs
    rw [List.filter_cons, List.filter_cons]
    have hx := h x (by simp)
    obtain ⟨z, hz, hq, hp⟩ := h2
    rcases List.mem_cons.mp hz with e | e
    · subst e
      rw [hq, hp]
      simp only [if_true, Bool.false_eq_true, if_false, List.length_cons]
      omega
    · have ih := flt_lt hs ⟨z, e, hq, hp⟩
      cases hpx : p x with
      | true =>
        rw [hx hpx]
        simp only [if_true, List.length_cons]
        omega
      | false =>
        cases q x with
        | true => simp only [if_true, Bool.false_eq_true, if_false, List.length_cons]; omega
        | false => simpa using ih
theorem cnt_gd {xs : List Nat} {a : Nat} (h : a < xs.length) : (cntN xs).getD a 0 = (xs.filter fun y => decide (y < xs.getD a 0)).length := by
  unfold cntN
  exact gd_map h
theorem cnt_len (xs : List Nat) : (cntN xs).length = xs.length := List.length_map _
theorem cnt_mono {xs : List Nat} {a b : Nat} (ha : a < xs.length) (hb : b < xs.length) : (cntN xs).getD a 0 < (cntN xs).getD b 0 ↔ xs.getD a 0 < xs.getD b 0 := by
  rw [cnt_gd ha, cnt_gd hb]
  refine ⟨fun q => ?_, fun q => ?_⟩
  · refine Nat.lt_of_not_le fun r => ?_
    have : (xs.filter fun y => decide (y < xs.getD b 0)).length ≤ (xs.filter fun y => decide (y < xs.getD a 0)).length := flt_le fun z _ hz => by
      have := of_decide_eq_true hz
      exact decide_eq_true (by omega)
    omega
  · refine flt_lt (fun z _ hz => ?_) ⟨xs.getD a 0, gd_mem ha, decide_eq_true q, decide_eq_false (by omega)⟩
    have := of_decide_eq_true hz
    exact decide_eq_true (by omega)
theorem flt_range (x : Nat) : ∀ n, ((List.range n).filter fun y => decide (y < x)).length = min n x
  | 0 => by simp
  | n + 1 => by
    rw [List.range_succ, List.filter_append, List.length_append, flt_range x n, List.filter_cons, List.filter_nil]
    by_cases h : n < x
    · rw [if_pos (decide_eq_true h)]
      show min n x + 1 = _
      omega
    · rw [if_neg (by simpa using h)]
      show min n x + 0 = _
      omega
theorem cnt_row {xs : List Nat} (h : IsR xs) : cntN xs = xs := by
  unfold cntN
  have e : xs.map (fun x => (xs.filter fun y => decide (y < x)).length) = xs.map id := List.map_congr_left fun x hx => by
    rw [(h.filter fun y => decide (y < x)).length_eq, flt_range]
    have := h.lt hx
    show min xs.length x = x
    omega
  rw [e, List.map_id]
/-- ordered alike -/
def Iso (xs ys : List Nat) : Prop := xs.length = ys.length ∧ ∀ a b, a < ys.length → b < ys.length → (xs.getD a 0 < xs.getD b 0 ↔ ys.getD a 0 < ys.getD b 0)
theorem flt_ix {p : Nat → Bool} (xs : List Nat) : (xs.filter p).length = ((List.range xs.length).filter fun i => p (xs.getD i 0)).length := by
  have e : xs = (List.range xs.length).map fun i => xs.getD i 0 := by
    refine List.ext_getElem (by simp) fun i h1 h2 => ?_
    rw [List.getElem_map, List.getElem_range, gd h1]
  have e2 : xs.filter p = ((List.range xs.length).map fun i => xs.getD i 0).filter p := congrArg (List.filter p) e
  rw [e2, List.filter_map, List.length_map]
  rfl
theorem cnt_iso {xs ys : List Nat} (h : Iso xs ys) : cntN xs = cntN ys := by
  refine gd_ext (by rw [cnt_len, cnt_len, h.1]) fun a ha => ?_
  rw [cnt_len] at ha
  rw [cnt_gd (by rw [h.1]; exact ha), cnt_gd ha, flt_ix xs, flt_ix ys, h.1]
  refine congrArg List.length (List.filter_congr fun i hi => ?_)
  exact decide_eq_decide.mpr (h.2 i a (List.mem_range.mp hi) ha)
theorem flatN_iso {xs pat : List Nat} (hx : xs.Nodup) (hp : IsR pat) : flatN xs = pat ↔ Iso xs pat := by
  rw [flatN_less hx, lessN_cnt]
  refine ⟨fun e => ?_, fun h => (cnt_iso h).trans (cnt_row hp)⟩
  have hl : xs.length = pat.length := by rw [← e, cnt_len]
  refine ⟨hl, fun a b ha hb => ?_⟩
  have := cnt_mono (xs := xs) (a := a) (b := b) (by omega) (by omega)
  rw [e] at this
  exact this.symm
/-- a pattern stands at places -/
structure Occ (row pat ps : List Nat) : Prop where
  up : ps.Pairwise (· < ·)
  lt : ∀ p ∈ ps, p < row.length
  len : ps.length = pat.length
  iso : ∀ a b, a < pat.length → b < pat.length → (row.getD (ps.getD a 0) 0 < row.getD (ps.getD b 0) 0 ↔ pat.getD a 0 < pat.getD b 0)
theorem pick_gd {row ps : List Nat} {a : Nat} (h : a < ps.length) : (pickF row ps).getD a 0 = row.getD (ps.getD a 0) 0 := gd_map h
theorem pick_len (row ps : List Nat) : (pickF row ps).length = ps.length := List.length_map _
theorem occ_iff {row pat ps : List Nat} (hr : row.Nodup) (hp : IsR pat) (hm : ps ∈ placesF row.length pat.length) : flatN (pickF row ps) = pat ↔ Occ row pat ps := by
  obtain ⟨h1, h2, h3⟩ := places_mem hm
  rw [flatN_iso (pick_nodup hr h1 h3) hp]
  refine ⟨fun ⟨a, b⟩ => ⟨h1, h3, h2, fun i j hi hj => ?_⟩, fun o => ⟨by rw [pick_len, h2], fun i j hi hj => ?_⟩⟩
  · have := b i j hi hj
    rw [pick_gd (by omega), pick_gd (by omega)] at this
    exact this
  · rw [pick_gd (by omega), pick_gd (by omega)]
    exact o.iso i j hi hj
theorem stands_none {row pat : List Nat} (hr : row.Nodup) (hp : IsR pat) : standsF row pat = none ↔ ∀ ps, ¬ Occ row pat ps := by
  unfold standsF
  rw [List.find?_eq_none]
  refine ⟨fun h ps o => ?_, fun h ps hm q => h ps ((occ_iff hr hp hm).mp (of_decide_eq_true q))⟩
  have hm := places_all pat.length ps o.len o.up o.lt
  exact h ps hm (decide_eq_true ((occ_iff hr hp hm).mpr o))
theorem stands_some {row pat ps : List Nat} (hr : row.Nodup) (hp : IsR pat) (h : standsF row pat = some ps) : Occ row pat ps ∧ flatN (pickF row ps) = pat := by
  have h' : (placesF row.length pat.length).find? (fun ps => decide (flatN (pickF row ps) = pat)) = some ps := h
  have h1 := List.mem_of_find?_eq_some h'
  have h3 : (fun ps => decide (flatN (pickF row ps) = pat)) ps = true := List.find?_some (p := fun ps => decide (flatN (pickF row ps) = pat)) h'
  have h2 : flatN (pickF row ps) = pat := of_decide_eq_true h3
  exact ⟨(occ_iff hr hp h1).mp h2, h2⟩
/-! a pattern stands in a row: numbers of it, in its order, are ordered like the pattern -/
theorem pick_sub : ∀ (row ps : List Nat), ps.Pairwise (· < ·) → (∀ p ∈ ps, p < row.length) → (pickF row ps).Sublist row
  | [], ps, _, h => by
    cases ps with
    | nil => exact .slnil
    | cons p ps => exact absurd (h p (by simp)) (by simp)
  | x :: r, ps, hu, hl => by
    have key : ∀ qs : List Nat, qs.Pairwise (· < ·) → (∀ q ∈ qs, 0 < q ∧ q < r.length + 1) → (pickF (x :: r) qs).Sublist r := fun qs h1 h2 => by
      have e : pickF (x :: r) qs = pickF r (qs.map fun q => q - 1) := by
        unfold pickF
        rw [List.map_map]
        refine List.map_congr_left fun q hq => ?_
        have := (h2 q hq).1
        obtain ⟨k, rfl⟩ : ∃ k, q = k + 1 := ⟨q - 1, by omega⟩
        rfl
      rw [e]
      refine pick_sub r _ ?_ fun p hp => ?_
      · rw [List.pairwise_map]
        refine List.Pairwise.imp_of_mem (fun {a b} ha hb hab => ?_) h1
        have := (h2 a ha).1
        omega
      · obtain ⟨q, hq, rfl⟩ := List.mem_map.mp hp
        have := h2 q hq
        omega
    cases ps with
    | nil => exact List.nil_sublist _
    | cons p qs =>
      have hu2 := List.pairwise_cons.mp hu
      by_cases h0 : p = 0
      · subst h0
        refine List.Sublist.cons_cons x (key qs hu2.2 fun q hq => ?_)
        have h1 := hu2.1 q hq
        have h2 := hl q (List.mem_cons_of_mem _ hq)
        rw [List.length_cons] at h2
        exact ⟨h1, h2⟩
      · refine List.Sublist.cons x (key (p :: qs) hu fun q hq => ?_)
        have h2 := hl q hq
        rw [List.length_cons] at h2
        refine ⟨?_, h2⟩
        rcases List.mem_cons.mp hq with e | e
        · omega
        · have := hu2.1 q e
          omega
theorem sub_pick {xs row : List Nat} (h : xs.Sublist row) : ∃ ps : List Nat, ps.Pairwise (· < ·) ∧ (∀ p ∈ ps, p < row.length) ∧ pickF row ps = xs := by
  have sh : ∀ {x : Nat} {r ps : List Nat}, ps.Pairwise (· < ·) → (∀ p ∈ ps, p < r.length) → (ps.map fun p => p + 1).Pairwise (· < ·) ∧ (∀ p ∈ ps.map fun p => p + 1, 0 < p ∧ p < (x :: r).length) ∧ pickF (x :: r) (ps.map fun p => p + 1) = pickF r ps := by
    intro x r ps h1 h2
    refine ⟨?_, fun p hp => ?_, ?_⟩
    · rw [List.pairwise_map]
      exact h1.imp fun h => by omega
    · obtain ⟨q, hq, rfl⟩ := List.mem_map.mp hp
      have := h2 q hq
      rw [List.length_cons]
      omega
    · unfold pickF
      rw [List.map_map]
      exact List.map_congr_left fun q _ => rfl
  induction h with
  | slnil => exact ⟨[], .nil, (fun p hp => nomatch hp), rfl⟩
  | cons x h ih =>
    obtain ⟨ps, h1, h2, h3⟩ := ih
    obtain ⟨a, b, c⟩ := sh (x := x) h1 h2
    exact ⟨_, a, fun p hp => (b p hp).2, c.trans h3⟩
  | cons_cons x h ih =>
    obtain ⟨ps, h1, h2, h3⟩ := ih
    obtain ⟨a, b, c⟩ := sh (x := x) h1 h2
    refine ⟨0 :: ps.map fun p => p + 1, List.pairwise_cons.mpr ⟨fun p hp => (b p hp).1, a⟩, fun p hp => ?_, ?_⟩
    · rcases List.mem_cons.mp hp with e | e
      · subst e
        simp
      · exact (b p e).2
    · show x :: pickF _ _ = _
      rw [c, h3]
theorem occ_sub {row pat : List Nat} : (∃ ps, Occ row pat ps) ↔ ∃ xs : List Nat, xs.Sublist row ∧ Iso xs pat := by
  refine ⟨fun ⟨ps, o⟩ => ⟨pickF row ps, pick_sub _ _ o.up o.lt, by rw [pick_len, o.len], fun a b ha hb => ?_⟩, fun ⟨xs, hs, hi⟩ => ?_⟩
  · have hl := o.len
    rw [pick_gd (by omega), pick_gd (by omega)]
    exact o.iso a b ha hb
  · obtain ⟨ps, h1, h2, h3⟩ := sub_pick hs
    subst h3
    have hl : ps.length = pat.length := by rw [← pick_len row ps, hi.1]
    refine ⟨ps, h1, h2, hl, fun a b ha hb => ?_⟩
    have := hi.2 a b ha hb
    rw [pick_gd (by omega), pick_gd (by omega)] at this
    exact this
theorem stands_sub {row pat : List Nat} (hr : row.Nodup) (hp : IsR pat) : standsF row pat = none ↔ ∀ xs : List Nat, xs.Sublist row → ¬ Iso xs pat := by
  rw [stands_none hr hp]
  refine ⟨fun h xs hs hi => ?_, fun h ps o => ?_⟩
  · obtain ⟨ps, o⟩ := occ_sub.mpr ⟨xs, hs, hi⟩
    exact h ps o
  · obtain ⟨xs, hs, hi⟩ := occ_sub.mp ⟨ps, o⟩
    exact h xs hs hi
/-- three numbers in order, each two alike in order to the pattern's -/
def has2 (e1 e2 e3 : Bool) (x : Nat) : List Nat → Bool
  | [] => false
  | y :: t => (Nat.blt x y == e1 && t.any fun z => Nat.blt x z == e2 && Nat.blt y z == e3) || has2 e1 e2 e3 x t
def has3 (e1 e2 e3 : Bool) : List Nat → Bool
  | [] => false
  | x :: t => has2 e1 e2 e3 x t || has3 e1 e2 e3 t
theorem has2_iff {e1 e2 e3 : Bool} {x : Nat} : ∀ {t : List Nat}, has2 e1 e2 e3 x t = true ↔ ∃ y z, [y, z].Sublist t ∧ Nat.blt x y = e1 ∧ Nat.blt x z = e2 ∧ Nat.blt y z = e3
  | [] => ⟨(fun h => by cases h), fun ⟨y, z, h, _⟩ => by cases h⟩
  | w :: t => by
    rw [has2, Bool.or_eq_true, Bool.and_eq_true, beq_iff_eq, List.any_eq_true, has2_iff]
    constructor
    · rintro (⟨h1, z, hz, h2⟩ | ⟨y, z, hs, h⟩)
      · rw [Bool.and_eq_true, beq_iff_eq, beq_iff_eq] at h2
        exact ⟨w, z, List.Sublist.cons_cons w (List.singleton_sublist.mpr hz), h1, h2.1, h2.2⟩
      · exact ⟨y, z, hs.cons w, h⟩
    · rintro ⟨y, z, hs, h1, h2, h3⟩
      cases hs with
      | cons _ hs => exact .inr ⟨y, z, hs, h1, h2, h3⟩
      | cons_cons _ hs =>
        refine .inl ⟨h1, z, List.singleton_sublist.mp hs, ?_⟩
        rw [Bool.and_eq_true, beq_iff_eq, beq_iff_eq]
        exact ⟨h2, h3⟩
theorem has3_iff {e1 e2 e3 : Bool} : ∀ {t : List Nat}, has3 e1 e2 e3 t = true ↔ ∃ x y z, [x, y, z].Sublist t ∧ Nat.blt x y = e1 ∧ Nat.blt x z = e2 ∧ Nat.blt y z = e3
  | [] => ⟨(fun h => by cases h), fun ⟨x, y, z, h, _⟩ => by cases h⟩
  | w :: t => by
    rw [has3, Bool.or_eq_true, has2_iff, has3_iff]
    constructor
    · rintro (⟨y, z, hs, h⟩ | ⟨x, y, z, hs, h⟩)
      · exact ⟨w, y, z, List.Sublist.cons_cons w hs, h⟩
      · exact ⟨x, y, z, hs.cons w, h⟩
    · rintro ⟨x, y, z, hs, h⟩
      cases hs with
      | cons _ hs => exact .inr ⟨x, y, z, hs, h⟩
      | cons_cons _ hs => exact .inl ⟨y, z, hs, h⟩
theorem blt_eq {x y : Nat} : Nat.blt x y = decide (x < y) := by
  cases h : Nat.blt x y with
  | true => exact (decide_eq_true (Nat.blt_eq.mp h)).symm
  | false =>
    refine (decide_eq_false fun q => ?_).symm
    rw [Nat.blt_eq.mpr q] at h
    cases h
theorem iso3 {x y z p q r : Nat} (h1 : x ≠ y) (h2 : x ≠ z) (h3 : y ≠ z) (g1 : p ≠ q) (g2 : p ≠ r) (g3 : q ≠ r) : Iso [x, y, z] [p, q, r] ↔ Nat.blt x y = Nat.blt p q ∧ Nat.blt x z = Nat.blt p r ∧ Nat.blt y z = Nat.blt q r := by
  simp only [blt_eq, decide_eq_decide]
  constructor
  · rintro ⟨_, h⟩
    exact ⟨h 0 1 (by simp) (by simp), h 0 2 (by simp) (by simp), h 1 2 (by simp) (by simp)⟩
  · rintro ⟨k1, k2, k3⟩
    refine ⟨rfl, fun i j hi hj => ?_⟩
    have hi' : i < 3 := hi
    have hj' : j < 3 := hj
    have i3 : i = 0 ∨ i = 1 ∨ i = 2 := by omega
    have j3 : j = 0 ∨ j = 1 ∨ j = 2 := by omega
    rcases i3 with e | e | e <;> rcases j3 with e2 | e2 | e2 <;> subst e <;> subst e2 <;> simp <;> omega
theorem stands3 {row : List Nat} {p q r : Nat} (hr : row.Nodup) (hp : IsR [p, q, r]) : (standsF row [p, q, r]).isNone = !has3 (Nat.blt p q) (Nat.blt p r) (Nat.blt q r) row := by
  have hpn := hp.nd
  have g1 : p ≠ q := fun e => by subst e; simp at hpn
  have g2 : p ≠ r := fun e => by subst e; simp at hpn
  have g3 : q ≠ r := fun e => by subst e; simp at hpn
  have h := stands_sub hr hp
  cases hh : has3 (Nat.blt p q) (Nat.blt p r) (Nat.blt q r) row with
  | true =>
    obtain ⟨x, y, z, hs, k⟩ := has3_iff.mp hh
    have hn := hr.sublist hs
    have n1 : x ≠ y := fun e => by subst e; simp at hn
    have n2 : x ≠ z := fun e => by subst e; simp at hn
    have n3 : y ≠ z := fun e => by subst e; simp at hn
    cases e : standsF row [p, q, r] with
    | some ps => rfl
    | none => exact absurd ((iso3 n1 n2 n3 g1 g2 g3).mpr k) (h.mp e _ hs)
  | false =>
    have : standsF row [p, q, r] = none := h.mpr fun xs hs hi => by
      obtain ⟨x, y, z, rfl⟩ : ∃ a b c, xs = [a, b, c] := by
        match xs, hi.1 with
        | [a, b, c], _ => exact ⟨a, b, c, rfl⟩
      have hn := hr.sublist hs
      have n1 : x ≠ y := fun e => by subst e; simp at hn
      have n2 : x ≠ z := fun e => by subst e; simp at hn
      have n3 : y ≠ z := fun e => by subst e; simp at hn
      have k := (iso3 n1 n2 n3 g1 g2 g3).mp hi
      have := has3_iff.mpr ⟨x, y, z, hs, k⟩
      rw [hh] at this
      cases this
    rw [this] <;> rfl
def catL : List Nat := [1, 1, 2, 5, 14, 42, 132]
def cntB (e1 e2 e3 : Bool) (n : Nat) : Nat := ((rowsF n).filter fun row => !has3 e1 e2 e3 row).length
theorem rows3 : rowsF 3 = [[2, 1, 0], [1, 2, 0], [1, 0, 2], [2, 0, 1], [0, 2, 1], [0, 1, 2]] := by decide +kernel
theorem cat_all : ∀ pat ∈ rowsF 3, ∀ n ∈ List.range 7, cntB (Nat.blt (pat.getD 0 0) (pat.getD 1 0)) (Nat.blt (pat.getD 0 0) (pat.getD 2 0)) (Nat.blt (pat.getD 1 0) (pat.getD 2 0)) n = catL.getD n 0 := by decide +kernel
theorem cat_ok {n : Nat} {pat : List Nat} (hn : n ≤ 6) (hp : pat ∈ rowsF 3) : ((rowsF n).filter fun row => (standsF row pat).isNone).length = catL.getD n 0 := by
  have h := cat_all pat hp n (List.mem_range.mpr (by omega))
  have hl := (rows_ok hp).length_eq
  have hpp := rows_ok hp
  have hpr : IsR pat := by
    unfold IsR
    rw [hl, List.length_range]
    exact hpp
  rw [List.length_range] at hl
  obtain ⟨p, q, r, rfl⟩ : ∃ a b c, pat = [a, b, c] := by
    match pat, hl with
    | [a, b, c], _ => exact ⟨a, b, c, rfl⟩
  rw [← h]
  unfold cntB
  refine congrArg List.length (List.filter_congr fun row hrow => ?_)
  have hrp := rows_ok hrow
  exact stands3 (hrp.symm.nodup List.nodup_range) hpr
theorem find_congr {α : Type} {f g : α → Bool} : ∀ {xs : List α}, (∀ a ∈ xs, f a = g a) → xs.find? f = xs.find? g
  | [], _ => rfl
  | x :: xs, h => by
    rw [List.find?_cons, List.find?_cons, h x (by simp), find_congr fun a ha => h a (by simp [ha])]
theorem stands_same {row pat : List Nat} (h : row.Nodup) : standsF row pat = standsL row pat := by
  unfold standsF standsL
  refine find_congr fun ps hps => ?_
  obtain ⟨p1, _, p3⟩ := places_mem hps
  rw [flatN_less (pick_nodup h p1 p3)]
abbrev s_law : Stmt := topS 16
abbrev p_law : List Str := ["_law_script"]
abbrev n_law : List Str := ["_law_script", "_law_counts", "_law_size", "_law_k", "_law_pattern", "_law_found", "_law_few", "_law_some_here", "_law_other", "_law_row_here"]
theorem sc_law : FnScope n_law p_law (defScope s_law) := ⟨rfl, rfl, rfl, by decide +kernel, rfl, by decide +kernel, by decide +kernel⟩
local macro_rules | `(tactic| walk_at "slot") => `(tactic| first

  | ((with_reducible refine' pd_var (x := Str.ofString "_law_script") (i := 0) ?hN ?hΓ ?hv ?hd ?hcd); (case hN => rfl); (case hΓ => rfl); (case hv => walk_at "vis"); (case hd => decide); (case hcd => decide))
  | ((with_reducible refine' pd_var (x := Str.ofString "_law_counts") (i := 1) ?hN ?hΓ ?hv ?hd ?hcd); (case hN => rfl); (case hΓ => rfl); (case hv => walk_at "vis"); (case hd => decide); (case hcd => decide))
  | ((with_reducible refine' pd_var (x := Str.ofString "_law_size") (i := 2) ?hN ?hΓ ?hv ?hd ?hcd); (case hN => rfl); (case hΓ => rfl); (case hv => walk_at "vis"); (case hd => decide); (case hcd => decide))
  | ((with_reducible refine' pd_var (x := Str.ofString "_law_k") (i := 3) ?hN ?hΓ ?hv ?hd ?hcd); (case hN => rfl); (case hΓ => rfl); (case hv => walk_at "vis"); (case hd => decide); (case hcd => decide))
  | ((with_reducible refine' pd_var (x := Str.ofString "_law_pattern") (i := 4) ?hN ?hΓ ?hv ?hd ?hcd); (case hN => rfl); (case hΓ => rfl); (case hv => walk_at "vis"); (case hd => decide); (case hcd => decide))
  | ((with_reducible refine' pd_var (x := Str.ofString "_law_found") (i := 5) ?hN ?hΓ ?hv ?hd ?hcd); (case hN => rfl); (case hΓ => rfl); (case hv => walk_at "vis"); (case hd => decide); (case hcd => decide))
  | ((with_reducible refine' pd_var (x := Str.ofString "_law_few") (i := 6) ?hN ?hΓ ?hv ?hd ?hcd); (case hN => rfl); (case hΓ => rfl); (case hv => walk_at "vis"); (case hd => decide); (case hcd => decide))
  | ((with_reducible refine' pd_var (x := Str.ofString "_law_some_here") (i := 7) ?hN ?hΓ ?hv ?hd ?hcd); (case hN => rfl); (case hΓ => rfl); (case hv => walk_at "vis"); (case hd => decide); (case hcd => decide))
  | ((with_reducible refine' pd_var (x := Str.ofString "_law_other") (i := 8) ?hN ?hΓ ?hv ?hd ?hcd); (case hN => rfl); (case hΓ => rfl); (case hv => walk_at "vis"); (case hd => decide); (case hcd => decide))
  | ((with_reducible refine' pd_var (x := Str.ofString "_law_row_here") (i := 9) ?hN ?hΓ ?hv ?hd ?hcd); (case hN => rfl); (case hΓ => rfl); (case hv => walk_at "vis"); (case hd => decide); (case hcd => decide)))
local macro_rules | `(tactic| walk_at "asg") => `(tactic| first
  | (with_reducible refine' rb_asg (x := Str.ofString "_law_script") (i := 0) ?he ?hr ?hN ?hi ?hx ?hs ?hf)
  | (with_reducible refine' rb_asg (x := Str.ofString "_law_counts") (i := 1) ?he ?hr ?hN ?hi ?hx ?hs ?hf)
  | (with_reducible refine' rb_asg (x := Str.ofString "_law_size") (i := 2) ?he ?hr ?hN ?hi ?hx ?hs ?hf)
  | (with_reducible refine' rb_asg (x := Str.ofString "_law_k") (i := 3) ?he ?hr ?hN ?hi ?hx ?hs ?hf)
  | (with_reducible refine' rb_asg (x := Str.ofString "_law_pattern") (i := 4) ?he ?hr ?hN ?hi ?hx ?hs ?hf)
  | (with_reducible refine' rb_asg (x := Str.ofString "_law_found") (i := 5) ?he ?hr ?hN ?hi ?hx ?hs ?hf)
  | (with_reducible refine' rb_asg (x := Str.ofString "_law_few") (i := 6) ?he ?hr ?hN ?hi ?hx ?hs ?hf)
  | (with_reducible refine' rb_asg (x := Str.ofString "_law_some_here") (i := 7) ?he ?hr ?hN ?hi ?hx ?hs ?hf)
  | (with_reducible refine' rb_asg (x := Str.ofString "_law_other") (i := 8) ?he ?hr ?hN ?hi ?hx ?hs ?hf)
  | (with_reducible refine' rb_asg (x := Str.ofString "_law_row_here") (i := 9) ?he ?hr ?hN ?hi ?hx ?hs ?hf))
local macro_rules | `(tactic| walk_at "rasg") => `(tactic| first
  | (with_reducible refine' ro_asgS (x := Str.ofString "_law_script") (i := 0) ?he ?hl ?hr ?ho ?hN ?hi ?hx ?hs ?hf)
  | (with_reducible refine' ro_asgS (x := Str.ofString "_law_counts") (i := 1) ?he ?hl ?hr ?ho ?hN ?hi ?hx ?hs ?hf)
  | (with_reducible refine' ro_asgS (x := Str.ofString "_law_size") (i := 2) ?he ?hl ?hr ?ho ?hN ?hi ?hx ?hs ?hf)
  | (with_reducible refine' ro_asgS (x := Str.ofString "_law_k") (i := 3) ?he ?hl ?hr ?ho ?hN ?hi ?hx ?hs ?hf)
  | (with_reducible refine' ro_asgS (x := Str.ofString "_law_pattern") (i := 4) ?he ?hl ?hr ?ho ?hN ?hi ?hx ?hs ?hf)
  | (with_reducible refine' ro_asgS (x := Str.ofString "_law_found") (i := 5) ?he ?hl ?hr ?ho ?hN ?hi ?hx ?hs ?hf)
  | (with_reducible refine' ro_asgS (x := Str.ofString "_law_few") (i := 6) ?he ?hl ?hr ?ho ?hN ?hi ?hx ?hs ?hf)
  | (with_reducible refine' ro_asgS (x := Str.ofString "_law_some_here") (i := 7) ?he ?hl ?hr ?ho ?hN ?hi ?hx ?hs ?hf)
  | (with_reducible refine' ro_asgS (x := Str.ofString "_law_other") (i := 8) ?he ?hl ?hr ?ho ?hN ?hi ?hx ?hs ?hf)
  | (with_reducible refine' ro_asgS (x := Str.ofString "_law_row_here") (i := 9) ?he ?hl ?hr ?ho ?hN ?hi ?hx ?hs ?hf))
local macro_rules | `(tactic| walk_at "rasgL") => `(tactic| first
  | (with_reducible refine' ro_asgL (x := Str.ofString "_law_script") (i := 0) _ ?he ?hl ?hr ?hlt ?ho ?ho2 ?hio ?hN ?hi ?hx ?hs ?hf)
  | (with_reducible refine' ro_asgL (x := Str.ofString "_law_counts") (i := 1) _ ?he ?hl ?hr ?hlt ?ho ?ho2 ?hio ?hN ?hi ?hx ?hs ?hf)
  | (with_reducible refine' ro_asgL (x := Str.ofString "_law_size") (i := 2) _ ?he ?hl ?hr ?hlt ?ho ?ho2 ?hio ?hN ?hi ?hx ?hs ?hf)
  | (with_reducible refine' ro_asgL (x := Str.ofString "_law_k") (i := 3) _ ?he ?hl ?hr ?hlt ?ho ?ho2 ?hio ?hN ?hi ?hx ?hs ?hf)
  | (with_reducible refine' ro_asgL (x := Str.ofString "_law_pattern") (i := 4) _ ?he ?hl ?hr ?hlt ?ho ?ho2 ?hio ?hN ?hi ?hx ?hs ?hf)
  | (with_reducible refine' ro_asgL (x := Str.ofString "_law_found") (i := 5) _ ?he ?hl ?hr ?hlt ?ho ?ho2 ?hio ?hN ?hi ?hx ?hs ?hf)
  | (with_reducible refine' ro_asgL (x := Str.ofString "_law_few") (i := 6) _ ?he ?hl ?hr ?hlt ?ho ?ho2 ?hio ?hN ?hi ?hx ?hs ?hf)
  | (with_reducible refine' ro_asgL (x := Str.ofString "_law_some_here") (i := 7) _ ?he ?hl ?hr ?hlt ?ho ?ho2 ?hio ?hN ?hi ?hx ?hs ?hf)
  | (with_reducible refine' ro_asgL (x := Str.ofString "_law_other") (i := 8) _ ?he ?hl ?hr ?hlt ?ho ?ho2 ?hio ?hN ?hi ?hx ?hs ?hf)
  | (with_reducible refine' ro_asgL (x := Str.ofString "_law_row_here") (i := 9) _ ?he ?hl ?hr ?hlt ?ho ?ho2 ?hio ?hN ?hi ?hx ?hs ?hf))
local macro_rules | `(tactic| walk_at "rifasg") => `(tactic| first
  | (with_reducible refine' ro_ifI (x := Str.ofString "_law_script") (i := 0) ?hc ?he ?h0 ?hr ?hio ?hN ?hi ?hx ?hs ?hf)
  | (with_reducible refine' ro_ifI (x := Str.ofString "_law_counts") (i := 1) ?hc ?he ?h0 ?hr ?hio ?hN ?hi ?hx ?hs ?hf)
  | (with_reducible refine' ro_ifI (x := Str.ofString "_law_size") (i := 2) ?hc ?he ?h0 ?hr ?hio ?hN ?hi ?hx ?hs ?hf)
  | (with_reducible refine' ro_ifI (x := Str.ofString "_law_k") (i := 3) ?hc ?he ?h0 ?hr ?hio ?hN ?hi ?hx ?hs ?hf)
  | (with_reducible refine' ro_ifI (x := Str.ofString "_law_pattern") (i := 4) ?hc ?he ?h0 ?hr ?hio ?hN ?hi ?hx ?hs ?hf)
  | (with_reducible refine' ro_ifI (x := Str.ofString "_law_found") (i := 5) ?hc ?he ?h0 ?hr ?hio ?hN ?hi ?hx ?hs ?hf)
  | (with_reducible refine' ro_ifI (x := Str.ofString "_law_few") (i := 6) ?hc ?he ?h0 ?hr ?hio ?hN ?hi ?hx ?hs ?hf)
  | (with_reducible refine' ro_ifI (x := Str.ofString "_law_some_here") (i := 7) ?hc ?he ?h0 ?hr ?hio ?hN ?hi ?hx ?hs ?hf)
  | (with_reducible refine' ro_ifI (x := Str.ofString "_law_other") (i := 8) ?hc ?he ?h0 ?hr ?hio ?hN ?hi ?hx ?hs ?hf)
  | (with_reducible refine' ro_ifI (x := Str.ofString "_law_row_here") (i := 9) ?hc ?he ?h0 ?hr ?hio ?hN ?hi ?hx ?hs ?hf))
local macro_rules | `(tactic| walk_at "rtidy") => `(tactic| (show RO _ _ _ [_, _, _, _, _, _, _, _, _, _] _ _))
local macro_rules | `(tactic| walk_at "blk") => `(tactic| ((show blkC n_law (defScope s_law) _ _ = true); decide +kernel))
local macro_rules | `(tactic| walk_at "tidy") => `(tactic| (show RB _ _ [_, _, _, _, _, _, _, _, _, _] _ _))
local macro_rules | `(tactic| walk_at "ifasg") => `(tactic| first
  | (with_reducible refine' rb_ifI (x := Str.ofString "_law_script") (i := 0) ?hc ?he ?h0 ?hr ?hN ?hi ?hx ?hs ?hf)
  | (with_reducible refine' rb_ifI (x := Str.ofString "_law_counts") (i := 1) ?hc ?he ?h0 ?hr ?hN ?hi ?hx ?hs ?hf)
  | (with_reducible refine' rb_ifI (x := Str.ofString "_law_size") (i := 2) ?hc ?he ?h0 ?hr ?hN ?hi ?hx ?hs ?hf)
  | (with_reducible refine' rb_ifI (x := Str.ofString "_law_k") (i := 3) ?hc ?he ?h0 ?hr ?hN ?hi ?hx ?hs ?hf)
  | (with_reducible refine' rb_ifI (x := Str.ofString "_law_pattern") (i := 4) ?hc ?he ?h0 ?hr ?hN ?hi ?hx ?hs ?hf)
  | (with_reducible refine' rb_ifI (x := Str.ofString "_law_found") (i := 5) ?hc ?he ?h0 ?hr ?hN ?hi ?hx ?hs ?hf)
  | (with_reducible refine' rb_ifI (x := Str.ofString "_law_few") (i := 6) ?hc ?he ?h0 ?hr ?hN ?hi ?hx ?hs ?hf)
  | (with_reducible refine' rb_ifI (x := Str.ofString "_law_some_here") (i := 7) ?hc ?he ?h0 ?hr ?hN ?hi ?hx ?hs ?hf)
  | (with_reducible refine' rb_ifI (x := Str.ofString "_law_other") (i := 8) ?hc ?he ?h0 ?hr ?hN ?hi ?hx ?hs ?hf)
  | (with_reducible refine' rb_ifI (x := Str.ofString "_law_row_here") (i := 9) ?hc ?he ?h0 ?hr ?hN ?hi ?hx ?hs ?hf))
def catN : Nat → List Int
  | 0 => [1]
  | i + 1 => catN i ++ [((List.range (i + 1)).map fun k => (catN i).getD k 0 * (catN i).getD (i - k) 0).sum]
theorem catN_len : ∀ i, (catN i).length = i + 1
  | 0 => rfl
  | i + 1 => by rw [catN, List.length_append, catN_len i] <;> rfl
theorem catN6 : catN 6 = catL.map fun n : Nat => (n : Int) := by decide +kernel
theorem catN_bd : ∀ i ∈ List.range 7, ∀ k ∈ List.range 7, 0 ≤ (catN i).getD k 0 ∧ (catN i).getD k 0 ≤ 132 := by decide +kernel
theorem cat_at {i k : Nat} (h : k ≤ i) : atI ((catN i).map PyData.int) (k : Int) = some (.int ((catN i).getD k 0)) := by
  have hl := catN_len i
  refine atI_nat ?_
  rw [List.getElem?_map, List.getD_eq_getElem?_getD, List.getElem?_eq_getElem (by omega)] <;> rfl
theorem rows_at {n : Nat} {i : Int} (h0 : 0 ≤ i) (h1 : i < ((rowsF n).length : Int)) : ∃ row, row ∈ rowsF n ∧ atI ((rowsF n).map rowD) i = some (rowD row) := by
  obtain ⟨k, rfl⟩ : ∃ k : Nat, i = k := ⟨i.toNat, by omega⟩
  have hk : k < (rowsF n).length := by omega
  refine ⟨(rowsF n)[k], List.getElem_mem hk, atI_nat ?_⟩
  rw [List.getElem?_map, List.getElem?_eq_getElem hk] <;> rfl
theorem isNo_opt2 (o : Option (List Nat)) : isNo (optD o) = o.isNone := by cases o <;> rfl
theorem ok_law (D : Dn K mg "law" s_law p_law) (B : Bl mg) (D2 : Df P w K mg base "_law_mixed" 2 p__law_mixed R__law_mixed) (D3 : Df P w K mg base "_law_rows" 1 p__law_rows R__law_rows)
    (D4 : Df P w K mg base "count_without" 9 p_count_without R_count_without) (D5 : Df P w K mg base "_law_stands" 2 p__law_stands R__law_stands) :
    Df P w K mg base "law" 10 p_law R_law := by
  refine D.okO sc_law (fun ds r ⟨n, e, _⟩ => by rw [e] <;> rfl) fun f cdv A outer s H E hr ds r h => ?_
  obtain ⟨sc, rfl, rfl⟩ := h
  have nd := sc_law.nd
  walk_at "ropen"
  refine' ro_asgL (x := Str.ofString "_law_counts") (i := 1) (ds := [.int 1]) [1] ?a1 rfl ?a2 (Nat.le_of_ble_eq_true rfl) (by decide) (by decide) (by decide) nd rfl (by walk_at "loc") rfl (by walk_at "loc")
  case a1 =>
    refine' pdl_lst ?b1 (by decide)
    case b1 => walk_at "args"
  case a2 =>
    walk_at "rtidy"
    refine' ro_for0 (j := 2) (ds := (List.range 6).map nD) (fun i Γ => Γ = [some (scD sc), some (.list ((catN i).map PyData.int)), none, none, none, none, none, none, none, none]) (pir_range1 ?i1 rfl B.range (by decide) rfl) rfl (by decide) ?h0 ?hs ?hd PassesOwn.never rfl nd rfl (by walk_at "loc") (by walk_at "loc") (fun _ => rfl)
    case i1 => exact pd_int
    case h0 => exact ⟨_, .cons (.cons (.drop (.drop (.drop (.drop (.drop (.drop (.drop (.drop .nil))))))))), (fun i hi => by rw [List.mem_singleton] at hi; subst hi; exact ⟨_, rfl⟩), rfl⟩
    case hs =>
      rintro i d Γ' hd' rfl
      obtain ⟨hi, rfl⟩ := range_at hd'
      have hcl := catN_len i
      have hbd : ∀ k, k ≤ i → 0 ≤ (catN i).getD k 0 ∧ (catN i).getD k 0 ≤ 132 := fun k hk => catN_bd i (List.mem_range.mpr (by omega)) k (List.mem_range.mpr (by omega))
      walk_at "rtidy"
      refine' ro_app (x := Str.ofString "_law_counts") (i := 1) (d := .int ((List.range (i + 1)).map fun k => (catN i).getD k 0 * (catN i).getD (i - k) 0).sum) (ds := (catN i).map PyData.int) (by decide) rfl ?c1 rfl ?c2 ?c3 rfl (by walk_at "vis")
      case c1 =>
        refine' pd_callB (ds := [.list (((List.range (i + 1)).map fun k => (catN i).getD k 0 * (catN i).getD (i - k) 0).map PyData.int)]) (cd_sum rfl) rfl B.sum bb_sum (pad_cons (PDL.pd ?d1) pad_nil)
        case d1 =>
          rw [List.map_map]
          refine' pdl_lc (j := 3) nD (PyData.int ∘ fun k => (catN i).getD k 0 * (catN i).getD (i - k) 0) (List.range (i + 1)) ?hi ?hz ?hlf ?he ?hc ?hN ?ok ?hg ?hs2
          case hs2 => intro _; rfl
          case hc => rfl
          case hN => assumption
          case ok => walk_at "blk"
          case hg => (intro s H C cl fp; first | exact pg_name (by assumption) rfl (Or.inl rfl) | exact pg_name (by assumption) rfl (Or.inr rfl))
          case hi =>
            refine' pid_range1 (n := i + 1) ?f1 rfl B.range (by omega)
            case f1 =>
              refine' PD.is ?f2 ?f3
              case f2 => walk_at "ev"
              case f3 => exact congrArg PyData.int (by omega)
          case hz => rw [List.length_range]; omega
          case hlf => intro a ha; rfl
          case he =>
            intro s H C cl fp k hk
            have hk' := List.mem_range.mp hk
            have b1 := hbd k (by omega)
            have b2 := hbd (i - k) (by omega)
            refine' pd_bin (dx := .int ((catN i).getD k 0)) (dy := .int ((catN i).getD (i - k) 0)) (pd_ix (dx := .list ((catN i).map PyData.int)) (dy := nD k) ?g1 ?g2 (id_list (cat_at (by omega)))) (pd_ix (dx := .list ((catN i).map PyData.int)) (dy := nD (i - k)) ?g3 ?g4 (id_list (cat_at (by omega)))) (od_mul (.inl ⟨by omega, by omega⟩))
            case g1 => walk_at "ev"
            case g2 => walk_at "ev"
            case g3 => walk_at "ev"
            case g4 =>
              refine' PD.is ?g5 ?g6
              case g5 => walk_at "ev"
              case g6 => exact congrArg PyData.int (by omega)
      case c2 => rw [List.length_map, hcl]; omega
      case c3 =>
        walk_at "rtidy"
        refine ro_nil ⟨rfl, _, .cons (.cons (.drop (.drop (.drop (.drop (.drop (.drop (.drop (.drop .nil))))))))), (fun i hi => by rw [List.mem_singleton] at hi; subst hi; exact ⟨_, rfl⟩), ?_⟩
        rw [catN, List.map_append] <;> rfl
    case hd =>
      rintro Γ' rfl
      rw [show ((List.range 6).map nD).length = 6 from rfl, catN6]
      refine ro_of_rb ?_ (fun d hd => by rw [hd] <;> rfl)
      have m0 := mod_bd (x := mixF sc 0) (m := 7) (by decide)
      have m1 := mod_bd (x := mixF sc 1) (m := 6) (by decide)
      have m2 := mod_bd (x := mixF sc 2) (m := 5) (by decide)
      have m3 := mod_bd (x := mixF sc 3) (m := 4) (by decide)
      obtain ⟨sz, hsz⟩ : ∃ n : Nat, mixF sc 0 % 7 = (n : Int) := ⟨(mixF sc 0 % 7).toNat, by omega⟩
      obtain ⟨few, hfew⟩ : ∃ n : Nat, mixF sc 2 % 5 = (n : Int) := ⟨(mixF sc 2 % 5).toNat, by omega⟩
      obtain ⟨oth, hoth⟩ : ∃ n : Nat, 1 + mixF sc 3 % 4 = (n : Int) := ⟨(1 + mixF sc 3 % 4).toNat, by omega⟩
      have hsz6 : sz ≤ 6 := by omega
      have hfew6 : few ≤ 6 := by omega
      have hoth6 : oth ≤ 6 := by omega
      walk_at "set"
      rw [hsz]
      obtain ⟨pat, hpat, hpa⟩ := rows_at (n := 3) (i := mixF sc 1 % 6) m1.1 (by rw [rowsF_len]; exact m1.2)
      have hpl := rows_len hpat
      have hpl6 : pat.length ≤ 6 := by omega
      refine' rb_asg (x := Str.ofString "_law_pattern") (i := 4) (d := rowD pat) (pd_ix (dx := .list ((rowsF 3).map rowD)) (dy := .int (mixF sc 1 % 6)) (pd_call (ds := [nD 3]) D3 (Room.mono hr (by decide)) rfl (pad_cons pd_int pad_nil) (R__law_rows_i (by decide))) ?j1 (id_list hpa)) ?j2 nd rfl (by walk_at "loc") rfl (by walk_at "loc")
      case j1 => walk_at "ev"
      case j2 =>
        walk_at "tidy"
        walk_at "set"
        have hcat : cntW sz pat = catL.getD sz 0 := cat_ok hsz6 hpat
        have hcl : catL.length = 7 := rfl
        rw [hcat]
        refine' rb_ifr (k := false) (PTD.is (ptd_bool (pwd_or (k := false) ?k1 fun _ => pwd_or1 (k := false) ?k2)) rfl) (fun h => by cases h) (fun _ => ?k3)
        case k1 =>
          refine' PTD.is ?l1 ?l2
          case l1 => walk_at "test"
          case l2 => rfl
        case k2 =>
          refine' PTD.is (ptd_cmp (dx := nD (catL.getD sz 0)) (dy := nD (catL.getD sz 0)) ?l3 (pd_ix (dx := .list ((catL.map fun n : Nat => (n : Int)).map PyData.int)) (dy := nD sz) ?l4 ?l5 (id_list ?l6)) od_neI (by walk_at "mark")) ?l7
          case l3 => walk_at "ev"
          case l4 => walk_at "ev"
          case l5 => walk_at "ev"
          case l6 =>
            refine atI_nat ?_
            rw [List.getElem?_map, List.getElem?_map, List.getD_eq_getElem?_getD, List.getElem?_eq_getElem (by omega)] <;> rfl
          case l7 => rw [decide_eq_true rfl] <;> rfl
        case k3 =>
          walk_at "set"
          rw [hfew]
          refine' rb_asg (x := Str.ofString "_law_some_here") (i := 7) (d := .list ((rowsF oth).map rowD)) (pd_call (ds := [nD oth]) D3 (Room.mono hr (by decide)) rfl (pad_cons ?n1 pad_nil) (R__law_rows_i hoth6)) ?n2 nd rfl (by walk_at "loc") rfl (by walk_at "loc")
          case n1 =>
            refine' PD.is ?n3 (congrArg PyData.int hoth)
            case n3 => walk_at "ev"
          case n2 =>
            walk_at "tidy"
            have hrl := rowsF_len oth
            have hfp : 0 < factN oth := by
              have e : oth = 1 ∨ oth = 2 ∨ oth = 3 ∨ oth = 4 := by omega
              rcases e with e | e | e | e <;> rw [e] <;> decide
            have hpos : (0 : Int) < (((rowsF oth).map rowD).length : Int) := by rw [List.length_map, hrl]; omega
            have m4 := mod_bd (x := mixF sc 4) hpos
            obtain ⟨other, hother, hoa⟩ := rows_at (n := oth) (i := mixF sc 4 % (((rowsF oth).map rowD).length : Int)) m4.1 (by have := m4.2; rw [List.length_map] at this ⊢; exact this)
            have hol := rows_len hother
            have hol6 : other.length ≤ 6 := by omega
            refine' rb_asg (x := Str.ofString "_law_other") (i := 8) (d := rowD other) (pd_ix (dx := .list ((rowsF oth).map rowD)) (dy := .int (mixF sc 4 % (((rowsF oth).map rowD).length : Int))) ?p1 ?p2 (id_list hoa)) ?p3 nd rfl (by walk_at "loc") rfl (by walk_at "loc")
            case p1 => walk_at "ev"
            case p2 => walk_at "ev"
            case p3 =>
              walk_at "tidy"
              have hfl := fact_le hfew6
              have hfrl := rowsF_len few
              refine' rb_ret (pd_cmp (dx := nD (cntW few other)) (dy := nD (((rowsF few).filter fun row => (standsL row other).isNone).map rowD).length) ?q1 ?q2 od_eqI (by walk_at "mark")) ?q3
              case q1 => walk_at "ev"
              case q2 =>
                walk_at "len"
                case hl =>
                  refine' pdl_lcF (j := 9) rowD rowD (fun row => (standsL row other).isNone) (rowsF few) ?hi ?hz ?hlf ?ht ?he ?hc ?hN ?ok ?hg ?hs
                  walk_at "lc"
                  case hi =>
                    refine' pid_list ?r1
                    case r1 => walk_at "ev"
                  case hz => omega
                  case hlf => intro a ha; exact lf_row _
                  case ht =>
                    intro s H C cl fp row hrow
                    have hl := rows_len hrow
                    have hl10 : row.length ≤ 10 := by omega
                    refine' PTD.is ?s1 (isNo_opt2 _)
                    case s1 => walk_at "test"
                  case he =>
                    intro s H C cl fp row hrow hk
                    walk_at "ev"
              case q3 =>
                refine congrArg PyData.bool (decide_eq_true ?_)
                unfold cntW
                rw [List.length_map]
                have e : (rowsF few).filter (fun row => (standsF row other).isNone) = (rowsF few).filter fun row => (standsL row other).isNone := List.filter_congr fun row hrow => by
                  rw [stands_same ((rows_ok hrow).symm.nodup List.nodup_range)]
                rw [e]
end
theorem all_mk {l : PySem.W.OpenLaw} {w : World} {K : PySem.W.Frag} {h : Heap} {mg : Str → Option Value} {fa : Addr} (X : K.In h) (G : h.Ns mainGlobals mg) (hfa : mg "law" = some (.ref fa))
    {f_flat : Addr} {od_flat an_flat : Option Addr} {sl_flat : Array (Option Value)} {oc_flat kV_flat dc_flat pm_flat cd_flat ct_flat : Value}
    (a_flat : PySem.W.nsIn K mainGlobals "flat" = some (some (.ref f_flat))) (l_flat : K.lookup f_flat = some ⟨oc_flat, od_flat, .func (PySem.W.fnOf "flat" "flat" (defArgs s_flat) (defBody s_flat) (defScope s_flat) .none kV_flat dc_flat pm_flat an_flat cd_flat ct_flat), sl_flat⟩) (c_flat : PySem.W.codeIn K cd_flat "flat" = true) (k_flat : PySem.W.keepIn K (.ref f_flat) = true)
    {f_some_places : Addr} {od_some_places an_some_places : Option Addr} {sl_some_places : Array (Option Value)} {oc_some_places kV_some_places dc_some_places pm_some_places cd_some_places ct_some_places : Value}
    (a_some_places : PySem.W.nsIn K mainGlobals "some_places" = some (some (.ref f_some_places))) (l_some_places : K.lookup f_some_places = some ⟨oc_some_places, od_some_places, .func (PySem.W.fnOf "some_places" "some_places" (defArgs s_some_places) (defBody s_some_places) (defScope s_some_places) .none kV_some_places dc_some_places pm_some_places an_some_places cd_some_places ct_some_places), sl_some_places⟩) (c_some_places : PySem.W.codeIn K cd_some_places "some_places" = true) (k_some_places : PySem.W.keepIn K (.ref f_some_places) = true)
    {f_stands_at : Addr} {od_stands_at an_stands_at : Option Addr} {sl_stands_at : Array (Option Value)} {oc_stands_at kV_stands_at dc_stands_at pm_stands_at cd_stands_at ct_stands_at : Value}
    (a_stands_at : PySem.W.nsIn K mainGlobals "stands_at" = some (some (.ref f_stands_at))) (l_stands_at : K.lookup f_stands_at = some ⟨oc_stands_at, od_stands_at, .func (PySem.W.fnOf "stands_at" "stands_at" (defArgs s_stands_at) (defBody s_stands_at) (defScope s_stands_at) .none kV_stands_at dc_stands_at pm_stands_at an_stands_at cd_stands_at ct_stands_at), sl_stands_at⟩) (c_stands_at : PySem.W.codeIn K cd_stands_at "stands_at" = true) (k_stands_at : PySem.W.keepIn K (.ref f_stands_at) = true)
    {f_rows_of : Addr} {od_rows_of an_rows_of : Option Addr} {sl_rows_of : Array (Option Value)} {oc_rows_of kV_rows_of dc_rows_of pm_rows_of cd_rows_of ct_rows_of : Value}
    (a_rows_of : PySem.W.nsIn K mainGlobals "rows_of" = some (some (.ref f_rows_of))) (l_rows_of : K.lookup f_rows_of = some ⟨oc_rows_of, od_rows_of, .func (PySem.W.fnOf "rows_of" "rows_of" (defArgs s_rows_of) (defBody s_rows_of) (defScope s_rows_of) .none kV_rows_of dc_rows_of pm_rows_of an_rows_of cd_rows_of ct_rows_of), sl_rows_of⟩) (c_rows_of : PySem.W.codeIn K cd_rows_of "rows_of" = true) (k_rows_of : PySem.W.keepIn K (.ref f_rows_of) = true)
    {f_count_without : Addr} {od_count_without an_count_without : Option Addr} {sl_count_without : Array (Option Value)} {oc_count_without kV_count_without dc_count_without pm_count_without cd_count_without ct_count_without : Value}
    (a_count_without : PySem.W.nsIn K mainGlobals "count_without" = some (some (.ref f_count_without))) (l_count_without : K.lookup f_count_without = some ⟨oc_count_without, od_count_without, .func (PySem.W.fnOf "count_without" "count_without" (defArgs s_count_without) (defBody s_count_without) (defScope s_count_without) .none kV_count_without dc_count_without pm_count_without an_count_without cd_count_without ct_count_without), sl_count_without⟩) (c_count_without : PySem.W.codeIn K cd_count_without "count_without" = true) (k_count_without : PySem.W.keepIn K (.ref f_count_without) = true)
    {f__law_cell_at : Addr} {od__law_cell_at an__law_cell_at : Option Addr} {sl__law_cell_at : Array (Option Value)} {oc__law_cell_at kV__law_cell_at dc__law_cell_at pm__law_cell_at cd__law_cell_at ct__law_cell_at : Value}
    (a__law_cell_at : PySem.W.nsIn K mainGlobals "_law_cell_at" = some (some (.ref f__law_cell_at))) (l__law_cell_at : K.lookup f__law_cell_at = some ⟨oc__law_cell_at, od__law_cell_at, .func (PySem.W.fnOf "_law_cell_at" "_law_cell_at" (defArgs s__law_cell_at) (defBody s__law_cell_at) (defScope s__law_cell_at) .none kV__law_cell_at dc__law_cell_at pm__law_cell_at an__law_cell_at cd__law_cell_at ct__law_cell_at), sl__law_cell_at⟩) (c__law_cell_at : PySem.W.codeIn K cd__law_cell_at "_law_cell_at" = true) (k__law_cell_at : PySem.W.keepIn K (.ref f__law_cell_at) = true)
    {f__law_mixed : Addr} {od__law_mixed an__law_mixed : Option Addr} {sl__law_mixed : Array (Option Value)} {oc__law_mixed kV__law_mixed dc__law_mixed pm__law_mixed cd__law_mixed ct__law_mixed : Value}
    (a__law_mixed : PySem.W.nsIn K mainGlobals "_law_mixed" = some (some (.ref f__law_mixed))) (l__law_mixed : K.lookup f__law_mixed = some ⟨oc__law_mixed, od__law_mixed, .func (PySem.W.fnOf "_law_mixed" "_law_mixed" (defArgs s__law_mixed) (defBody s__law_mixed) (defScope s__law_mixed) .none kV__law_mixed dc__law_mixed pm__law_mixed an__law_mixed cd__law_mixed ct__law_mixed), sl__law_mixed⟩) (c__law_mixed : PySem.W.codeIn K cd__law_mixed "_law_mixed" = true) (k__law_mixed : PySem.W.keepIn K (.ref f__law_mixed) = true)
    {f__law_flat : Addr} {od__law_flat an__law_flat : Option Addr} {sl__law_flat : Array (Option Value)} {oc__law_flat kV__law_flat dc__law_flat pm__law_flat cd__law_flat ct__law_flat : Value}
    (a__law_flat : PySem.W.nsIn K mainGlobals "_law_flat" = some (some (.ref f__law_flat))) (l__law_flat : K.lookup f__law_flat = some ⟨oc__law_flat, od__law_flat, .func (PySem.W.fnOf "_law_flat" "_law_flat" (defArgs s__law_flat) (defBody s__law_flat) (defScope s__law_flat) .none kV__law_flat dc__law_flat pm__law_flat an__law_flat cd__law_flat ct__law_flat), sl__law_flat⟩) (c__law_flat : PySem.W.codeIn K cd__law_flat "_law_flat" = true) (k__law_flat : PySem.W.keepIn K (.ref f__law_flat) = true)
    {f__law_some : Addr} {od__law_some an__law_some : Option Addr} {sl__law_some : Array (Option Value)} {oc__law_some kV__law_some dc__law_some pm__law_some cd__law_some ct__law_some : Value}
    (a__law_some : PySem.W.nsIn K mainGlobals "_law_some" = some (some (.ref f__law_some))) (l__law_some : K.lookup f__law_some = some ⟨oc__law_some, od__law_some, .func (PySem.W.fnOf "_law_some" "_law_some" (defArgs s__law_some) (defBody s__law_some) (defScope s__law_some) .none kV__law_some dc__law_some pm__law_some an__law_some cd__law_some ct__law_some), sl__law_some⟩) (c__law_some : PySem.W.codeIn K cd__law_some "_law_some" = true) (k__law_some : PySem.W.keepIn K (.ref f__law_some) = true)
    {f__law_stands : Addr} {od__law_stands an__law_stands : Option Addr} {sl__law_stands : Array (Option Value)} {oc__law_stands kV__law_stands dc__law_stands pm__law_stands cd__law_stands ct__law_stands : Value}
    (a__law_stands : PySem.W.nsIn K mainGlobals "_law_stands" = some (some (.ref f__law_stands))) (l__law_stands : K.lookup f__law_stands = some ⟨oc__law_stands, od__law_stands, .func (PySem.W.fnOf "_law_stands" "_law_stands" (defArgs s__law_stands) (defBody s__law_stands) (defScope s__law_stands) .none kV__law_stands dc__law_stands pm__law_stands an__law_stands cd__law_stands ct__law_stands), sl__law_stands⟩) (c__law_stands : PySem.W.codeIn K cd__law_stands "_law_stands" = true) (k__law_stands : PySem.W.keepIn K (.ref f__law_stands) = true)
    {f__law_rows : Addr} {od__law_rows an__law_rows : Option Addr} {sl__law_rows : Array (Option Value)} {oc__law_rows kV__law_rows dc__law_rows pm__law_rows cd__law_rows ct__law_rows : Value}
    (a__law_rows : PySem.W.nsIn K mainGlobals "_law_rows" = some (some (.ref f__law_rows))) (l__law_rows : K.lookup f__law_rows = some ⟨oc__law_rows, od__law_rows, .func (PySem.W.fnOf "_law_rows" "_law_rows" (defArgs s__law_rows) (defBody s__law_rows) (defScope s__law_rows) .none kV__law_rows dc__law_rows pm__law_rows an__law_rows cd__law_rows ct__law_rows), sl__law_rows⟩) (c__law_rows : PySem.W.codeIn K cd__law_rows "_law_rows" = true) (k__law_rows : PySem.W.keepIn K (.ref f__law_rows) = true)
    {f_law : Addr} {od_law an_law : Option Addr} {sl_law : Array (Option Value)} {oc_law kV_law dc_law pm_law cd_law ct_law : Value}
    (a_law : PySem.W.nsIn K mainGlobals "law" = some (some (.ref f_law))) (l_law : K.lookup f_law = some ⟨oc_law, od_law, .func (PySem.W.fnOf "law" "law" (defArgs s_law) (defBody s_law) (defScope s_law) .none kV_law dc_law pm_law an_law cd_law ct_law), sl_law⟩) (c_law : PySem.W.codeIn K cd_law "law" = true) (k_law : PySem.W.keepIn K (.ref f_law) = true)
    (z_len : PySem.W.nsIn K mainGlobals "len" = some none)
    (z_range : PySem.W.nsIn K mainGlobals "range" = some none)
    (z_tuple : PySem.W.nsIn K mainGlobals "tuple" = some none)
    (z_list : PySem.W.nsIn K mainGlobals "list" = some none)
    (z_sorted : PySem.W.nsIn K mainGlobals "sorted" = some none)
    (z_max : PySem.W.nsIn K mainGlobals "max" = some none)
    (z_min : PySem.W.nsIn K mainGlobals "min" = some none)
    (z_isinstance : PySem.W.nsIn K mainGlobals "isinstance" = some none)
    (z_int : PySem.W.nsIn K mainGlobals "int" = some none)
    (z_bool : PySem.W.nsIn K mainGlobals "bool" = some none)
    (z_enumerate : PySem.W.nsIn K mainGlobals "enumerate" = some none)
    (z_all : PySem.W.nsIn K mainGlobals "all" = some none)
    (z_sum : PySem.W.nsIn K mainGlobals "sum" = some none) :
    ∃ fd : FuncData, (∀ (s : Shared) (v : Value), BindsTo s fd ⟨[v], []⟩ [("_law_script", v)]) ∧ ∀ base : Heap, K.In base → base.Ns mainGlobals mg → FnOk l.prog w K mg base CX0 10 fa fd ["_law_script"] (spLaw K) := by
  have e := hfa.symm.trans (PySem.W.mg_of X G a_law)
  cases e
  have B : Bl mg := ⟨PySem.W.mg_none_of X G z_len, PySem.W.mg_none_of X G z_range, PySem.W.mg_none_of X G z_tuple, PySem.W.mg_none_of X G z_list, PySem.W.mg_none_of X G z_sorted, PySem.W.mg_none_of X G z_max, PySem.W.mg_none_of X G z_min, PySem.W.mg_none_of X G z_isinstance, PySem.W.mg_none_of X G z_int, PySem.W.mg_none_of X G z_bool, PySem.W.mg_none_of X G z_enumerate, PySem.W.mg_none_of X G z_all, PySem.W.mg_none_of X G z_sum⟩
  have dn_flat : Dn K mg "flat" s_flat p_flat := ⟨_, _, fun_mk l_flat c_flat k_flat, (fun_mk (st := s_flat) l_flat c_flat k_flat).binds (ps := p_flat) fun _ _ _ _ _ _ us hl => (match us, hl with | [_], _ => rfl), PySem.W.mg_of X G a_flat⟩
  have dn_some_places : Dn K mg "some_places" s_some_places p_some_places := ⟨_, _, fun_mk l_some_places c_some_places k_some_places, (fun_mk (st := s_some_places) l_some_places c_some_places k_some_places).binds (ps := p_some_places) fun _ _ _ _ _ _ us hl => (match us, hl with | [_, _], _ => rfl), PySem.W.mg_of X G a_some_places⟩
  have dn_stands_at : Dn K mg "stands_at" s_stands_at p_stands_at := ⟨_, _, fun_mk l_stands_at c_stands_at k_stands_at, (fun_mk (st := s_stands_at) l_stands_at c_stands_at k_stands_at).binds (ps := p_stands_at) fun _ _ _ _ _ _ us hl => (match us, hl with | [_, _], _ => rfl), PySem.W.mg_of X G a_stands_at⟩
  have dn_rows_of : Dn K mg "rows_of" s_rows_of p_rows_of := ⟨_, _, fun_mk l_rows_of c_rows_of k_rows_of, (fun_mk (st := s_rows_of) l_rows_of c_rows_of k_rows_of).binds (ps := p_rows_of) fun _ _ _ _ _ _ us hl => (match us, hl with | [_], _ => rfl), PySem.W.mg_of X G a_rows_of⟩
  have dn_count_without : Dn K mg "count_without" s_count_without p_count_without := ⟨_, _, fun_mk l_count_without c_count_without k_count_without, (fun_mk (st := s_count_without) l_count_without c_count_without k_count_without).binds (ps := p_count_without) fun _ _ _ _ _ _ us hl => (match us, hl with | [_, _], _ => rfl), PySem.W.mg_of X G a_count_without⟩
  have dn__law_cell_at : Dn K mg "_law_cell_at" s__law_cell_at p__law_cell_at := ⟨_, _, fun_mk l__law_cell_at c__law_cell_at k__law_cell_at, (fun_mk (st := s__law_cell_at) l__law_cell_at c__law_cell_at k__law_cell_at).binds (ps := p__law_cell_at) fun _ _ _ _ _ _ us hl => (match us, hl with | [_, _], _ => rfl), PySem.W.mg_of X G a__law_cell_at⟩
  have dn__law_mixed : Dn K mg "_law_mixed" s__law_mixed p__law_mixed := ⟨_, _, fun_mk l__law_mixed c__law_mixed k__law_mixed, (fun_mk (st := s__law_mixed) l__law_mixed c__law_mixed k__law_mixed).binds (ps := p__law_mixed) fun _ _ _ _ _ _ us hl => (match us, hl with | [_, _], _ => rfl), PySem.W.mg_of X G a__law_mixed⟩
  have dn__law_flat : Dn K mg "_law_flat" s__law_flat p__law_flat := ⟨_, _, fun_mk l__law_flat c__law_flat k__law_flat, (fun_mk (st := s__law_flat) l__law_flat c__law_flat k__law_flat).binds (ps := p__law_flat) fun _ _ _ _ _ _ us hl => (match us, hl with | [_], _ => rfl), PySem.W.mg_of X G a__law_flat⟩
  have dn__law_some : Dn K mg "_law_some" s__law_some p__law_some := ⟨_, _, fun_mk l__law_some c__law_some k__law_some, (fun_mk (st := s__law_some) l__law_some c__law_some k__law_some).binds (ps := p__law_some) fun _ _ _ _ _ _ us hl => (match us, hl with | [_, _], _ => rfl), PySem.W.mg_of X G a__law_some⟩
  have dn__law_stands : Dn K mg "_law_stands" s__law_stands p__law_stands := ⟨_, _, fun_mk l__law_stands c__law_stands k__law_stands, (fun_mk (st := s__law_stands) l__law_stands c__law_stands k__law_stands).binds (ps := p__law_stands) fun _ _ _ _ _ _ us hl => (match us, hl with | [_, _], _ => rfl), PySem.W.mg_of X G a__law_stands⟩
  have dn__law_rows : Dn K mg "_law_rows" s__law_rows p__law_rows := ⟨_, _, fun_mk l__law_rows c__law_rows k__law_rows, (fun_mk (st := s__law_rows) l__law_rows c__law_rows k__law_rows).binds (ps := p__law_rows) fun _ _ _ _ _ _ us hl => (match us, hl with | [_], _ => rfl), PySem.W.mg_of X G a__law_rows⟩
  have dn_law : Dn K mg "law" s_law p_law := ⟨_, _, fun_mk l_law c_law k_law, (fun_mk (st := s_law) l_law c_law k_law).binds (ps := p_law) fun _ _ _ _ _ _ us hl => (match us, hl with | [_], _ => rfl), PySem.W.mg_of X G a_law⟩
  refine ⟨PySem.W.fnOf "law" "law" (defArgs s_law) (defBody s_law) (defScope s_law) .none kV_law dc_law pm_law an_law cd_law ct_law, fun s v => .of_eq rfl, fun base _ _ => ?_⟩
  have df_flat : Df l.prog w K mg base "flat" 1 p_flat R_flat := by
    apply ok_flat <;> assumption
  have df_some_places : ∀ M, DfL l.prog w K mg base "some_places" (M + 1) p_some_places (R_sp M) := ok_some_places dn_some_places B
  have df_stands_at : Df l.prog w K mg base "stands_at" 8 p_stands_at R_stands_at := by
    apply ok_stands_at <;> assumption
  have df_rows_of : DfL l.prog w K mg base "rows_of" 1 p_rows_of R_rows_of := by
    apply ok_rows_of <;> assumption
  have df_count_without : Df l.prog w K mg base "count_without" 9 p_count_without R_count_without := by
    apply ok_count_without <;> assumption
  have df__law_cell_at : Df l.prog w K mg base "_law_cell_at" 1 p__law_cell_at R__law_cell_at := by
    apply ok__law_cell_at <;> assumption
  have df__law_mixed : Df l.prog w K mg base "_law_mixed" 2 p__law_mixed R__law_mixed := by
    apply ok__law_mixed <;> assumption
  have df__law_flat : Df l.prog w K mg base "_law_flat" 1 p__law_flat R__law_flat := by
    apply ok__law_flat <;> assumption
  have df__law_some : Df l.prog w K mg base "_law_some" 1 p__law_some R__law_some := by
    apply ok__law_some <;> assumption
  have df__law_stands : Df l.prog w K mg base "_law_stands" 2 p__law_stands R__law_stands := by
    apply ok__law_stands <;> assumption
  have df__law_rows : Df l.prog w K mg base "_law_rows" 1 p__law_rows R__law_rows := by
    apply ok__law_rows <;> assumption
  have df_law : Df l.prog w K mg base "law" 10 p_law R_law := by
    apply ok_law <;> assumption
  exact law_fn df_law hfa l_law
end Tw
open PySem PySem.W PyProof.Rows
set_option maxRecDepth 100000 in
set_option maxHeartbeats 0 in
theorem PySem.Challenge.cw_twistyard_k50_whole_counted_holds : PySem.Challenge.rw_twistyard_k50_whole_counted.Holds := by
  w_on; o_law; k_head; (case hw => w_witness2)
  k_fill
  refine L2.walk_of (l := PySem.Challenge.rw_twistyard_k50_whole_counted) (n := 63) (k := 10) (x := "_law_script") (CX := fun _ => L2.CX0) (sp := fun w => Tw.spLaw _) rfl (by decide) rfl ⟨rfl, by decide, by decide⟩ (fun w h Y => PySem.W.kIn_of Y) ?F (fun _ _ a ns hl _ hS => ⟨a, ns, rfl, hS, hl, fun _ => rfl⟩) (fun _ _ _ _ _ h => h)
  case F =>
    intro w mg fa h KX G hmg
    refine' Tw.all_mk KX G hmg ?a_flat ?l_flat ?c_flat ?k_flat ?a_some_places ?l_some_places ?c_some_places ?k_some_places ?a_stands_at ?l_stands_at ?c_stands_at ?k_stands_at ?a_rows_of ?l_rows_of ?c_rows_of ?k_rows_of ?a_count_without ?l_count_without ?c_count_without ?k_count_without ?a__law_cell_at ?l__law_cell_at ?c__law_cell_at ?k__law_cell_at ?a__law_mixed ?l__law_mixed ?c__law_mixed ?k__law_mixed ?a__law_flat ?l__law_flat ?c__law_flat ?k__law_flat ?a__law_some ?l__law_some ?c__law_some ?k__law_some ?a__law_stands ?l__law_stands ?c__law_stands ?k__law_stands ?a__law_rows ?l__law_rows ?c__law_rows ?k__law_rows ?a_law ?l_law ?c_law ?k_law ?z_len ?z_range ?z_tuple ?z_list ?z_sorted ?z_max ?z_min ?z_isinstance ?z_int ?z_bool ?z_enumerate ?z_all ?z_sum
    (case a_flat => k_is)
    (case l_flat => k_is)
    (case c_flat => k_is)
    (case k_flat => k_is)
    (case a_some_places => k_is)
    (case l_some_places => k_is)
    (case c_some_places => k_is)
    (case k_some_places => k_is)
    (case a_stands_at => k_is)
    (case l_stands_at => k_is)
    (case c_stands_at => k_is)
    (case k_stands_at => k_is)
    (case a_rows_of => k_is)
    (case l_rows_of => k_is)
    (case c_rows_of => k_is)
    (case k_rows_of => k_is)
    (case a_count_without => k_is)
    (case l_count_without => k_is)
    (case c_count_without => k_is)
    (case k_count_without => k_is)
    (case a__law_cell_at => k_is)
    (case l__law_cell_at => k_is)
    (case c__law_cell_at => k_is)
    (case k__law_cell_at => k_is)
    (case a__law_mixed => k_is)
    (case l__law_mixed => k_is)
    (case c__law_mixed => k_is)
    (case k__law_mixed => k_is)
    (case a__law_flat => k_is)
    (case l__law_flat => k_is)
    (case c__law_flat => k_is)
    (case k__law_flat => k_is)
    (case a__law_some => k_is)
    (case l__law_some => k_is)
    (case c__law_some => k_is)
    (case k__law_some => k_is)
    (case a__law_stands => k_is)
    (case l__law_stands => k_is)
    (case c__law_stands => k_is)
    (case k__law_stands => k_is)
    (case a__law_rows => k_is)
    (case l__law_rows => k_is)
    (case c__law_rows => k_is)
    (case k__law_rows => k_is)
    (case a_law => k_is)
    (case l_law => k_is)
    (case c_law => k_is)
    (case k_law => k_is)
    (case z_len => k_is)
    (case z_range => k_is)
    (case z_tuple => k_is)
    (case z_list => k_is)
    (case z_sorted => k_is)
    (case z_max => k_is)
    (case z_min => k_is)
    (case z_isinstance => k_is)
    (case z_int => k_is)
    (case z_bool => k_is)
    (case z_enumerate => k_is)
    (case z_all => k_is)
    (case z_sum => k_is)
#print axioms PySem.Challenge.cw_twistyard_k50_whole_counted_holds
