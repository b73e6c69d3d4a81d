import PyProof.Rows.All
import Wide.All
import OpenK.AllK
import Wide.FinOn
import HandS.ForMost
import HandS.Walk
import HandS.TupAny
import HandS.TupMul
import HandS.Conv
import HandS.IsInst
import HandS.Style
import HandS.Deep
import HandS.Strs
import KE.SortData
import KE.DataMinMax
import KE.GoesEnum
import KE.GoesMore
import HandS.SortKw
import PySem.Challenge.RW_twistyard_k41_whole_put_together
set_option Elab.async false
set_option linter.all false
set_option maxRecDepth 100000
set_option maxHeartbeats 4000000
/-! The data level: what stands in a slot is told as plain data. -/
namespace Tw
open PySem PySem.Spec PyProof.Rows L2

/-! ### values as data -/
mutual
inductive Hd (K : PySem.W.Frag) (H : Hp) : V → PyData → Prop
  | non : Hd K H .non .none
  | bl (b : Bool) : Hd K H (.bl b) (.bool b)
  | int (i : Int) : Hd K H (.int i) (.int i)
  | str (x : Str) : Hd K H (.str x) (.str x)
  | lst {a : Addr} {xs : List V} {ds : List PyData} : H a = some (.lst xs) → HdA K H xs ds → Hd K H (.ref a) (.list ds)
  | tup {a : Addr} {xs : List V} {ds : List PyData} : SqT K H a xs → HdA K H xs ds → Hd K H (.ref a) (.tuple ds)
  | scr {a : Addr} {ns : List Int} : SqL K H a (ns.map V.int) → Hd K H (.ref a) (.dict (ns.map fun n => (.none, .int n)))
  | pln {a : Addr} {o : Obj} {ns : List Int} : H a = some (.frz o (.tup (ns.map V.int))) → o.dict = none → Hd K H (.ref a) (.dict [(.tuple (ns.map PyData.int), .none)])
inductive HdA (K : PySem.W.Frag) (H : Hp) : List V → List PyData → Prop
  | nil : HdA K H [] []
  | cons {v : V} {vs : List V} {d : PyData} {ds : List PyData} : Hd K H v d → HdA K H vs ds → HdA K H (v :: vs) (d :: ds)
end
/-- the script -/
def scD (ns : List Int) : PyData := .dict (ns.map fun n => (.none, .int n))
theorem Same.sqt {K : PySem.W.Frag} {H H' : Hp} {a : Addr} {xs : List V} (e : Same H H') (h : SqT K H a xs) : SqT K H' a xs := by
  rcases h with (h | ⟨o, h⟩) | h
  · exact .inl (.inl (e _ _ h))
  · exact .inl (.inr ⟨o, e _ _ h⟩)
  · exact .inr h
theorem same_new {H : Hp} {p : Addr} {o : HO} (h : H p = none) : Same H (upd H p o) := fun b u q => by rw [upd_ne (ne_of_none q h)]; exact q
theorem same_mut {H H' : Hp} {p : Addr} {o : HO} (e : Same H H') (h : H p = none) : Same H (upd H' p o) := fun b u q => by rw [upd_ne (ne_of_none q h)]; exact e _ _ q
theorem same_back {H H' : Hp} {p : Addr} (e : Same H H') (h : H' p = none) : H p = none := Same.free e h
section
variable {K : PySem.W.Frag} {H H' : Hp}
mutual
theorem Hd.same (e : Same H H') : ∀ (d : PyData) (v : V), Hd K H v d → Hd K H' v d
  | .none, _, h => by cases h; exact .non
  | .bool b, _, h => by cases h; exact .bl b
  | .int i, _, h => by cases h; exact .int i
  | .str x, _, h => by cases h; exact .str x
  | .list ds, _, h => by
    cases h with
    | lst h1 h2 => exact .lst (e _ _ h1) (HdA.same e ds _ h2)
  | .tuple ds, _, h => by
    cases h with
    | tup h1 h2 => exact .tup (Same.sqt e h1) (HdA.same e ds _ h2)
  | .dict kvs, _, h => by
    cases h with
    | scr h1 => exact .scr (e.seq h1)
    | pln h1 h2 => exact .pln (e _ _ h1) h2
theorem HdA.same (e : Same H H') : ∀ (ds : List PyData) (vs : List V), HdA K H vs ds → HdA K H' vs ds
  | [], _, h => by cases h; exact .nil
  | d :: ds, _, h => by
    cases h with
    | cons h1 h2 => exact .cons (Hd.same e d _ h1) (HdA.same e ds _ h2)
end
mutual
theorem Hd.dp : ∀ (d : PyData) (v : V), PyData.canLay0 d = true → Hd K H v d → Dp K H v d
  | .none, _, _, h => by cases h; exact .non
  | .bool b, _, _, h => by cases h; exact .bl b
  | .int i, _, _, h => by cases h; exact .int i
  | .str x, _, _, h => by cases h; exact .str x
  | .list ds, _, c, h => by
    cases h with
    | lst h1 h2 => exact .lst (SqL.of h1) (HdA.dp ds _ (by simpa [PyData.canLay0] using c) h2)
  | .tuple ds, _, c, h => by
    cases h with
    | tup h1 h2 => exact .tup h1 (HdA.dp ds _ (by simpa [PyData.canLay0] using c) h2)
  | .dict kvs, _, c, h => by simp [PyData.canLay0] at c
theorem HdA.dp : ∀ (ds : List PyData) (vs : List V), PyData.canLayAll0 ds = true → HdA K H vs ds → DpAll K H vs ds
  | [], _, _, h => by cases h; exact .nil
  | d :: ds, _, c, h => by
    cases h with
    | cons h1 h2 =>
      have c' : PyData.canLay0 d = true ∧ PyData.canLayAll0 ds = true := by simpa [PyData.canLayAll0] using c
      exact .cons (Hd.dp d _ c'.1 h1) (HdA.dp ds _ c'.2 h2)
end
theorem HdA.length : ∀ {ds : List PyData} {vs : List V}, HdA K H vs ds → vs.length = ds.length
  | [], _, h => by cases h; rfl
  | d :: ds, _, h => by
    cases h with
    | cons h1 h2 => rw [List.length_cons, List.length_cons, HdA.length h2]
theorem HdA.get : ∀ {ds : List PyData} {vs : List V} {i : Nat} {d : PyData}, HdA K H vs ds → ds[i]? = some d → ∃ v, vs[i]? = some v ∧ Hd K H v d
  | [], _, i, d, h, e => by simp at e
  | d0 :: ds, _, 0, d, h, e => by
    cases h with
    | cons h1 h2 =>
      have e' : d0 = d := by simpa using e
      subst e'
      exact ⟨_, rfl, h1⟩
  | d0 :: ds, _, i + 1, d, h, e => by
    cases h with
    | cons h1 h2 =>
      obtain ⟨v, hv, h⟩ := HdA.get (i := i) h2 (by simpa using e)
      exact ⟨v, by simpa using hv, h⟩
theorem HdA.getV : ∀ {ds : List PyData} {vs : List V} {i : Nat} {v : V}, HdA K H vs ds → vs[i]? = some v → ∃ d, ds[i]? = some d ∧ Hd K H v d
  | [], _, i, d, h, e => by cases h; simp at e
  | d0 :: ds, _, 0, d, h, e => by
    cases h with
    | cons h1 h2 =>
      have e' : _ = d := Option.some.inj (by simpa using e)
      subst e'
      exact ⟨_, rfl, h1⟩
  | d0 :: ds, _, i + 1, d, h, e => by
    cases h with
    | cons h1 h2 =>
      obtain ⟨v, hv, h⟩ := HdA.getV (i := i) h2 (by simpa using e)
      exact ⟨v, by simpa using hv, h⟩
theorem HdA.append : ∀ {ds es : List PyData} {vs us : List V}, HdA K H vs ds → HdA K H us es → HdA K H (vs ++ us) (ds ++ es)
  | [], _, _, _, h, q => by cases h; exact q
  | d :: ds, _, _, _, h, q => by
    cases h with
    | cons h1 h2 => exact .cons h1 (HdA.append h2 q)
theorem HdA.take : ∀ {ds : List PyData} {vs : List V} (n : Nat), HdA K H vs ds → HdA K H (vs.take n) (ds.take n)
  | [], _, n, h => by cases h; simp; exact .nil
  | d :: ds, _, 0, h => by cases h with | cons h1 h2 => exact .nil
  | d :: ds, _, n + 1, h => by
    cases h with
    | cons h1 h2 => exact .cons h1 (HdA.take n h2)
theorem HdA.drop : ∀ {ds : List PyData} {vs : List V} (n : Nat), HdA K H vs ds → HdA K H (vs.drop n) (ds.drop n)
  | [], _, n, h => by cases h; simp; exact .nil
  | d :: ds, _, 0, h => h
  | d :: ds, _, n + 1, h => by
    cases h with
    | cons h1 h2 => exact HdA.drop n h2
theorem HdA.reverse : ∀ {ds : List PyData} {vs : List V}, HdA K H vs ds → HdA K H vs.reverse ds.reverse
  | [], _, h => by cases h; exact .nil
  | d :: ds, _, h => by
    cases h with
    | cons h1 h2 =>
      rw [List.reverse_cons, List.reverse_cons]
      exact (HdA.reverse h2).append (.cons h1 .nil)
theorem HdA.rep {ds : List PyData} {vs : List V} (h : HdA K H vs ds) : ∀ n : Nat, HdA K H (List.replicate n vs).flatten (List.replicate n ds).flatten
  | 0 => .nil
  | n + 1 => by
    rw [List.replicate_succ, List.replicate_succ, List.flatten_cons, List.flatten_cons]
    exact h.append (HdA.rep h n)
theorem HdA.ints : ∀ ns : List Int, HdA K H (ns.map V.int) (ns.map PyData.int)
  | [] => .nil
  | n :: ns => .cons (.int n) (HdA.ints ns)
theorem HdA.ints_inv : ∀ {ns : List Int} {vs : List V}, HdA K H vs (ns.map PyData.int) → vs = ns.map V.int
  | [], _, h => by cases h; rfl
  | n :: ns, _, h => by
    cases h with
    | cons h1 h2 =>
      cases h1
      rw [HdA.ints_inv h2] <;> rfl
theorem HdA.bls_inv : ∀ {bs : List Bool} {vs : List V}, HdA K H vs (bs.map PyData.bool) → vs = bs.map V.bl
  | [], _, h => by cases h; rfl
  | n :: ns, _, h => by
    cases h with
    | cons h1 h2 =>
      cases h1
      rw [HdA.bls_inv h2] <;> rfl
theorem HdA.snoc {ds : List PyData} {vs : List V} {d : PyData} {v : V} (h : HdA K H vs ds) (q : Hd K H v d) : HdA K H (vs ++ [v]) (ds ++ [d]) := h.append (.cons q .nil)
theorem HdA.one_inv {d : PyData} {vs : List V} (h : HdA K H vs [d]) : ∃ v, vs = [v] ∧ Hd K H v d := by
  cases h with
  | cons h1 h2 => cases h2; exact ⟨_, rfl, h1⟩
theorem HdA.two_inv {d e : PyData} {vs : List V} (h : HdA K H vs [d, e]) : ∃ v u, vs = [v, u] ∧ Hd K H v d ∧ Hd K H u e := by
  cases h with
  | cons h1 h2 =>
    obtain ⟨u, rfl, hu⟩ := h2.one_inv
    exact ⟨_, u, rfl, h1, hu⟩
theorem Hd.list_inv {v : V} {ds : List PyData} (h : Hd K H v (.list ds)) : ∃ a xs, v = .ref a ∧ H a = some (.lst xs) ∧ HdA K H xs ds := by
  cases h with
  | lst h1 h2 => exact ⟨_, _, rfl, h1, h2⟩
theorem Hd.tup_inv {v : V} {ds : List PyData} (h : Hd K H v (.tuple ds)) : ∃ a xs, v = .ref a ∧ SqT K H a xs ∧ HdA K H xs ds := by
  cases h with
  | tup h1 h2 => exact ⟨_, _, rfl, h1, h2⟩
theorem Hd.int_inv {v : V} {i : Int} (h : Hd K H v (.int i)) : v = .int i := by cases h; rfl
theorem Hd.bool_inv {v : V} {i : Bool} (h : Hd K H v (.bool i)) : v = .bl i := by cases h; rfl
theorem Hd.str_inv {v : V} {i : Str} (h : Hd K H v (.str i)) : v = .str i := by cases h; rfl
def isNo : PyData → Bool
  | .none => true
  | _ => false
theorem scD_inj {ns ms : List Int} (h : (ns.map fun n => ((PyData.none, PyData.int n) : PyData × PyData)) = ms.map fun n => (.none, .int n)) : ns = ms := by
  induction ns generalizing ms with
  | nil =>
    cases ms with
    | nil => rfl
    | cons m ms => cases h
  | cons n ns ih =>
    cases ms with
    | nil => cases h
    | cons m ms =>
      rw [List.map_cons, List.map_cons] at h
      injection h with h1 h2
      injection h1 with _ h3
      injection h3 with h4
      rw [h4, ih h2]
theorem Hd.sc_inv {v : V} {ns : List Int} (h : Hd K H v (scD ns)) : ∃ a, v = .ref a ∧ SqL K H a (ns.map V.int) := by
  unfold scD at h
  generalize e : (ns.map fun n => ((PyData.none, PyData.int n) : PyData × PyData)) = kvs at h
  cases h with
  | scr h1 =>
    rw [scD_inj e]
    exact ⟨_, rfl, h1⟩
  | pln h1 h2 =>
    exfalso
    cases ns with
    | nil => cases e
    | cons n ns =>
      rw [List.map_cons] at e
      injection e with e1 _
      injection e1 with e2 _
      cases e2
/-- a tuple of numbers that is known to be an exact one -/
abbrev plnD (ns : List Int) : PyData := .dict [(.tuple (ns.map PyData.int), .none)]
theorem ints_inj : ∀ {ns ms : List Int}, ns.map PyData.int = ms.map PyData.int → ns = ms
  | [], [], _ => rfl
  | [], m :: ms, h => by cases h
  | n :: ns, [], h => by cases h
  | n :: ns, m :: ms, h => by
    rw [List.map_cons, List.map_cons] at h
    injection h with h1 h2
    injection h1 with h3
    rw [h3, ints_inj h2]
theorem Hd.pl_inv {v : V} {ns : List Int} (h : Hd K H v (plnD ns)) : ∃ a o, v = .ref a ∧ H a = some (.frz o (.tup (ns.map V.int))) ∧ o.dict = none := by
  unfold plnD at h
  generalize e : [((PyData.tuple (ns.map PyData.int), PyData.none) : PyData × PyData)] = kvs at h
  cases h with
  | scr h1 =>
    exfalso
    rename_i ms
    cases ms with
    | nil => cases e
    | cons n ms =>
      rw [List.map_cons] at e
      injection e with e1 _
      injection e1 with e2 _
      cases e2
  | pln h1 h2 =>
    injection e with e1 _
    injection e1 with e2 _
    injection e2 with e3
    rw [ints_inj e3]
    exact ⟨_, _, rfl, h1, h2⟩
theorem Hd.pl_tup {v : V} {ns : List Int} (h : Hd K H v (plnD ns)) : Hd K H v (.tuple (ns.map PyData.int)) := by
  obtain ⟨a, o, rfl, h1, _⟩ := h.pl_inv
  exact .tup (.inl (.inr ⟨o, h1⟩)) (HdA.ints ns)
theorem Hd.none_iff {v : V} {d : PyData} (h : Hd K H v d) : decide (v = .non) = isNo d := by
  cases h <;> rfl
end

/-! ### data that holds no list: it stands whatever becomes of lists -/
mutual
def lf : PyData → Bool
  | .none | .bool _ | .int _ | .str _ => true
  | .tuple ds => lfA ds
  | .list _ | .dict _ => false
def lfA : List PyData → Bool
  | [] => true
  | d :: ds => lf d && lfA ds
end
theorem lfA_ints : ∀ ns : List Int, lfA (ns.map PyData.int) = true
  | [] => by simp [lfA]
  | n :: ns => by
    show lfA (PyData.int n :: ns.map PyData.int) = true
    rw [lfA, lfA_ints ns]
    simp [lf]
theorem lfA_append : ∀ {a b : List PyData}, lfA a = true → lfA b = true → lfA (a ++ b) = true
  | [], _, _, h => h
  | x :: a, b, h, q => by
    rw [lfA, Bool.and_eq_true] at h
    rw [List.cons_append, lfA, h.1, lfA_append h.2 q]
    rfl
theorem lfA_of : ∀ {a : List PyData}, (∀ d ∈ a, lf d = true) → lfA a = true
  | [], _ => by simp [lfA]
  | x :: a, h => by
    rw [lfA, h x (by simp), lfA_of fun d hd => h d (by simp [hd])]
    rfl
theorem lf_of_mem : ∀ {a : List PyData} {d : PyData}, lfA a = true → d ∈ a → lf d = true
  | x :: a, d, h, hd => by
    rw [lfA, Bool.and_eq_true] at h
    rcases List.mem_cons.mp hd with e | e
    · rw [e]; exact h.1
    · exact lf_of_mem h.2 e
/-- the tuples of H stand in H' -/
def SameT (K : PySem.W.Frag) (H H' : Hp) : Prop := ∀ a xs, SqT K H a xs → SqT K H' a xs
theorem Same.t {K : PySem.W.Frag} {H H' : Hp} (e : Same H H') : SameT K H H' := fun _ _ h => Same.sqt e h
theorem SameT.mut {K : PySem.W.Frag} {H : Hp} {b : Addr} {xs : List V} {o : HO} (h : H b = some (.lst xs)) : SameT K H (upd H b o) := fun a ys q => by
  rcases q with (q | ⟨o', q⟩) | q
  · exact .inl (.inl (by rw [upd_ne (ne_of q h (by intro z; cases z))]; exact q))
  · exact .inl (.inr ⟨o', by rw [upd_ne (ne_of q h (by intro z; cases z))]; exact q⟩)
  · exact .inr q
theorem SameT.trans {K : PySem.W.Frag} {H H1 H2 : Hp} (a : SameT K H H1) (b : SameT K H1 H2) : SameT K H H2 := fun x xs h => b x xs (a x xs h)
section
variable {K : PySem.W.Frag} {H H' : Hp}
mutual
theorem Hd.lf (e : SameT K H H') : ∀ (d : PyData) (v : V), lf d = true → Hd K H v d → Hd K H' v d
  | .none, _, _, h => by cases h; exact .non
  | .bool b, _, _, h => by cases h; exact .bl b
  | .int i, _, _, h => by cases h; exact .int i
  | .str x, _, _, h => by cases h; exact .str x
  | .list ds, _, c, h => by simp [Tw.lf] at c
  | .tuple ds, _, c, h => by
    cases h with
    | tup h1 h2 => exact .tup (e _ _ h1) (HdA.lf e ds _ (by simpa [Tw.lf] using c) h2)
  | .dict kvs, _, c, h => by simp [Tw.lf] at c
theorem HdA.lf (e : SameT K H H') : ∀ (ds : List PyData) (vs : List V), lfA ds = true → HdA K H vs ds → HdA K H' vs ds
  | [], _, _, h => by cases h; exact .nil
  | d :: ds, _, c, h => by
    rw [lfA, Bool.and_eq_true] at c
    cases h with
    | cons h1 h2 => exact .cons (Hd.lf e d _ c.1 h1) (HdA.lf e ds _ c.2 h2)
end
end

/-! ### slots -/
abbrev Ev := List (Option PyData)
def StV (K : PySem.W.Frag) (Γ : Ev) (σ : L2.St) (H : Hp) : Prop := Γ.length = σ.length ∧ ∀ (i : Nat) (d : PyData), Γ[i]? = some (some d) → ∃ v, σ[i]? = some (some v) ∧ Hd K H v d
/-- Γ' says no more than Γ -/
def Le (Γ Γ' : Ev) : Prop := Γ.length = Γ'.length ∧ ∀ (i : Nat) (d : PyData), Γ'[i]? = some (some d) → Γ[i]? = some (some d)
theorem Le.refl (Γ : Ev) : Le Γ Γ := ⟨rfl, fun _ _ h => h⟩
theorem Le.trans {A B C : Ev} (a : Le A B) (b : Le B C) : Le A C := ⟨a.1.trans b.1, fun i d h => a.2 i d (b.2 i d h)⟩
theorem Le.nil : Le [] [] := Le.refl _
theorem Le.cons {x : Option PyData} {Γ Γ' : Ev} (h : Le Γ Γ') : Le (x :: Γ) (x :: Γ') := ⟨by simp [h.1], fun i d e => by
  cases i with
  | zero => exact e
  | succ i => simpa using h.2 i d (by simpa using e)⟩
theorem Le.drop {x : Option PyData} {Γ Γ' : Ev} (h : Le Γ Γ') : Le (x :: Γ) (none :: Γ') := ⟨by simp [h.1], fun i d e => by
  cases i with
  | zero => simp at e
  | succ i => simpa using h.2 i d (by simpa using e)⟩
section
variable {K : PySem.W.Frag} {H H' : Hp} {Γ Γ' : Ev} {σ : L2.St}
theorem StV.same (e : Same H H') (h : StV K Γ σ H) : StV K Γ σ H' := ⟨h.1, fun i d q => let ⟨v, hv, hd⟩ := h.2 i d q; ⟨v, hv, hd.same e⟩⟩
theorem StV.le (e : Le Γ Γ') (h : StV K Γ σ H) : StV K Γ' σ H := ⟨e.1.symm.trans h.1, fun i d q => h.2 i d (e.2 i d q)⟩
theorem StV.set {i : Nat} {v : V} {d : PyData} (h : StV K Γ σ H) (q : Hd K H v d) : StV K (Γ.set i (some d)) (σ.set i (some v)) H := ⟨by rw [List.length_set, List.length_set]; exact h.1, fun j e hj => by
  by_cases hij : i = j
  · subst hij
    by_cases hl : i < Γ.length
    · rw [List.getElem?_set_self hl] at hj
      have e' : d = e := Option.some.inj (Option.some.inj hj)
      subst e'
      exact ⟨v, by rw [List.getElem?_set_self (by rw [← h.1]; exact hl)], q⟩
    · rw [List.getElem?_eq_none (by rw [List.length_set]; omega)] at hj
      cases hj
  · rw [List.getElem?_set_ne hij] at hj
    rw [List.getElem?_set_ne hij]
    exact h.2 j e hj⟩
theorem StV.start {N : List Str} {ds : List PyData} {vs : List V} (h : HdA K H vs ds) : StV K (ds.map some ++ List.replicate (N.length - ds.length) none) (L2.start N vs) H := by
  have hl := h.length
  refine ⟨by unfold L2.start; simp [hl], fun i d q => ?_⟩
  unfold L2.start
  by_cases hi : i < ds.length
  · rw [List.getElem?_append_left (by simpa using hi), List.getElem?_map] at q
    cases e : ds[i]? with
    | none => rw [e] at q; cases q
    | some d' =>
      rw [e] at q
      have e' : d' = d := Option.some.inj (Option.some.inj q)
      subst e'
      obtain ⟨v, hv, hd⟩ := h.get e
      exact ⟨v, by rw [List.getElem?_append_left (by simpa [hl] using hi), List.getElem?_map, hv] <;> rfl, hd⟩
  · rw [List.getElem?_append_right (by simpa using hi), List.getElem?_replicate] at q
    split at q <;> cases q
theorem StV.wipe {own : List Nat} (h : StV K Γ σ H) : StV K (own.foldr (fun i g => g.set i none) Γ) (wipe σ own) H := by
  induction own with
  | nil => exact h
  | cons i own ih =>
    show StV K ((own.foldr (fun i g => g.set i none) Γ).set i none) ((L2.wipe σ own).set i none) H
    refine ⟨by rw [List.length_set, List.length_set]; exact ih.1, fun j d hj => ?_⟩
    by_cases hij : i = j
    · subst hij
      by_cases hl : i < (own.foldr (fun i g => g.set i none) Γ).length
      · rw [List.getElem?_set_self hl] at hj; cases hj
      · rw [List.getElem?_eq_none (by rw [List.length_set]; omega)] at hj; cases hj
    · rw [List.getElem?_set_ne hij] at hj
      rw [List.getElem?_set_ne hij]
      exact ih.2 j d hj
end

/-! ### expressions -/
section
variable (X : Cx)
def wE (e : Expr) : TE := fun σ H Q => ∃ t, PE X e t ∧ t σ H Q
def wT (e : Expr) : TT := fun σ H Q => ∃ t, PT X e t ∧ t σ H Q
def wW (e : Expr) : TT := fun σ H Q => ∃ t, PW X e t ∧ t σ H Q
def wA (es : List Expr) : TA := fun σ H Q => ∃ t, PA X es t ∧ t σ H Q
def wO (e : Option Expr) : TO := fun σ H Q => ∃ t, PO X e t ∧ t σ H Q
def wI (tg e : Expr) : TI := fun σ H R => ∃ t, PI X tg e t ∧ t σ H R
def wS (st : Stmt) : TS := fun D σ H => ∃ t, PS X st t ∧ t D σ H
def wB (sts : List Stmt) : TS := fun D σ H => ∃ t, PSs X sts t ∧ t D σ H
end
section
variable {X : Cx}
theorem wE_ok (e : Expr) : PE X e (wE X e) := ⟨fun pins s σ H Q I ⟨t, h, q⟩ => h.run pins s σ H Q I q⟩
theorem wT_ok (e : Expr) : PT X e (wT X e) := ⟨fun pins s σ H Q I ⟨t, h, q⟩ => h.run pins s σ H Q I q⟩
theorem wW_ok (e : Expr) : PW X e (wW X e) := ⟨fun wh pins s σ H Q I ⟨t, h, q⟩ => h.run wh pins s σ H Q I q⟩
theorem wA_ok (es : List Expr) : PA X es (wA X es) := ⟨fun pos pins s σ H Q I ⟨t, h, q⟩ => h.run pos pins s σ H Q I q⟩
theorem wO_ok (e : Option Expr) : PO X e (wO X e) := ⟨fun pins s σ H Q I ⟨t, h, q⟩ => h.run pins s σ H Q I q⟩
theorem wI_ok (tg e : Expr) : PI X tg e (wI X tg e) := ⟨fun pins s σ H R I ⟨t, h, q⟩ => h.run pins s σ H R I q⟩
theorem wS_ok (st : Stmt) : PS X st (wS X st) := ⟨fun pins s σ H D I ⟨t, h, q⟩ => h.run pins s σ H D I q⟩
theorem wB_ok (sts : List Stmt) : PSs X sts (wB X sts) := ⟨fun pins s σ H D I ⟨t, h, q⟩ => h.run pins s σ H D I q⟩
end
end Tw
namespace Tw
open PySem PySem.Spec PyProof.Rows L2

/-! ### expressions that make new things only -/
section
variable (X : Cx)
structure PD (e : Expr) (Γ : Ev) (d : PyData) : Prop where
  run : ∀ (σ : L2.St) (H : Hp), StV X.K Γ σ H → ∀ Q : VK, (∀ v H', Same H H' → Hd X.K H' v d → Q v H') → wE X e σ H Q
/-- a new list -/
structure PDL (e : Expr) (Γ : Ev) (ds : List PyData) : Prop where
  run : ∀ (σ : L2.St) (H : Hp), StV X.K Γ σ H → ∀ Q : VK, (∀ p vs H', H p = none → Same H H' → H' p = some (.lst vs) → HdA X.K H' vs ds → Q (.ref p) H') → wE X e σ H Q
structure PTD (e : Expr) (Γ : Ev) (b : Bool) : Prop where
  run : ∀ (σ : L2.St) (H : Hp), StV X.K Γ σ H → ∀ Q : Bool → Hp → Prop, (∀ H', Same H H' → Q b H') → wT X e σ H Q
structure PWD (e : Expr) (Γ : Ev) (b : Bool) : Prop where
  run : ∀ (σ : L2.St) (H : Hp), StV X.K Γ σ H → ∀ Q : Bool → Hp → Prop, (∀ H', Same H H' → Q b H') → wW X e σ H Q
structure PAD (es : List Expr) (Γ : Ev) (ds : List PyData) : Prop where
  run : ∀ (σ : L2.St) (H : Hp), StV X.K Γ σ H → ∀ Q : List V → Hp → Prop, (∀ vs H', Same H H' → HdA X.K H' vs ds → Q vs H') → wA X es σ H Q
structure POD (e : Option Expr) (Γ : Ev) (i : Option Int) : Prop where
  run : ∀ (σ : L2.St) (H : Hp), StV X.K Γ σ H → ∀ Q : Option Int → Hp → Prop, (∀ H', Same H H' → Q i H') → wO X e σ H Q
/-- an operation on two data | a call's | a subscript's | a method's -/
structure OD (f : Value → Value → Sem Value) (dx dy dz : PyData) : Prop where
  run : ∃ r, OpR X f r ∧ ∀ (H : Hp) (x y : V), Hd X.K H x dx → Hd X.K H y dy → ∀ Q : VK, (∀ v H', Same H H' → Hd X.K H' v dz → Q v H') → r x y H Q
structure ODL (f : Value → Value → Sem Value) (dx dy : PyData) (ds : List PyData) : Prop where
  run : ∃ r, OpR X f r ∧ ∀ (H : Hp) (x y : V), Hd X.K H x dx → Hd X.K H y dy → ∀ Q : VK, (∀ p vs H', H p = none → Same H H' → H' p = some (.lst vs) → HdA X.K H' vs ds → Q (.ref p) H') → r x y H Q
structure ID (dx dy dz : PyData) : Prop where
  run : ∃ r, IxR X r ∧ ∀ (H : Hp) (x y : V), Hd X.K H x dx → Hd X.K H y dy → ∀ Q : VK, (∀ v H', Same H H' → Hd X.K H' v dz → Q v H') → r x y H Q
structure CD (f : Value) (ds : List PyData) (dz : PyData) : Prop where
  run : ∃ r, CallR X f r ∧ ∀ (H : Hp) (xs : List V), HdA X.K H xs ds → ∀ Q : VK, (∀ v H', Same H H' → Hd X.K H' v dz → Q v H') → r xs H Q
structure CDL (f : Value) (ds : List PyData) (es : List PyData) : Prop where
  run : ∃ r, CallR X f r ∧ ∀ (H : Hp) (xs : List V), HdA X.K H xs ds → ∀ Q : VK, (∀ p vs H', H p = none → Same H H' → H' p = some (.lst vs) → HdA X.K H' vs es → Q (.ref p) H') → r xs H Q
structure MD (T id : String) (dx : PyData) (ds : List PyData) (dz : PyData) : Prop where
  run : (∀ (H : Hp) (x : V), Hd X.K H x dx → tyV X.K T x H) ∧ ∃ r, MtR X id r ∧ ∀ (H : Hp) (x : V) (xs : List V), Hd X.K H x dx → HdA X.K H xs ds → ∀ Q : VK, (∀ v H', Same H H' → Hd X.K H' v dz → Q v H') → r x xs H Q
end
instance coe_PD {X : Cx} {e : Expr} {Γ : Ev} {d : PyData} : CoeFun (PD X e Γ d) fun _ => ∀ (σ : L2.St) (H : Hp), StV X.K Γ σ H → ∀ Q : VK, (∀ v H', Same H H' → Hd X.K H' v d → Q v H') → wE X e σ H Q := ⟨fun h => h.run⟩
instance coe_PDL {X : Cx} {e : Expr} {Γ : Ev} {ds : List PyData} : CoeFun (PDL X e Γ ds) fun _ => ∀ (σ : L2.St) (H : Hp), StV X.K Γ σ H → ∀ Q : VK, (∀ p vs H', H p = none → Same H H' → H' p = some (.lst vs) → HdA X.K H' vs ds → Q (.ref p) H') → wE X e σ H Q := ⟨fun h => h.run⟩
instance coe_PTD {X : Cx} {e : Expr} {Γ : Ev} {b : Bool} : CoeFun (PTD X e Γ b) fun _ => ∀ (σ : L2.St) (H : Hp), StV X.K Γ σ H → ∀ Q : Bool → Hp → Prop, (∀ H', Same H H' → Q b H') → wT X e σ H Q := ⟨fun h => h.run⟩
instance coe_PWD {X : Cx} {e : Expr} {Γ : Ev} {b : Bool} : CoeFun (PWD X e Γ b) fun _ => ∀ (σ : L2.St) (H : Hp), StV X.K Γ σ H → ∀ Q : Bool → Hp → Prop, (∀ H', Same H H' → Q b H') → wW X e σ H Q := ⟨fun h => h.run⟩
instance coe_PAD {X : Cx} {es : List Expr} {Γ : Ev} {ds : List PyData} : CoeFun (PAD X es Γ ds) fun _ => ∀ (σ : L2.St) (H : Hp), StV X.K Γ σ H → ∀ Q : List V → Hp → Prop, (∀ vs H', Same H H' → HdA X.K H' vs ds → Q vs H') → wA X es σ H Q := ⟨fun h => h.run⟩
instance coe_POD {X : Cx} {e : Option Expr} {Γ : Ev} {i : Option Int} : CoeFun (POD X e Γ i) fun _ => ∀ (σ : L2.St) (H : Hp), StV X.K Γ σ H → ∀ Q : Option Int → Hp → Prop, (∀ H', Same H H' → Q i H') → wO X e σ H Q := ⟨fun h => h.run⟩
section
variable {X : Cx} {a b c e : Expr} {es rest : List Expr} {pos p : Pos} {Γ Γ' : Ev} {d dx dy dz : PyData} {ds : List PyData}
theorem PDL.pd (h : PDL X e Γ ds) : PD X e Γ (.list ds) := .mk fun σ H st Q q => h σ H st Q fun p vs H' _ e1 h1 h2 => q _ H' e1 (.lst h1 h2)
theorem PD.is {d' : PyData} (h : PD X e Γ d) (q : d = d') : PD X e Γ d' := by rw [← q]; exact h
theorem PTD.is {d d' : Bool} (h : PTD X e Γ d) (q : d = d') : PTD X e Γ d' := by rw [← q]; exact h
theorem PD.le (l : Le Γ Γ') (h : PD X e Γ' d) : PD X e Γ d := .mk fun σ H st Q q => h σ H (st.le l) Q q
theorem PTD.le {b : Bool} (l : Le Γ Γ') (h : PTD X e Γ' b) : PTD X e Γ b := .mk fun σ H st Q q => h σ H (st.le l) Q q
theorem ODL.od {f : Value → Value → Sem Value} (h : ODL X f dx dy ds) : OD X f dx dy (.list ds) := let ⟨r, hr, k⟩ := h; ⟨r, hr, fun H x y hx hy Q q => k H x y hx hy Q fun p vs H' _ e1 h1 h2 => q _ H' e1 (.lst h1 h2)⟩
theorem CDL.cd {f : Value} {es : List PyData} (h : CDL X f ds es) : CD X f ds (.list es) := let ⟨r, hr, k⟩ := h; ⟨r, hr, fun H x hx Q q => k H x hx Q fun p vs H' _ e1 h1 h2 => q _ H' e1 (.lst h1 h2)⟩
theorem OD.is {f : Value → Value → Sem Value} {dz' : PyData} (h : OD X f dx dy dz) (q : dz = dz') : OD X f dx dy dz' := by rw [← q]; exact h

theorem pd_var {i : Nat} {x : Str} (hN : X.N[i]? = some x) (hΓ : Γ[i]? = some (some d)) (hv : Vis X.env.scope x := by first | exact Or.inl rfl | exact Or.inr (Or.inl rfl) | exact Or.inr (Or.inr rfl)) (hd : (x == ("__debug__" : Str)) = false := by decide)
    (hcd : (x == ("__classdict__" : Str)) = false := by decide) : PD X (.Name x pos) Γ d := .mk fun σ H st Q q => by
  obtain ⟨v, hs, hv'⟩ := st.2 i d hΓ
  exact ⟨_, pe_var hN hv hd hcd, v, hs, q v H (Same.refl H) hv'⟩
theorem pd_int {i : Int} {j : Nat} : PD X (.Constant (.int i) j pos) Γ (.int i) := .mk fun σ H st Q q => ⟨_, pe_int, q _ H (Same.refl H) (.int i)⟩
theorem pd_bl {i : Bool} {j : Nat} : PD X (.Constant (.bool i) j pos) Γ (.bool i) := .mk fun σ H st Q q => ⟨_, pe_bl, q _ H (Same.refl H) (.bl i)⟩
theorem pd_non {j : Nat} : PD X (.Constant .none j pos) Γ .none := .mk fun σ H st Q q => ⟨_, pe_non, q _ H (Same.refl H) .non⟩
theorem pd_str {x : Str} {j : Nat} : PD X (.Constant (.str x) j pos) Γ (.str x) := .mk fun σ H st Q q => ⟨_, pe_str, q _ H (Same.refl H) (.str x)⟩
theorem pd_neg {i : Int} (h : PD X e Γ (.int i)) : PD X (.UnaryOp .USub e pos) Γ (.int (-i)) := .mk fun σ H st Q q =>
  ⟨_, pe_un un_neg (wE_ok e), h σ H st _ fun v H1 e1 hv => by cases hv; exact ⟨i, rfl, q _ H1 e1 (.int _)⟩⟩
theorem pd_bin {op : Operator} (ha : PD X a Γ dx) (hb : PD X b Γ dy) (ho : OD X (binaryOp op) dx dy dz) : PD X (.BinOp a op b pos) Γ dz := .mk fun σ H st Q q => by
  obtain ⟨r, hr, k⟩ := ho
  exact ⟨_, pe_op hr (wE_ok a) (wE_ok b), ha σ H st _ fun x H1 e1 hx => hb σ H1 (st.same e1) _ fun y H2 e2 hy => k H2 x y (hx.same e2) hy _ fun v H3 e3 hv => q v H3 ((e1.trans e2).trans e3) hv⟩
theorem pdl_bin {op : Operator} (ha : PD X a Γ dx) (hb : PD X b Γ dy) (ho : ODL X (binaryOp op) dx dy ds) : PDL X (.BinOp a op b pos) Γ ds := .mk fun σ H st Q q => by
  obtain ⟨r, hr, k⟩ := ho
  exact ⟨_, pe_op hr (wE_ok a) (wE_ok b), ha σ H st _ fun x H1 e1 hx => hb σ H1 (st.same e1) _ fun y H2 e2 hy => k H2 x y (hx.same e2) hy _ fun p vs H3 hp e3 h1 h2 => q p vs H3 (same_back (e1.trans e2) hp) ((e1.trans e2).trans e3) h1 h2⟩
theorem pd_cmp {op : CmpOp} (ha : PD X a Γ dx) (hb : PD X b Γ dy) (ho : OD X (compareOp op) dx dy dz) (hm : behindInMarks op b = false := by first | exact nomark _ | rfl) : PD X (.Compare a [op] [b] pos) Γ dz := .mk fun σ H st Q q => by
  obtain ⟨r, hr, k⟩ := ho
  exact ⟨_, pe_cmpR hr (wE_ok a) (wE_ok b) hm, ha σ H st _ fun x H1 e1 hx => hb σ H1 (st.same e1) _ fun y H2 e2 hy => k H2 x y (hx.same e2) hy _ fun v H3 e3 hv => q v H3 ((e1.trans e2).trans e3) hv⟩
theorem pd_chain {op op' : CmpOp} {k1 k2 : Bool} {dw : PyData} (ha : PD X a Γ dx) (hb : PD X b Γ dy) (hc : PD X c Γ dw) (ho : OD X (compareOp op) dx dy (.bool k1)) (ho' : OD X (compareOp op') dy dw (.bool k2))
    (hm : lastMarks [op, op'] [b, c] = false := by rfl) : PD X (.Compare a [op, op'] [b, c] pos) Γ (.bool (k1 && k2)) := .mk fun σ H st Q q => by
  obtain ⟨r, hr, k⟩ := ho
  obtain ⟨r', hr', k'⟩ := ho'
  refine ⟨_, pe_chain hr hr' (wE_ok a) (wE_ok b) (wE_ok c) hm, ha σ H st _ fun x H1 e1 hx => hb σ H1 (st.same e1) _ fun y H2 e2 hy => k H2 x y (hx.same e2) hy _ fun v H3 e3 hv => ?_⟩
  cases hv
  refine ⟨k1, rfl, ?_⟩
  cases k1 with
  | false =>
    rw [if_neg (by decide)]
    exact q _ H3 ((e1.trans e2).trans e3) (.bl _)
  | true =>
    rw [if_pos rfl]
    exact hc σ H3 (st.same ((e1.trans e2).trans e3)) _ fun w H4 e4 hw => k' H4 y w ((hy.same e3).same e4) hw _ fun v H5 e5 hv => q v H5 ((((e1.trans e2).trans e3).trans e4).trans e5) hv
theorem ptd_val {k : Bool} (h : PD X e Γ (.bool k)) (he : ∀ whole, isTrue e X.env whole = (do let v ← whole; standAt e.pos; holding [v] (truthy v)) := by intro _; rfl) : PTD X e Γ k := .mk fun σ H st Q q =>
  ⟨_, pt_val (wE_ok e) he, h σ H st _ fun v H1 e1 hv => by cases hv; exact ⟨k, rfl, q H1 e1⟩⟩
theorem ptd_cmp {op : CmpOp} {k : Bool} (ha : PD X a Γ dx) (hb : PD X b Γ dy) (ho : OD X (compareOp op) dx dy (.bool k)) (hm : behindInMarks op b = false := by first | exact nomark _ | rfl) : PTD X (.Compare a [op] [b] pos) Γ k := .mk fun σ H st Q q => by
  obtain ⟨r, hr, k'⟩ := ho
  exact ⟨_, pt_cmpR hr (wE_ok a) (wE_ok b) hm, ha σ H st _ fun x H1 e1 hx => hb σ H1 (st.same e1) _ fun y H2 e2 hy => k' H2 x y (hx.same e2) hy _ fun v H3 e3 hv => by cases hv; exact ⟨k, rfl, q H3 ((e1.trans e2).trans e3)⟩⟩
theorem ptd_chain {op op' : CmpOp} {k1 k2 : Bool} {dw : PyData} (ha : PD X a Γ dx) (hb : PD X b Γ dy) (hc : PD X c Γ dw) (ho : OD X (compareOp op) dx dy (.bool k1)) (ho' : OD X (compareOp op') dy dw (.bool k2)) (hm : lastMarks [op, op'] [b, c] = false := by rfl) : PTD X (.Compare a [op, op'] [b, c] pos) Γ (k1 && k2) := .mk fun σ H st Q q => by
  obtain ⟨r, hr, k⟩ := ho
  obtain ⟨r', hr', k'⟩ := ho'
  refine ⟨_, pt_chain hr hr' (wE_ok a) (wE_ok b) (wE_ok c) hm, ha σ H st _ fun x H1 e1 hx => hb σ H1 (st.same e1) _ fun y H2 e2 hy => k H2 x y (hx.same e2) hy _ fun v H3 e3 hv => ?_⟩
  cases hv
  refine ⟨k1, rfl, ?_⟩
  cases k1 with
  | false =>
    rw [if_neg (by decide)]
    exact ⟨false, rfl, q H3 ((e1.trans e2).trans e3)⟩
  | true =>
    rw [if_pos rfl]
    exact hc σ H3 (st.same ((e1.trans e2).trans e3)) _ fun w H4 e4 hw => k' H4 y w ((hy.same e3).same e4) hw _ fun v H5 e5 hv => by cases hv; exact ⟨k2, rfl, q H5 ((((e1.trans e2).trans e3).trans e4).trans e5)⟩
theorem ptd_not {k : Bool} (h : PTD X e Γ k) : PTD X (.UnaryOp .Not e pos) Γ (!k) := .mk fun σ H st Q q => ⟨_, pt_not (wT_ok e), h σ H st _ fun H1 e1 => q H1 e1⟩
theorem ptd_bool {op : BoolOp} {k : Bool} (h : PWD X (.BoolOp op es pos) Γ k) : PTD X (.BoolOp op es pos) Γ k := .mk fun σ H st Q q => ⟨_, (wW_ok _).pt, h σ H st Q q⟩
theorem pwd_and1 {k : Bool} (h : PTD X a Γ k) : PWD X (.BoolOp .And [a] pos) Γ k := .mk fun σ H st Q q => ⟨_, pw_and1 (wT_ok a), h σ H st Q q⟩
theorem pwd_or1 {k : Bool} (h : PTD X a Γ k) : PWD X (.BoolOp .Or [a] pos) Γ k := .mk fun σ H st Q q => ⟨_, pw_or1 (wT_ok a), h σ H st Q q⟩
theorem pwd_and {k j : Bool} (h : PTD X a Γ k) (h2 : k = true → PWD X (.BoolOp .And (b :: rest) pos) Γ j) : PWD X (.BoolOp .And (a :: b :: rest) pos) Γ (k && j) := .mk fun σ H st Q q => ⟨_, pw_and (wT_ok a) (wW_ok _), h σ H st _ fun H1 e1 => by
  cases k with
  | true =>
    rw [if_pos rfl]
    exact h2 rfl σ H1 (st.same e1) Q fun H2 e2 => q H2 (e1.trans e2)
  | false =>
    rw [if_neg (by decide)]
    exact q H1 e1⟩
theorem pwd_or {k j : Bool} (h : PTD X a Γ k) (h2 : k = false → PWD X (.BoolOp .Or (b :: rest) pos) Γ j) : PWD X (.BoolOp .Or (a :: b :: rest) pos) Γ (k || j) := .mk fun σ H st Q q => ⟨_, pw_or (wT_ok a) (wW_ok _), h σ H st _ fun H1 e1 => by
  cases k with
  | false =>
    rw [if_neg (by decide)]
    exact h2 rfl σ H1 (st.same e1) Q fun H2 e2 => q H2 (e1.trans e2)
  | true =>
    rw [if_pos rfl]
    exact q H1 e1⟩
theorem pd_one {op : BoolOp} (h : PD X a Γ d) : PD X (.BoolOp op [a] pos) Γ d := .mk fun σ H st Q q => ⟨_, pe_one (wE_ok a), h σ H st Q q⟩
theorem pd_and {k j : Bool} (h : PD X a Γ (.bool k)) (h2 : k = true → PD X (.BoolOp .And (b :: rest) pos) Γ (.bool j)) : PD X (.BoolOp .And (a :: b :: rest) pos) Γ (.bool (k && j)) := .mk fun σ H st Q q => ⟨_, pe_and (wE_ok a) (wE_ok _), h σ H st _ fun v H1 e1 hv => by
  cases hv
  refine ⟨k, rfl, ?_⟩
  cases k with
  | true =>
    rw [if_pos rfl]
    exact h2 rfl σ H1 (st.same e1) Q fun v H2 e2 => q v H2 (e1.trans e2)
  | false =>
    rw [if_neg (by decide)]
    exact q _ H1 e1 (.bl _)⟩
theorem pd_or {k j : Bool} (h : PD X a Γ (.bool k)) (h2 : k = false → PD X (.BoolOp .Or (b :: rest) pos) Γ (.bool j)) : PD X (.BoolOp .Or (a :: b :: rest) pos) Γ (.bool (k || j)) := .mk fun σ H st Q q => ⟨_, pe_or (wE_ok a) (wE_ok _), h σ H st _ fun v H1 e1 hv => by
  cases hv
  refine ⟨k, rfl, ?_⟩
  cases k with
  | false =>
    rw [if_neg (by decide)]
    exact h2 rfl σ H1 (st.same e1) Q fun v H2 e2 => q v H2 (e1.trans e2)
  | true =>
    rw [if_pos rfl]
    exact q _ H1 e1 (.bl _)⟩
theorem pd_not {k : Bool} (h : PD X e Γ (.bool k)) : PD X (.UnaryOp .Not e pos) Γ (.bool (!k)) := .mk fun σ H st Q q => ⟨_, pe_not (wE_ok e), h σ H st _ fun v H1 e1 hv => by cases hv; exact ⟨k, rfl, q _ H1 e1 (.bl _)⟩⟩
theorem pd_if {k : Bool} (h : PTD X c Γ k) (h1 : k = true → PD X a Γ d) (h2 : k = false → PD X b Γ d) : PD X (.IfExp c a b pos) Γ d := .mk fun σ H st Q q => ⟨_, pe_ifExp (wT_ok c) (wE_ok a) (wE_ok b), h σ H st _ fun H1 e1 => by
  cases k with
  | true =>
    rw [if_pos rfl]
    exact h1 rfl σ H1 (st.same e1) Q fun v H2 e2 => q v H2 (e1.trans e2)
  | false =>
    rw [if_neg (by decide)]
    exact h2 rfl σ H1 (st.same e1) Q fun v H2 e2 => q v H2 (e1.trans e2)⟩
/-! arguments, displays -/
theorem pad_nil : PAD X [] Γ [] := .mk fun σ H st Q q => ⟨_, pa_nil, q [] H (Same.refl H) .nil⟩
theorem pad_cons (h : PD X a Γ d) (hr : PAD X es Γ ds) (hs : starEach (a :: es) X.env = (false, eval a X.env) :: starEach es X.env := by rfl) : PAD X (a :: es) Γ (d :: ds) := .mk fun σ H st Q q =>
  ⟨_, pa_cons (wE_ok a) (wA_ok es) hs, h σ H st _ fun v H1 e1 hv => hr σ H1 (st.same e1) _ fun vs H2 e2 hvs => q (v :: vs) H2 (e1.trans e2) (.cons (hv.same e2) hvs)⟩
theorem sz_of {n : Nat} (h : n ≤ 16000000) : n ≤ sizeLine := by rw [sizeLine_eq]; omega
theorem pd_tup {x1} (h : PAD X es Γ ds) (hz : ds.length ≤ 16000000 := by decide) : PD X (.Tuple es x1 pos) Γ (.tuple ds) := .mk fun σ H st Q q =>
  ⟨_, pe_tup (wA_ok es), h σ H st _ fun vs H1 e1 hv => ⟨sz_of (by rw [hv.length]; exact hz), fun p hp => q _ _ (e1.trans (same_new hp)) (.tup (SqT.of upd_same) (hv.same (same_new hp)))⟩⟩
theorem pdl_lst (h : PAD X es Γ ds) (hz : ds.length ≤ 16000000 := by decide) : PDL X (.List es pos) Γ ds := .mk fun σ H st Q q =>
  ⟨_, pe_lst (wA_ok es), h σ H st _ fun vs H1 e1 hv => ⟨sz_of (by rw [hv.length]; exact hz), fun p hp => q p vs _ (same_back e1 hp) (e1.trans (same_new hp)) upd_same (hv.same (same_new hp))⟩⟩
/-! subscripts -/
theorem pd_ix (ha : PD X a Γ dx) (hb : PD X b Γ dy) (ho : ID X dx dy dz) (hs : PlainIx b := by exact fun _ _ => rfl) : PD X (.Subscript a b pos) Γ dz := .mk fun σ H st Q q => by
  obtain ⟨r, hr, k⟩ := ho
  exact ⟨_, pe_ix hr (wE_ok a) (wE_ok b) hs, ha σ H st _ fun x H1 e1 hx => hb σ H1 (st.same e1) _ fun y H2 e2 hy => k H2 x y (hx.same e2) hy _ fun v H3 e3 hv => q v H3 ((e1.trans e2).trans e3) hv⟩
theorem HdA.at {K : PySem.W.Frag} {H : Hp} {vs : List V} {ds : List PyData} {i : Int} {d : PyData} (h : HdA K H vs ds) (e : atI ds i = some d) : ∃ v, atI vs i = some v ∧ Hd K H v d := by
  unfold atI at e ⊢
  rw [h.length]
  cases q : ixN ds.length i with
  | none => rw [q] at e; cases e
  | some j =>
    rw [q] at e
    exact h.get e
theorem id_list {i : Int} (h : atI ds i = some d) : ID X (.list ds) (.int i) d := ⟨_, ix_list, fun H x y hx hy Q q => by
  obtain ⟨a, xs, rfl, h1, h2⟩ := hx.list_inv
  obtain rfl := hy.int_inv
  obtain ⟨v, hv, hd⟩ := h2.at h
  exact ⟨a, xs, i, v, rfl, rfl, SqL.of h1, hv, q v H (Same.refl H) hd⟩⟩
theorem id_tup {i : Int} (h : atI ds i = some d) : ID X (.tuple ds) (.int i) d := ⟨_, ix_tup, fun H x y hx hy Q q => by
  obtain ⟨a, xs, rfl, h1, h2⟩ := hx.tup_inv
  obtain rfl := hy.int_inv
  obtain ⟨v, hv, hd⟩ := h2.at h
  exact ⟨a, xs, i, v, rfl, rfl, h1, hv, q v H (Same.refl H) hd⟩⟩
theorem id_scr {ns : List Int} {i n : Int} (h : atI ns i = some n) : ID X (scD ns) (.int i) (.int n) := ⟨_, ix_list, fun H x y hx hy Q q => by
  obtain ⟨a, rfl, h1⟩ := hx.sc_inv
  obtain rfl := hy.int_inv
  have hv : atI (ns.map V.int) i = some (.int n) := by
    unfold atI at h ⊢
    rw [List.length_map]
    cases e : ixN ns.length i with
    | none => rw [e] at h; cases h
    | some j =>
      rw [e] at h
      show (ns.map V.int)[j]? = _
      rw [List.getElem?_map, (show ns[j]? = some n from h)] <;> rfl
  exact ⟨a, _, i, _, rfl, rfl, h1, hv, q _ H (Same.refl H) (.int n)⟩⟩
theorem pod_none : POD X none Γ none := .mk fun σ H st Q q => ⟨_, po_none, q H (Same.refl H)⟩
theorem pod_some {i : Int} (h : PD X e Γ (.int i)) : POD X (some e) Γ (some i) := .mk fun σ H st Q q => ⟨_, po_some (wE_ok e), h σ H st _ fun v H1 e1 hv => by cases hv; exact ⟨i, rfl, q H1 e1⟩⟩
def cutD {α : Type} (xs : List α) (lo hi : Option Int) : List α := (xs.drop (HT.sIx xs.length 0 lo)).take (HT.sIx xs.length xs.length hi - HT.sIx xs.length 0 lo)
theorem HdA.cut {K : PySem.W.Frag} {H : Hp} {vs : List V} {lo hi : Option Int} (h : HdA K H vs ds) : HdA K H (cutV vs lo hi) (cutD ds lo hi) := by
  unfold cutV cutD
  rw [h.length]
  exact (h.drop _).take _
theorem pdl_sl {lo hi : Option Expr} {l u : Option Int} {p2 : Pos} (h : PD X e Γ (.list ds)) (h1 : POD X lo Γ l) (h2 : POD X hi Γ u) : PDL X (.Subscript e (.Slice lo hi none p2) pos) Γ (cutD ds l u) := .mk fun σ H st Q q =>
  ⟨_, pe_slice sl_list (wE_ok e) (wO_ok lo) (wO_ok hi), h σ H st _ fun v H1 e1 hv => h1 σ H1 (st.same e1) _ fun H2 e2 => h2 σ H2 (st.same (e1.trans e2)) _ fun H3 e3 => by
    obtain ⟨a, xs, rfl, q1, q2⟩ := (hv.same (e2.trans e3)).list_inv
    exact ⟨a, xs, rfl, SqL.of q1, fun p hp => q p _ _ (same_back ((e1.trans e2).trans e3) hp) (((e1.trans e2).trans e3).trans (same_new hp)) upd_same ((q2.same (same_new hp)).cut)⟩⟩
theorem pd_slT {lo hi : Option Expr} {l u : Option Int} {p2 : Pos} (h : PD X e Γ (.tuple ds)) (h1 : POD X lo Γ l) (h2 : POD X hi Γ u) : PD X (.Subscript e (.Slice lo hi none p2) pos) Γ (.tuple (cutD ds l u)) := .mk fun σ H st Q q =>
  ⟨_, pe_slice sl_tupA (wE_ok e) (wO_ok lo) (wO_ok hi), h σ H st _ fun v H1 e1 hv => h1 σ H1 (st.same e1) _ fun H2 e2 => h2 σ H2 (st.same (e1.trans e2)) _ fun H3 e3 => by
    obtain ⟨a, xs, rfl, q1, q2⟩ := (hv.same (e2.trans e3)).tup_inv
    refine ⟨a, xs, rfl, q1, fun w => ?_, fun _ p hp => q _ _ (((e1.trans e2).trans e3).trans (same_new hp)) (.tup (SqT.of upd_same) ((q2.same (same_new hp)).cut))⟩
    refine q _ H3 ((e1.trans e2).trans e3) (.tup q1 ?_)
    have q3 := q2.cut (lo := l) (hi := u)
    have ev : cutV xs l u = xs := by
      unfold cutV
      rw [w.1, w.2, List.drop_zero, Nat.sub_zero, List.take_length]
    rw [ev] at q3
    exact q3⟩
/-! calls of built-ins -/
theorem pd_callB {x : Str} {id : String} (ho : CD X (.builtin id) ds d) (hg : Gl X x) (hm : X.mg x = none) (hv : bootBuiltins x = some (.builtin id)) (ha : PAD X (e :: es) Γ ds) (hn : x ≠ "__name__" := by decide) (hdb : (x == ("__debug__" : Str)) = false := by decide)
    (he : starEach (e :: es) X.env = (false, eval e X.env) :: starEach es X.env := by rfl) (hpl : (backTo pos (starEach es X.env)).any (·.1) = false := by rfl) : PD X (.Call (.Name x p) (e :: es) [] pos) Γ d := .mk fun σ H st Q q => by
  obtain ⟨r, hr, k⟩ := ho
  exact ⟨_, pe_callB hr hg hm hv (wA_ok (e :: es)) hn hdb he hpl, ha σ H st _ fun vs H1 e1 hvs => k H1 vs hvs _ fun v H2 e2 hv => q v H2 (e1.trans e2) hv⟩
theorem pd_callT {x : Str} {id : String} (ho : CD X (.type id) ds d) (hg : Gl X x) (hm : X.mg x = none) (hv : bootBuiltins x = some (.type id)) (ha : PAD X (e :: es) Γ ds) (hn : x ≠ "__name__" := by decide) (hdb : (x == ("__debug__" : Str)) = false := by decide)
    (he : starEach (e :: es) X.env = (false, eval e X.env) :: starEach es X.env := by rfl) (hpl : (backTo pos (starEach es X.env)).any (·.1) = false := by rfl) : PD X (.Call (.Name x p) (e :: es) [] pos) Γ d := .mk fun σ H st Q q => by
  obtain ⟨r, hr, k⟩ := ho
  exact ⟨_, pe_callTy hr hg hm hv (wA_ok (e :: es)) hn hdb he hpl, ha σ H st _ fun vs H1 e1 hvs => k H1 vs hvs _ fun v H2 e2 hv => q v H2 (e1.trans e2) hv⟩
theorem pdl_callT {x : Str} {id : String} {es' : List PyData} (ho : CDL X (.type id) ds es') (hg : Gl X x) (hm : X.mg x = none) (hv : bootBuiltins x = some (.type id)) (ha : PAD X (e :: es) Γ ds) (hn : x ≠ "__name__" := by decide) (hdb : (x == ("__debug__" : Str)) = false := by decide)
    (he : starEach (e :: es) X.env = (false, eval e X.env) :: starEach es X.env := by rfl) (hpl : (backTo pos (starEach es X.env)).any (·.1) = false := by rfl) : PDL X (.Call (.Name x p) (e :: es) [] pos) Γ es' := .mk fun σ H st Q q => by
  obtain ⟨r, hr, k⟩ := ho
  exact ⟨_, pe_callTy hr hg hm hv (wA_ok (e :: es)) hn hdb he hpl, ha σ H st _ fun vs H1 e1 hvs => k H1 vs hvs _ fun p vs H2 hp e2 h1 h2 => q p vs H2 (same_back e1 hp) (e1.trans e2) h1 h2⟩
theorem pd_meth {o : Expr} {name : Str} {apos cpos : Pos} {T id : String} (pa : PlainAttrs T) (slot : Slot T name id) (hty : typeOf (.builtin id) = pure (.type "method_descriptor")) (hm : MD X T id dx ds d) (ho : PD X o Γ dx) (ha : PAD X (e :: es) Γ ds)
    (hbase : attributeBase o name X.env (eval o X.env) = eval o X.env := by rfl)
    (hfew : ((backTo cpos (starEach (e :: es) X.env)).all (fun x => !x.1) && (backToKw cpos (keywordEach [] X.env)).all (fun x => x.1.isSome)
      && decide ((e :: es).length + ([] : List Keyword).length + (if ([] : List Keyword).isEmpty then 0 else 1) < 30)) = true := by rfl)
    (hline : (apos.endLine == cpos.line) = true := by rfl) (hs : starEach (e :: es) X.env = (false, eval e X.env) :: starEach es X.env := by rfl) (hplain : (backTo cpos (starEach es X.env)).any (·.1) = false := by rfl) :
    PD X (.Call (.Attribute o name apos) (e :: es) [] cpos) Γ d := .mk fun σ H st Q q => by
  obtain ⟨ht, r, hr, k⟩ := hm
  exact ⟨_, pe_bm pa slot hty hr (wE_ok o) (wA_ok (e :: es)) hbase hfew hline hs hplain, ho σ H st _ fun x H1 e1 hx => ⟨ht H1 x hx, ha σ H1 (st.same e1) _ fun vs H2 e2 hvs => k H2 x vs (hx.same e2) hvs _ fun v H3 e3 hv => q v H3 ((e1.trans e2).trans e3) hv⟩⟩

/-! ### operators -/
theorem od_I0 {f : Value → Value → Sem Value} {g : Int → Int → V} {i j : Int} (h : OpR X f (rI0 g)) (hg : ∀ H, Hd X.K H (g i j) d) : OD X f (.int i) (.int j) d := ⟨_, h, fun H x y hx hy Q q => by
  obtain rfl := hx.int_inv
  obtain rfl := hy.int_inv
  exact ⟨i, j, rfl, rfl, q _ H (Same.refl H) (hg H)⟩⟩
theorem od_I {f : Value → Value → Sem Value} {C : Int → Int → Prop} {g : Int → Int → V} {i j : Int} (h : OpR X f (rI C g)) (hc : C i j) (hg : ∀ H, Hd X.K H (g i j) d) : OD X f (.int i) (.int j) d := ⟨_, h, fun H x y hx hy Q q => by
  obtain rfl := hx.int_inv
  obtain rfl := hy.int_inv
  exact ⟨i, j, rfl, rfl, hc, q _ H (Same.refl H) (hg H)⟩⟩
theorem od_add {i j : Int} : OD X (binaryOp .Add) (.int i) (.int j) (.int (i + j)) := od_I0 op_add fun _ => .int _
theorem od_sub {i j : Int} : OD X (binaryOp .Sub) (.int i) (.int j) (.int (i - j)) := od_I0 op_sub fun _ => .int _
theorem od_mul {i j : Int} (h : CMul i j) : OD X (binaryOp .Mult) (.int i) (.int j) (.int (i * j)) := od_I op_mul h fun _ => .int _
theorem od_mod {i j : Int} (h : 0 < j) : OD X (binaryOp .Mod) (.int i) (.int j) (.int (i % j)) := od_I op_mod h fun _ => .int _
theorem od_fdiv {i j : Int} (h : CDiv i j) : OD X (binaryOp .FloorDiv) (.int i) (.int j) (.int (i / j)) := od_I op_fdiv h fun _ => .int _
theorem od_lt {i j : Int} : OD X (compareOp .Lt) (.int i) (.int j) (.bool (decide (i < j))) := od_I0 op_lt fun _ => .bl _
theorem od_le {i j : Int} : OD X (compareOp .LtE) (.int i) (.int j) (.bool (decide (i ≤ j))) := od_I0 op_le fun _ => .bl _
theorem od_gt {i j : Int} : OD X (compareOp .Gt) (.int i) (.int j) (.bool (decide (j < i))) := od_I0 op_gt fun _ => .bl _
theorem od_ge {i j : Int} : OD X (compareOp .GtE) (.int i) (.int j) (.bool (decide (j ≤ i))) := od_I0 op_ge fun _ => .bl _
theorem od_eqI {i j : Int} : OD X (compareOp .Eq) (.int i) (.int j) (.bool (decide (i = j))) := ⟨_, op_eq, fun H x y hx hy Q q => by
  obtain rfl := hx.int_inv
  obtain rfl := hy.int_inv
  refine ⟨rfl, q _ H (Same.refl H) ?_⟩
  rw [dec_int, Bool.beq_eq_decide_eq]
  exact .bl _⟩
theorem od_neI {i j : Int} : OD X (compareOp .NotEq) (.int i) (.int j) (.bool (!decide (i = j))) := ⟨_, op_ne, fun H x y hx hy Q q => by
  obtain rfl := hx.int_inv
  obtain rfl := hy.int_inv
  refine ⟨rfl, q _ H (Same.refl H) ?_⟩
  rw [dec_int, Bool.beq_eq_decide_eq]
  exact .bl _⟩
theorem od_eqB {i j : Bool} : OD X (compareOp .Eq) (.bool i) (.bool j) (.bool (i == j)) := ⟨_, op_eq, fun H x y hx hy Q q => by
  obtain rfl := hx.bool_inv
  obtain rfl := hy.bool_inv
  refine ⟨rfl, q _ H (Same.refl H) ?_⟩
  rw [dec_bl]
  exact .bl _⟩
theorem od_neB {i j : Bool} : OD X (compareOp .NotEq) (.bool i) (.bool j) (.bool (!(i == j))) := ⟨_, op_ne, fun H x y hx hy Q q => by
  obtain rfl := hx.bool_inv
  obtain rfl := hy.bool_inv
  refine ⟨rfl, q _ H (Same.refl H) ?_⟩
  rw [dec_bl]
  exact .bl _⟩
theorem od_eqS {i j : Str} : OD X (compareOp .Eq) (.str i) (.str j) (.bool (i == j)) := ⟨_, op_eq, fun H x y hx hy Q q => by
  obtain rfl := hx.str_inv
  obtain rfl := hy.str_inv
  refine ⟨rfl, q _ H (Same.refl H) ?_⟩
  rw [dec_str]
  exact .bl _⟩
theorem od_neS {i j : Str} : OD X (compareOp .NotEq) (.str i) (.str j) (.bool (!(i == j))) := ⟨_, op_ne, fun H x y hx hy Q q => by
  obtain rfl := hx.str_inv
  obtain rfl := hy.str_inv
  refine ⟨rfl, q _ H (Same.refl H) ?_⟩
  rw [dec_str]
  exact .bl _⟩
theorem shaped_lay {d : PyData} (h : SeqAt.shaped d = true) : PyData.canLay0 d = true := SeqAt.canLay_of_shaped h
theorem od_eq (hu : X.A.units + 64 < cLine) (h1 : SeqAt.shaped dx = true) (h2 : SeqAt.shaped dy = true) : OD X (compareOp .Eq) dx dy (.bool (PyData.eqv dx dy)) := ⟨_, op_eqD hu, fun H x y hx hy Q q =>
  ⟨dx, dy, Hd.dp dx x (shaped_lay h1) hx, Hd.dp dy y (shaped_lay h2) hy, h1, h2, q _ H (Same.refl H) (.bl _)⟩⟩
theorem od_ne (hu : X.A.units + 64 < cLine) (h1 : SeqAt.shaped dx = true) (h2 : SeqAt.shaped dy = true) : OD X (compareOp .NotEq) dx dy (.bool (!PyData.eqv dx dy)) := ⟨_, op_neD hu, fun H x y hx hy Q q =>
  ⟨dx, dy, Hd.dp dx x (shaped_lay h1) hx, Hd.dp dy y (shaped_lay h2) hy, h1, h2, q _ H (Same.refl H) (.bl _)⟩⟩
theorem od_isN : OD X (compareOp .Is) dx .none (.bool (isNo dx)) := ⟨_, op_isN, fun H x y hx hy Q q => by
  cases hy
  refine ⟨rfl, q _ H (Same.refl H) ?_⟩
  rw [hx.none_iff]
  exact .bl _⟩
theorem od_notN : OD X (compareOp .IsNot) dx .none (.bool (!isNo dx)) := ⟨_, op_notN, fun H x y hx hy Q q => by
  cases hy
  refine ⟨rfl, q _ H (Same.refl H) ?_⟩
  rw [hx.none_iff]
  exact .bl _⟩
theorem odl_cat {es : List PyData} (hz : ds.length + es.length ≤ 16000000) : ODL X (binaryOp .Add) (.list ds) (.list es) (ds ++ es) := ⟨_, op_cat, fun H x y hx hy Q q => by
  obtain ⟨a, xs, rfl, h1, h2⟩ := hx.list_inv
  obtain ⟨b, ys, rfl, h3, h4⟩ := hy.list_inv
  exact ⟨a, b, xs, ys, rfl, rfl, h1, h3, sz_of (by rw [h2.length, h4.length]; exact hz), fun p hp => q p _ _ hp (same_new hp) upd_same ((h2.append h4).same (same_new hp))⟩⟩
theorem od_catT {es : List PyData} (hz : ds.length + es.length ≤ 16000000) : OD X (binaryOp .Add) (.tuple ds) (.tuple es) (.tuple (ds ++ es)) := ⟨_, op_catA, fun H x y hx hy Q q => by
  obtain ⟨a, xs, rfl, h1, h2⟩ := hx.tup_inv
  obtain ⟨b, ys, rfl, h3, h4⟩ := hy.tup_inv
  refine ⟨a, b, xs, ys, rfl, rfl, h1, h3, sz_of (by rw [h2.length, h4.length]; exact hz), fun e => ?_, fun _ e => ?_, fun _ _ p hp => q _ _ (same_new hp) (.tup (SqT.of upd_same) ((h2.append h4).same (same_new hp)))⟩
  · subst e
    cases h2
    exact q _ H (Same.refl H) (.tup h3 h4)
  · subst e
    cases h4
    rw [List.append_nil] at q
    exact q _ H (Same.refl H) (.tup h1 h2)⟩
theorem odl_rep {k : Int} (h0 : 0 ≤ k) (h1 : k ≤ 1000) (hz : ds.length ≤ 10000) : ODL X (binaryOp .Mult) (.list ds) (.int k) (List.replicate k.toNat ds).flatten := ⟨_, op_rep, fun H x y hx hy Q q => by
  obtain ⟨a, xs, rfl, h2, h3⟩ := hx.list_inv
  obtain rfl := hy.int_inv
  refine ⟨a, k, xs, rfl, rfl, h2, by omega, by omega, sz_of ?_, fun p hp => q p _ _ hp (same_new hp) upd_same ((h3.rep _).same (same_new hp))⟩
  rw [h3.length]
  have e1 : k.toNat ≤ 1000 := by omega
  exact Nat.le_trans (Nat.mul_le_mul hz e1) (by decide)⟩
/-! ### built-ins -/
theorem cd_lenL : CD X (.builtin "len") [.list ds] (.int ds.length) := ⟨_, call_len_seq, fun H xs h Q q => by
  obtain ⟨v, rfl, hv⟩ := h.one_inv
  obtain ⟨a, ys, rfl, h1, h2⟩ := hv.list_inv
  refine ⟨a, ys, rfl, .inl (SqL.of h1), ?_⟩
  rw [h2.length]
  exact q _ H (Same.refl H) (.int _)⟩
theorem cd_lenT : CD X (.builtin "len") [.tuple ds] (.int ds.length) := ⟨_, call_len_seq, fun H xs h Q q => by
  obtain ⟨v, rfl, hv⟩ := h.one_inv
  obtain ⟨a, ys, rfl, h1, h2⟩ := hv.tup_inv
  refine ⟨a, ys, rfl, .inr h1, ?_⟩
  rw [h2.length]
  exact q _ H (Same.refl H) (.int _)⟩
theorem cd_lenS {ns : List Int} : CD X (.builtin "len") [scD ns] (.int ns.length) := ⟨_, call_len_seq, fun H xs h Q q => by
  obtain ⟨v, rfl, hv⟩ := h.one_inv
  obtain ⟨a, rfl, h1⟩ := hv.sc_inv
  refine ⟨a, _, rfl, .inl h1, ?_⟩
  rw [List.length_map]
  exact q _ H (Same.refl H) (.int _)⟩
theorem cd_tupL : CD X (.type "tuple") [.list ds] (.tuple ds) := ⟨_, call_tuple_of, fun H xs h Q q => by
  obtain ⟨v, rfl, hv⟩ := h.one_inv
  obtain ⟨a, ys, rfl, h1, h2⟩ := hv.list_inv
  exact ⟨a, ys, rfl, .inl ⟨SqL.of h1, fun l hl => q _ _ (same_new hl) (.tup (SqT.of upd_same) (h2.same (same_new hl)))⟩⟩⟩
theorem cd_tupT : CD X (.type "tuple") [.tuple ds] (.tuple ds) := ⟨_, call_tuple_of, fun H xs h Q q => by
  obtain ⟨v, rfl, hv⟩ := h.one_inv
  obtain ⟨a, ys, rfl, h1, h2⟩ := hv.tup_inv
  exact ⟨a, ys, rfl, .inr ⟨h1, q _ H (Same.refl H) (.tup h1 h2)⟩⟩⟩
theorem cdl_listL : CDL X (.type "list") [.list ds] ds := ⟨_, call_list_of, fun H xs h Q q => by
  obtain ⟨v, rfl, hv⟩ := h.one_inv
  obtain ⟨a, ys, rfl, h1, h2⟩ := hv.list_inv
  exact ⟨a, ys, rfl, .inl (SqL.of h1), fun l hl => q _ _ _ hl (same_new hl) upd_same (h2.same (same_new hl))⟩⟩
theorem cdl_listT : CDL X (.type "list") [.tuple ds] ds := ⟨_, call_list_of, fun H xs h Q q => by
  obtain ⟨v, rfl, hv⟩ := h.one_inv
  obtain ⟨a, ys, rfl, h1, h2⟩ := hv.tup_inv
  exact ⟨a, ys, rfl, .inr h1, fun l hl => q _ _ _ hl (same_new hl) upd_same (h2.same (same_new hl))⟩⟩
theorem cd_max2 {i j : Int} (hc : X.calm = true) : CD X (.builtin "max") [.int i, .int j] (.int (if j > i then j else i)) := ⟨_, call_max2 hc, fun H xs h Q q => by
  obtain ⟨v, u, rfl, h1, h2⟩ := h.two_inv
  cases h1
  cases h2
  exact ⟨i, j, rfl, q _ H (Same.refl H) (.int _)⟩⟩
theorem cd_min2 {i j : Int} (hc : X.calm = true) : CD X (.builtin "min") [.int i, .int j] (.int (if j < i then j else i)) := ⟨_, call_min2 hc, fun H xs h Q q => by
  obtain ⟨v, u, rfl, h1, h2⟩ := h.two_inv
  cases h1
  cases h2
  exact ⟨i, j, rfl, q _ H (Same.refl H) (.int _)⟩⟩
theorem cd_sum {ns : List Int} (hc : X.calm = true) : CD X (.builtin "sum") [.list (ns.map PyData.int)] (.int ns.sum) := ⟨_, cr_sum hc, fun H xs h Q q => by
  obtain ⟨v, rfl, hv⟩ := h.one_inv
  obtain ⟨a, ys, rfl, h1, h2⟩ := hv.list_inv
  rw [h2.ints_inv] at h1
  exact ⟨a, ns, rfl, SqL.of h1, q _ H (Same.refl H) (.int _)⟩⟩
theorem cd_all {bs : List Bool} (hc : X.calm = true) : CD X (.builtin "all") [.list (bs.map PyData.bool)] (.bool (bs.all id)) := ⟨_, cr_all hc, fun H xs h Q q => by
  obtain ⟨v, rfl, hv⟩ := h.one_inv
  obtain ⟨a, ys, rfl, h1, h2⟩ := hv.list_inv
  rw [h2.bls_inv] at h1
  exact ⟨a, bs, rfl, SqL.of h1, q _ H (Same.refl H) (.bl _)⟩⟩
/-! ### isinstance -/
def kindOf : PyData → String
  | .none => "NoneType"
  | .bool _ => "bool"
  | .int _ => "int"
  | .str _ => "str"
  | .list _ => "list"
  | .tuple _ => "tuple"
  | .dict _ => "list"
theorem tyX_of {K : PySem.W.Frag} {H : Hp} {v : V} (h : Hd K H v d) (nd : ∀ kvs, d ≠ .dict kvs) : TyX K H v (.type (kindOf d)) := by
  cases h with
  | non => exact .base .non
  | bl b => exact .base (.bl b)
  | int i => exact .base (.int i)
  | str x => exact .base (.str x)
  | lst h1 _ => exact .base (.lst h1)
  | tup h1 _ =>
    rcases h1 with (h1 | ⟨o, h1⟩) | ⟨o, its, n, e, c, _⟩
    · exact .base (.tup h1)
    · exact .fTuple h1
    · exact .kTuple e c
  | scr h1 => exact absurd rfl (nd _)
  | pln h1 _ => exact absurd rfl (nd _)
theorem pd_isi {T : Str} {U : String} {k : Bool} {p1 p2 : Pos} (h : PD X e Γ d) (hk : kitB (kindOf d) U = some k) (nd : ∀ kvs, d ≠ .dict kvs) (hg : Gl X "isinstance") (hm : X.mg "isinstance" = none) (hg2 : Gl X T) (hm2 : X.mg T = none) (hb : bootBuiltins T = some (.type U))
    (hn : T ≠ "__name__" := by decide) (hdb : (T == ("__debug__" : Str)) = false := by decide)
    (he : starEach [e, .Name T p2] X.env = (false, eval e X.env) :: starEach [.Name T p2] X.env := by rfl) (he2 : starEach [.Name T p2] X.env = (false, eval (.Name T p2) X.env) :: starEach [] X.env := by rfl) (hpl : (backTo pos (starEach [.Name T p2] X.env)).any (·.1) = false := by rfl) :
    PD X (.Call (.Name "isinstance" p1) [e, .Name T p2] [] pos) Γ (.bool k) := .mk fun σ H st Q q =>
  ⟨_, pe_callB call_isi hg hm (by decide +kernel) (pa_cons (wE_ok e) (pa_cons (pe_bltn (v := .ty U) hg2 hm2 hb rfl hn hdb) pa_nil he2) he) (by decide) (by decide) he hpl, h σ H st _ fun v H1 e1 hv =>
    ⟨v, .ty U, .type (kindOf d), .type U, k, rfl, .ty U, tyX_of hv nd, kit_ty hk, q _ H1 e1 (.bl k)⟩⟩
end
end Tw
namespace Tw
open PySem PySem.Spec PyProof.Rows L2

/-! ### what is walked -/
def WalkD (K : PySem.W.Frag) (J : It) (H0 : Hp) (ds : List PyData) : Prop := Walk J ds.length (fun H => Same H0 H) (fun i H x H' => Same H H' ∧ ∃ d, ds[i]? = some d ∧ Hd K H' x d)
structure PID (X : Cx) (tg iter : Expr) (Γ : Ev) (ds : List PyData) : Prop where
  run : ∀ (σ : L2.St) (H : Hp), StV X.K Γ σ H → ∀ R : It → Hp → Prop, (∀ J H', Same H H' → WalkD X.K J H' ds → R J H') → wI X tg iter σ H R
instance coe_PID {X : Cx} {tg iter : Expr} {Γ : Ev} {ds : List PyData} : CoeFun (PID X tg iter Γ ds) fun _ => ∀ (σ : L2.St) (H : Hp), StV X.K Γ σ H → ∀ R : It → Hp → Prop, (∀ J H', Same H H' → WalkD X.K J H' ds → R J H') → wI X tg iter σ H R := ⟨fun h => h.run⟩
abbrev nD (n : Nat) : PyData := .int (n : Int)
section
variable {X : Cx} {a b c e iter tg : Expr} {es rest : List Expr} {pos p : Pos} {Γ Γ' : Ev} {d dx dy dz : PyData} {ds : List PyData}
theorem walkD_list {K : PySem.W.Frag} {H1 : Hp} {a : Addr} {xs : List V} (h1 : H1 a = some (.lst xs)) (h2 : HdA K H1 xs ds) : WalkD K (Itl K a) H1 ds := by
  unfold WalkD
  rw [← h2.length]
  refine walk_list.mono (fun H e => e.seq (SqL.of h1)) fun i H x H' hi e y => ?_
  obtain ⟨rfl, hx⟩ := y
  obtain ⟨d, hd, hv⟩ := h2.getV hx
  exact ⟨Same.refl _, d, hd, hv.same e⟩
theorem walkD_tup {K : PySem.W.Frag} {H1 : Hp} {a : Addr} {xs : List V} (h1 : SqT K H1 a xs) (h2 : HdA K H1 xs ds) : WalkD K (Itt K a) H1 ds := by
  unfold WalkD
  rw [← h2.length]
  refine walk_tup.mono (fun H e => Same.sqt e h1) fun i H x H' hi e y => ?_
  obtain ⟨rfl, hx⟩ := y
  obtain ⟨d, hd, hv⟩ := h2.getV hx
  exact ⟨Same.refl _, d, hd, hv.same e⟩
theorem walkD_rng {K : PySem.W.Frag} {H1 : Hp} (lo n : Nat) : WalkD K (Itr (lo : Int) n) H1 ((List.range' lo n).map nD) := by
  unfold WalkD
  rw [List.length_map, List.length_range']
  refine walk_range.mono (fun H e => trivial) fun i H x H' hi e y => ?_
  obtain ⟨rfl, hx⟩ := y
  refine ⟨Same.refl _, nD (lo + i), ?_, ?_⟩
  · rw [List.getElem?_map, List.getElem?_range' hi, Nat.one_mul] <;> rfl
  · rw [hx]
    have e1 : ((lo : Int) + (i : Int)) = ((lo + i : Nat) : Int) := by omega
    show Hd K H' (V.int ((lo : Int) + (i : Int))) (nD (lo + i))
    rw [e1]
    exact .int _
theorem pid_list (h : PD X iter Γ (.list ds)) : PID X tg iter Γ ds := .mk fun σ H st R q => ⟨_, pi_list (wE_ok iter), h σ H st _ fun v H1 e1 hv => by
  obtain ⟨a, xs, rfl, h1, h2⟩ := hv.list_inv
  exact ⟨a, rfl, ⟨xs, SqL.of h1⟩, q _ H1 e1 (walkD_list h1 h2)⟩⟩
theorem pid_tup (h : PD X iter Γ (.tuple ds)) : PID X tg iter Γ ds := .mk fun σ H st R q => ⟨_, pi_tup (wE_ok iter), h σ H st _ fun v H1 e1 hv => by
  obtain ⟨a, xs, rfl, h1, h2⟩ := hv.tup_inv
  exact ⟨a, rfl, ⟨xs, h1⟩, q _ H1 e1 (walkD_tup h1 h2)⟩⟩
theorem pid_range1 {n : Nat} (ha : PD X a Γ (.int (n : Int))) (hg : Gl X "range") (hm : X.mg "range" = none) (hn : n ≤ 100000000) (hs : starEach [a] X.env = (false, eval a X.env) :: starEach [] X.env := by rfl) : PID X tg (.Call (.Name "range" p) [a] [] pos) Γ ((List.range n).map nD) := .mk fun σ H st R q =>
  ⟨_, pi_range1 hg hm (pa_cons (wE_ok a) pa_nil hs) hs, ha σ H st _ fun v H1 e1 hv => by
    cases hv
    refine ⟨(n : Int), rfl, by omega, by omega, q _ H1 e1 ?_⟩
    rw [List.range_eq_range']
    exact walkD_rng 0 n⟩
theorem pid_range1m {i : Int} (ha : PD X a Γ (.int i)) (hg : Gl X "range") (hm : X.mg "range" = none) (hn : i ≤ 0) (hn2 : -100000000 ≤ i) (hs : starEach [a] X.env = (false, eval a X.env) :: starEach [] X.env := by rfl) : PID X tg (.Call (.Name "range" p) [a] [] pos) Γ [] := .mk fun σ H st R q =>
  ⟨_, pi_range1 hg hm (pa_cons (wE_ok a) pa_nil hs) hs, ha σ H st _ fun v H1 e1 hv => by
    cases hv
    refine ⟨i, rfl, by omega, by omega, q _ H1 e1 ?_⟩
    have e0 : i.toNat = 0 := by omega
    rw [e0]
    exact walkD_rng 0 0⟩
theorem pid_range2 {lo hi : Nat} (ha : PD X a Γ (.int (lo : Int))) (hb : PD X b Γ (.int (hi : Int))) (hg : Gl X "range") (hm : X.mg "range" = none) (hn : lo ≤ 100000000) (hn2 : hi ≤ 100000000)
    (hs : starEach [a, b] X.env = (false, eval a X.env) :: starEach [b] X.env := by rfl) (hs2 : starEach [b] X.env = (false, eval b X.env) :: starEach [] X.env := by rfl) (hs3 : starEach [a, b] X.env = [(false, eval a X.env), (false, eval b X.env)] := by rfl) : PID X tg (.Call (.Name "range" p) [a, b] [] pos) Γ ((List.range' lo (hi - lo)).map nD) := .mk fun σ H st R q =>
  ⟨_, pi_range2 hg hm (pa_cons (wE_ok a) (pa_cons (wE_ok b) pa_nil hs2) hs) hs3 hs2, ha σ H st _ fun v H1 e1 hv => hb σ H1 (st.same e1) _ fun u H2 e2 hu => by
    cases hv
    cases hu
    refine ⟨(lo : Int), (hi : Int), rfl, ⟨by omega, by omega, by omega, by omega⟩, q _ H2 (e1.trans e2) ?_⟩
    have e0 : ((hi : Int) - (lo : Int)).toNat = hi - lo := by omega
    rw [e0]
    exact walkD_rng lo (hi - lo)⟩

/-! ### comprehensions -/
abbrev Bk (X : Cx) (scope : Scope) (s : Shared) (H : Hp) (C : Addr) (cl : List (Str × Addr)) (fp : List Addr) : Cx := X.blk s H scope (compEnvC scope cl C X.env) fp
def bE (X : Cx) (scope : Scope) (e : Expr) : TE := fun σ H Q => ∀ (s : Shared) (H' : Hp) (C : Addr) (cl : List (Str × Addr)) (fp : List Addr), wE (Bk X scope s H' C cl fp) e σ H Q
def bTs (X : Cx) (scope : Scope) (es : List Expr) : TT := fun σ H Q => ∀ (s : Shared) (H' : Hp) (C : Addr) (cl : List (Str × Addr)) (fp : List Addr), ∃ t, PTs (Bk X scope s H' C cl fp) es t ∧ t σ H Q
theorem bE_ok {scope : Scope} (e : Expr) (s : Shared) (H : Hp) (C : Addr) (cl : List (Str × Addr)) (fp : List Addr) : PE (Bk X scope s H C cl fp) e (bE X scope e) := ⟨fun pins s' σ H' Q I h => (wE_ok e).run pins s' σ H' Q I (h s H C cl fp)⟩
theorem bTs_ok {scope : Scope} (es : List Expr) (s : Shared) (H : Hp) (C : Addr) (cl : List (Str × Addr)) (fp : List Addr) : PTs (Bk X scope s H C cl fp) es (bTs X scope es) := ⟨fun pins s' σ H' Q I h => let ⟨t, ht, q⟩ := h s H C cl fp; ht.run pins s' σ H' Q I q⟩
theorem set_wipe {σ : L2.St} {j : Nat} {v : Option V} : wipe ((wipe σ [j]).set j v) [j] = wipe σ [j] := by
  show ((σ.set j none).set j v).set j none = σ.set j none
  rw [List.set_set, List.set_set]
theorem take_snoc {α β : Type} {g : α → β} {xs : List α} {i : Nat} {a : α} (h : xs[i]? = some a) : (xs.take (i + 1)).map g = (xs.take i).map g ++ [g a] := by
  rw [List.take_add_one, h, List.map_append]
  rfl
/-- the word of a comprehension's turns -/
theorem lc_main {α : Type} {enc out : α → PyData} {keep : α → Bool} {xs : List α} {K : PySem.W.Frag} {J : It} {H1 : Hp} {D : Addr} {g : TG} {tt : TT} {te : TE} {vs : List Nat} {σ : L2.St} {Qd : Hp → Prop} (w : WalkD K J H1 (xs.map enc)) (hD : H1 D = none)
    (hz : xs.length ≤ 16000000) (hlf : ∀ a ∈ xs, lf (out a) = true)
    (hs : ∀ (a : α) (x : V) (H H' : Hp), a ∈ xs → Same H1 H → Same H H' → Hd K H' x (enc a) → ∀ R : Option V → Hp → Prop, (∀ y H4, keep a = true → Same H' H4 → Hd K H4 y (out a) → R (some y) H4) → (∀ H4, keep a = false → Same H' H4 → R none H4) →
      g x (wipe σ vs) H' fun σ2 H2 => wipe σ2 vs = wipe σ vs ∧ tt σ2 H2 fun b H3 => if b = true then te σ2 H3 fun y H4 => R (some y) H4 else R none H3)
    (hd : ∀ H acc, Same H1 H → H D = some (.lst acc) → HdA K H acc ((xs.filter keep).map out) → Qd H) :
    ∃ W : Nat → Nat → Hp → Prop, (∃ m, W 0 m (upd H1 D (.lst []))) ∧ ∀ i m H, W i m H →
      (J.stop i H ∧ Qd H) ∨ (J.go i H ∧ ∃ Nx : Hp → Prop, (∀ H', Nx H' → ∃ m', m' < m ∧ W (i + 1) m' H') ∧ ∀ x H', J.yld i H x H' → g x (wipe σ vs) H' fun σ2 H2 => wipe σ2 vs = wipe σ vs ∧ tt σ2 H2 fun b H3 =>
        if b = true then te σ2 H3 fun y H4 => ∃ acc, H4 D = some (.lst acc) ∧ acc.length < sizeLine ∧ Nx (upd H4 D (.lst (acc ++ [y]))) else Nx H3) := by
  have hlfA : ∀ ys : List α, (∀ a ∈ ys, a ∈ xs) → lfA (ys.map out) = true := fun ys hy => lfA_of fun d hd => by
    obtain ⟨a, ha, rfl⟩ := List.mem_map.mp hd
    exact hlf a (hy a ha)
  have len : (xs.map enc).length = xs.length := List.length_map _
  unfold WalkD at w
  rw [len] at w
  refine lc_it w (fun i H => Same H1 H ∧ ∃ acc, H D = some (.lst acc) ∧ HdA K H acc (((xs.take i).filter keep).map out)) ⟨same_mut (Same.refl _) hD, [], upd_same, by rw [List.take_zero]; exact .nil⟩ (fun i H _ p => p.1) (fun i x H H' hi p y => ?_) (fun H p => ?_)
  · obtain ⟨e1, acc, ha, hacc⟩ := p
    obtain ⟨e2, d, hd', hx⟩ := y
    rw [List.getElem?_map, List.getElem?_eq_getElem hi] at hd'
    have ed : enc xs[i] = d := Option.some.inj hd'
    subst ed
    have hm : xs[i] ∈ xs := List.getElem_mem hi
    have tk : xs.take (i + 1) = xs.take i ++ [xs[i]] := by rw [List.take_add_one, List.getElem?_eq_getElem hi] <;> rfl
    have hal : acc.length ≤ i := by
      rw [hacc.length, List.length_map]
      refine Nat.le_trans (List.length_filter_le _ _) ?_
      rw [List.length_take]
      exact Nat.min_le_left _ _
    refine hs xs[i] x H H' hm e1 e2 hx (fun o H4 => match o with
        | some y => ∃ acc, H4 D = some (.lst acc) ∧ acc.length < sizeLine ∧ Same H1 (upd H4 D (.lst (acc ++ [y]))) ∧ ∃ acc2, (upd H4 D (.lst (acc ++ [y]))) D = some (.lst acc2) ∧ HdA K (upd H4 D (.lst (acc ++ [y]))) acc2 (((xs.take (i + 1)).filter keep).map out)
        | none => Same H1 H4 ∧ ∃ acc, H4 D = some (.lst acc) ∧ HdA K H4 acc (((xs.take (i + 1)).filter keep).map out)) (fun y H4 hk e4 hy => ?_) (fun H4 hk e4 => ?_)
    · have h4 : H4 D = some (.lst acc) := e4 _ _ (e2 _ _ ha)
      refine ⟨acc, h4, Nat.lt_of_le_of_lt hal (Nat.lt_of_lt_of_le hi (sz_of hz)), same_mut ((e1.trans e2).trans e4) hD, acc ++ [y], upd_same, ?_⟩
      have q : HdA K H4 (acc ++ [y]) (((xs.take i).filter keep).map out ++ [out xs[i]]) := ((hacc.same e2).same e4).snoc hy
      rw [tk, List.filter_append, List.map_append, List.filter_cons, if_pos hk]
      refine HdA.lf (SameT.mut h4) _ _ (lfA_append (hlfA _ fun a ha' => List.mem_of_mem_take (List.mem_filter.mp ha').1) ?_) q
      show lfA [out xs[i]] = true
      rw [lfA, hlf _ hm]
      rfl
    · refine ⟨(e1.trans e2).trans e4, acc, e4 _ _ (e2 _ _ ha), ?_⟩
      rw [tk, List.filter_append, List.map_append, List.filter_cons, if_neg (by rw [hk]; decide)]
      show HdA K H4 acc (_ ++ [])
      rw [List.append_nil]
      exact (hacc.same e2).same e4
  · obtain ⟨e1, acc, ha, hacc⟩ := p
    rw [List.take_length] at hacc
    exact hd H acc e1 ha hacc
/-- [elt for x in iter] -/
theorem pdl_lc {α : Type} (enc out : α → PyData) (xs : List α) {elt : Expr} {scope : Scope} {x : Str} {j : Nat} {tp : Pos} (hi : PID X (.Name x tp) iter Γ (xs.map enc)) (hz : xs.length ≤ 16000000) (hlf : ∀ a ∈ xs, lf (out a) = true)
    (he : ∀ (s : Shared) (H : Hp) (C : Addr) (cl : List (Str × Addr)) (fp : List Addr), ∀ a ∈ xs, PD (Bk X scope s H C cl fp) elt (Γ.set j (some (enc a))) (out a))
    (hc : X.calm = true) (hN : X.N.Nodup) (ok : blkC X.N X.env.scope scope [(x, j)] = true)
    (hg : ∀ (s : Shared) (H : Hp) (C : Addr) (cl : List (Str × Addr)) (fp : List Addr), PG (Bk X scope s H C cl fp) (.Name x tp) (gName j)) (hs : ∀ x, foldedSetIterable iter X.env x = pure x := by intro _; rfl) :
    PDL X (.ListComp elt [⟨.Name x tp, iter, [], 0⟩] scope pos) Γ (xs.map out) := .mk fun σ H st Q q =>
  ⟨_, pe_lc (own := [(x, j)]) (g := gName j) (tt := tYes) hc hN (wI_ok (.Name x tp) iter) (blkOk_by ok) hg (fun _ _ _ _ _ => pts_nil) (fun s H C cl fp => bE_ok elt s H C cl fp) hs, hi σ H st _ fun J H1 e1 w => fun D hD =>
    lc_main (enc := enc) (out := out) (keep := fun _ => true) (xs := xs) (K := X.K) w hD hz hlf (fun a v H2 H3 ha e2 e3 hv R r1 _ => ⟨set_wipe, fun s H' C cl fp => he s H' C cl fp a ha _ _ (by
        have q1 := ((st.same (e1.trans (e2.trans e3))).wipe (own := [j])).set (i := j) hv
        have e5 : ([j].foldr (fun i g => g.set i none) Γ).set j (some (enc a)) = Γ.set j (some (enc a)) := List.set_set ..
        rw [e5] at q1
        exact q1) _ fun y H4 e4 hy => r1 y H4 rfl e4 hy⟩)
      (fun H2 acc e2 h2 h3 => q D acc H2 (same_back e1 hD) (e1.trans e2) h2 (by
        have e6 : xs.filter (fun _ => true) = xs := List.filter_eq_self.mpr fun _ _ => rfl
        rw [e6] at h3
        exact h3))⟩
/-- [elt for x in iter if c] -/
theorem pdl_lcF {α : Type} (enc out : α → PyData) (keep : α → Bool) (xs : List α) {elt : Expr} {scope : Scope} {x : Str} {j : Nat} {tp : Pos} (hi : PID X (.Name x tp) iter Γ (xs.map enc)) (hz : xs.length ≤ 16000000) (hlf : ∀ a ∈ xs, lf (out a) = true)
    (ht : ∀ (s : Shared) (H : Hp) (C : Addr) (cl : List (Str × Addr)) (fp : List Addr), ∀ a ∈ xs, PTD (Bk X scope s H C cl fp) c (Γ.set j (some (enc a))) (keep a))
    (he : ∀ (s : Shared) (H : Hp) (C : Addr) (cl : List (Str × Addr)) (fp : List Addr), ∀ a ∈ xs, keep a = true → PD (Bk X scope s H C cl fp) elt (Γ.set j (some (enc a))) (out a))
    (hc : X.calm = true) (hN : X.N.Nodup) (ok : blkC X.N X.env.scope scope [(x, j)] = true)
    (hg : ∀ (s : Shared) (H : Hp) (C : Addr) (cl : List (Str × Addr)) (fp : List Addr), PG (Bk X scope s H C cl fp) (.Name x tp) (gName j)) (hs : ∀ x, foldedSetIterable iter X.env x = pure x := by intro _; rfl) :
    PDL X (.ListComp elt [⟨.Name x tp, iter, [c], 0⟩] scope pos) Γ ((xs.filter keep).map out) := .mk fun σ H st Q q =>
  ⟨_, pe_lc (own := [(x, j)]) (g := gName j) hc hN (wI_ok (.Name x tp) iter) (blkOk_by ok) hg (fun s H C cl fp => bTs_ok [c] s H C cl fp) (fun s H C cl fp => bE_ok elt s H C cl fp) hs, hi σ H st _ fun J H1 e1 w => fun D hD =>
    lc_main (enc := enc) (out := out) (keep := keep) (xs := xs) (K := X.K) w hD hz hlf (fun a v H2 H3 ha e2 e3 hv R r1 r0 => by
        have q1 := ((st.same (e1.trans (e2.trans e3))).wipe (own := [j])).set (i := j) hv
        have e5 : ([j].foldr (fun i g => g.set i none) Γ).set j (some (enc a)) = Γ.set j (some (enc a)) := List.set_set ..
        rw [e5] at q1
        refine ⟨set_wipe, fun s H' C cl fp => ⟨_, pts_one (wT_ok c), ht s H' C cl fp a ha _ _ q1 _ fun H4 e4 => ?_⟩⟩
        cases hk : keep a with
        | true =>
          rw [if_pos rfl]
          exact fun s H' C cl fp => he s H' C cl fp a ha hk _ _ (q1.same e4) _ fun y H5 e5 hy => r1 y H5 hk (e4.trans e5) hy
        | false =>
          rw [if_neg (by decide)]
          exact r0 H4 hk e4)
      (fun H2 acc e2 h2 h3 => q D acc H2 (same_back e1 hD) (e1.trans e2) h2 h3)⟩
end

/-! ### a def's promise -/
def spR (K : PySem.W.Frag) (R : List PyData → PyData → Prop) : Sp := fun vs H Q _ => ∃ ds r, HdA K H vs ds ∧ R ds r ∧ ∀ v H', Same H H' → Hd K H' v r → Q v H'
structure Df (P : Program) (w : World) (K : PySem.W.Frag) (mg : Str → Option Value) (base : Heap) (x : Str) (k : Nat) (ps : List Str) (R : List PyData → PyData → Prop) : Prop where
  run : ∃ f fd, mg x = some (.ref f) ∧ PySem.W.keepIn K (.ref f) = true ∧ Binds K fd ps [] ∧ FnOk P w K mg base CX0 k f fd ps (spR K R) ∧ ∃ oc od osl, K.lookup f = some ⟨oc, od, .func fd, osl⟩
theorem Df.mono {P : Program} {w : World} {K : PySem.W.Frag} {mg : Str → Option Value} {base : Heap} {x : Str} {j k : Nat} {ps : List Str} {R : List PyData → PyData → Prop} (h : Df P w K mg base x j ps R) (l : j ≤ k) : Df P w K mg base x k ps R :=
  let ⟨f, fd, a, b, c, d, e⟩ := h; ⟨f, fd, a, b, c, d.mono l, e⟩
section
variable {X : Cx} {a b c e iter tg : Expr} {es rest : List Expr} {pos p : Pos} {Γ Γ' : Ev} {d dx dy dz : PyData} {ds : List PyData}
theorem pd_call {x : Str} {k : Nat} {ps : List Str} {R : List PyData → PyData → Prop} (F : Df X.prog X.w X.K X.mg X.base x k ps R) (hr : Room k X.A) (hg : Gl X x) (ha : PAD X (e :: es) Γ ds) (hR : R ds d)
    (hdb : (x == ("__debug__" : Str)) = false := by decide) (he : starEach (e :: es) X.env = (false, eval e X.env) :: starEach es X.env := by rfl) (hpl : (backTo pos (starEach es X.env)).any (·.1) = false := by rfl) : PD X (.Call (.Name x p) (e :: es) [] pos) Γ d := .mk fun σ H st Q q => by
  obtain ⟨f, fd, hm, hk, hb, ok, _⟩ := F
  exact ⟨_, pe_call ok hr hg hm hk hb .nil pass0 (wA_ok (e :: es)) hdb he hpl, ha σ H st _ fun vs H1 e1 hvs => ⟨ds, d, by rw [List.append_nil]; exact hvs, hR, fun v H2 e2 hv => q v H2 (e1.trans e2) hv⟩⟩
end

/-! ### statements -/
section
variable (X : Cx)
structure RB (sts : List Stmt) (Γ : Ev) (nx : Ev → Prop) (rt : PyData → Prop) : Prop where
  run : ∀ (σ : L2.St) (H : Hp), StV X.K Γ σ H → ∀ D : Ends, (∀ Γ' σ' H', nx Γ' → Same H H' → StV X.K Γ' σ' H' → D.nx σ' H') → (∀ d v H', rt d → Same H H' → Hd X.K H' v d → D.rt v H') → wB X sts D σ H
end
section
variable {X : Cx} {a b c e iter tg : Expr} {es : List Expr} {rest body A B : List Stmt} {pos p : Pos} {Γ Γ' : Ev} {d dx dy dz : PyData} {ds : List PyData} {nx mid : Ev → Prop} {rt : PyData → Prop}
instance coe_RB {X : Cx} {sts : List Stmt} {Γ : Ev} {nx : Ev → Prop} {rt : PyData → Prop} : CoeFun (RB X sts Γ nx rt) fun _ => ∀ (σ : L2.St) (H : Hp), StV X.K Γ σ H → ∀ D : Ends, (∀ Γ' σ' H', nx Γ' → Same H H' → StV X.K Γ' σ' H' → D.nx σ' H') → (∀ d v H', rt d → Same H H' → Hd X.K H' v d → D.rt v H') → wB X sts D σ H := ⟨fun h => h.run⟩
theorem RB.le (l : Le Γ Γ') (h : RB X body Γ' nx rt) : RB X body Γ nx rt := .mk fun σ H st D h1 h2 => h σ H (st.le l) D h1 h2
theorem RB.imp {nx' : Ev → Prop} {rt' : PyData → Prop} (h : RB X body Γ nx rt) (h1 : ∀ Γ', nx Γ' → nx' Γ') (h2 : ∀ d, rt d → rt' d) : RB X body Γ nx' rt' := .mk fun σ H st D k1 k2 => h σ H st D (fun Γ' σ' H' n => k1 Γ' σ' H' (h1 Γ' n)) fun d v H' r => k2 d v H' (h2 d r)
theorem rb_nil (h : nx Γ) : RB X [] Γ nx rt := .mk fun σ H st D h1 _ => ⟨_, pss_nil, h1 Γ σ H h (Same.refl H) st⟩
theorem rb_asg {x : Str} {i : Nat} {pos' : Pos} (he : PD X e Γ d) (hr : RB X rest (Γ.set i (some d)) nx rt) (hN : X.N.Nodup) (hi : X.N[i]? = some x) (hx : Loc X.env.scope x)
    (hs : swapsWith e (some (.Name x pos')) pos.line X.env = pure false := by rfl) (hf : X.fn x = true ∨ X.env.scope.names.lookup x = some .local := by first | exact .inl rfl | exact .inr rfl) : RB X (.Assign [.Name x pos'] e pos :: rest) Γ nx rt := .mk fun σ H st D h1 h2 =>
  ⟨_, pss_cons (ps_set hN hi hx (wE_ok e) hs hf) (wB_ok rest), he σ H st _ fun v H1 e1 hv => hr _ H1 ((st.same e1).set hv) D (fun Γ' σ' H' n e2 => h1 Γ' σ' H' n (e1.trans e2)) fun d v H' r e2 => h2 d v H' r (e1.trans e2)⟩
theorem rb_ret (he : PD X e Γ d) (hr : rt d) : RB X [.Return (some e) pos] Γ nx rt := .mk fun σ H st D _ h2 => ⟨_, pss_one (ps_ret (wE_ok e)), he σ H st _ fun v H1 e1 hv => h2 d v H1 hr e1 hv⟩
theorem rb_if {k : Bool} (hc : PTD X c Γ k) (h1 : k = true → RB X A Γ mid rt) (h2 : k = false → RB X B Γ mid rt) (hr : ∀ Γ', mid Γ' → RB X rest Γ' nx rt) : RB X (.If c A B pos :: rest) Γ nx rt := .mk fun σ H st D k1 k2 =>
  ⟨_, pss_cons (ps_if (wT_ok c) (wB_ok A) (wB_ok B)) (wB_ok rest), hc σ H st _ fun H1 e1 => by
    have fin : ∀ sts, RB X sts Γ mid rt → wB X sts { D with nx := wB X rest D } σ H1 := fun sts h => h σ H1 (st.same e1) { D with nx := wB X rest D } (fun Γ' σ' H' m e2 st2 => hr Γ' m σ' H' st2 D (fun Γ'' σ'' H'' n e3 => k1 Γ'' σ'' H'' n ((e1.trans e2).trans e3)) fun d v H'' r e3 => k2 d v H'' r ((e1.trans e2).trans e3)) fun d v H' r e2 => k2 d v H' r (e1.trans e2)
    cases k with
    | true =>
      rw [if_pos rfl]
      exact fin A (h1 rfl)
    | false =>
      rw [if_neg (by decide)]
      exact fin B (h2 rfl)⟩
/-- if c: .. return; then the rest -/
theorem rb_ifr {k : Bool} (hc : PTD X c Γ k) (h1 : k = true → RB X A Γ (fun _ => False) rt) (hr : k = false → RB X rest Γ nx rt) : RB X (.If c A [] pos :: rest) Γ nx rt := by
  refine rb_if (mid := fun Γ' => k = false ∧ Γ' = Γ) hc (fun e => (h1 e).imp (fun _ z => z.elim) fun _ z => z) (fun e => rb_nil ⟨e, rfl⟩) ?_
  rintro Γ' ⟨e, rfl⟩
  exact hr e
/-- if c: x = e -/
theorem rb_ifasg {k : Bool} {x : Str} {i : Nat} {pos' pos2 : Pos} (hc : PTD X c Γ k) (he : k = true → PD X e Γ d) (h0 : k = false → Γ[i]? = some (some d)) (hr : RB X rest (Γ.set i (some d)) nx rt) (hN : X.N.Nodup) (hi : X.N[i]? = some x) (hx : Loc X.env.scope x)
    (hs : swapsWith e (some (.Name x pos')) pos2.line X.env = pure false := by rfl) (hf : X.fn x = true ∨ X.env.scope.names.lookup x = some .local := by first | exact .inl rfl | exact .inr rfl) : RB X (.If c [.Assign [.Name x pos'] e pos2] [] pos :: rest) Γ nx rt := by
  refine rb_if (mid := fun Γ' => Γ' = Γ.set i (some d)) hc (fun q => rb_asg (he q) (rb_nil rfl) hN hi hx hs hf) (fun q => rb_nil ?_) ?_
  · have h := h0 q
    obtain ⟨hl, e1⟩ := List.getElem?_eq_some_iff.mp h
    rw [← e1, List.set_getElem_self]
  · rintro Γ' rfl
    exact hr
/-- for x in iter -/
theorem rb_for {x : Str} {j : Nat} {tp : Pos} (Inv : Nat → Ev → Prop) (hi : PID X (.Name x tp) iter Γ ds) (h0 : ∃ Γ', Le Γ Γ' ∧ Inv 0 Γ') (hs : ∀ (i : Nat) (d : PyData) (Γ' : Ev), ds[i]? = some d → Inv i Γ' → RB X body (Γ'.set j (some d)) (fun Γ2 => ∃ Γ3, Le Γ2 Γ3 ∧ Inv (i + 1) Γ3) rt)
    (hd : ∀ Γ', Inv ds.length Γ' → RB X rest Γ' nx rt) (hp : PassesOwn (model X.prog X.w) X.A X.env X.xe) (hc : X.calm = true) (hN : X.N.Nodup) (hj : X.N[j]? = some x) (hx : Loc X.env.scope x) (hf : X.fn x = true ∨ X.env.scope.names.lookup x = some .local := by first | exact .inl rfl | exact .inr rfl) (hsi : ∀ x, foldedSetIterable iter X.env x = pure x := by intro _; rfl) :
    RB X (.For (.Name x tp) iter body [] pos :: rest) Γ nx rt := .mk fun σ H st D k1 k2 =>
  ⟨_, pss_cons (ps_for hp hc (wI_ok (.Name x tp) iter) (pg_name (i := j) hN hj hx hf) (wB_ok body) hsi) (wB_ok rest), hi σ H st _ fun J H1 e1 w => by
    obtain ⟨Γ0, l0, i0⟩ := h0
    refine for_it w (fun i σ' H' => Same H1 H' ∧ ∃ Γ', Inv i Γ' ∧ StV X.K Γ' σ' H') ⟨Same.refl _, Γ0, i0, (st.same e1).le l0⟩ (fun i σ' H' _ q => q.1) (fun i v σ' H2 H3 hi' q y => ?_) (fun σ' H2 q => ?_)
    · obtain ⟨e2, Γ', inv, st'⟩ := q
      obtain ⟨e3, d, hd', hv⟩ := y
      exact hs i d Γ' hd' inv (σ'.set j (some v)) H3 ((st'.same e3).set hv) _ (fun Γ2 σ2 H4 n e4 st2 => by
        obtain ⟨Γ3, l3, i3⟩ := n
        exact ⟨(e2.trans e3).trans e4, Γ3, i3, st2.le l3⟩) (fun d2 v2 H4 r e4 hv2 => k2 d2 v2 H4 r (((e1.trans e2).trans e3).trans e4) hv2)
    · obtain ⟨e2, Γ', inv, st'⟩ := q
      exact hd Γ' inv σ' H2 st' D (fun Γ2 σ2 H3 n e3 => k1 Γ2 σ2 H3 n ((e1.trans e2).trans e3)) fun d v H3 r e3 => k2 d v H3 r ((e1.trans e2).trans e3)⟩
/-- while -/
theorem rb_while (W : Nat → Ev → Prop) (h0 : ∃ m Γ', Le Γ Γ' ∧ W m Γ') (hs : ∀ (m : Nat) (Γ' : Ev), W m Γ' → ∃ k, PTD X c Γ' k ∧ (k = true → RB X body Γ' (fun Γ2 => ∃ m' Γ3, m' < m ∧ Le Γ2 Γ3 ∧ W m' Γ3) rt) ∧ (k = false → RB X rest Γ' nx rt))
    (hp : PassesOwn (model X.prog X.w) X.A X.env X.xe) : RB X (.While c body [] pos :: rest) Γ nx rt := .mk fun σ H st D k1 k2 =>
  ⟨_, pss_cons (ps_while hp (wT_ok c) (wB_ok body)) (wB_ok rest), by
    obtain ⟨m0, Γ0, l0, w0⟩ := h0
    refine ⟨fun m σ' H' => ∃ Γ', W m Γ' ∧ StV X.K Γ' σ' H' ∧ Same H H', ⟨m0, Γ0, w0, st.le l0, Same.refl H⟩, fun m σ' H1 q => ?_⟩
    obtain ⟨Γ', w, st', e1⟩ := q
    obtain ⟨k, hk, hb, hr⟩ := hs m Γ' w
    refine hk σ' H1 st' _ fun H2 e2 => ?_
    cases k with
    | true =>
      refine ⟨fun σ2 H3 => ∃ m', m' < m ∧ ∃ Γ3, W m' Γ3 ∧ StV X.K Γ3 σ2 H3 ∧ Same H H3, fun σ2 H3 z => z, ?_⟩
      exact hb rfl σ' H2 (st'.same e2) _ (fun Γ2 σ2 H3 n e3 st2 => by
        obtain ⟨m', Γ3, lt, l3, w3⟩ := n
        exact ⟨m', lt, Γ3, w3, st2.le l3, (e1.trans e2).trans e3⟩) fun d v H3 r e3 hv => k2 d v H3 r ((e1.trans e2).trans e3) hv
    | false =>
      exact hr rfl σ' H2 (st'.same e2) D (fun Γ2 σ2 H3 n e3 => k1 Γ2 σ2 H3 n ((e1.trans e2).trans e3)) fun d v H3 r e3 => k2 d v H3 r ((e1.trans e2).trans e3)⟩
end
end Tw
namespace Tw
open PySem PySem.Spec PyProof.Rows L2

/-- the built-ins' names are the built-ins' -/
structure Bl (mg : Str → Option Value) : Prop where
  len : mg "len" = none
  range : mg "range" = none
  tuple : mg "tuple" = none
  list : mg "list" = none
  sorted : mg "sorted" = none
  max : mg "max" = none
  min : mg "min" = none
  isinstance : mg "isinstance" = none
  int : mg "int" = none
  bool : mg "bool" = none
  enumerate : mg "enumerate" = none
  all : mg "all" = none
  sum : mg "sum" = none
theorem bb_len : bootBuiltins "len" = some (.builtin "len") := boot_len
theorem bb_tuple : bootBuiltins "tuple" = some (.type "tuple") := by decide +kernel
theorem bb_list : bootBuiltins "list" = some (.type "list") := by decide +kernel
theorem bb_sorted : bootBuiltins "sorted" = some (.builtin "sorted") := by decide +kernel
theorem bb_max : bootBuiltins "max" = some (.builtin "max") := by decide +kernel
theorem bb_min : bootBuiltins "min" = some (.builtin "min") := by decide +kernel
theorem bb_int : bootBuiltins "int" = some (.type "int") := by decide +kernel
theorem bb_bool : bootBuiltins "bool" = some (.type "bool") := by decide +kernel
theorem bb_all : bootBuiltins "all" = some (.builtin "all") := by decide +kernel
theorem bb_sum : bootBuiltins "sum" = some (.builtin "sum") := by decide +kernel
abbrev Rel := List PyData → PyData → Prop
/-- where a body of the text runs -/
abbrev bx (P : Program) (w : World) (K : PySem.W.Frag) (mg : Str → Option Value) (base : Heap) (N : List Str) (qual : Str) (sc : Scope) (f : Addr) (cdv : Value) (A : Around) (outer : List Env) (s : Shared) (H : Hp) (E : XK) : Cx := (cxOf CX0 P w K mg base N qual sc f cdv A outer s H E).nox
section
variable {P : Program} {w : World} {K : PySem.W.Frag} {mg : Str → Option Value} {base : Heap}
theorem Fun_rb {x qual : Str} {st : Stmt} {f : Addr} {fd : FuncData} {N ps : List Str} {k : Nat} {R : Rel} (F : Fun K x qual st f fd) (S : FnScope N ps (defScope st)) (hl : ∀ ds r, R ds r → ds.length = ps.length)
    (hb : ∀ (cdv : Value) (A : Around) (outer : List Env) (s : Shared) (H : Hp) (E : XK), Room k (bx P w K mg base N qual (defScope st) f cdv A outer s H E).A → ∀ ds r, R ds r →
      RB (bx P w K mg base N qual (defScope st) f cdv A outer s H E) (defBody st) (ds.map some ++ List.replicate (N.length - ds.length) none) (fun _ => r = .none) (fun d => d = r)) : FnOk P w K mg base CX0 (k + 1) f fd ps (spR K R) := by
  refine F.ok S (fun vs H Q E h => ?_) (fun cdv A outer s H vs Q E hr h => ?_)
  · obtain ⟨ds, r, hd, hR, _⟩ := h
    rw [hd.length]
    exact hl ds r hR
  · obtain ⟨ds, r, hd, hR, q⟩ := h
    refine ⟨_, wB_ok _, hb cdv A outer s H E hr ds r hR _ H (StV.start hd) _ (fun Γ' σ' H' n e1 _ => ?_) fun d v H' n e1 hv => ?_⟩
    · rw [n] at q
      exact q _ H' e1 .non
    · rw [n] at hv
      exact q v H' e1 hv
end
end Tw
namespace Tw
open PySem PySem.Spec PyProof.Rows L2
/-- the def x of the text stands at its name -/
structure Dn (K : PySem.W.Frag) (mg : Str → Option Value) (x : Str) (st : Stmt) (ps : List Str) : Prop where
  ex : ∃ f fd, Fun K x x st f fd ∧ Binds K fd ps [] ∧ mg x = some (.ref f)
section
variable {P : Program} {w : World} {K : PySem.W.Frag} {mg : Str → Option Value} {base : Heap}
theorem Dn.ok {x : Str} {st : Stmt} {N ps : List Str} {k : Nat} {R : Rel} (D : Dn K mg x st ps) (S : FnScope N ps (defScope st)) (hl : ∀ ds r, R ds r → ds.length = ps.length)
    (hb : ∀ (f : Addr) (cdv : Value) (A : Around) (outer : List Env) (s : Shared) (H : Hp) (E : XK), Room k (bx P w K mg base N x (defScope st) f cdv A outer s H E).A → ∀ ds r, R ds r →
      RB (bx P w K mg base N x (defScope st) f cdv A outer s H E) (defBody st) (ds.map some ++ List.replicate (N.length - ds.length) none) (fun _ => r = .none) (fun d => d = r)) : Df P w K mg base x (k + 1) ps R := by
  obtain ⟨f, fd, F, b, m⟩ := D.ex
  have ok := Fun_rb F S hl (hb f) (w := w) (P := P) (base := base) (mg := mg)
  obtain ⟨oc, od, kV, doc, pm, an, cdv, ct, osl, _, lk, _⟩ := F.ex
  exact ⟨f, fd, m, F.kp, b, ok, oc, od, osl, lk⟩
end
end Tw
namespace Tw
open PySem PySem.Spec PyProof.Rows L2
/-! ### rows -/
abbrev rowD (xs : List Nat) : PyData := .tuple (xs.map nD)
abbrev lstD (xs : List Nat) : PyData := .list (xs.map nD)
theorem nD_ints (xs : List Nat) : xs.map nD = (xs.map fun n : Nat => (n : Int)).map PyData.int := by
  rw [List.map_map] <;> rfl
theorem nD_inj {a b : Nat} (h : nD a = nD b) : a = b := by
  injection h with h
  omega
/-! ### slices from, to a place -/
theorem cutD_to {α : Type} (ds : List α) {i : Int} (h : 0 ≤ i) : cutD ds none (some i) = ds.take i.toNat := by
  obtain ⟨n, rfl⟩ : ∃ n : Nat, i = n := ⟨i.toNat, by omega⟩
  unfold cutD
  rw [HT.sIx_none, HT.sIx_nat, List.drop_zero, Nat.sub_zero]
  show ds.take (min n ds.length) = ds.take n
  rcases Nat.le_total n ds.length with q | q
  · rw [Nat.min_eq_left q]
  · rw [Nat.min_eq_right q, List.take_length, List.take_of_length_le q]
theorem cutD_from {α : Type} (ds : List α) {i : Int} (h : 0 ≤ i) : cutD ds (some i) none = ds.drop i.toNat := by
  obtain ⟨n, rfl⟩ : ∃ n : Nat, i = n := ⟨i.toNat, by omega⟩
  unfold cutD
  rw [HT.sIx_none, HT.sIx_nat]
  show (ds.drop (min n ds.length)).take (ds.length - min n ds.length) = ds.drop n
  rcases Nat.le_total n ds.length with q | q
  · rw [Nat.min_eq_left q, List.take_of_length_le (by rw [List.length_drop]; exact Nat.le_refl _)]
  · rw [Nat.min_eq_right q, List.drop_length, List.take_nil, List.drop_eq_nil_of_le q]
section
variable {X : Cx} {a b c e : Expr} {pos p : Pos} {Γ : Ev} {d dx dy dz : PyData} {ds : List PyData}
theorem pdl_slTo {i : Int} {p2 : Pos} (h : PD X e Γ (.list ds)) (h1 : PD X a Γ (.int i)) (h0 : 0 ≤ i) : PDL X (.Subscript e (.Slice none (some a) none p2) pos) Γ (ds.take i.toNat) := by
  rw [← cutD_to ds h0]
  exact pdl_sl h pod_none (pod_some h1)
theorem pdl_slFrom {i : Int} {p2 : Pos} (h : PD X e Γ (.list ds)) (h1 : PD X a Γ (.int i)) (h0 : 0 ≤ i) : PDL X (.Subscript e (.Slice (some a) none none p2) pos) Γ (ds.drop i.toNat) := by
  rw [← cutD_from ds h0]
  exact pdl_sl h (pod_some h1) pod_none
theorem pd_slTTo {i : Int} {p2 : Pos} (h : PD X e Γ (.tuple ds)) (h1 : PD X a Γ (.int i)) (h0 : 0 ≤ i) : PD X (.Subscript e (.Slice none (some a) none p2) pos) Γ (.tuple (ds.take i.toNat)) := by
  rw [← cutD_to ds h0]
  exact pd_slT h pod_none (pod_some h1)
theorem pd_slTFrom {i : Int} {p2 : Pos} (h : PD X e Γ (.tuple ds)) (h1 : PD X a Γ (.int i)) (h0 : 0 ≤ i) : PD X (.Subscript e (.Slice (some a) none none p2) pos) Γ (.tuple (ds.drop i.toNat)) := by
  rw [← cutD_from ds h0]
  exact pd_slT h (pod_some h1) pod_none
end
section
variable {X : Cx} {c e : Expr} {pos : Pos} {Γ : Ev} {rest : List Stmt} {nx : Ev → Prop} {rt : PyData → Prop}
/-- if c: x = e, an int before and behind -/
theorem rb_ifI {x : Str} {i : Nat} {pos' pos2 : Pos} {q : Prop} {dq : Decidable q} {u v : Int} (hc : PTD X c Γ (decide q)) (he : q → PD X e Γ (.int u)) (h0 : Γ[i]? = some (some (.int v))) (hr : RB X rest (Γ.set i (some (.int (if q then u else v)))) nx rt) (hN : X.N.Nodup) (hi : X.N[i]? = some x) (hx : Loc X.env.scope x)
    (hs : swapsWith e (some (.Name x pos')) pos2.line X.env = pure false := by rfl) (hf : X.fn x = true ∨ X.env.scope.names.lookup x = some .local := by first | exact .inl rfl | exact .inr rfl) : RB X (.If c [.Assign [.Name x pos'] e pos2] [] pos :: rest) Γ nx rt := by
  refine rb_ifasg hc (fun h => ?_) (fun h => ?_) hr hN hi hx hs hf
  · have h' := of_decide_eq_true h
    rw [if_pos h']
    exact he h'
  · have h' := of_decide_eq_false h
    rw [if_neg h']
    exact h0
end
theorem atI_some {α : Type} {xs : List α} {i : Int} (h0 : 0 ≤ i) (h1 : i < xs.length) : atI xs i = some (xs[i.toNat]'(by omega)) := by
  unfold atI ixN
  rw [if_pos h0, if_pos h1]
  exact List.getElem?_eq_getElem _
theorem atI_four {α : Type} {a b c d : α} {i : Int} (h0 : 0 ≤ i) (h1 : i < 4) : atI [a, b, c, d] i = some (if i = 0 then a else if i = 1 then b else if i = 2 then c else d) := by
  have e : i = 0 ∨ i = 1 ∨ i = 2 ∨ i = 3 := by omega
  rcases e with e | e | e | e
  · subst e; rfl
  · subst e; rfl
  · subst e; rfl
  · subst e; rfl
theorem id_four {X : Cx} {a b c d i : Int} (h0 : 0 ≤ i) (h1 : i < 4) : ID X (.list [.int a, .int b, .int c, .int d]) (.int i) (.int (if i = 0 then a else if i = 1 then b else if i = 2 then c else d)) := id_list (by
  rw [atI_four h0 h1]
  split
  · rfl
  · split
    · rfl
    · split <;> rfl)
/-! ### what stands in a list of numbers -/
theorem map_at {xs : List Nat} {i : Nat} {d : PyData} (h : (xs.map nD)[i]? = some d) : ∃ n, xs[i]? = some n ∧ d = nD n := by
  rw [List.getElem?_map] at h
  cases e : xs[i]? with
  | none => rw [e] at h; cases h
  | some n =>
    rw [e] at h
    exact ⟨n, rfl, (Option.some.inj h).symm⟩
theorem range_at {n i : Nat} {d : PyData} (h : ((List.range n).map nD)[i]? = some d) : i < n ∧ d = nD i := by
  obtain ⟨k, hk, rfl⟩ := map_at h
  obtain ⟨hl, e⟩ := List.getElem?_eq_some_iff.mp hk
  rw [List.getElem_range] at e
  rw [List.length_range] at hl
  subst e
  exact ⟨hl, rfl⟩
theorem mapG_at {α : Type} {g : α → PyData} {xs : List α} {i : Nat} {d : PyData} (h : (xs.map g)[i]? = some d) : ∃ n, xs[i]? = some n ∧ d = g n := by
  rw [List.getElem?_map] at h
  cases e : xs[i]? with
  | none => rw [e] at h; cases h
  | some n =>
    rw [e] at h
    exact ⟨n, rfl, (Option.some.inj h).symm⟩
end Tw
namespace Tw
open PySem PySem.Spec PyProof.Rows L2
/-! ### sorted -/
def srt (ns : List Int) : List Int := ns.mergeSort fun a b => decide (a ≤ b)
theorem srt_perm (ns : List Int) : (srt ns).Perm ns := List.mergeSort_perm _ _
theorem srt_up (ns : List Int) : (srt ns).Pairwise (· ≤ ·) := by
  have h := List.pairwise_mergeSort (le := fun a b : Int => decide (a ≤ b)) (fun a b c h1 h2 => by simp at *; omega) (fun a b => by simp; omega) ns
  exact h.imp fun h => by simpa using h
theorem up_one : ∀ {a b : List Int}, a.Perm b → a.Pairwise (· ≤ ·) → b.Pairwise (· ≤ ·) → a = b
  | [], b, p, _, _ => (List.nil_perm.mp p).symm
  | x :: a, [], p, _, _ => by cases p.length_eq
  | x :: a, y :: b, p, h1, h2 => by
    have h1' := List.pairwise_cons.mp h1
    have h2' := List.pairwise_cons.mp h2
    have e1 : x ≤ y := by
      rcases List.mem_cons.mp (p.symm.subset (List.mem_cons_self (a := y))) with q | q
      · rw [q]; exact Int.le_refl _
      · exact h1'.1 y q
    have e2 : y ≤ x := by
      rcases List.mem_cons.mp (p.subset (List.mem_cons_self (a := x))) with q | q
      · rw [q]; exact Int.le_refl _
      · exact h2'.1 x q
    have e : x = y := Int.le_antisymm e1 e2
    subst e
    rw [up_one (p.cons_inv) h1'.2 h2'.2]
section
variable {prog : Program} {w : World} {A : Around} {E : Value → Shared → Prop} {s : Shared}
theorem collect_tup {l : Addr} {vs : List Value} {Q : List Value → Shared → Prop} (hl : IsTup s.heap l vs.toArray)
    (h : Q vs { s with heap := (s.heap.push (seqObj "list" #[] 0)).update s.heap.objs.size (Obj.mapSeq (· ++ vs.toArray)) }) (hsz : vs.length ≤ sizeLine) :
    wpAny (model prog w) A (collect (.ref l)) Q E s := by
  obtain ⟨o, ho, hc, n, hd⟩ := id hl
  unfold collect
  refine wpAny_bind (wpAny_runValue (codeAny_builtin entry_proto_collect' ?_))
  show wpAny _ _ (do again (.builtin "list.__iadd__" ⟨[← newList [], .ref l], []⟩)) _ _ s
  refine wpAny_bind (wpAny_newList (wpAny_pure ⟨Code.quiet_builtin _ (by decide +kernel), codeAny_builtin entry_list_iadd' ?_⟩))
  show wpAny _ _ (Builtin.List.listExtendWith (.ref s.heap.objs.size) (.ref l) (.ref s.heap.objs.size)) _ _ { s with heap := s.heap.push (seqObj "list" #[] 0) }
  unfold Builtin.List.listExtendWith
  have ho' : (s.heap.push (seqObj "list" #[] 0)).get? l = some o := Heap.get?_push_of_some _ ho
  refine wpAny_bind (wpAny_typeOf (T := "tuple") ⟨o, ho', hc⟩ ?_)
  have ht : (Value.type "tuple" == Value.type "tuple") = true := by rfl
  rw [if_pos (by rw [ht]; simp)]
  refine wpAny_bind (listItems_at ho' hd ?_)
  refine wpAny_bind (listItems_at (xs := #[]) (n := 0) (Heap.get?_push_size _ rfl) rfl ?_)
  rw [if_neg (by simp)]
  refine wpAny_bind (listUpdate_at (xs := #[]) (n := 0) (Heap.get?_push_size _ rfl) rfl ?_ (Nat.zero_le _) (by show (#[] ++ vs.toArray).size ≤ sizeLine + 1; simp only [Array.size_append, List.size_toArray, List.length_nil]; omega))
  refine wpAny_pure ?_
  show wpAny (model prog w) A (do
      let o ← load s.heap.objs.size
      match o.data with
      | .seq xs _ => pure xs.toList
      | _ => unsupported "internal:collect") Q E { s with heap := (s.heap.push (seqObj "list" #[] 0)).update s.heap.objs.size (Obj.mapSeq (· ++ vs.toArray)) }
  refine wpAny_bind (wpAny_load (get?_update_seq (Heap.get?_push_size _ rfl) _) ?_)
  show wpAny _ _ (pure ((#[] : Array Value) ++ vs.toArray).toList) Q E _
  rw [show ((#[] : Array Value) ++ vs.toArray).toList = vs by simp]
  exact wpAny_pure h
theorem sorted_tup {l : Addr} {vs : List Value} {ns : List Int} {Q : Value → Shared → Prop} (hl : IsTup s.heap l vs.toArray) (hI : IntsAre vs ns) (h64 : vs.length < 64)
    (h : ∀ (out : Array Value) (ns' : List Int), IntsAre out.toList ns' → ns'.Perm ns → ns'.Pairwise (· ≤ ·) → Q (.ref (s.heap.objs.size + 1)) { s with heap := sortedAll s.heap vs out }) :
    wpAny (model prog w) A (call (.builtin "sorted") [.ref l]) Q E s := by
  refine Calls.call_function_entry kind_sorted plain_sorted entry_sorted (args_sorted1 _) ?_
  unfold Builtin.«sorted»
  refine wpAny_bind (m := checkCount "sorted" 1 1 _) (wpAny_pure ?_)
  refine wpAny_bind (collect_tup hl ?_ (small64 h64))
  refine wpAny_bind (wpAny_newList ?_)
  have hsz : ((s.heap.push (seqObj "list" #[] 0)).update s.heap.objs.size (Obj.mapSeq (· ++ vs.toArray))).objs.size = s.heap.objs.size + 1 := by
    rw [Heap.size_update, size_push']
  have hoL : (((s.heap.push (seqObj "list" #[] 0)).update s.heap.objs.size (Obj.mapSeq (· ++ vs.toArray))).push (seqObj "list" vs.toArray 0)).get? (s.heap.objs.size + 1) = some (seqObj "list" vs.toArray 0) := by
    rw [← hsz]; exact Heap.get?_push_size _ rfl
  show wpAny _ _ _ _ _ { s with heap := ((s.heap.push (seqObj "list" #[] 0)).update s.heap.objs.size (Obj.mapSeq (· ++ vs.toArray))).push (seqObj "list" vs.toArray 0) }
  rw [hsz]
  refine wpAny_bind (wpAny_holding (wpAny_call_entry slot_list_sort ⟨_, hoL, rfl⟩ entry_list_sort (list_sort_tree hoL hI h64 fun out ns' a1 a2 a3 => ⟨_, rfl, ?_⟩) (args_list_sort _)))
  exact wpAny_pure ⟨_, rfl, h out ns' a1 a2 a3⟩
end
section
variable {X : Cx}
def rSortedTu (K : PySem.W.Frag) : List V → Hp → VK → Prop := fun vs H Q => ∃ (a : Addr) (ns : List Int), vs = [V.ref a] ∧ SqT K H a (ns.map V.int) ∧ ns.length < 64 ∧
  ∀ (ns' : List Int) (p : Addr), ns'.Perm ns → ns'.Pairwise (· ≤ ·) → H p = none → Q (.ref p) (upd H p (.lst (ns'.map V.int)))
theorem cr_sortedTu : CallR X (.builtin "sorted") (rSortedTu X.K) := by
  intro pins s σ H vs us Q I r h
  obtain ⟨a, ns, rfl, hs, h64, q⟩ := h
  obtain ⟨its, rv, hl, _⟩ := I.tuple hs
  rw [Vals.ref1 r]
  have hi := rv.ints
  refine sorted_tup hl hi (by rw [hi.length]; exact h64) fun out ns' h1 h2 h3 => ?_
  obtain ⟨ep, he'⟩ := PyProof.Rows.sortedAll_at s.heap its out
  have hlen : (ns'.map V.int).length ≤ sizeLine := by rw [List.length_map, h2.length_eq]; exact small64 h64
  exact ⟨.ref _, upd H (s.heap.objs.size + 1) (.lst (ns'.map V.int)), I.laid (t' := s.toks) (fun _ _ => PyProof.Rows.sortedAll_old) (Nat.le_succ _) ⟨hlen, out.toList, ep, vals_of_ints h1, he'⟩, rfl, q ns' _ h2 h3 (I.hok.fresh (Nat.le_succ _))⟩
theorem cdl_sortedT {ns : List Int} (h : ns.length < 64) : CDL X (.builtin "sorted") [.tuple (ns.map PyData.int)] ((srt ns).map PyData.int) := ⟨_, cr_sortedTu, fun H xs hx Q q => by
  obtain ⟨v, rfl, hv⟩ := hx.one_inv
  obtain ⟨a, ys, rfl, h1, h2⟩ := hv.tup_inv
  rw [h2.ints_inv] at h1
  refine ⟨a, ns, rfl, h1, h, fun ns' p hp hu hn => ?_⟩
  rw [up_one (hp.trans (srt_perm ns).symm) hu (srt_up ns)]
  exact q p _ _ hn (same_new hn) upd_same (HdA.ints _)⟩
theorem cdl_sortedL {ns : List Int} (h : ns.length < 64) : CDL X (.builtin "sorted") [.list (ns.map PyData.int)] ((srt ns).map PyData.int) := ⟨_, cr_sorted, fun H xs hx Q q => by
  obtain ⟨v, rfl, hv⟩ := hx.one_inv
  obtain ⟨a, ys, rfl, h1, h2⟩ := hv.list_inv
  rw [h2.ints_inv] at h1
  refine ⟨a, ns, rfl, SqL.of h1, h, fun ns' p hp hu hn => ?_⟩
  rw [up_one (hp.trans (srt_perm ns).symm) hu (srt_up ns)]
  exact q p _ _ hn (same_new hn) upd_same (HdA.ints _)⟩
/-! ### xs.index(n) -/
theorem ints_at {ns : List Int} {j : Nat} {z : V} (h : (ns.map V.int)[j]? = some z) : ∃ n, ns[j]? = some n ∧ z = .int n := by
  rw [List.getElem?_map] at h
  cases e : ns[j]? with
  | none => rw [e] at h; cases h
  | some n =>
    rw [e] at h
    exact ⟨n, rfl, (Option.some.inj h).symm⟩
theorem idx_at {ns : List Int} {n : Int} (h : n ∈ ns) : ns[ns.idxOf n]? = some n ∧ ∀ m, m < ns.idxOf n → ∀ z, ns[m]? = some z → z ≠ n := by
  refine ⟨?_, fun m hm z hz e => ?_⟩
  · have hl := List.idxOf_lt_length_iff.mpr h
    rw [List.getElem?_eq_getElem hl, List.getElem_idxOf hl]
  · subst e
    obtain ⟨hl, e⟩ := List.getElem?_eq_some_iff.mp hz
    have := List.not_of_lt_findIdx (p := fun x => x == z) (xs := ns) (i := m) (by exact hm)
    rw [e] at this
    simp at this
theorem md_index {ns : List Int} {n : Int} (h : n ∈ ns) : MD X "list" "list.index" (.list (ns.map PyData.int)) [.int n] (nD (ns.idxOf n)) := ⟨fun H x hx => by
    obtain ⟨a, ys, rfl, h1, h2⟩ := hx.list_inv
    exact Or.inl ⟨rfl, _, SqL.of h1⟩, _, mt_index, fun H x xs hx hxs Q q => by
    obtain ⟨a, ys, rfl, h1, h2⟩ := hx.list_inv
    obtain ⟨v, rfl, hv⟩ := hxs.one_inv
    cases hv
    rw [h2.ints_inv] at h1
    obtain ⟨e1, e2⟩ := idx_at h
    refine ⟨a, _, .int n, ns.idxOf n, .int n, rfl, rfl, SqL.of h1, rfl, ?_, ?_, ?_, fun m z' hm hz => ?_, q _ H (Same.refl H) (.int _)⟩
    · rw [List.all_map]
      exact List.all_eq_true.mpr fun _ _ => rfl
    · rw [List.getElem?_map, e1] <;> rfl
    · show decide _ = true
      simp
    · obtain ⟨k, hk, rfl⟩ := ints_at hz
      have := e2 m hm k hk
      show decide _ = false
      simpa using this⟩
end
section
variable {X : Cx} {e : Expr} {pos p : Pos} {Γ : Ev} {ds : List PyData}
/-- tuple([..]), len([..]) -/
theorem pd_tupL (h : PDL X e Γ ds) (hg : Gl X "tuple") (hm : X.mg "tuple" = none) (hs : starEach [e] X.env = (false, eval e X.env) :: starEach [] X.env) : PD X (.Call (.Name "tuple" p) [e] [] pos) Γ (.tuple ds) :=
  pd_callT cd_tupL hg hm bb_tuple (pad_cons h.pd pad_nil hs) (by decide) (by decide) hs rfl
theorem pd_lenL (h : PDL X e Γ ds) (hg : Gl X "len") (hm : X.mg "len" = none) (hs : starEach [e] X.env = (false, eval e X.env) :: starEach [] X.env) : PD X (.Call (.Name "len" p) [e] [] pos) Γ (nD ds.length) :=
  pd_callB cd_lenL hg hm bb_len (pad_cons h.pd pad_nil hs) (by decide) (by decide) hs rfl
end
end Tw
namespace Tw
open PySem PySem.Spec PyProof.Rows L2
/-! ### data compared -/
theorem lay_ints : ∀ ns : List Int, PyData.canLayAll0 (ns.map PyData.int) = true
  | [] => by simp [PyData.canLayAll0]
  | n :: ns => by
    show PyData.canLayAll0 (PyData.int n :: ns.map PyData.int) = true
    rw [PyData.canLayAll0, lay_ints ns]
    simp [PyData.canLay0]
theorem dep_ints : ∀ ns : List Int, PyData.depthAll (ns.map PyData.int) = 0
  | [] => by simp [PyData.depthAll]
  | n :: ns => by
    show PyData.depthAll (PyData.int n :: ns.map PyData.int) = 0
    rw [PyData.depthAll, dep_ints ns]
    simp [PyData.depth]
theorem eqvAll_ints : ∀ ns ms : List Int, PyData.eqvAll (ns.map PyData.int) (ms.map PyData.int) = decide (ns = ms)
  | [], [] => by simp [PyData.eqvAll]
  | [], m :: ms => by simp [PyData.eqvAll]
  | n :: ns, [] => by simp [PyData.eqvAll]
  | n :: ns, m :: ms => by
    show PyData.eqvAll (PyData.int n :: ns.map PyData.int) (PyData.int m :: ms.map PyData.int) = _
    rw [PyData.eqvAll, eqvAll_ints ns ms]
    by_cases h : n = m
    · subst h
      simp [PyData.eqv]
    · simp [PyData.eqv, h]
theorem shaped_tup {ds : List PyData} (h1 : PyData.canLayAll0 ds = true) (h2 : PyData.depthAll ds ≤ 63) : SeqAt.shaped (.tuple ds) = true := by
  unfold SeqAt.shaped
  rw [Bool.and_eq_true]
  refine ⟨by rw [PyData.canLay0]; exact h1, decide_eq_true ?_⟩
  rw [PyData.depth]
  omega
theorem shaped_list {ds : List PyData} (h1 : PyData.canLayAll0 ds = true) (h2 : PyData.depthAll ds ≤ 63) : SeqAt.shaped (.list ds) = true := by
  unfold SeqAt.shaped
  rw [Bool.and_eq_true]
  refine ⟨by rw [PyData.canLay0]; exact h1, decide_eq_true ?_⟩
  rw [PyData.depth]
  omega
theorem tup_shaped {ds : List PyData} (h : SeqAt.shaped (.tuple ds) = true) : PyData.canLayAll0 ds = true ∧ PyData.depthAll ds ≤ 63 := by
  unfold SeqAt.shaped at h
  rw [Bool.and_eq_true] at h
  obtain ⟨h1, h2⟩ := h
  have h2 := of_decide_eq_true h2
  rw [PyData.canLay0] at h1
  rw [PyData.depth] at h2
  exact ⟨h1, by omega⟩
theorem list_shaped {ds : List PyData} (h : SeqAt.shaped (.list ds) = true) : PyData.canLayAll0 ds = true ∧ PyData.depthAll ds ≤ 63 := by
  unfold SeqAt.shaped at h
  rw [Bool.and_eq_true] at h
  obtain ⟨h1, h2⟩ := h
  have h2 := of_decide_eq_true h2
  rw [PyData.canLay0] at h1
  rw [PyData.depth] at h2
  exact ⟨h1, by omega⟩
theorem layA_sub : ∀ {a b : List PyData}, (∀ d ∈ a, d ∈ b) → PyData.canLayAll0 b = true → PyData.canLayAll0 a = true
  | [], _, _, _ => by simp [PyData.canLayAll0]
  | x :: a, b, h, q => by
    rw [PyData.canLayAll0, layA_sub (fun d hd => h d (by simp [hd])) q, Bool.and_true]
    exact PyData.canLay0_of_mem b x q (h x (by simp))
theorem dep_mem : ∀ {b : List PyData} {d : PyData}, d ∈ b → PyData.depth d ≤ PyData.depthAll b
  | x :: b, d, h => by
    rw [PyData.depthAll]
    rcases List.mem_cons.mp h with e | e
    · rw [e]; exact Nat.le_max_left _ _
    · exact Nat.le_trans (dep_mem e) (Nat.le_max_right _ _)
theorem depA_sub : ∀ {a b : List PyData}, (∀ d ∈ a, d ∈ b) → PyData.depthAll a ≤ PyData.depthAll b
  | [], _, _ => by rw [PyData.depthAll]; exact Nat.zero_le _
  | x :: a, b, h => by
    rw [PyData.depthAll]
    exact Nat.max_le.mpr ⟨dep_mem (h x (by simp)), depA_sub fun d hd => h d (by simp [hd])⟩
theorem shaped_mem {ds : List PyData} {d : PyData} (h : SeqAt.shaped (.tuple ds) = true) (hd : d ∈ ds) : SeqAt.shaped d = true := by
  obtain ⟨h1, h2⟩ := tup_shaped h
  unfold SeqAt.shaped
  rw [Bool.and_eq_true]
  exact ⟨PyData.canLay0_of_mem ds d h1 hd, decide_eq_true (by have := dep_mem hd; omega)⟩
theorem shaped_nd {d : PyData} (h : SeqAt.shaped d = true) : ∀ kvs, d ≠ .dict kvs := fun kvs e => by
  subst e
  simp [SeqAt.shaped, PyData.canLay0] at h
theorem sh_ints (ns : List Int) : SeqAt.shaped (.tuple (ns.map PyData.int)) = true := shaped_tup (lay_ints ns) (by rw [dep_ints]; decide)
theorem sh_intsL (ns : List Int) : SeqAt.shaped (.list (ns.map PyData.int)) = true := shaped_list (lay_ints ns) (by rw [dep_ints]; decide)
theorem sh_row (xs : List Nat) : SeqAt.shaped (rowD xs) = true := by
  show SeqAt.shaped (.tuple (xs.map nD)) = true
  rw [nD_ints]
  exact sh_ints _
theorem sh_lst (xs : List Nat) : SeqAt.shaped (lstD xs) = true := by
  show SeqAt.shaped (.list (xs.map nD)) = true
  rw [nD_ints]
  exact sh_intsL _
theorem cast_inj {xs ys : List Nat} : (xs.map fun n : Nat => (n : Int)) = (ys.map fun n : Nat => (n : Int)) ↔ xs = ys :=
  ⟨fun h => (List.map_inj_right (fun a b e => by omega)).mp h, fun h => by rw [h]⟩
theorem eqvAll_row (xs ys : List Nat) : PyData.eqvAll (xs.map nD) (ys.map nD) = decide (xs = ys) := by
  rw [nD_ints, nD_ints, eqvAll_ints]
  exact decide_eq_decide.mpr cast_inj
section
variable {X : Cx} {a b c e : Expr} {pos p : Pos} {Γ : Ev} {d dx dy dz : PyData} {ds : List PyData}
theorem od_eqR {xs ys : List Nat} (hu : X.A.units + 64 < cLine) : OD X (compareOp .Eq) (.tuple (xs.map nD)) (.tuple (ys.map nD)) (.bool (decide (xs = ys))) := (od_eq hu (sh_row xs) (sh_row ys)).is (by rw [PyData.eqv, eqvAll_row])
theorem od_neR {xs ys : List Nat} (hu : X.A.units + 64 < cLine) : OD X (compareOp .NotEq) (.tuple (xs.map nD)) (.tuple (ys.map nD)) (.bool (!decide (xs = ys))) := (od_ne hu (sh_row xs) (sh_row ys)).is (by rw [PyData.eqv, eqvAll_row])
theorem od_eqLR {xs ys : List Nat} (hu : X.A.units + 64 < cLine) : OD X (compareOp .Eq) (.list (xs.map nD)) (.list (ys.map nD)) (.bool (decide (xs = ys))) := (od_eq hu (sh_lst xs) (sh_lst ys)).is (by rw [PyData.eqv, eqvAll_row])
theorem od_eqLI {ns : List Int} {ys : List Nat} (hu : X.A.units + 64 < cLine) : OD X (compareOp .Eq) (.list (ns.map PyData.int)) (.list (ys.map nD)) (.bool (decide (ns = ys.map fun n : Nat => (n : Int)))) := (od_eq hu (sh_intsL ns) (sh_lst ys)).is (by rw [PyData.eqv, nD_ints, eqvAll_ints])
theorem od_eqLI2 {ns ms : List Int} (hu : X.A.units + 64 < cLine) : OD X (compareOp .Eq) (.list (ns.map PyData.int)) (.list (ms.map PyData.int)) (.bool (decide (ns = ms))) := (od_eq hu (sh_intsL ns) (sh_intsL ms)).is (by rw [PyData.eqv, eqvAll_ints])
theorem od_eqLI3 {ns : List Int} {ys : List Nat} (hu : X.A.units + 64 < cLine) : OD X (compareOp .Eq) (.list (ys.map nD)) (.list (ns.map PyData.int)) (.bool (decide ((ys.map fun n : Nat => (n : Int)) = ns))) := (od_eq hu (sh_lst ys) (sh_intsL ns)).is (by rw [PyData.eqv, nD_ints, eqvAll_ints])
theorem od_neLI3 {ns : List Int} {ys : List Nat} (hu : X.A.units + 64 < cLine) : OD X (compareOp .NotEq) (.list (ys.map nD)) (.list (ns.map PyData.int)) (.bool (!decide ((ys.map fun n : Nat => (n : Int)) = ns))) := (od_ne hu (sh_lst ys) (sh_intsL ns)).is (by rw [PyData.eqv, nD_ints, eqvAll_ints])
/-- compared with (), [] -/
theorem eqvAll_nil (ds : List PyData) : PyData.eqvAll ds [] = ds.isEmpty := by cases ds <;> simp [PyData.eqvAll]
theorem od_eqT0 (hu : X.A.units + 64 < cLine) (h : SeqAt.shaped (.tuple ds) = true) : OD X (compareOp .Eq) (.tuple ds) (.tuple []) (.bool ds.isEmpty) := (od_eq hu h (by rfl)).is (by rw [PyData.eqv, eqvAll_nil])
theorem od_neT0 (hu : X.A.units + 64 < cLine) (h : SeqAt.shaped (.tuple ds) = true) : OD X (compareOp .NotEq) (.tuple ds) (.tuple []) (.bool (!ds.isEmpty)) := (od_ne hu h (by rfl)).is (by rw [PyData.eqv, eqvAll_nil])
theorem od_eqL0 (hu : X.A.units + 64 < cLine) (h : SeqAt.shaped (.list ds) = true) : OD X (compareOp .Eq) (.list ds) (.list []) (.bool ds.isEmpty) := (od_eq hu h (by rfl)).is (by rw [PyData.eqv, eqvAll_nil])
theorem od_neL0 (hu : X.A.units + 64 < cLine) (h : SeqAt.shaped (.list ds) = true) : OD X (compareOp .NotEq) (.list ds) (.list []) (.bool (!ds.isEmpty)) := (od_ne hu h (by rfl)).is (by rw [PyData.eqv, eqvAll_nil])
/-! ### kinds -/
def isIntB : PyData → Bool
  | .int _ | .bool _ => true
  | _ => false
def isBoolB : PyData → Bool
  | .bool _ => true
  | _ => false
def isTupB : PyData → Bool
  | .tuple _ => true
  | _ => false
def wholeB : PyData → Bool
  | .int _ => true
  | _ => false
theorem whole_eq (d : PyData) : (isIntB d && !isBoolB d) = wholeB d := by cases d <;> rfl
theorem kit_int (d : PyData) (nd : ∀ kvs, d ≠ .dict kvs) : kitB (kindOf d) "int" = some (isIntB d) := by
  cases d with
  | none => exact (by decide +kernel : kitB "NoneType" "int" = some false)
  | bool b => exact (by decide +kernel : kitB "bool" "int" = some true)
  | int i => exact (by decide +kernel : kitB "int" "int" = some true)
  | str i => exact (by decide +kernel : kitB "str" "int" = some false)
  | list i => exact (by decide +kernel : kitB "list" "int" = some false)
  | tuple i => exact (by decide +kernel : kitB "tuple" "int" = some false)
  | dict kvs => exact absurd rfl (nd kvs)
theorem kit_bool (d : PyData) (nd : ∀ kvs, d ≠ .dict kvs) : kitB (kindOf d) "bool" = some (isBoolB d) := by
  cases d with
  | none => exact (by decide +kernel : kitB "NoneType" "bool" = some false)
  | bool b => exact (by decide +kernel : kitB "bool" "bool" = some true)
  | int i => exact (by decide +kernel : kitB "int" "bool" = some false)
  | str i => exact (by decide +kernel : kitB "str" "bool" = some false)
  | list i => exact (by decide +kernel : kitB "list" "bool" = some false)
  | tuple i => exact (by decide +kernel : kitB "tuple" "bool" = some false)
  | dict kvs => exact absurd rfl (nd kvs)
theorem kit_tup (d : PyData) (nd : ∀ kvs, d ≠ .dict kvs) : kitB (kindOf d) "tuple" = some (isTupB d) := by
  cases d with
  | none => exact (by decide +kernel : kitB "NoneType" "tuple" = some false)
  | bool b => exact (by decide +kernel : kitB "bool" "tuple" = some false)
  | int i => exact (by decide +kernel : kitB "int" "tuple" = some false)
  | str i => exact (by decide +kernel : kitB "str" "tuple" = some false)
  | list i => exact (by decide +kernel : kitB "list" "tuple" = some false)
  | tuple i => exact (by decide +kernel : kitB "tuple" "tuple" = some true)
  | dict kvs => exact absurd rfl (nd kvs)
theorem pd_isInt {p1 p2 : Pos} (h : PD X e Γ d) (nd : ∀ kvs, d ≠ .dict kvs) (hg : Gl X "isinstance") (hm : X.mg "isinstance" = none) (hg2 : Gl X "int") (hm2 : X.mg "int" = none)
    (he : starEach [e, .Name "int" p2] X.env = (false, eval e X.env) :: starEach [.Name "int" p2] X.env) : PD X (.Call (.Name "isinstance" p1) [e, .Name "int" p2] [] pos) Γ (.bool (isIntB d)) := pd_isi h (kit_int d nd) nd hg hm hg2 hm2 bb_int (by decide) (by decide) he rfl rfl
theorem pd_isBool {p1 p2 : Pos} (h : PD X e Γ d) (nd : ∀ kvs, d ≠ .dict kvs) (hg : Gl X "isinstance") (hm : X.mg "isinstance" = none) (hg2 : Gl X "bool") (hm2 : X.mg "bool" = none)
    (he : starEach [e, .Name "bool" p2] X.env = (false, eval e X.env) :: starEach [.Name "bool" p2] X.env) : PD X (.Call (.Name "isinstance" p1) [e, .Name "bool" p2] [] pos) Γ (.bool (isBoolB d)) := pd_isi h (kit_bool d nd) nd hg hm hg2 hm2 bb_bool (by decide) (by decide) he rfl rfl
theorem pd_isTup {p1 p2 : Pos} (h : PD X e Γ d) (nd : ∀ kvs, d ≠ .dict kvs) (hg : Gl X "isinstance") (hm : X.mg "isinstance" = none) (hg2 : Gl X "tuple") (hm2 : X.mg "tuple" = none)
    (he : starEach [e, .Name "tuple" p2] X.env = (false, eval e X.env) :: starEach [.Name "tuple" p2] X.env) : PD X (.Call (.Name "isinstance" p1) [e, .Name "tuple" p2] [] pos) Γ (.bool (isTupB d)) := pd_isi h (kit_tup d nd) nd hg hm hg2 hm2 bb_tuple (by decide) (by decide) he rfl rfl
/-! ### list(range(n)), a module's number -/
theorem pdl_lrg {n : Nat} {p1 p2 pos2 : Pos} (h : PD X a Γ (.int (n : Int))) (hn : n ≤ 10000000) (hc : X.calm = true) (hg : Gl X "list") (hm : X.mg "list" = none) (hg2 : Gl X "range") (hm2 : X.mg "range" = none)
    (na : starEach [a] X.env = (false, eval a X.env) :: starEach [] X.env) (nb : starEach [.Call (.Name "range" p2) [a] [] pos2] X.env = (false, eval (.Call (.Name "range" p2) [a] [] pos2) X.env) :: starEach [] X.env) :
    PDL X (.Call (.Name "list" p1) [.Call (.Name "range" p2) [a] [] pos2] [] pos) Γ ((List.range n).map nD) := .mk fun σ H st Q q =>
  ⟨_, pe_listRg hc hg hm (prg_1 hg2 hm2 (wE_ok a) na) nb, h σ H st _ fun v H1 e1 hv => by
    cases hv
    refine ⟨(n : Int), rfl, ⟨by omega, by omega, by omega, by omega, by omega⟩, fun p hp => ?_⟩
    have e : rgV 0 (n : Int) = ((List.range n).map fun n : Nat => (n : Int)).map V.int := by
      unfold rgV
      rw [List.map_map]
      have e0 : ((n : Int) - 0).toNat = n := by omega
      rw [e0]
      refine List.map_congr_left fun i _ => ?_
      show V.int (0 + (i : Int)) = V.int (i : Int)
      rw [Int.zero_add]
    rw [e, nD_ints] at *
    exact q p _ _ (same_back e1 hp) (e1.trans (same_new hp)) upd_same (HdA.ints _)⟩
theorem pd_tuprg {n : Nat} {p1 p2 pos2 : Pos} (h : PD X a Γ (.int (n : Int))) (hn : n ≤ 10000000) (hc : X.calm = true) (hg : Gl X "tuple") (hm : X.mg "tuple" = none) (hg2 : Gl X "range") (hm2 : X.mg "range" = none)
    (na : starEach [a] X.env = (false, eval a X.env) :: starEach [] X.env) (nb : starEach [.Call (.Name "range" p2) [a] [] pos2] X.env = (false, eval (.Call (.Name "range" p2) [a] [] pos2) X.env) :: starEach [] X.env) :
    PD X (.Call (.Name "tuple" p1) [.Call (.Name "range" p2) [a] [] pos2] [] pos) Γ (.tuple ((List.range n).map nD)) := .mk fun σ H st Q q =>
  ⟨_, pe_tupRg hc hg hm (prg_1 hg2 hm2 (wE_ok a) na) nb, h σ H st _ fun v H1 e1 hv => by
    cases hv
    refine ⟨(n : Int), rfl, ⟨by omega, by omega, by omega, by omega, by omega⟩, fun p hp => ?_⟩
    have e : rgV 0 (n : Int) = ((List.range n).map fun n : Nat => (n : Int)).map V.int := by
      unfold rgV
      rw [List.map_map]
      have e0 : ((n : Int) - 0).toNat = n := by omega
      rw [e0]
      refine List.map_congr_left fun i _ => ?_
      show V.int (0 + (i : Int)) = V.int (i : Int)
      rw [Int.zero_add]
    rw [e, nD_ints] at *
    exact q _ _ (e1.trans (same_new hp)) (.tup (SqT.of upd_same) (HdA.ints _))⟩
theorem pd_gint {x : Str} {i : Int} (h : ∃ t, X.mg x = some (.int i t)) (hg : Gl X x) (hd : (x == ("__debug__" : Str)) = false) : PD X (.Name x pos) Γ (.int i) := .mk fun σ H st Q q => by
  obtain ⟨t, h⟩ := h
  exact ⟨_, pe_glob (v := .int i) hg h ⟨t, rfl⟩ hd, q _ H (Same.refl H) (.int i)⟩
end
end Tw
namespace Tw
open PySem PySem.Spec PyProof.Rows L2
/-! ### [x for x in t if c], whatever stands in t -/
section
variable {X : Cx} {c iter : Expr} {pos : Pos} {Γ : Ev} {ds : List PyData}
theorem pdl_lcV (keep : PyData → Bool) {scope : Scope} {x : Str} {j : Nat} {tp ep : Pos} (hi : PD X iter Γ (.tuple ds)) (hz : ds.length ≤ 16000000)
    (ht : ∀ (s : Shared) (H : Hp) (C : Addr) (cl : List (Str × Addr)) (fp : List Addr), ∀ d ∈ ds, PTD (Bk X scope s H C cl fp) c (Γ.set j (some d)) (keep d))
    (hv : ∀ (s : Shared) (H : Hp) (C : Addr) (cl : List (Str × Addr)) (fp : List Addr), PE (Bk X scope s H C cl fp) (.Name x ep) (tVar j)) (hjl : j < Γ.length)
    (hc : X.calm = true) (hN : X.N.Nodup) (ok : blkC X.N X.env.scope scope [(x, j)] = true)
    (hg : ∀ (s : Shared) (H : Hp) (C : Addr) (cl : List (Str × Addr)) (fp : List Addr), PG (Bk X scope s H C cl fp) (.Name x tp) (gName j)) (hs : ∀ x, foldedSetIterable iter X.env x = pure x := by intro _; rfl) :
    PDL X (.ListComp (.Name x ep) [⟨.Name x tp, iter, [c], 0⟩] scope pos) Γ (ds.filter keep) := .mk fun σ H st Q q =>
  ⟨_, pe_lc (own := [(x, j)]) (g := gName j) (te := tVar j) hc hN (pi_tup (wE_ok iter)) (blkOk_by ok) hg (fun s H C cl fp => bTs_ok [c] s H C cl fp) hv hs, hi σ H st _ fun v H1 e1 hv => by
    obtain ⟨a, xs, rfl, h1, h2⟩ := hv.tup_inv
    refine ⟨a, rfl, ⟨xs, h1⟩, fun D hD => ?_⟩
    have hlen := h2.length
    have st1 := (st.same e1)
    refine lc_tup (K := X.K) (a := a) (xs := xs) (fun i H2 => Same H1 H2 ∧ ∃ acc, H2 D = some (.lst acc) ∧ HdA X.K H1 acc ((ds.take i).filter keep)) ⟨same_mut (Same.refl _) hD, [], upd_same, by rw [List.take_zero]; exact .nil⟩ (fun i H2 _ p => Same.sqt p.1 h1) (fun i y H2 hy p => ?_) (fun H2 p => ?_)
    · obtain ⟨e2, acc, ha, hacc⟩ := p
      obtain ⟨d, hd, hyd⟩ := h2.getV hy
      have hdm : d ∈ ds := List.mem_of_getElem? hd
      have hil : i < ds.length := (List.getElem?_eq_some_iff.mp hd).1
      have tk : ds.take (i + 1) = ds.take i ++ [d] := by rw [List.take_add_one, hd] <;> rfl
      have hal : acc.length ≤ i := by
        rw [hacc.length]
        refine Nat.le_trans (List.length_filter_le _ _) ?_
        rw [List.length_take]
        exact Nat.min_le_left _ _
      have q1 := ((st1.same e2).wipe (own := [j])).set (i := j) (hyd.same e2)
      have e5 : ([j].foldr (fun i g => g.set i none) Γ).set j (some d) = Γ.set j (some d) := List.set_set ..
      rw [e5] at q1
      refine ⟨set_wipe, fun s H' C cl fp => ⟨_, pts_one (wT_ok c), ht s H' C cl fp d hdm _ _ q1 _ fun H4 e4 => ?_⟩⟩
      have hjs : j < (wipe σ [j]).length := by rw [wipe_length, ← st.1]; exact hjl
      cases hk : keep d with
      | true =>
        rw [if_pos rfl]
        refine ⟨y, (show ((wipe σ [j]).set j (some y))[j]? = _ from List.getElem?_set_self hjs), acc, e4 _ _ ha, Nat.lt_of_le_of_lt hal (Nat.lt_of_lt_of_le hil (sz_of hz)), same_mut (e2.trans e4) hD, _, upd_same, ?_⟩
        rw [tk, List.filter_append, List.filter_cons, if_pos hk]
        exact hacc.snoc hyd
      | false =>
        rw [if_neg (by decide)]
        refine ⟨e2.trans e4, acc, e4 _ _ ha, ?_⟩
        rw [tk, List.filter_append, List.filter_cons, if_neg (by rw [hk]; decide)]
        show HdA X.K H1 acc (_ ++ [])
        rw [List.append_nil]
        exact hacc
    · obtain ⟨e2, acc, ha, hacc⟩ := p
      rw [hlen, List.take_length] at hacc
      exact q D acc H2 (same_back e1 hD) (e1.trans e2) ha (hacc.same e2)⟩
end
/-! ### tuple * 2 -/
end Tw
namespace Tw
open PySem PySem.Spec PyProof.Rows L2
open AutoSeq1 (wpAny_loadPart')
open MeetsSeq MeetsSeq2 MeetsSeq3 SeqRoads2
theorem tuple_mul0 (l : Addr) (n : Nat) (dd : Option Addr) (sl : Array (Option Value)) (x : Int) (u : Tok) (c0 : (decide (x < -(2 ^ 63)) || decide (x ≥ 2 ^ 63)) = false) :
    Meets (Builtin.«tuple.__mul__» ⟨[.ref l, .int x u], []⟩) (fun _ R s => s.heap.get? l = some { cls := .type "tuple", dict := dd, data := .seq #[] n, slots := sl } ∧
      R (.ok (.ret (Value.ref l))) s) :=
  .of_wp fun prog w A R s h => by
    obtain ⟨hp, g, d, tk, os⟩ := s
    obtain ⟨hl, h⟩ := h
    have f1 := AutoSeq1.idx_int
    wp_walk using wpAny_loadPart' hl
    (refine wpAny_ite_false (decide_eq_false (by rw [c0]; exact Bool.false_ne_true)) ?_; wp_walk using wpAny_loadPart' hl)
    exact ⟨_, rfl, h⟩
end Tw
namespace Tw
open PySem PySem.Spec PyProof.Rows L2
section
variable {X : Cx} {d : PyData} {ds : List PyData}
def rRepT0 (K : PySem.W.Frag) : R2 := fun x y H Q => ∃ l k, x = .ref l ∧ y = .int k ∧ SqT K H l [] ∧ -1000 ≤ k ∧ k ≤ 1000 ∧ Q (.ref l) H
theorem op_repT0 : OpR X (binaryOp .Mult) (rRepT0 X.K) := by
  intro pins s σ H x y v u Q I rx ry h
  obtain ⟨l, k, rfl, rfl, hT, h1, h2, q⟩ := h
  cases rx
  obtain ⟨t, rfl⟩ := ry
  obtain ⟨its, r, ⟨⟨cls, dd, data, sl⟩, ho, hc, n, hd⟩, hs⟩ := I.tuple hT
  simp only at hc hd
  subst hc hd
  cases r
  have c0 : (decide (k < -(2 ^ 63)) || decide (k ≥ 2 ^ 63)) = false := by
    rw [decide_eq_false (by omega), decide_eq_false (by omega)] <;> rfl
  exact wpAny_binaryOp_repeat_ref (T := "tuple") (U := "int") (by decide) ⟨_, ho, rfl⟩ (fun s' => typeIs_int s' k t) noFill_tuple_mul F.fills_int_mul F.slot_int_rmul repeat_tuple F.slot_int_index.lookup
    (call_meets F.slot_int_rmul (typeIs_int s k t) F.entry_int_rmul (F.args_int_rmul_2 _ _) (int_rmul_tuple k t l #[] n dd sl)
      ⟨ho, rfl, ⟨_, ho, rfl⟩, call_meets F.slot_tuple_mul ⟨_, ho, rfl⟩ F.entry_tuple_mul (F.args_tuple_mul_2 _ _) (tuple_mul0 l n dd sl k t c0) ⟨ho, ⟨.ref l, H, I, rfl, q⟩⟩⟩)
theorem od_repT {k : Int} (h1 : 2 ≤ k) (h2 : k ≤ 1000) (hz : ds.length ≤ 1000) : OD X (binaryOp .Mult) (.tuple ds) (.int k) (.tuple (List.replicate k.toNat ds).flatten) := by
  cases ds with
  | nil =>
    have e : (List.replicate k.toNat ([] : List PyData)).flatten = [] := by
      induction k.toNat with
      | zero => rfl
      | succ n ih => rw [List.replicate_succ, List.flatten_cons, ih] <;> rfl
    rw [e]
    refine ⟨_, op_repT0, fun H x y hx hy Q q => ?_⟩
    obtain ⟨a, xs, rfl, h3, h4⟩ := hx.tup_inv
    obtain rfl := hy.int_inv
    cases h4
    exact ⟨a, k, rfl, rfl, h3, by omega, h2, q _ H (Same.refl H) (.tup h3 .nil)⟩
  | cons d0 ds =>
    refine ⟨_, op_repT, fun H x y hx hy Q q => ?_⟩
    obtain ⟨a, xs, rfl, h3, h4⟩ := hx.tup_inv
    obtain rfl := hy.int_inv
    refine ⟨a, k, xs, rfl, rfl, h3, ?_, h1, h2, by rw [h4.length]; exact hz, fun p hp => q _ _ (same_new hp) (.tup (SqT.of upd_same) ((h4.rep _).same (same_new hp)))⟩
    intro e
    subst e
    cases h4
/-- n in (ints), n not in (ints) -/
theorem inV_ints (n : Int) : ∀ ns : List Int, inV (.int n) (ns.map V.int) = decide (n ∈ ns)
  | [] => by rfl
  | m :: ns => by
    have ih := inV_ints n ns
    unfold inV at ih ⊢
    rw [List.map_cons, List.any_cons, ih]
    show (decide (m = n) || decide (n ∈ ns)) = _
    by_cases h : m = n
    · subst h
      simp
    · have h' : n ≠ m := fun e => h e.symm
      simp [h, h']
theorem flat_ints (ns : List Int) : (ns.map V.int).all flatV = true := by
  rw [List.all_map]
  exact List.all_eq_true.mpr fun _ _ => rfl
theorem od_inT {n : Int} {ns : List Int} : OD X (compareOp .In) (.int n) (.tuple (ns.map PyData.int)) (.bool (decide (n ∈ ns))) := ⟨_, op_in_seq, fun H x y hx hy Q q => by
  obtain rfl := hx.int_inv
  obtain ⟨a, xs, rfl, h3, h4⟩ := hy.tup_inv
  rw [h4.ints_inv] at h3
  refine ⟨a, _, rfl, .inr h3, rfl, flat_ints ns, ?_⟩
  rw [if_neg (by decide), inV_ints]
  exact q _ H (Same.refl H) (.bl _)⟩
theorem od_notInT {n : Int} {ns : List Int} : OD X (compareOp .NotIn) (.int n) (.tuple (ns.map PyData.int)) (.bool (!decide (n ∈ ns))) := ⟨_, op_notIn_seq, fun H x y hx hy Q q => by
  obtain rfl := hx.int_inv
  obtain ⟨a, xs, rfl, h3, h4⟩ := hy.tup_inv
  rw [h4.ints_inv] at h3
  refine ⟨a, _, rfl, .inr h3, rfl, flat_ints ns, ?_⟩
  rw [if_pos rfl, inV_ints]
  exact q _ H (Same.refl H) (.bl _)⟩
end
section
variable {X : Cx} {c : Expr} {rest A : List Stmt} {pos : Pos} {Γ : Ev} {nx mid : Ev → Prop} {rt : PyData → Prop}
/-- if c: A; the rest, from what holds behind both -/
theorem rb_ifm {k : Bool} (mid : Ev → Prop) (hc : PTD X c Γ k) (h1 : k = true → RB X A Γ (fun Γ' => ∃ Γ2, Le Γ' Γ2 ∧ mid Γ2) rt) (h2 : k = false → ∃ Γ2, Le Γ Γ2 ∧ mid Γ2) (hr : ∀ Γ2, mid Γ2 → RB X rest Γ2 nx rt) : RB X (.If c A [] pos :: rest) Γ nx rt :=
  rb_if hc h1 (fun h => rb_nil (h2 h)) fun Γ' ⟨Γ2, l, m⟩ => (hr Γ2 m).le l
end
section
variable {X : Cx} {a : Expr} {pos : Pos} {Γ : Ev}
theorem pd_tuprgI {i : Int} {p1 p2 pos2 : Pos} (h : PD X a Γ (.int i)) (h0 : 0 ≤ i) (hn : i ≤ 10000000) (hc : X.calm = true) (hg : Gl X "tuple") (hm : X.mg "tuple" = none) (hg2 : Gl X "range") (hm2 : X.mg "range" = none)
    (na : starEach [a] X.env = (false, eval a X.env) :: starEach [] X.env) (nb : starEach [.Call (.Name "range" p2) [a] [] pos2] X.env = (false, eval (.Call (.Name "range" p2) [a] [] pos2) X.env) :: starEach [] X.env) :
    PD X (.Call (.Name "tuple" p1) [.Call (.Name "range" p2) [a] [] pos2] [] pos) Γ (.tuple ((List.range i.toNat).map nD)) := by
  refine pd_tuprg (n := i.toNat) ?_ (by omega) hc hg hm hg2 hm2 na nb
  have e : ((i.toNat : Nat) : Int) = i := by omega
  rw [e]
  exact h
end
/-- max, min of a list, of a tuple of numbers -/
theorem cd_maxL {X : Cx} {ns : List Int} {m : Int} (hc : X.calm = true) (hm : m ∈ ns) (hle : ∀ y ∈ ns, y ≤ m) : CD X (.builtin "max") [.list (ns.map PyData.int)] (.int m) := ⟨_, cr_max hc, fun H xs h Q q => by
  obtain ⟨v, rfl, hv⟩ := h.one_inv
  obtain ⟨a, ys, rfl, h1, h2⟩ := hv.list_inv
  rw [h2.ints_inv] at h1
  refine ⟨a, ns, rfl, SqL.of h1, List.length_pos_of_mem hm, fun m' h3 h4 => ?_⟩
  have e : m' = m := Int.le_antisymm (hle m' h3) (h4 m hm)
  rw [e]
  exact q _ H (Same.refl H) (.int _)⟩
theorem PAD.is {X : Cx} {es : List Expr} {Γ : Ev} {ds ds' : List PyData} (h : PAD X es Γ ds) (q : ds = ds') : PAD X es Γ ds' := by rw [← q]; exact h
/-! ### the end -/
def spLaw (K : PySem.W.Frag) : Sp := fun vs H Q _ => ∃ (a : Addr) (ns : List Int), vs = [.ref a] ∧ SqL K H a (ns.map V.int) ∧ ns.length ≤ 63 ∧ ∀ H', Q (.bl true) H'
def R_law : Rel := fun ds r => ∃ ns : List Int, ds = [scD ns] ∧ r = .bool true
theorem law_fn {P : Program} {w : World} {K : PySem.W.Frag} {mg : Str → Option Value} {base : Heap} {x : Str} {k : Nat} {ps : List Str} {fa : Addr} {fd : FuncData} {oc : Value} {od : Option Addr} {osl : Array (Option Value)} (h : Df P w K mg base x k ps R_law) (hfa : mg x = some (.ref fa)) (l : K.lookup fa = some ⟨oc, od, .func fd, osl⟩) :
    FnOk P w K mg base CX0 k fa fd ps (spLaw K) := by
  obtain ⟨f, fd', hm, _, _, ok, oc', od', osl', lk⟩ := h
  rw [hfa] at hm
  cases hm
  rw [l] at lk
  cases lk
  refine ok.imp fun vs H Q E q => ?_
  obtain ⟨a, ns, rfl, hs, _, q⟩ := q
  refine ⟨[scD ns], .bool true, .cons (.scr hs) .nil, ⟨ns, rfl, rfl⟩, fun v H' _ hv => ?_⟩
  cases hv
  exact q H'
end Tw
namespace Tw
open PySem PySem.Spec PyProof.Rows L2
/-! ### bodies that change lists of their own: the slots own hold lists that no one else holds -/
structure StO (K : PySem.W.Frag) (H0 : Hp) (own : List Nat) (Γ : Ev) (σ : L2.St) (H : Hp) : Prop where
  base : Same H0 H
  st : StV K Γ σ H
  mine : ∀ i ∈ own, ∃ b vs ds, σ[i]? = some (some (.ref b)) ∧ H0 b = none ∧ H b = some (.lst vs) ∧ Γ[i]? = some (some (.list ds)) ∧ HdA K H vs ds ∧ lfA ds = true
  apart : ∀ i ∈ own, ∀ j ∈ own, i ≠ j → ∀ b, σ[i]? = some (some (.ref b)) → σ[j]? ≠ some (some (.ref b))
  still : ∀ (i : Nat) (d : PyData), i ∉ own → Γ[i]? = some (some d) → lf d = true ∨ ∃ v, σ[i]? = some (some v) ∧ Hd K H0 v d
section
variable {K : PySem.W.Frag} {H0 H H' : Hp} {own own' : List Nat} {Γ Γ' : Ev} {σ : L2.St}
theorem StO.same (e : Same H H') (h : StO K H0 own Γ σ H) : StO K H0 own Γ σ H' :=
  ⟨h.base.trans e, h.st.same e, fun i hi => let ⟨b, vs, ds, a1, a2, a3, a4, a5, a6⟩ := h.mine i hi; ⟨b, vs, ds, a1, a2, e _ _ a3, a4, a5.same e, a6⟩, h.apart, h.still⟩
/-- less is known, less is one's own -/
theorem StO.le (l : Le Γ Γ') (ho : ∀ i ∈ own', i ∈ own ∧ ∃ ds, Γ'[i]? = some (some (.list ds))) (hs : ∀ (i : Nat) (d : PyData), i ∉ own' → i ∈ own → Γ'[i]? = some (some d) → False) (h : StO K H0 own Γ σ H) : StO K H0 own' Γ' σ H :=
  ⟨h.base, h.st.le l, fun i hi => by
    obtain ⟨h1, ds', hd'⟩ := ho i hi
    obtain ⟨b, vs, ds, a1, a2, a3, a4, a5, a6⟩ := h.mine i h1
    exact ⟨b, vs, ds, a1, a2, a3, by rw [← a4, l.2 _ _ hd', ← hd'], a5, a6⟩, fun i hi j hj => h.apart i (ho i hi).1 j (ho j hj).1, fun i d hi hd => by
    by_cases q : i ∈ own
    · exact (hs i d hi q hd).elim
    · exact h.still i d q (l.2 i d hd)⟩
theorem StO.start (h : StV K Γ σ H) : StO K H [] Γ σ H := ⟨Same.refl H, h, (fun i hi => nomatch hi), (fun i hi => nomatch hi), fun i d _ hd => .inr (h.2 i d hd)⟩
theorem get_set_ne {α : Type} {l : List α} {i j : Nat} {x : α} (h : i ≠ j) : (l.set i x)[j]? = l[j]? := List.getElem?_set_ne h
/-- a slot gets a thing that holds no list -/
theorem StO.put {i : Nat} {v : V} {d : PyData} (h : StO K H0 own Γ σ H) (q : Hd K H v d) (hl : lf d = true) (ho : ∀ j ∈ own', j ∈ own ∧ j ≠ i) (hs : ∀ j ∈ own, j ∉ own' → j = i) : StO K H0 own' (Γ.set i (some d)) (σ.set i (some v)) H :=
  ⟨h.base, h.st.set q, fun j hj => by
    obtain ⟨h1, h2⟩ := ho j hj
    obtain ⟨b, vs, ds, a1, a2, a3, a4, a5, a6⟩ := h.mine j h1
    exact ⟨b, vs, ds, by rw [get_set_ne (Ne.symm h2)]; exact a1, a2, a3, by rw [get_set_ne (Ne.symm h2)]; exact a4, a5, a6⟩, fun j hj k hk hjk b => by
    rw [get_set_ne (Ne.symm (ho j hj).2), get_set_ne (Ne.symm (ho k hk).2)]
    exact h.apart j (ho j hj).1 k (ho k hk).1 hjk b, fun j e hj he => by
    by_cases hij : i = j
    · subst hij
      by_cases hlt : i < Γ.length
      · rw [List.getElem?_set_self hlt] at he
        cases he
        exact .inl hl
      · rw [List.getElem?_eq_none (by rw [List.length_set]; omega)] at he
        cases he
    · rw [get_set_ne hij] at he ⊢
      refine h.still j e (fun q => ?_) he
      exact hij (hs j q hj).symm⟩
/-- a slot gets a new list -/
theorem StO.putL {i : Nat} {p : Addr} {vs : List V} {ds : List PyData} (h : StO K H0 own Γ σ H) (e : Same H H') (hp : H p = none) (h1 : H' p = some (.lst vs)) (h2 : HdA K H' vs ds) (hl : lfA ds = true) (hlt : i < Γ.length) (ho : ∀ j ∈ own', j = i ∨ (j ∈ own ∧ j ≠ i)) (hs : ∀ j ∈ own, j ∉ own' → j = i) (hi' : i ∈ own') :
    StO K H0 own' (Γ.set i (some (.list ds))) (σ.set i (some (.ref p))) H' := by
  have hσ : i < σ.length := by rw [← h.st.1]; exact hlt
  have hm := h.same e
  have ne : ∀ j ∈ own, ∀ b, σ[j]? = some (some (.ref b)) → b ≠ p := fun j hj b hb q => by
    obtain ⟨b', vs', ds', a1, a2, a3, _⟩ := h.mine j hj
    rw [a1] at hb
    cases hb
    rw [q, hp] at a3
    cases a3
  refine ⟨hm.base, hm.st.set (.lst h1 h2), fun j hj => ?_, fun j hj k hk hjk b => ?_, fun j d hj hd => ?_⟩
  · by_cases hij : j = i
    · subst hij
      exact ⟨p, vs, ds, List.getElem?_set_self hσ, same_back h.base hp, h1, List.getElem?_set_self hlt, h2, hl⟩
    · obtain ⟨b, vs', ds', a1, a2, a3, a4, a5, a6⟩ := hm.mine j ((ho j hj).resolve_left hij).1
      exact ⟨b, vs', ds', by rw [get_set_ne (Ne.symm hij)]; exact a1, a2, a3, by rw [get_set_ne (Ne.symm hij)]; exact a4, a5, a6⟩
  · by_cases hij : j = i
    · subst hij
      rw [List.getElem?_set_self hσ, get_set_ne hjk]
      intro q r
      cases q
      exact ne k ((ho k hk).resolve_left (Ne.symm hjk)).1 p r rfl
    · rw [get_set_ne (Ne.symm hij)]
      by_cases hik : k = i
      · subst hik
        rw [List.getElem?_set_self hσ]
        intro q r
        cases r
        exact ne j ((ho j hj).resolve_left hij).1 p q rfl
      · rw [get_set_ne (Ne.symm hik)]
        exact h.apart j ((ho j hj).resolve_left hij).1 k ((ho k hk).resolve_left hik).1 hjk b
  · have hij : i ≠ j := fun q => by subst q; exact hj hi'
    rw [get_set_ne hij] at hd ⊢
    exact h.still j d (fun q => hij (hs j q hj).symm) hd
/-- one of the own lists is rewritten -/
theorem StO.mut {i : Nat} {b : Addr} {vs vs' : List V} {es : List PyData} (h : StO K H0 own Γ σ H) (hi : i ∈ own) (hb : σ[i]? = some (some (.ref b))) (hH : H b = some (.lst vs)) (h2 : HdA K H vs' es) (hl : lfA es = true) :
    StO K H0 own (Γ.set i (some (.list es))) σ (upd H b (.lst vs')) := by
  have mt : SameT K H (upd H b (.lst vs')) := SameT.mut hH
  obtain ⟨b0, vs0, ds0, c1, c2, c3, c4, c5, c6⟩ := h.mine i hi
  rw [c1] at hb
  cases hb
  have hlt : i < Γ.length := (List.getElem?_eq_some_iff.mp c4).1
  have h2' : HdA K (upd H b (.lst vs')) vs' es := HdA.lf mt _ _ hl h2
  have bs : Same H0 (upd H b (.lst vs')) := same_mut h.base c2
  have ne : ∀ j ∈ own, j ≠ i → ∀ a, σ[j]? = some (some (.ref a)) → a ≠ b := fun j hj hji a ha q => h.apart j hj i hi hji a ha (by rw [q]; exact c1)
  refine ⟨bs, ⟨by rw [List.length_set]; exact h.st.1, fun j d hd => ?_⟩, fun j hj => ?_, h.apart, fun j d hj hd => ?_⟩
  · by_cases hij : i = j
    · subst hij
      rw [List.getElem?_set_self hlt] at hd
      cases hd
      exact ⟨_, c1, .lst upd_same h2'⟩
    · rw [get_set_ne hij] at hd
      obtain ⟨v, hv, hvd⟩ := h.st.2 j d hd
      by_cases hjo : j ∈ own
      · obtain ⟨a, vs1, ds1, a1, a2, a3, a4, a5, a6⟩ := h.mine j hjo
        rw [a4] at hd
        cases hd
        exact ⟨_, a1, .lst (by rw [upd_ne (ne j hjo (Ne.symm hij) a a1)]; exact a3) (HdA.lf mt _ _ a6 a5)⟩
      · rcases h.still j d hjo hd with q | ⟨v', hv', q⟩
        · exact ⟨v, hv, Hd.lf mt _ _ q hvd⟩
        · exact ⟨v', hv', q.same bs⟩
  · by_cases hij : i = j
    · subst hij
      exact ⟨b, vs', es, c1, c2, upd_same, List.getElem?_set_self hlt, h2', hl⟩
    · obtain ⟨a, vs1, ds1, a1, a2, a3, a4, a5, a6⟩ := h.mine j hj
      exact ⟨a, vs1, ds1, a1, a2, by rw [upd_ne (ne j hj (Ne.symm hij) a a1)]; exact a3, by rw [get_set_ne hij]; exact a4, HdA.lf mt _ _ a6 a5, a6⟩
  · have hij : i ≠ j := fun q => by subst q; exact hj hi
    rw [get_set_ne hij] at hd
    exact h.still j d hj hd
/-- the heap without one's own lists -/
def hide (own : List Nat) (σ : L2.St) (H : Hp) : Hp := fun b => if ∃ i ∈ own, σ[i]? = some (some (.ref b)) then none else H b
open Classical in
theorem hide_def (own : List Nat) (σ : L2.St) (H : Hp) (b : Addr) : hide own σ H b = if ∃ i ∈ own, σ[i]? = some (some (.ref b)) then none else H b := by
  unfold hide
  by_cases h : ∃ i ∈ own, σ[i]? = some (some (.ref b))
  · rw [if_pos h]
  · rw [if_neg h]
theorem hide_same : Same (hide own σ H) H := fun b o q => by
  rw [hide_def] at q
  split at q
  · cases q
  · exact q
theorem hide_base (h : StO K H0 own Γ σ H) : Same H0 (hide own σ H) := fun b o q => by
  rw [hide_def]
  rw [if_neg]
  · exact h.base _ _ q
  · rintro ⟨i, hi, e⟩
    obtain ⟨b', vs, ds, a1, a2, _⟩ := h.mine i hi
    rw [a1] at e
    cases e
    rw [a2] at q
    cases q
theorem hide_t (h : StO K H0 own Γ σ H) : SameT K H (hide own σ H) := fun a xs q => by
  have nn : ∀ o, H a = some o → (∀ vs, o ≠ .lst vs) → hide own σ H a = some o := fun o e no => by
    rw [hide_def, if_neg]
    · exact e
    · rintro ⟨i, hi, e2⟩
      obtain ⟨b', vs, ds, a1, a2, a3, _⟩ := h.mine i hi
      rw [a1] at e2
      cases e2
      rw [e] at a3
      cases a3
      exact no _ rfl
  rcases q with (q | ⟨o, q⟩) | q
  · exact .inl (.inl (nn _ q fun vs z => by cases z))
  · exact .inl (.inr ⟨o, nn _ q fun vs z => by cases z⟩)
  · exact .inr q
/-- the same state over the heap without one's own lists -/
theorem StO.rebase (h : StO K H0 own Γ σ H) : StO K (hide own σ H) own Γ σ H :=
  ⟨hide_same, h.st, fun i hi => by
    obtain ⟨b, vs, ds, a1, a2, a3, a4, a5, a6⟩ := h.mine i hi
    exact ⟨b, vs, ds, a1, by rw [hide_def, if_pos ⟨i, hi, a1⟩], a3, a4, a5, a6⟩, h.apart, fun i d hi hd => by
    rcases h.still i d hi hd with q | ⟨v, hv, q⟩
    · exact .inl q
    · exact .inr ⟨v, hv, q.same (hide_base h)⟩⟩
/-- back to a smaller base -/
theorem StO.down {Hb : Hp} (e : Same H0 Hb) (hl : ∀ (i : Nat) (d : PyData), i ∉ own → Γ[i]? = some (some d) → lf d = true) (h : StO K Hb own Γ σ H) : StO K H0 own Γ σ H :=
  ⟨e.trans h.base, h.st, fun i hi => let ⟨b, vs, ds, a1, a2, a3, a4, a5, a6⟩ := h.mine i hi; ⟨b, vs, ds, a1, same_back e a2, a3, a4, a5, a6⟩, h.apart, fun i d hi hd => .inl (hl i d hi hd)⟩
end
/-- a walk over what holds no list -/
structure PIT (X : Cx) (tg iter : Expr) (Γ : Ev) (ds : List PyData) : Prop where
  run : ∀ (σ : L2.St) (H : Hp), StV X.K Γ σ H → ∀ R : It → Hp → Prop, (∀ J H', Same H H' → (∀ Hb, SameT X.K H' Hb → WalkD X.K J Hb ds) → R J H') → wI X tg iter σ H R
/-- it holds no list, or is a new one -/
def Frs (H0 H' : Hp) (v : V) (d : PyData) : Prop := lf d = true ∨ ∃ p vs, v = .ref p ∧ H0 p = none ∧ H' p = some (.lst vs)
theorem Frs.down {H0 Hb H' : Hp} {v : V} {d : PyData} (e : Same H0 Hb) (h : Frs Hb H' v d) : Frs H0 H' v d := h.elim .inl fun ⟨p, vs, a, b, c⟩ => .inr ⟨p, vs, a, same_back e b, c⟩
structure RO (X : Cx) (sts : List Stmt) (own : List Nat) (Γ : Ev) (nx : List Nat → Ev → Prop) (rt : PyData → Prop) : Prop where
  run : ∀ (H0 : Hp) (σ : L2.St) (H : Hp), StO X.K H0 own Γ σ H → ∀ D : Ends, (∀ own' Γ' σ' H', nx own' Γ' → StO X.K H0 own' Γ' σ' H' → D.nx σ' H') → (∀ d v H', rt d → Same H0 H' → Hd X.K H' v d → Frs H0 H' v d → D.rt v H') → wB X sts D σ H
section
variable {X : Cx} {a b c e iter tg : Expr} {es : List Expr} {rest body A B : List Stmt} {pos p : Pos} {own own' : List Nat} {Γ Γ' : Ev} {d dx dy dz : PyData} {ds : List PyData} {nx mid : List Nat → Ev → Prop} {rt : PyData → Prop}
theorem pit_tup (h : PD X iter Γ (.tuple ds)) (hl : lfA ds = true) : PIT X tg iter Γ ds := ⟨fun σ H st R q => ⟨_, pi_tup (wE_ok iter), h σ H st _ fun v H1 e1 hv => by
  obtain ⟨a, xs, rfl, h1, h2⟩ := hv.tup_inv
  exact ⟨a, rfl, ⟨xs, h1⟩, q _ H1 e1 fun Hb et => walkD_tup (et _ _ h1) (HdA.lf et _ _ hl h2)⟩⟩⟩
theorem pit_range1 {n : Nat} (ha : PD X a Γ (.int (n : Int))) (hg : Gl X "range") (hm : X.mg "range" = none) (hn : n ≤ 100000000) (hs : starEach [a] X.env = (false, eval a X.env) :: starEach [] X.env := by rfl) : PIT X tg (.Call (.Name "range" p) [a] [] pos) Γ ((List.range n).map nD) := ⟨fun σ H st R q =>
  ⟨_, pi_range1 hg hm (pa_cons (wE_ok a) pa_nil hs) hs, ha σ H st _ fun v H1 e1 hv => by
    cases hv
    refine ⟨(n : Int), rfl, by omega, by omega, q _ H1 e1 fun Hb _ => ?_⟩
    rw [List.range_eq_range']
    exact walkD_rng 0 n⟩⟩
theorem pit_range2 {lo hi : Nat} (ha : PD X a Γ (.int (lo : Int))) (hb : PD X b Γ (.int (hi : Int))) (hg : Gl X "range") (hm : X.mg "range" = none) (hn : lo ≤ 100000000) (hn2 : hi ≤ 100000000)
    (hs : starEach [a, b] X.env = (false, eval a X.env) :: starEach [b] X.env := by rfl) (hs2 : starEach [b] X.env = (false, eval b X.env) :: starEach [] X.env := by rfl) (hs3 : starEach [a, b] X.env = [(false, eval a X.env), (false, eval b X.env)] := by rfl) : PIT X tg (.Call (.Name "range" p) [a, b] [] pos) Γ ((List.range' lo (hi - lo)).map nD) := ⟨fun σ H st R q =>
  ⟨_, pi_range2 hg hm (pa_cons (wE_ok a) (pa_cons (wE_ok b) pa_nil hs2) hs) hs3 hs2, ha σ H st _ fun v H1 e1 hv => hb σ H1 (st.same e1) _ fun u H2 e2 hu => by
    cases hv
    cases hu
    refine ⟨(lo : Int), (hi : Int), rfl, ⟨by omega, by omega, by omega, by omega⟩, q _ H2 (e1.trans e2) fun Hb _ => ?_⟩
    have e0 : ((hi : Int) - (lo : Int)).toNat = hi - lo := by omega
    rw [e0]
    exact walkD_rng lo (hi - lo)⟩⟩
theorem RO.le (l : Le Γ Γ') (ho : ∀ i ∈ own', i ∈ own ∧ ∃ ds, Γ'[i]? = some (some (.list ds))) (hs : ∀ (i : Nat) (d : PyData), i ∉ own' → i ∈ own → Γ'[i]? = some (some d) → False) (h : RO X body own' Γ' nx rt) : RO X body own Γ nx rt := ⟨fun H0 σ H st D h1 h2 => h.run H0 σ H (st.le l ho hs) D h1 h2⟩
theorem RO.imp {nx' : List Nat → Ev → Prop} {rt' : PyData → Prop} (h : RO X body own Γ nx rt) (h1 : ∀ o Γ', nx o Γ' → nx' o Γ') (h2 : ∀ d, rt d → rt' d) : RO X body own Γ nx' rt' := ⟨fun H0 σ H st D k1 k2 => h.run H0 σ H st D (fun o Γ' σ' H' n => k1 o Γ' σ' H' (h1 o Γ' n)) fun d v H' r => k2 d v H' (h2 d r)⟩
theorem rb_ro {nxb : Ev → Prop} (h : RO X body [] Γ nx rt) (hn : ∀ o Γ', nx o Γ' → nxb Γ') : RB X body Γ nxb rt := .mk fun σ H st D h1 h2 => h.run H σ H (.start st) D (fun o Γ' σ' H' n s => h1 Γ' σ' H' (hn o Γ' n) s.base s.st) fun d v H' r e hv _ => h2 d v H' r e hv
theorem ro_nil (h : nx own Γ) : RO X [] own Γ nx rt := ⟨fun H0 σ H st D h1 _ => ⟨_, pss_nil, h1 own Γ σ H h st⟩⟩
theorem ro_asg {x : Str} {i : Nat} {pos' : Pos} (own' : List Nat) (he : PD X e Γ d) (hl : lf d = true) (hr : RO X rest own' (Γ.set i (some d)) nx rt) (ho : ∀ j ∈ own', j ∈ own ∧ j ≠ i) (ho2 : ∀ j ∈ own, j ∉ own' → j = i) (hN : X.N.Nodup) (hi : X.N[i]? = some x) (hx : Loc X.env.scope x)
    (hs : swapsWith e (some (.Name x pos')) pos.line X.env = pure false := by rfl) (hf : X.fn x = true ∨ X.env.scope.names.lookup x = some .local := by first | exact .inl rfl | exact .inr rfl) : RO X (.Assign [.Name x pos'] e pos :: rest) own Γ nx rt := ⟨fun H0 σ H st D h1 h2 =>
  ⟨_, pss_cons (ps_set hN hi hx (wE_ok e) hs hf) (wB_ok rest), he σ H st.st _ fun v H1 e1 hv => hr.run H0 _ H1 ((st.same e1).put hv hl ho ho2) D h1 h2⟩⟩
theorem ro_asgS {x : Str} {i : Nat} {pos' : Pos} (he : PD X e Γ d) (hl : lf d = true) (hr : RO X rest own (Γ.set i (some d)) nx rt) (ho : ∀ j ∈ own, j ≠ i) (hN : X.N.Nodup) (hi : X.N[i]? = some x) (hx : Loc X.env.scope x)
    (hs : swapsWith e (some (.Name x pos')) pos.line X.env = pure false := by rfl) (hf : X.fn x = true ∨ X.env.scope.names.lookup x = some .local := by first | exact .inl rfl | exact .inr rfl) : RO X (.Assign [.Name x pos'] e pos :: rest) own Γ nx rt :=
  ro_asg own he hl hr (fun j hj => ⟨hj, ho j hj⟩) (fun j h1 h2 => absurd h1 h2) hN hi hx hs hf
theorem ro_asgL {x : Str} {i : Nat} {pos' : Pos} (own' : List Nat) (he : PDL X e Γ ds) (hl : lfA ds = true) (hr : RO X rest own' (Γ.set i (some (.list ds))) nx rt) (hlt : i < Γ.length) (ho : ∀ j ∈ own', j = i ∨ (j ∈ own ∧ j ≠ i)) (ho2 : ∀ j ∈ own, j ∉ own' → j = i) (hio : i ∈ own') (hN : X.N.Nodup) (hi : X.N[i]? = some x) (hx : Loc X.env.scope x)
    (hs : swapsWith e (some (.Name x pos')) pos.line X.env = pure false := by rfl) (hf : X.fn x = true ∨ X.env.scope.names.lookup x = some .local := by first | exact .inl rfl | exact .inr rfl) : RO X (.Assign [.Name x pos'] e pos :: rest) own Γ nx rt := ⟨fun H0 σ H st D h1 h2 =>
  ⟨_, pss_cons (ps_set hN hi hx (wE_ok e) hs hf) (wB_ok rest), he σ H st.st _ fun p vs H1 hp e1 h3 h4 => hr.run H0 _ H1 (st.putL e1 hp h3 h4 hl hlt ho ho2 hio) D h1 h2⟩⟩
theorem ro_ret (he : PD X e Γ d) (hl : lf d = true) (hr : rt d) : RO X [.Return (some e) pos] own Γ nx rt := ⟨fun H0 σ H st D _ h2 => ⟨_, pss_one (ps_ret (wE_ok e)), he σ H st.st _ fun v H1 e1 hv => h2 d v H1 hr (st.base.trans e1) hv (.inl hl)⟩⟩
theorem ro_retL (he : PDL X e Γ ds) (hr : rt (.list ds)) : RO X [.Return (some e) pos] own Γ nx rt := ⟨fun H0 σ H st D _ h2 => ⟨_, pss_one (ps_ret (wE_ok e)), he σ H st.st _ fun p vs H1 hp e1 h3 h4 => h2 _ _ H1 hr (st.base.trans e1) (.lst h3 h4) (.inr ⟨p, vs, rfl, same_back st.base hp, h3⟩)⟩⟩
theorem ro_retO {x : Str} {i : Nat} {px : Pos} (hi : i ∈ own) (hΓ : Γ[i]? = some (some (.list ds))) (hr : rt (.list ds)) (hN : X.N[i]? = some x) (hv : Vis X.env.scope x) (hd : (x == ("__debug__" : Str)) = false := by decide) (hcd : (x == ("__classdict__" : Str)) = false := by decide) : RO X [.Return (some (.Name x px)) pos] own Γ nx rt := ⟨fun H0 σ H st D _ h2 => by
  obtain ⟨b, vs, ds', a1, a2, a3, a4, a5, a6⟩ := st.mine i hi
  rw [hΓ] at a4
  cases a4
  exact ⟨_, pss_one (ps_ret (pe_var hN hv hd hcd)), _, a1, h2 _ _ H hr st.base (.lst a3 a5) (.inr ⟨b, vs, rfl, a2, a3⟩)⟩⟩
theorem ro_if {k : Bool} (hc : PTD X c Γ k) (h1 : k = true → RO X A own Γ mid rt) (h2 : k = false → RO X B own Γ mid rt) (hr : ∀ o Γ', mid o Γ' → RO X rest o Γ' nx rt) : RO X (.If c A B pos :: rest) own Γ nx rt := ⟨fun H0 σ H st D k1 k2 =>
  ⟨_, pss_cons (ps_if (wT_ok c) (wB_ok A) (wB_ok B)) (wB_ok rest), hc σ H st.st _ fun H1 e1 => by
    have fin : ∀ sts, RO X sts own Γ mid rt → wB X sts { D with nx := wB X rest D } σ H1 := fun sts h => h.run H0 σ H1 (st.same e1) { D with nx := wB X rest D } (fun o Γ' σ' H' m st2 => (hr o Γ' m).run H0 σ' H' st2 D k1 k2) k2
    cases k with
    | true =>
      rw [if_pos rfl]
      exact fin A (h1 rfl)
    | false =>
      rw [if_neg (by decide)]
      exact fin B (h2 rfl)⟩⟩
theorem ro_ifr {k : Bool} (hc : PTD X c Γ k) (h1 : k = true → RO X A own Γ (fun _ _ => False) rt) (hr : k = false → RO X rest own Γ nx rt) : RO X (.If c A [] pos :: rest) own Γ nx rt := by
  refine ro_if (mid := fun o Γ' => k = false ∧ o = own ∧ Γ' = Γ) hc (fun e => (h1 e).imp (fun _ _ z => z.elim) fun _ z => z) (fun e => ro_nil ⟨e, rfl, rfl⟩) ?_
  rintro o Γ' ⟨e, rfl, rfl⟩
  exact hr e
/-- xs.append(e) -/
theorem ro_app {x : Str} {i : Nat} {px apos cpos spos : Pos} (hi : i ∈ own) (hΓ : Γ[i]? = some (some (.list ds))) (he : PD X e Γ d) (hl : lf d = true) (hz : ds.length ≤ 10000000) (hr : RO X rest own (Γ.set i (some (.list (ds ++ [d])))) nx rt) (hN : X.N[i]? = some x) (hv : Vis X.env.scope x)
    (hd : (x == ("__debug__" : Str)) = false := by decide) (hcd : (x == ("__classdict__" : Str)) = false := by decide) (hs : starEach [e] X.env = (false, eval e X.env) :: starEach [] X.env := by rfl)
    (hb : attributeBase (.Name x px) "append" X.env (eval (.Name x px) X.env) = eval (.Name x px) X.env := by rfl)
    (hfew : ((backTo cpos (starEach [e] X.env)).all (fun x => !x.1) && (backToKw cpos (keywordEach [] X.env)).all (fun x => x.1.isSome)
      && decide ([e].length + ([] : List Keyword).length + (if ([] : List Keyword).isEmpty then 0 else 1) < 30)) = true := by rfl)
    (hline : (apos.endLine == cpos.line) = true := by rfl) (hsw : swapsWith (.Call (.Attribute (.Name x px) "append" apos) [e] [] cpos) none spos.line X.env = pure false := by rfl) :
    RO X (.Expr (.Call (.Attribute (.Name x px) "append" apos) [e] [] cpos) spos :: rest) own Γ nx rt := ⟨fun H0 σ H st D h1 h2 => by
  refine ⟨_, pss_cons (ps_expr (pe_bm PySem.F.plainAttrs_list PySem.F.slot_list_append PySem.F.type_list_append mt_append (pe_var hN hv hd hcd) (pa_cons (wE_ok e) pa_nil hs) hb hfew hline hs rfl) hsw) (wB_ok rest), ?_⟩
  obtain ⟨b, vs, ds', a1, a2, a3, a4, a5, a6⟩ := st.mine i hi
  rw [hΓ] at a4
  cases a4
  refine ⟨_, a1, .inl ⟨rfl, _, SqL.of a3⟩, he σ H st.st _ fun v H1 e1 hv1 => ⟨b, vs, v, rfl, rfl, e1 _ _ a3, ?_, ?_⟩⟩
  · rw [a5.length, sizeLine_eq]; omega
  · refine hr.run H0 σ _ ((st.same e1).mut hi a1 (e1 _ _ a3) ((a5.same e1).snoc hv1) (lfA_append a6 ?_)) D h1 h2
    rw [lfA, hl] <;> rfl⟩
/-- xs.extend(e) -/
theorem ro_ext {x : Str} {i : Nat} {px apos cpos spos : Pos} {es' : List PyData} (hi : i ∈ own) (hΓ : Γ[i]? = some (some (.list ds))) (he : PDL X e Γ es') (hl : lfA es' = true) (hz : ds.length + es'.length ≤ 10000000) (hr : RO X rest own (Γ.set i (some (.list (ds ++ es')))) nx rt) (hN : X.N[i]? = some x) (hv : Vis X.env.scope x)
    (hd : (x == ("__debug__" : Str)) = false := by decide) (hcd : (x == ("__classdict__" : Str)) = false := by decide) (hs : starEach [e] X.env = (false, eval e X.env) :: starEach [] X.env := by rfl)
    (hb : attributeBase (.Name x px) "extend" X.env (eval (.Name x px) X.env) = eval (.Name x px) X.env := by rfl)
    (hfew : ((backTo cpos (starEach [e] X.env)).all (fun x => !x.1) && (backToKw cpos (keywordEach [] X.env)).all (fun x => x.1.isSome)
      && decide ([e].length + ([] : List Keyword).length + (if ([] : List Keyword).isEmpty then 0 else 1) < 30)) = true := by rfl)
    (hline : (apos.endLine == cpos.line) = true := by rfl) (hsw : swapsWith (.Call (.Attribute (.Name x px) "extend" apos) [e] [] cpos) none spos.line X.env = pure false := by rfl) :
    RO X (.Expr (.Call (.Attribute (.Name x px) "extend" apos) [e] [] cpos) spos :: rest) own Γ nx rt := ⟨fun H0 σ H st D h1 h2 => by
  refine ⟨_, pss_cons (ps_expr (pe_bm PySem.F.plainAttrs_list PySem.F.slot_list_extend PySem.F.type_list_extend mt_extend (pe_var hN hv hd hcd) (pa_cons (wE_ok e) pa_nil hs) hb hfew hline hs rfl) hsw) (wB_ok rest), ?_⟩
  obtain ⟨b, vs, ds', a1, a2, a3, a4, a5, a6⟩ := st.mine i hi
  rw [hΓ] at a4
  cases a4
  refine ⟨_, a1, .inl ⟨rfl, _, SqL.of a3⟩, he σ H st.st _ fun p us H1 hp e1 h3 h4 => ⟨b, p, vs, us, rfl, rfl, e1 _ _ a3, h3, ?_, ?_⟩⟩
  · rw [a5.length, h4.length, sizeLine_eq]; omega
  · exact hr.run H0 σ _ ((st.same e1).mut hi a1 (e1 _ _ a3) ((a5.same e1).append h4) (lfA_append a6 hl)) D h1 h2⟩
/-- for x in iter, over what holds no list -/
theorem ro_for {x : Str} {j : Nat} {tp : Pos} (Inv : Nat → Ev → Prop) (hi : PIT X (.Name x tp) iter Γ ds) (hlf : lfA ds = true) (hjo : j ∉ own) (h0 : ∃ Γ', Le Γ Γ' ∧ (∀ i ∈ own, ∃ ds, Γ'[i]? = some (some (.list ds))) ∧ Inv 0 Γ')
    (hs : ∀ (i : Nat) (d : PyData) (Γ' : Ev), ds[i]? = some d → Inv i Γ' → RO X body own (Γ'.set j (some d)) (fun o Γ2 => o = own ∧ ∃ Γ3, Le Γ2 Γ3 ∧ (∀ i ∈ own, ∃ ds, Γ3[i]? = some (some (.list ds))) ∧ Inv (i + 1) Γ3) rt)
    (hd : ∀ Γ', Inv ds.length Γ' → RO X rest own Γ' nx rt) (hlf2 : ∀ (i : Nat) (Γ' : Ev), Inv ds.length Γ' → ∀ d, i ∉ own → Γ'[i]? = some (some d) → lf d = true) (hp : PassesOwn (model X.prog X.w) X.A X.env X.xe) (hc : X.calm = true) (hN : X.N.Nodup) (hj : X.N[j]? = some x) (hx : Loc X.env.scope x) (hf : X.fn x = true ∨ X.env.scope.names.lookup x = some .local := by first | exact .inl rfl | exact .inr rfl) (hsi : ∀ x, foldedSetIterable iter X.env x = pure x := by intro _; rfl) :
    RO X (.For (.Name x tp) iter body [] pos :: rest) own Γ nx rt := ⟨fun H0 σ H st D k1 k2 =>
  ⟨_, pss_cons (ps_for hp hc (wI_ok (.Name x tp) iter) (pg_name (i := j) hN hj hx hf) (wB_ok body) hsi) (wB_ok rest), hi.run σ H st.st _ fun J H1 e1 w => by
    obtain ⟨Γ0, l0, o0, i0⟩ := h0
    have st1 := st.same e1
    have stb := st1.rebase
    have eb := hide_base st1
    refine for_it (w _ (hide_t st1)) (fun i σ' H' => ∃ Γ', Inv i Γ' ∧ StO X.K (hide own σ H1) own Γ' σ' H') ⟨Γ0, i0, stb.le l0 (fun i hi => ⟨hi, o0 i hi⟩) fun i d h1 h2 => absurd h2 h1⟩ (fun i σ' H' _ ⟨_, _, q⟩ => q.base) (fun i v σ' H2 H3 hi' q y => ?_) (fun σ' H2 q => ?_)
    · obtain ⟨Γ', inv, st'⟩ := q
      obtain ⟨e3, d, hd', hv⟩ := y
      have hld : lf d = true := lf_of_mem hlf (List.mem_of_getElem? hd')
      refine (hs i d Γ' hd' inv).run (hide own σ H1) (σ'.set j (some v)) H3 ((st'.same e3).put hv hld (fun k hk => ⟨hk, fun e => hjo (e ▸ hk)⟩) fun k h1 h2 => absurd h1 h2) _ (fun o Γ2 σ2 H4 n st2 => ?_) (fun d2 v2 H4 r e4 hv2 fr => k2 d2 v2 H4 r (eb.trans e4) hv2 (fr.down eb))
      obtain ⟨rfl, Γ3, l3, o3, i3⟩ := n
      exact ⟨Γ3, i3, st2.le l3 (fun i hi => ⟨hi, o3 i hi⟩) fun i d h1 h2 => absurd h2 h1⟩
    · obtain ⟨Γ', inv, st'⟩ := q
      exact (hd Γ' inv).run H0 σ' H2 (st'.down eb fun i d h1 h2 => hlf2 i Γ' inv d h1 h2) D k1 k2⟩⟩
/-- for x in a new list -/
theorem ro_forL {x : Str} {j : Nat} {tp : Pos} (Inv : Nat → Ev → Prop) (hi : PDL X iter Γ ds) (hlf : lfA ds = true) (hjo : j ∉ own) (h0 : ∃ Γ', Le Γ Γ' ∧ (∀ i ∈ own, ∃ ds, Γ'[i]? = some (some (.list ds))) ∧ Inv 0 Γ')
    (hs : ∀ (i : Nat) (d : PyData) (Γ' : Ev), ds[i]? = some d → Inv i Γ' → RO X body own (Γ'.set j (some d)) (fun o Γ2 => o = own ∧ ∃ Γ3, Le Γ2 Γ3 ∧ (∀ i ∈ own, ∃ ds, Γ3[i]? = some (some (.list ds))) ∧ Inv (i + 1) Γ3) rt)
    (hd : ∀ Γ', Inv ds.length Γ' → RO X rest own Γ' nx rt) (hlf2 : ∀ (i : Nat) (Γ' : Ev), Inv ds.length Γ' → ∀ d, i ∉ own → Γ'[i]? = some (some d) → lf d = true) (hp : PassesOwn (model X.prog X.w) X.A X.env X.xe) (hc : X.calm = true) (hN : X.N.Nodup) (hj : X.N[j]? = some x) (hx : Loc X.env.scope x) (hf : X.fn x = true ∨ X.env.scope.names.lookup x = some .local := by first | exact .inl rfl | exact .inr rfl) (hsi : ∀ x, foldedSetIterable iter X.env x = pure x := by intro _; rfl) :
    RO X (.For (.Name x tp) iter body [] pos :: rest) own Γ nx rt := ⟨fun H0 σ H st D k1 k2 =>
  ⟨_, pss_cons (ps_for hp hc (pi_list (wE_ok iter)) (pg_name (i := j) hN hj hx hf) (wB_ok body) hsi) (wB_ok rest), hi.run σ H st.st _ fun p vs H1 hp1 e1 h3 h4 => by
    obtain ⟨Γ0, l0, o0, i0⟩ := h0
    have st1 := st.same e1
    have stb := st1.rebase
    have eb := hide_base st1
    have hpb : hide own σ H1 p = some (.lst vs) := by
      rw [hide_def, if_neg]
      · exact h3
      · rintro ⟨i, hi, e2⟩
        obtain ⟨b', vs', ds', a1, a2, a3, _⟩ := st.mine i hi
        rw [a1] at e2
        cases e2
        rw [hp1] at a3
        cases a3
    refine ⟨p, rfl, ⟨vs, SqL.of h3⟩, for_it (walkD_list hpb (HdA.lf (hide_t st1) _ _ hlf h4)) (fun i σ' H' => ∃ Γ', Inv i Γ' ∧ StO X.K (hide own σ H1) own Γ' σ' H') ⟨Γ0, i0, stb.le l0 (fun i hi => ⟨hi, o0 i hi⟩) fun i d h1 h2 => absurd h2 h1⟩ (fun i σ' H' _ ⟨_, _, q⟩ => q.base) (fun i v σ' H2 H3 hi' q y => ?_) (fun σ' H2 q => ?_)⟩
    · obtain ⟨Γ', inv, st'⟩ := q
      obtain ⟨e3, d, hd', hv⟩ := y
      have hld : lf d = true := lf_of_mem hlf (List.mem_of_getElem? hd')
      refine (hs i d Γ' hd' inv).run (hide own σ H1) (σ'.set j (some v)) H3 ((st'.same e3).put hv hld (fun k hk => ⟨hk, fun e => hjo (e ▸ hk)⟩) fun k h1 h2 => absurd h1 h2) _ (fun o Γ2 σ2 H4 n st2 => ?_) (fun d2 v2 H4 r e4 hv2 fr => k2 d2 v2 H4 r (eb.trans e4) hv2 (fr.down eb))
      obtain ⟨rfl, Γ3, l3, o3, i3⟩ := n
      exact ⟨Γ3, i3, st2.le l3 (fun i hi => ⟨hi, o3 i hi⟩) fun i d h1 h2 => absurd h2 h1⟩
    · obtain ⟨Γ', inv, st'⟩ := q
      exact (hd Γ' inv).run H0 σ' H2 (st'.down eb fun i d h1 h2 => hlf2 i Γ' inv d h1 h2) D k1 k2⟩⟩
end
/-! ### defs that hand back a new list -/
def spRL (K : PySem.W.Frag) (R : List PyData → List PyData → Prop) : Sp := fun vs H Q _ => ∃ ds es, HdA K H vs ds ∧ R ds es ∧ ∀ p us H', H p = none → Same H H' → H' p = some (.lst us) → HdA K H' us es → Q (.ref p) H'
structure DfL (P : Program) (w : World) (K : PySem.W.Frag) (mg : Str → Option Value) (base : Heap) (x : Str) (k : Nat) (ps : List Str) (R : List PyData → List PyData → Prop) : Prop where
  run : ∃ f fd, mg x = some (.ref f) ∧ PySem.W.keepIn K (.ref f) = true ∧ Binds K fd ps [] ∧ FnOk P w K mg base CX0 k f fd ps (spRL K R)
theorem DfL.mono {P : Program} {w : World} {K : PySem.W.Frag} {mg : Str → Option Value} {base : Heap} {x : Str} {j k : Nat} {ps : List Str} {R : List PyData → List PyData → Prop} (h : DfL P w K mg base x j ps R) (l : j ≤ k) : DfL P w K mg base x k ps R :=
  let ⟨f, fd, a, b, c, d⟩ := h; ⟨f, fd, a, b, c, d.mono l⟩
section
variable {X : Cx} {e : Expr} {es : List Expr} {pos p : Pos} {Γ : Ev} {ds : List PyData}
theorem pdl_call {x : Str} {k : Nat} {ps : List Str} {rs : List PyData} {R : List PyData → List PyData → Prop} (F : DfL X.prog X.w X.K X.mg X.base x k ps R) (hr : Room k X.A) (hg : Gl X x) (ha : PAD X (e :: es) Γ ds) (hR : R ds rs)
    (hdb : (x == ("__debug__" : Str)) = false := by decide) (he : starEach (e :: es) X.env = (false, eval e X.env) :: starEach es X.env := by rfl) (hpl : (backTo pos (starEach es X.env)).any (·.1) = false := by rfl) : PDL X (.Call (.Name x p) (e :: es) [] pos) Γ rs := .mk fun σ H st Q q => by
  obtain ⟨f, fd, hm, hk, hb, ok⟩ := F
  exact ⟨_, pe_call ok hr hg hm hk hb .nil pass0 (wA_ok (e :: es)) hdb he hpl, ha σ H st _ fun vs H1 e1 hvs => ⟨ds, rs, by rw [List.append_nil]; exact hvs, hR, fun p us H2 hp e2 h3 h4 => q p us H2 (same_back e1 hp) (e1.trans e2) h3 h4⟩⟩
end
section
variable {P : Program} {w : World} {K : PySem.W.Frag} {mg : Str → Option Value} {base : Heap}
theorem Dn.okL {x : Str} {st : Stmt} {N ps : List Str} {k : Nat} {R : List PyData → List PyData → Prop} (D : Dn K mg x st ps) (S : FnScope N ps (defScope st)) (hl : ∀ ds r, R ds r → ds.length = ps.length) (nlf : ∀ ds r, R ds r → True)
    (hb : ∀ (f : Addr) (cdv : Value) (A : Around) (outer : List Env) (s : Shared) (H : Hp) (E : XK), Room k (bx P w K mg base N x (defScope st) f cdv A outer s H E).A → ∀ ds r, R ds r →
      RO (bx P w K mg base N x (defScope st) f cdv A outer s H E) (defBody st) [] (ds.map some ++ List.replicate (N.length - ds.length) none) (fun _ _ => False) (fun d => d = .list r)) : DfL P w K mg base x (k + 1) ps R := by
  obtain ⟨f, fd, F, b, m⟩ := D.ex
  refine ⟨f, fd, m, F.kp, b, F.ok S (fun vs H Q E h => ?_) (fun cdv A outer s H vs Q E hr h => ?_)⟩
  · obtain ⟨ds, r, hd, hR, _⟩ := h
    rw [hd.length]
    exact hl ds r hR
  · obtain ⟨ds, r, hd, hR, q⟩ := h
    refine ⟨_, wB_ok _, (hb f cdv A outer s H E hr ds r hR).run H _ H (.start (StV.start hd)) _ (fun o Γ' σ' H' n e1 => n.elim) fun d v H' n e1 hv fr => ?_⟩
    subst n
    rcases fr with fr | ⟨p, us, rfl, hp, h3⟩
    · simp [lf] at fr
    · obtain ⟨a, xs, ea, h5, h6⟩ := hv.list_inv
      cases ea
      exact q _ _ H' hp e1 h5 h6
end
section
variable {X : Cx} {c e : Expr} {pos : Pos} {own : List Nat} {Γ : Ev} {rest A : List Stmt} {nx : List Nat → Ev → Prop} {rt : PyData → Prop}
/-- if c: x = e, an int before and behind -/
theorem ro_ifI {x : Str} {i : Nat} {pos' pos2 : Pos} {q : Prop} {dq : Decidable q} {u v : Int} (hc : PTD X c Γ (decide q)) (he : q → PD X e Γ (.int u)) (h0 : Γ[i]? = some (some (.int v))) (hr : RO X rest own (Γ.set i (some (.int (if q then u else v)))) nx rt) (hio : ∀ j ∈ own, j ≠ i) (hN : X.N.Nodup) (hi : X.N[i]? = some x) (hx : Loc X.env.scope x)
    (hs : swapsWith e (some (.Name x pos')) pos2.line X.env = pure false := by rfl) (hf : X.fn x = true ∨ X.env.scope.names.lookup x = some .local := by first | exact .inl rfl | exact .inr rfl) : RO X (.If c [.Assign [.Name x pos'] e pos2] [] pos :: rest) own Γ nx rt := by
  refine ro_if (mid := fun o Γ' => o = own ∧ Γ' = Γ.set i (some (.int (if q then u else v)))) hc (fun h => ?_) (fun h => ro_nil ⟨rfl, ?_⟩) ?_
  · have h' := of_decide_eq_true h
    refine ro_asg own (he h') rfl (ro_nil ⟨rfl, by rw [if_pos h']⟩) (fun j hj => ⟨hj, hio j hj⟩) (fun j h1 h2 => absurd h1 h2) hN hi hx hs hf
  · have h' := of_decide_eq_false h
    rw [if_neg h']
    obtain ⟨hl, e1⟩ := List.getElem?_eq_some_iff.mp h0
    rw [← e1, List.set_getElem_self]
  · rintro o Γ' ⟨rfl, rfl⟩
    exact hr
theorem ro_ifm {k : Bool} (mid : Ev → Prop) (hc : PTD X c Γ k) (h1 : k = true → RO X A own Γ (fun o Γ' => o = own ∧ mid Γ') rt) (h2 : k = false → mid Γ) (hr : ∀ Γ2, mid Γ2 → RO X rest own Γ2 nx rt) : RO X (.If c A [] pos :: rest) own Γ nx rt := by
  refine ro_if (mid := fun o Γ' => o = own ∧ mid Γ') hc h1 (fun h => ro_nil ⟨rfl, h2 h⟩) ?_
  rintro o Γ' ⟨rfl, m⟩
  exact hr Γ' m
end
end Tw
namespace Tw
open PySem PySem.Spec PyProof.Rows L2 HT
/-! ### t[::-1], t.index(n) -/
theorem pickRev (xs : Array Value) : ((List.range xs.size).filterMap fun (k : Nat) => xs[((xs.size : Int) - 1 + (k : Int) * (-1)).toNat]?).toArray = xs.toList.reverse.toArray := by
  have e : (fun (k : Nat) => xs[((xs.size : Int) - 1 + (k : Int) * (-1)).toNat]?) = (fun k => xs[k]?) ∘ fun k => xs.size - 1 - k := by
    funext k
    have e1 : ((xs.size : Int) - 1 + (k : Int) * (-1)).toNat = xs.size - 1 - k := by omega
    rw [e1] <;> rfl
  rw [e, ← List.filterMap_map, PySem.W.krv_range, List.filterMap_reverse]
  have h := PySem.W.krv_all xs
  rw [h]
section
variable {prog : Program} {w : World} {A : Around} {E : Value → Shared → Prop} {s : Shared}
theorem appliedRev {sl : Addr} {vs : Value} {n : Nat} {Q : Int × Int × Nat → Shared → Prop} (hs : s.heap.IsSliceOf sl .none .none vs) (ps : IsPart vs (some (-1)))
    (h : Q ((n : Int) - 1, -1, n) s) : wpAny (model prog w) A (Builtin.Slice.sliceApplied (.ref sl) (pure (n : Int))) Q E s := by
  obtain ⟨os, hos, hcs, hds⟩ := id hs
  unfold Builtin.Slice.sliceApplied Builtin.Slice.sliceFields
  refine wpAny_bind (wpAny_bind (wpAny_field hos hds (x := .none) rfl (wpAny_bind (wpAny_field hos hds (x := .none) rfl (wpAny_bind (wpAny_field hos hds (x := vs) rfl (wpAny_pure ?_)))))))
  refine wpAny_bind (slicePart_ ps ?_)
  show wpAny _ _ (if ((-1 : Int) == 0) = true then _ else _) _ _ s
  rw [if_neg (by decide)]
  refine wpAny_bind (slicePart_none (wpAny_bind (slicePart_none (wpAny_bind (wpAny_pure ?_)))))
  show wpAny _ _ (pure ((n : Int) - 1, (-1 : Int), Builtin.Slice.slicePlaces ((n : Int) - 1) (-1) (-1))) _ _ s
  have e : Builtin.Slice.slicePlaces ((n : Int) - 1) (-1) (-1) = n := by
    unfold Builtin.Slice.slicePlaces
    have h1 : ¬ ((-1 : Int) > 0) := by decide
    simp only [h1, if_false]
    rw [show (- -1 : Int) = 1 by decide, Int.ediv_one]
    split <;> omega
  rw [e]
  exact wpAny_pure h
theorem getItem_tuple_rev {t sl : Addr} {items : Array Value} {vs : Value} {Q : Value → Shared → Prop} (ht : IsTup s.heap t items) (hs : s.heap.IsSliceOf sl .none .none vs) (ps : IsPart vs (some (-1)))
    (h : Q (.ref s.heap.objs.size) { s with heap := s.heap.push { cls := .type "tuple", data := .seq items.toList.reverse.toArray } })
    (hsz : items.size ≤ sizeLine) : wpAny (model prog w) A (getItem (.ref t) (.ref sl)) Q E s := by
  have htake : sizeOk (.seq items.toList.reverse.toArray) := by
    show items.toList.reverse.toArray.size ≤ sizeLine
    rw [List.size_toArray, List.length_reverse, Array.length_toList]
    exact hsz
  obtain ⟨os, hos, hcs, hds⟩ := id hs
  have hTs : s.TypeIs (.ref sl) "slice" := ⟨os, hos, hcs⟩
  unfold getItem
  try with_reducible refine wpAny_holding ?_
  first | refine wpAny_bind (wpAny_pure ?_) | skip
  refine wpAny_bind (wpAny_sequenceKey ht.typeIs (by decide) ?_)
  refine wpAny_bind (wpAny_callSpecial?_slot (name := Str.ofString "__getitem__") ht.typeIs PyProof.Rows.slot_tuple_getitem
    (wpAny_call_entry PyProof.Rows.slot_tuple_getitem ht.typeIs entry_tuple_getitem ?_ (args_tuple_getitem _ _)))
  show wpAny _ _ (Builtin.Tuple.tupleItemsOf (.ref t) >>= _) _ _ s
  refine wpAny_bind (tupleItemsOf_ ht ?_)
  refine wpAny_bind (wpAny_typeOf hTs ?_)
  rw [if_pos (by decide)]
  refine wpAny_bind (appliedRev hs ps ?_)
  have hno : ¬ ((((items.size : Int) - 1) == 0 && (-1 : Int) == 1 && items.size == items.size) = true) := by
    intro q
    rw [Bool.and_eq_true, Bool.and_eq_true] at q
    exact absurd q.1.2 (by decide)
  show wpAny _ _ (if (((items.size : Int) - 1) == 0 && (-1 : Int) == 1 && items.size == items.size) = true then _ else _) _ _ s
  rw [if_neg hno, pickRev]
  first
    | exact wpAny_bind (m := Builtin.Tuple.tupleExact _) (wpAny_newObj_type (wpAny_pure ⟨_, rfl, wpAny_pure h⟩) htake)
    | exact wpAny_bind (m := Builtin.Tuple.tupleExact _) (wpAny_newObj_type (wpAny_bind (wpAny_pure (wpAny_pure ⟨_, rfl, wpAny_pure h⟩))) htake)
    | exact wpAny_bind (wpAny_bind (m := Builtin.Tuple.tupleExact _) (wpAny_newObj_type (wpAny_pure (wpAny_pure ⟨_, rfl, wpAny_pure h⟩)) htake))
    | exact wpAny_bind (wpAny_bind (m := Builtin.Tuple.tupleExact _) (wpAny_newObj_type (wpAny_pure ⟨_, rfl, wpAny_pure h⟩) htake))
end
section
variable {X : Cx}
def tRevT (K : PySem.W.Frag) (te : TE) : TE := fun σ H Q => te σ H fun x H1 => ∃ a xs, x = .ref a ∧ SqT K H1 a xs ∧ ∀ p, H1 p = none → Q (.ref p) (upd H1 p (.tup xs.reverse))
theorem pe_revT {e : Expr} {te : TE} {k : Nat} {p1 p2 p3 pos : Pos} (he : PE X e te) : PE X (.Subscript e (.Slice none none (some (.UnaryOp .USub (.Constant (.int 1) k p1) p2)) p3) pos) (tRevT X.K te) := by
  refine ⟨fun pins s σ H Q I h => ?_⟩
  refine Subscript_ (thn (he.run pins s σ H _ I h) fun v s1 ⟨x, H1, I1, r1, q1⟩ => ?_)
  obtain ⟨a, xs, ex, hx, q⟩ := q1
  subst ex
  cases r1
  have hst : PO X (some (.UnaryOp .USub (.Constant (.int 1) k p1) p2)) (tPart (tUn (rU fun i => .int (-i)) (tC (.int 1)))) := po_some (pe_un un_neg pe_int)
  refine wpAny_Slice (thn (po_none.run pins s1 σ H1 (fun o H2 => o = none ∧ H2 = H1) I1 ⟨rfl, rfl⟩) fun vl s2 ⟨l, H2, I2, pl, el, e2⟩ => ?_)
  subst el e2
  refine thn (po_none.run pins s2 σ H2 (fun o H3 => o = none ∧ H3 = H2) I2 ⟨rfl, rfl⟩) fun vu s3 ⟨u, H3, I3, pu, eu, e3⟩ => ?_
  subst eu e3
  refine thn (hst.run pins s3 σ H3 (fun o H4 => o = some (-1) ∧ H4 = H3) I3 ⟨1, rfl, -1, rfl, rfl, rfl⟩) fun vs s4 ⟨o, H4, I4, ps, eo, e4⟩ => ?_
  subst eo e4
  have I5 : Inv X pins σ H4 { s4 with heap := s4.heap.push { cls := .type "slice", data := .fields #[vl, vu, vs] } } := I4.kept (t' := s4.toks) fun b ob q => Heap.get?_push_of_some _ q
  obtain ⟨its, r, ht, hz⟩ := I5.tuple hx
  have hlen := r.length
  cases pl
  cases pu
  show wpAny (model X.prog X.w) X.A (subscriptTail e (.Slice none none (some (.UnaryOp .USub (.Constant (.int 1) k p1) p2)) p3) (.ref a) (.ref s4.heap.objs.size)) (EP X pins σ Q) X.xe { s4 with heap := s4.heap.push { cls := .type "slice", data := .fields #[.none, .none, vs] } }
  refine tail_any (ops := [.ref a, .ref s4.heap.objs.size]) ht.typeIs (PyProof.Rows.slot_tuple_getitem.lookup) ?_ (by with_unfolding_all rfl)
  refine getItem_tuple_rev ht (Heap.IsSliceOf.new _ .none .none vs) ps ?_ (by rw [List.size_toArray]; omega)
  refine ⟨.ref _, _, I5.laid (t' := s4.toks) (o := .tup xs.reverse) (fun b ob q => Heap.get?_push_of_some _ q) (Nat.le_refl _) ?_, rfl, q _ (I5.hok.fresh (Nat.le_refl _))⟩
  exact ⟨by rw [List.length_reverse]; exact hz, _, r.reverse, IsTup.new _ _⟩
/-- t.index(n), the first place -/
theorem mt_tup_indexI : MtR X "tuple.index" (fun x xs H Q => ∃ p, ∃ ys : List Int, ∃ z j, x = .ref p ∧ xs = [.int z] ∧ SqT X.K H p (ys.map V.int) ∧ ys[j]? = some z ∧ (∀ m, m < j → ys[m]? ≠ some z) ∧ Q (.int (j : Nat)) H) := by
  intro pins s σ H x xs v us Q I rx rs h
  obtain ⟨p, ys, z, j, rfl, rfl, hq, hy, hno, q⟩ := h
  cases rx
  obtain ⟨u, rfl, t, rfl⟩ := vals1 rs
  obtain ⟨its, r, pl, hz⟩ := I.tuple hq
  obtain ⟨⟨cls, dd, dt, sl⟩, ho, hc, n, hd⟩ := pl
  simp only at hc hd
  subst hc
  subst hd
  have hl : its.toArray.size = ys.length := by rw [List.size_toArray, ← r.length, List.length_map]
  have hj : j < its.toArray.size := by rw [hl]; exact (List.getElem?_eq_some_iff.mp hy).1
  have at' : ∀ (m : Nat) (hm : m < its.toArray.size), ∃ y t', ys[m]? = some y ∧ its.toArray[m] = Value.int y t' := fun m hm => by
    have hm' : m < ys.length := by rw [← hl]; exact hm
    obtain ⟨w, hw, t', hw'⟩ := r.get (i := m) (x := .int ys[m]) (by simp [hm'])
    refine ⟨ys[m], t', List.getElem?_eq_getElem hm', ?_⟩
    have e := (List.getElem?_eq_some_iff.mp hw).2
    rw [← hw', ← e]
    simp
  have fi : (ys.map V.int).all flatV = true := by
    rw [List.all_map]
    exact List.all_eq_true.mpr fun _ _ => rfl
  refine call_meets PySem.F.slot_tuple_index ⟨_, ho, rfl⟩ PySem.F.entry_tuple_index (PySem.F.args_tuple_index_2 _ _) (TI.tuple_indexAt p its.toArray n dd sl (.int z t) (eqU (.int z)) j hj ?_ ?_)
    ⟨ho, fun w hw => mem_eqAt (x := .int z) ⟨t, rfl⟩ rfl r fi w (by simpa using hw), ⟨.int (j : Nat), H, I.tok _, ⟨_, rfl⟩, q⟩⟩
  · obtain ⟨y, t', h1, h2⟩ := at' j hj
    rw [hy] at h1
    cases h1
    rw [h2]
    show decide _ = true
    simp
  · intro m hm hmj
    obtain ⟨y, t', h1, h2⟩ := at' m hm
    rw [h2]
    have hne : y ≠ z := fun e => hno m hmj (e ▸ h1)
    show decide _ = false
    simpa using hne
end
section
variable {X : Cx} {e : Expr} {pos p : Pos} {Γ : Ev} {ds : List PyData}
theorem pd_revT {k : Nat} {p1 p2 p3 : Pos} (h : PD X e Γ (.tuple ds)) : PD X (.Subscript e (.Slice none none (some (.UnaryOp .USub (.Constant (.int 1) k p1) p2)) p3) pos) Γ (.tuple ds.reverse) := .mk fun σ H st Q q =>
  ⟨_, pe_revT (wE_ok e), h σ H st _ fun v H1 e1 hv => by
    obtain ⟨a, xs, rfl, h1, h2⟩ := hv.tup_inv
    exact ⟨a, xs, rfl, h1, fun p hp => q _ _ (e1.trans (same_new hp)) (.tup (SqT.of upd_same) (h2.reverse.same (same_new hp)))⟩⟩
theorem pdl_revL {k : Nat} {p1 p2 p3 : Pos} (h : PD X e Γ (.list ds)) : PDL X (.Subscript e (.Slice none none (some (.UnaryOp .USub (.Constant (.int 1) k p1) p2)) p3) pos) Γ ds.reverse := .mk fun σ H st Q q =>
  ⟨_, pe_revL (wE_ok e), h σ H st _ fun v H1 e1 hv => by
    obtain ⟨a, xs, rfl, h1, h2⟩ := hv.list_inv
    exact ⟨a, xs, rfl, SqL.of h1, fun p hp => q p _ _ (same_back e1 hp) (e1.trans (same_new hp)) upd_same (h2.reverse.same (same_new hp))⟩⟩
theorem PD.pl {ns : List Int} (h : PD X e Γ (plnD ns)) : PD X e Γ (.tuple (ns.map PyData.int)) := .mk fun σ H st Q q => h σ H st Q fun v H' e1 hv => q v H' e1 hv.pl_tup
theorem pd_varP {i : Nat} {x : Str} {ns : List Int} (hN : X.N[i]? = some x) (hΓ : Γ[i]? = some (some (plnD ns))) (hv : Vis X.env.scope x) (hd : (x == ("__debug__" : Str)) = false)
    (hcd : (x == ("__classdict__" : Str)) = false) : PD X (.Name x pos) Γ (.tuple (ns.map PyData.int)) := (pd_var hN hΓ hv hd hcd).pl
abbrev plnR (xs : List Nat) : PyData := plnD (xs.map fun n : Nat => (n : Int))
theorem Hd.plR {K : PySem.W.Frag} {H : Hp} {v : V} {xs : List Nat} (h : Hd K H v (plnR xs)) : Hd K H v (rowD xs) := by
  show Hd K H v (.tuple (xs.map nD))
  rw [nD_ints]
  exact h.pl_tup
theorem PD.plR {xs : List Nat} (h : PD X e Γ (plnR xs)) : PD X e Γ (rowD xs) := .mk fun σ H st Q q => h σ H st Q fun v H' e1 hv => q v H' e1 hv.plR
theorem pd_varR {i : Nat} {x : Str} {xs : List Nat} (hN : X.N[i]? = some x) (hΓ : Γ[i]? = some (some (plnR xs))) (hv : Vis X.env.scope x) (hd : (x == ("__debug__" : Str)) = false)
    (hcd : (x == ("__classdict__" : Str)) = false) : PD X (.Name x pos) Γ (rowD xs) := (pd_var hN hΓ hv hd hcd).plR
/-- tuple(list): an exact tuple -/
theorem call_tuple_ofP : CallR X (.type "tuple") (fun xs H Q => ∃ p ys, xs = [.ref p] ∧ SqL X.K H p ys ∧ ∀ (l : Addr) (o : Obj), H l = none → o.dict = none → Q (.ref l) (upd H l (.frz o (.tup ys)))) := by
  intro pins s σ H xs us Q I r h
  obtain ⟨p, ys, rfl, hq, q⟩ := h
  obtain ⟨u, rfl, rx⟩ := vals1 r
  cases rx
  obtain ⟨its, r', pl, hz⟩ := I.list hq
  have hlen := r'.length
  refine call_tuple_list pl.isList (fun h' kp => ?_) (by simp only [List.size_toArray] <;> omega)
  have I1 : Inv X pins σ H { s with heap := h' } := I.kept (t' := s.toks) kp
  have I2 : Inv X pins σ (upd H h'.objs.size (.frz { cls := .type "tuple", data := .seq its.toArray } (.tup ys))) { s with heap := h'.push { cls := .type "tuple", data := .seq its.toArray } } :=
    I1.laid (t' := s.toks) (fun b o e => Heap.get?_push_of_some _ e) (Nat.le_refl _) (show ObjOk X.prog X.w _ _ _ (.frz _ (.tup ys)) from ⟨Heap.get?_push_size _ rfl, hz, its, r', IsTup.new _ _⟩)
  exact ⟨.ref h'.objs.size, _, I2, rfl, q _ _ (I1.hok.fresh (Nat.le_refl _)) rfl⟩
theorem cd_tupP {ns : List Int} : CD X (.type "tuple") [.list (ns.map PyData.int)] (plnD ns) := ⟨_, call_tuple_ofP, fun H xs h Q q => by
  obtain ⟨v, rfl, hv⟩ := h.one_inv
  obtain ⟨a, ys, rfl, h1, h2⟩ := hv.list_inv
  rw [h2.ints_inv] at h1
  exact ⟨a, _, rfl, SqL.of h1, fun l o hl hd => q _ _ (same_new hl) (.pln upd_same hd)⟩⟩
theorem pd_tupP {ns : List Int} (h : PD X e Γ (.list (ns.map PyData.int))) (hg : Gl X "tuple") (hm : X.mg "tuple" = none) (hs : starEach [e] X.env = (false, eval e X.env) :: starEach [] X.env) : PD X (.Call (.Name "tuple" p) [e] [] pos) Γ (plnD ns) :=
  pd_callT cd_tupP hg hm bb_tuple (pad_cons h pad_nil hs) (by decide) (by decide) hs rfl
end
/-! a method of an exact tuple -/
section
variable {X : Cx} {o e : Expr} {es : List Expr} {to : TE} {t : TA} {name : Str} {apos cpos : Pos} {id : String} {r : V → List V → Hp → VK → Prop}
def tBMT (r : V → List V → Hp → VK → Prop) (to : TE) (t : TA) : TE := fun σ H Q => to σ H fun x H1 => (∃ p ob xs, x = .ref p ∧ H1 p = some (.frz ob (.tup xs)) ∧ ob.dict = none) ∧ t σ H1 fun xs H2 => r x xs H2 Q
theorem pe_bmT (slot : Slot "tuple" name id) (hty : typeOf (.builtin id) = pure (.type "method_descriptor")) (hm : MtR X id r) (ho : PE X o to) (ha : PA X (e :: es) t)
    (hbase : attributeBase o name X.env (eval o X.env) = eval o X.env)
    (hfew : ((backTo cpos (starEach (e :: es) X.env)).all (fun x => !x.1) && (backToKw cpos (keywordEach [] X.env)).all (fun x => x.1.isSome)
      && decide ((e :: es).length + ([] : List Keyword).length + (if ([] : List Keyword).isEmpty then 0 else 1) < 30)) = true)
    (hline : (apos.endLine == cpos.line) = true) (hs : starEach (e :: es) X.env = (false, eval e X.env) :: starEach es X.env) (hplain : (backTo cpos (starEach es X.env)).any (·.1) = false) :
    PE X (.Call (.Attribute o name apos) (e :: es) [] cpos) (tBMT r to t) := by
  refine ⟨fun pins s σ H Q I h => ?_⟩
  refine wpAny_Call_method_late hbase hfew hline rfl (thn (ho.run pins s σ H _ I h) fun v s1 ⟨x, H1, I1, r1, ty, q1⟩ => ?_)
  obtain ⟨p, ob, xs, rfl, hp, hd⟩ := ty
  cases r1
  obtain ⟨e1, hz, its, rv, ob', e2, hc, _⟩ := I1.hok _ _ hp
  rw [e1] at e2
  cases e2
  refine ⟨"tuple", id, PySem.F.plainAttrs_tuple, slot, hty, ⟨ob, e1, hc⟩, fun a ea => by cases ea; exact ⟨ob, e1, hd⟩, ?_⟩
  have hA := ha.run cpos pins s1 σ H1 _ I1 q1
  rw [hs] at hA ⊢
  refine Calls.callWith_builtin (by show (false || (backTo cpos (starEach es X.env)).any (·.1)) = false; rw [hplain] <;> rfl) (Calls.evalArgs_plain ?_)
  exact thn hA fun us s2 ⟨vs, H2, I2, r2, q2⟩ => hm pins s2 σ H2 (.ref p) vs (.ref p) us Q I2 (show RelV (.ref p) (Value.ref p) from rfl) r2 q2
/-- t.index(n) -/
theorem pd_tindex {Γ : Ev} {ns : List Int} {n : Int} (hn : n ∈ ns) (ho : PD X o Γ (plnD ns)) (ha : PD X e Γ (.int n)) (hs : starEach [e] X.env = (false, eval e X.env) :: starEach [] X.env)
    (hbase : attributeBase o "index" X.env (eval o X.env) = eval o X.env)
    (hfew : ((backTo cpos (starEach [e] X.env)).all (fun x => !x.1) && (backToKw cpos (keywordEach [] X.env)).all (fun x => x.1.isSome)
      && decide ([e].length + ([] : List Keyword).length + (if ([] : List Keyword).isEmpty then 0 else 1) < 30)) = true)
    (hline : (apos.endLine == cpos.line) = true) : PD X (.Call (.Attribute o "index" apos) [e] [] cpos) Γ (nD (ns.idxOf n)) := .mk fun σ H st Q q => by
  refine ⟨_, pe_bmT PySem.F.slot_tuple_index PySem.F.type_tuple_index mt_tup_indexI (wE_ok o) (pa_cons (wE_ok e) pa_nil hs) hbase hfew hline hs rfl, ho σ H st _ fun v H1 e1 hv => ?_⟩
  obtain ⟨a, ob, rfl, h1, h2⟩ := hv.pl_inv
  refine ⟨⟨a, ob, _, rfl, h1, h2⟩, ha σ H1 (st.same e1) _ fun u H2 e2 hu => ?_⟩
  obtain rfl := hu.int_inv
  obtain ⟨i1, i2⟩ := idx_at hn
  exact ⟨a, ns, n, ns.idxOf n, rfl, rfl, .inl (.inr ⟨ob, e2 _ _ h1⟩), i1, fun m hm hz => i2 m hm n hz rfl, q _ H2 (e1.trans e2) (.int _)⟩
end
/-- a promise of something weaker -/
theorem Df.weak {P : Program} {w : World} {K : PySem.W.Frag} {mg : Str → Option Value} {base : Heap} {x : Str} {k : Nat} {ps : List Str} {R R' : List PyData → PyData → Prop} (h : Df P w K mg base x k ps R)
    (hw : ∀ ds r', R' ds r' → ∃ r, R ds r ∧ ∀ (H : Hp) (v : V), Hd K H v r → Hd K H v r') : Df P w K mg base x k ps R' := by
  obtain ⟨f, fd, a, b, c, ok, e⟩ := h
  refine ⟨f, fd, a, b, c, ok.imp fun vs H Q E q => ?_, e⟩
  obtain ⟨ds, r', h1, h2, q⟩ := q
  obtain ⟨r, h3, h4⟩ := hw ds r' h2
  exact ⟨ds, r, h1, h3, fun v H' e1 hv => q v H' e1 (h4 H' v hv)⟩
end Tw
namespace Tw
open PySem PySem.Spec PyProof.Rows L2
/-! ### while, pop, walks over lists: bodies that change lists of their own -/
theorem HdA.snoc_inv {K : PySem.W.Frag} {H : Hp} : ∀ {es : List PyData} {d : PyData} {vs : List V}, HdA K H vs (es ++ [d]) → ∃ us y, vs = us ++ [y] ∧ HdA K H us es ∧ Hd K H y d
  | [], d, vs, h => by
    obtain ⟨v, rfl, hv⟩ := HdA.one_inv h
    exact ⟨[], v, rfl, .nil, hv⟩
  | e :: es, d, vs, h => by
    rw [List.cons_append] at h
    cases h with
    | cons h1 h2 =>
      obtain ⟨us, y, rfl, a, b⟩ := HdA.snoc_inv h2
      exact ⟨_ :: us, y, rfl, .cons h1 a, b⟩
theorem lfA_snoc {es : List PyData} {d : PyData} (h : lfA (es ++ [d]) = true) : lfA es = true ∧ lf d = true := by
  refine ⟨lfA_of fun x hx => lf_of_mem h (List.mem_append_left _ hx), lf_of_mem h (List.mem_append_right _ (List.mem_singleton.mpr rfl))⟩
section
variable {X : Cx} {a b c e iter tg : Expr} {es : List Expr} {rest body A B : List Stmt} {pos p : Pos} {own own' : List Nat} {Γ Γ' : Ev} {d dx dy dz : PyData} {ds : List PyData} {nx mid : List Nat → Ev → Prop} {rt : PyData → Prop}
theorem ro_while (W : Nat → Ev → Prop) (h0 : ∃ m Γ', Le Γ Γ' ∧ (∀ i ∈ own, ∃ ds, Γ'[i]? = some (some (.list ds))) ∧ W m Γ')
    (hs : ∀ (m : Nat) (Γ' : Ev), W m Γ' → ∃ k, PTD X c Γ' k ∧ (k = true → RO X body own Γ' (fun o Γ2 => o = own ∧ ∃ m' Γ3, m' < m ∧ Le Γ2 Γ3 ∧ (∀ i ∈ own, ∃ ds, Γ3[i]? = some (some (.list ds))) ∧ W m' Γ3) rt) ∧ (k = false → RO X rest own Γ' nx rt))
    (hp : PassesOwn (model X.prog X.w) X.A X.env X.xe) : RO X (.While c body [] pos :: rest) own Γ nx rt := ⟨fun H0 σ H st D k1 k2 =>
  ⟨_, pss_cons (ps_while hp (wT_ok c) (wB_ok body)) (wB_ok rest), by
    obtain ⟨m0, Γ0, l0, o0, w0⟩ := h0
    refine ⟨fun m σ' H' => ∃ Γ', W m Γ' ∧ StO X.K H0 own Γ' σ' H', ⟨m0, Γ0, w0, st.le l0 (fun i hi => ⟨hi, o0 i hi⟩) fun i d h1 h2 => absurd h2 h1⟩, fun m σ' H1 q => ?_⟩
    obtain ⟨Γ', w, st'⟩ := q
    obtain ⟨k, hk, hb, hr⟩ := hs m Γ' w
    refine hk σ' H1 st'.st _ fun H2 e2 => ?_
    cases k with
    | true =>
      refine ⟨fun σ2 H3 => ∃ m', m' < m ∧ ∃ Γ3, W m' Γ3 ∧ StO X.K H0 own Γ3 σ2 H3, fun σ2 H3 z => z, ?_⟩
      exact (hb rfl).run H0 σ' H2 (st'.same e2) _ (fun o Γ2 σ2 H3 n st2 => by
        obtain ⟨rfl, m', Γ3, lt, l3, o3, w3⟩ := n
        exact ⟨m', lt, Γ3, w3, st2.le l3 (fun i hi => ⟨hi, o3 i hi⟩) fun i d h1 h2 => absurd h2 h1⟩) k2
    | false => exact (hr rfl).run H0 σ' H2 (st'.same e2) D k1 k2⟩⟩
/-- xs.pop() -/
theorem ro_pop {x : Str} {i : Nat} {px apos cpos spos : Pos} {es' : List PyData} (hi : i ∈ own) (hΓ : Γ[i]? = some (some (.list (es' ++ [d])))) (hr : RO X rest own (Γ.set i (some (.list es'))) nx rt) (hN : X.N[i]? = some x) (hv : Vis X.env.scope x)
    (hd : (x == ("__debug__" : Str)) = false := by decide) (hcd : (x == ("__classdict__" : Str)) = false := by decide)
    (hb : attributeBase (.Name x px) "pop" X.env (eval (.Name x px) X.env) = eval (.Name x px) X.env := by rfl) (hline : (apos.endLine == cpos.line) = true := by rfl)
    (hsw : swapsWith (.Call (.Attribute (.Name x px) "pop" apos) [] [] cpos) none spos.line X.env = pure false := by rfl) :
    RO X (.Expr (.Call (.Attribute (.Name x px) "pop" apos) [] [] cpos) spos :: rest) own Γ nx rt := ⟨fun H0 σ H st D h1 h2 => by
  refine ⟨_, pss_cons (ps_expr (pe_bm0 PySem.F.plainAttrs_list PySem.F.slot_list_pop PySem.F.type_list_pop mt_pop (pe_var hN hv hd hcd) hb hline) hsw) (wB_ok rest), ?_⟩
  obtain ⟨b, vs, ds', a1, a2, a3, a4, a5, a6⟩ := st.mine i hi
  rw [hΓ] at a4
  cases a4
  obtain ⟨us, y, rfl, u1, u2⟩ := a5.snoc_inv
  refine ⟨_, a1, .inl ⟨rfl, _, SqL.of a3⟩, b, _, y, rfl, rfl, a3, by simp, ?_⟩
  rw [List.dropLast_concat]
  exact hr.run H0 σ _ (st.mut hi a1 a3 u1 (lfA_snoc a6).1) D h1 h2⟩
/-- xs.append(ys.pop()) -/
theorem ro_appPop {x y : Str} {i j : Nat} {px py apos cpos apos2 cpos2 spos : Pos} {es' : List PyData} (hi : i ∈ own) (hj : j ∈ own) (hij : i ≠ j) (hΓ : Γ[i]? = some (some (.list ds))) (hΓ2 : Γ[j]? = some (some (.list (es' ++ [d])))) (hz : ds.length ≤ 10000000)
    (hr : RO X rest own ((Γ.set j (some (.list es'))).set i (some (.list (ds ++ [d])))) nx rt) (hN : X.N[i]? = some x) (hv : Vis X.env.scope x) (hN2 : X.N[j]? = some y) (hv2 : Vis X.env.scope y)
    (hd : (x == ("__debug__" : Str)) = false := by decide) (hcd : (x == ("__classdict__" : Str)) = false := by decide) (hd2 : (y == ("__debug__" : Str)) = false := by decide) (hcd2 : (y == ("__classdict__" : Str)) = false := by decide)
    (hs : starEach [.Call (.Attribute (.Name y py) "pop" apos2) [] [] cpos2] X.env = (false, eval (.Call (.Attribute (.Name y py) "pop" apos2) [] [] cpos2) X.env) :: starEach [] X.env := by rfl)
    (hb : attributeBase (.Name x px) "append" X.env (eval (.Name x px) X.env) = eval (.Name x px) X.env := by rfl)
    (hb2 : attributeBase (.Name y py) "pop" X.env (eval (.Name y py) X.env) = eval (.Name y py) X.env := by rfl)
    (hfew : ((backTo cpos (starEach [.Call (.Attribute (.Name y py) "pop" apos2) [] [] cpos2] X.env)).all (fun x => !x.1) && (backToKw cpos (keywordEach [] X.env)).all (fun x => x.1.isSome)
      && decide ([Expr.Call (.Attribute (.Name y py) "pop" apos2) [] [] cpos2].length + ([] : List Keyword).length + (if ([] : List Keyword).isEmpty then 0 else 1) < 30)) = true := by rfl)
    (hline : (apos.endLine == cpos.line) = true := by rfl) (hline2 : (apos2.endLine == cpos2.line) = true := by rfl) (hsw : swapsWith (.Call (.Attribute (.Name x px) "append" apos) [.Call (.Attribute (.Name y py) "pop" apos2) [] [] cpos2] [] cpos) none spos.line X.env = pure false := by rfl) :
    RO X (.Expr (.Call (.Attribute (.Name x px) "append" apos) [.Call (.Attribute (.Name y py) "pop" apos2) [] [] cpos2] [] cpos) spos :: rest) own Γ nx rt := ⟨fun H0 σ H st D h1 h2 => by
  refine ⟨_, pss_cons (ps_expr (pe_bm PySem.F.plainAttrs_list PySem.F.slot_list_append PySem.F.type_list_append mt_append (pe_var hN hv hd hcd)
    (pa_cons (pe_bm0 PySem.F.plainAttrs_list PySem.F.slot_list_pop PySem.F.type_list_pop mt_pop (pe_var hN2 hv2 hd2 hcd2) hb2 hline2) pa_nil hs) hb hfew hline hs rfl) hsw) (wB_ok rest), ?_⟩
  obtain ⟨b, vs, ds', a1, a2, a3, a4, a5, a6⟩ := st.mine i hi
  rw [hΓ] at a4
  cases a4
  obtain ⟨b2, vs2, ds2, c1, c2, c3, c4, c5, c6⟩ := st.mine j hj
  rw [hΓ2] at c4
  cases c4
  obtain ⟨us, y', rfl, u1, u2⟩ := c5.snoc_inv
  obtain ⟨l1, l2⟩ := lfA_snoc c6
  have hne : b ≠ b2 := fun q => st.apart i hi j hj hij b a1 (by rw [q]; exact c1)
  have st1 := st.mut hj c1 c3 u1 l1
  have mt : SameT X.K H (upd H b2 (.lst us)) := SameT.mut c3
  have hb' : (upd H b2 (.lst us)) b = some (.lst vs) := by rw [upd_ne hne]; exact a3
  refine ⟨_, a1, .inl ⟨rfl, _, SqL.of a3⟩, _, c1, .inl ⟨rfl, _, SqL.of c3⟩, b2, _, y', rfl, rfl, c3, by simp, ?_⟩
  rw [List.dropLast_concat]
  refine ⟨b, vs, y', rfl, rfl, hb', ?_, ?_⟩
  · rw [a5.length, sizeLine_eq]; omega
  · refine hr.run H0 σ _ (st1.mut hi a1 hb' ((HdA.lf mt _ _ a6 a5).snoc (Hd.lf mt _ _ l2 u2)) (lfA_append a6 ?_)) D h1 h2
    rw [lfA, l2] <;> rfl⟩
/-- xs.append(ys.pop(0)) -/
theorem ro_appPop0 {x y : Str} {i j k0 : Nat} {px py apos cpos apos2 cpos2 spos p0 : Pos} {es' : List PyData} (hi : i ∈ own) (hj : j ∈ own) (hij : i ≠ j) (hΓ : Γ[i]? = some (some (.list ds))) (hΓ2 : Γ[j]? = some (some (.list (d :: es')))) (hz : ds.length ≤ 10000000)
    (hr : RO X rest own ((Γ.set j (some (.list es'))).set i (some (.list (ds ++ [d])))) nx rt) (hN : X.N[i]? = some x) (hv : Vis X.env.scope x) (hN2 : X.N[j]? = some y) (hv2 : Vis X.env.scope y)
    (hd : (x == ("__debug__" : Str)) = false := by decide) (hcd : (x == ("__classdict__" : Str)) = false := by decide) (hd2 : (y == ("__debug__" : Str)) = false := by decide) (hcd2 : (y == ("__classdict__" : Str)) = false := by decide)
    (hs : starEach [.Call (.Attribute (.Name y py) "pop" apos2) [.Constant (.int 0) k0 p0] [] cpos2] X.env = (false, eval (.Call (.Attribute (.Name y py) "pop" apos2) [.Constant (.int 0) k0 p0] [] cpos2) X.env) :: starEach [] X.env := by rfl)
    (hs2 : starEach [.Constant (.int 0) k0 p0] X.env = (false, eval (.Constant (.int 0) k0 p0) X.env) :: starEach [] X.env := by rfl)
    (hb : attributeBase (.Name x px) "append" X.env (eval (.Name x px) X.env) = eval (.Name x px) X.env := by rfl)
    (hb2 : attributeBase (.Name y py) "pop" X.env (eval (.Name y py) X.env) = eval (.Name y py) X.env := by rfl)
    (hfew : ((backTo cpos (starEach [.Call (.Attribute (.Name y py) "pop" apos2) [.Constant (.int 0) k0 p0] [] cpos2] X.env)).all (fun x => !x.1) && (backToKw cpos (keywordEach [] X.env)).all (fun x => x.1.isSome)
      && decide ([Expr.Call (.Attribute (.Name y py) "pop" apos2) [.Constant (.int 0) k0 p0] [] cpos2].length + ([] : List Keyword).length + (if ([] : List Keyword).isEmpty then 0 else 1) < 30)) = true := by rfl)
    (hfew2 : ((backTo cpos2 (starEach [.Constant (.int 0) k0 p0] X.env)).all (fun x => !x.1) && (backToKw cpos2 (keywordEach [] X.env)).all (fun x => x.1.isSome)
      && decide ([Expr.Constant (.int 0) k0 p0].length + ([] : List Keyword).length + (if ([] : List Keyword).isEmpty then 0 else 1) < 30)) = true := by rfl)
    (hline : (apos.endLine == cpos.line) = true := by rfl) (hline2 : (apos2.endLine == cpos2.line) = true := by rfl) (hsw : swapsWith (.Call (.Attribute (.Name x px) "append" apos) [.Call (.Attribute (.Name y py) "pop" apos2) [.Constant (.int 0) k0 p0] [] cpos2] [] cpos) none spos.line X.env = pure false := by rfl) :
    RO X (.Expr (.Call (.Attribute (.Name x px) "append" apos) [.Call (.Attribute (.Name y py) "pop" apos2) [.Constant (.int 0) k0 p0] [] cpos2] [] cpos) spos :: rest) own Γ nx rt := ⟨fun H0 σ H st D h1 h2 => by
  refine ⟨_, pss_cons (ps_expr (pe_bm PySem.F.plainAttrs_list PySem.F.slot_list_append PySem.F.type_list_append mt_append (pe_var hN hv hd hcd)
    (pa_cons (pe_bm PySem.F.plainAttrs_list PySem.F.slot_list_pop PySem.F.type_list_pop mt_popAt (pe_var hN2 hv2 hd2 hcd2) (pa_cons pe_int pa_nil hs2) hb2 hfew2 hline2 hs2 rfl) pa_nil hs) hb hfew hline hs rfl) hsw) (wB_ok rest), ?_⟩
  obtain ⟨b, vs, ds', a1, a2, a3, a4, a5, a6⟩ := st.mine i hi
  rw [hΓ] at a4
  cases a4
  obtain ⟨b2, vs2, ds2, c1, c2, c3, c4, c5, c6⟩ := st.mine j hj
  rw [hΓ2] at c4
  cases c4
  cases c5 with
  | cons u2 u1 =>
    rename_i y' us
    have l2 : lf d = true := lf_of_mem c6 (by simp)
    have l1 : lfA es' = true := lfA_of fun z hz => lf_of_mem c6 (by simp [hz])
    have hne : b ≠ b2 := fun q => st.apart i hi j hj hij b a1 (by rw [q]; exact c1)
    have st1 := st.mut hj c1 c3 u1 l1
    have mt : SameT X.K H (upd H b2 (.lst us)) := SameT.mut c3
    have hb' : (upd H b2 (.lst us)) b = some (.lst vs) := by rw [upd_ne hne]; exact a3
    have hsq : seqIndex? 0 (y' :: us).length = some 0 := by
      unfold seqIndex?
      simp
    refine ⟨_, a1, .inl ⟨rfl, _, SqL.of a3⟩, _, c1, .inl ⟨rfl, _, SqL.of c3⟩, b2, _, 0, 0, y', rfl, rfl, c3, by decide, by decide, hsq, rfl, ?_⟩
    refine ⟨b, vs, y', rfl, rfl, hb', ?_, ?_⟩
    · rw [a5.length, sizeLine_eq]; omega
    · refine hr.run H0 σ _ (st1.mut hi a1 hb' ((HdA.lf mt _ _ a6 a5).snoc (Hd.lf mt _ _ l2 u2)) (lfA_append a6 ?_)) D h1 h2
      rw [lfA, l2] <;> rfl⟩
/-- for x in xs, a list that is not one's own -/
theorem ro_forS {x y : Str} {i0 j : Nat} {tp py : Pos} (Inv : Nat → Ev → Prop) (hio : i0 ∉ own) (hΓ : Γ[i0]? = some (some (.list ds))) (hN0 : X.N[i0]? = some y) (hv0 : Vis X.env.scope y) (hlf : lfA ds = true) (hjo : j ∉ own) (h0 : ∃ Γ', Le Γ Γ' ∧ (∀ i ∈ own, ∃ ds, Γ'[i]? = some (some (.list ds))) ∧ Inv 0 Γ')
    (hs : ∀ (i : Nat) (d : PyData) (Γ' : Ev), ds[i]? = some d → Inv i Γ' → RO X body own (Γ'.set j (some d)) (fun o Γ2 => o = own ∧ ∃ Γ3, Le Γ2 Γ3 ∧ (∀ i ∈ own, ∃ ds, Γ3[i]? = some (some (.list ds))) ∧ Inv (i + 1) Γ3) rt)
    (hd : ∀ Γ', Inv ds.length Γ' → RO X rest own Γ' nx rt) (hlf2 : ∀ (i : Nat) (Γ' : Ev), Inv ds.length Γ' → ∀ d, i ∉ own → Γ'[i]? = some (some d) → lf d = true) (hp : PassesOwn (model X.prog X.w) X.A X.env X.xe) (hc : X.calm = true) (hN : X.N.Nodup) (hj : X.N[j]? = some x) (hx : Loc X.env.scope x) (hf : X.fn x = true ∨ X.env.scope.names.lookup x = some .local := by first | exact .inl rfl | exact .inr rfl) (hsi : ∀ z, foldedSetIterable (.Name y py) X.env z = pure z := by intro _; rfl)
    (hd0 : (y == ("__debug__" : Str)) = false := by decide) (hcd0 : (y == ("__classdict__" : Str)) = false := by decide) :
    RO X (.For (.Name x tp) (.Name y py) body [] pos :: rest) own Γ nx rt := ⟨fun H0 σ H st D k1 k2 => by
  refine ⟨_, pss_cons (ps_for hp hc (pi_list (pe_var hN0 hv0 hd0 hcd0)) (pg_name (i := j) hN hj hx hf) (wB_ok body) hsi) (wB_ok rest), ?_⟩
  have hst : ∃ v, σ[i0]? = some (some v) ∧ Hd X.K H0 v (.list ds) := by
    rcases st.still i0 _ hio hΓ with q | q
    · simp [lf] at q
    · exact q
  obtain ⟨v, hv, hvd⟩ := hst
  obtain ⟨b, vs, rfl, h3, h4⟩ := hvd.list_inv
  obtain ⟨Γ0, l0, o0, i0'⟩ := h0
  have stb := st.rebase
  have eb := hide_base st
  refine ⟨_, hv, b, rfl, ⟨vs, SqL.of (st.base _ _ h3)⟩, for_it (walkD_list (eb _ _ h3) (h4.same eb)) (fun i σ' H' => ∃ Γ', Inv i Γ' ∧ StO X.K (hide own σ H) own Γ' σ' H') ⟨Γ0, i0', stb.le l0 (fun i hi => ⟨hi, o0 i hi⟩) fun i d h1 h2 => absurd h2 h1⟩ (fun i σ' H' _ ⟨_, _, q⟩ => q.base) (fun i v σ' H2 H3 hi' q y => ?_) (fun σ' H2 q => ?_)⟩
  · obtain ⟨Γ', inv, st'⟩ := q
    obtain ⟨e3, d, hd', hv⟩ := y
    have hld : lf d = true := lf_of_mem hlf (List.mem_of_getElem? hd')
    refine (hs i d Γ' hd' inv).run (hide own σ H) (σ'.set j (some v)) H3 ((st'.same e3).put hv hld (fun k hk => ⟨hk, fun e => hjo (e ▸ hk)⟩) fun k h1 h2 => absurd h1 h2) _ (fun o Γ2 σ2 H4 n st2 => ?_) (fun d2 v2 H4 r e4 hv2 fr => k2 d2 v2 H4 r (eb.trans e4) hv2 (fr.down eb))
    obtain ⟨rfl, Γ3, l3, o3, i3⟩ := n
    exact ⟨Γ3, i3, st2.le l3 (fun i hi => ⟨hi, o3 i hi⟩) fun i d h1 h2 => absurd h2 h1⟩
  · obtain ⟨Γ', inv, st'⟩ := q
    exact (hd Γ' inv).run H0 σ' H2 (st'.down eb fun i d h1 h2 => hlf2 i Γ' inv d h1 h2) D k1 k2⟩
/-- a tuple of the module -/
def GTup (K : PySem.W.Frag) (mg : Str → Option Value) (x : Str) (ns : List Int) : Prop := ∃ b, mg x = some (.ref b) ∧ ∃ o its n, K.lookup b = some o ∧ o.cls = .type "tuple" ∧ o.data = .seq its n ∧ its.size ≤ sizeLine ∧ Vals (ns.map V.int) its.toList
theorem pd_gtup {x : Str} {ns : List Int} (h : GTup X.K X.mg x ns) (hg : Gl X x) (hd : (x == ("__debug__" : Str)) = false := by decide) : PD X (.Name x pos) Γ (.tuple (ns.map PyData.int)) := .mk fun σ H st Q q => by
  obtain ⟨b, hm, hk⟩ := h
  exact ⟨_, pe_glob (v := .ref b) hg hm rfl hd, q _ H (Same.refl H) (.tup (.inr hk) (HdA.ints ns))⟩
end
/-- a def's promise, over an own body that hands back no list -/
theorem Dn.okO {P : Program} {w : World} {K : PySem.W.Frag} {mg : Str → Option Value} {base : Heap} {x : Str} {st : Stmt} {N ps : List Str} {k : Nat} {R : Rel} (D : Dn K mg x st ps) (S : FnScope N ps (defScope st)) (hl : ∀ ds r, R ds r → ds.length = ps.length)
    (hb : ∀ (f : Addr) (cdv : Value) (A : Around) (outer : List Env) (s : Shared) (H : Hp) (E : XK), Room k (bx P w K mg base N x (defScope st) f cdv A outer s H E).A → ∀ ds r, R ds r →
      RO (bx P w K mg base N x (defScope st) f cdv A outer s H E) (defBody st) [] (ds.map some ++ List.replicate (N.length - ds.length) none) (fun _ _ => r = .none) (fun d => d = r)) : Df P w K mg base x (k + 1) ps R :=
  D.ok S hl fun f cdv A outer s H E hr ds r h => rb_ro (hb f cdv A outer s H E hr ds r h) fun _ _ n => n
end Tw
namespace Tw
open PySem PySem.Spec PyProof.Rows L2
/-! ### enumerate(t), t a tuple -/
theorem meets_enum1 {v : Value} {o : Obj} {H : Heap → Prop} (B : Begins v o H) :
    Meets (Builtin.«enumerate.__new__» ⟨[.type "enumerate", v], []⟩) (fun _ R s => H s.heap ∧
      R (.ok (.ret (.ref (s.heap.push o).objs.size))) { s with heap := (s.heap.push o).push { cls := .type "enumerate", data := .fields #[.none, .bool false, .ref s.heap.objs.size, rawInt 0, .none, .none] } }) :=
  .of_wp fun prog w A R s h => by
    obtain ⟨hp, g, d, tk, os⟩ := s; obtain ⟨h1, h⟩ := h
    have hsub := sub_enumerate
    have q1 : ∀ {A' : Around} {E : Value → Shared → Prop} {Q : Value → Shared → Prop}, Q (.ref hp.objs.size) ⟨hp.push o, g, d, tk, os⟩ → wpAny (model prog w) A' (pyIter v) Q E ⟨hp, g, d, tk, os⟩ :=
      fun q => B.iter prog w _ _ ⟨hp, g, d, tk, os⟩ _ h1 q
    wp_walk using q1
    refine wpAny_stack_any fun st => wpAny_pure ?_
    split
    · rename_i c _ _ _ _ _
      cases (c == Value.type "enumerate")
      · wp_walk using q1
        exact ⟨_, rfl, h⟩
      · wp_walk using q1
        exact ⟨_, rfl, h⟩
    · wp_walk using q1
      exact ⟨_, rfl, h⟩
section
variable {prog : Program} {w : World} {A : Around} {E : Value → Shared → Prop} {s : Shared}
theorem enum_begins1 {v : Value} {o : Obj} {H : Heap → Prop} {Q : Value → Shared → Prop} (B : Begins v o H) (h1 : H s.heap)
    (h : ∀ h', IsEnum h' (s.heap.objs.size + 1) s.heap.objs.size 0 .none → h'.get? s.heap.objs.size = some o → h'.objs.size = s.heap.objs.size + 2 →
      (∀ b o, s.heap.get? b = some o → h'.get? b = some o) → Q (.ref (s.heap.objs.size + 1)) { s with heap := h' }) :
    wpAny (model prog w) A (call (.type "enumerate") [v]) Q E s := by
  refine callType_new F.called_enumerate (by decide) (F.typeCall_enumerate_1 _) (F.newCall_enumerate_1 _) (fun obj => F.args_object_init_2 obj _) F.entry_enumerate_new
    (meets_enum1 B) ⟨h1, ?_⟩
  have hz : (s.heap.push o).objs.size = s.heap.objs.size + 1 := Heap.size_push ..
  show _ ∧ _
  rw [hz]
  have he : IsEnum ((s.heap.push o).push { cls := .type "enumerate", data := .fields #[.none, .bool false, .ref s.heap.objs.size, rawInt 0, .none, .none] }) (s.heap.objs.size + 1) s.heap.objs.size 0 .none := by
    have := Heap.get?_push_size (s.heap.push o) (o := { cls := .type "enumerate", data := .fields #[.none, .bool false, .ref s.heap.objs.size, rawInt 0, .none, .none] }) rfl
    rw [hz] at this; exact this
  refine ⟨⟨_, he, rfl⟩, h _ he (Heap.get?_push_of_some _ (Heap.get?_push_size _ B.free)) (by rw [Heap.size_push, hz]) fun b o x => Heap.get?_push_of_some _ (Heap.get?_push_of_some _ x)⟩
end
def IteT (K : PySem.W.Frag) (a : Addr) : It :=
  ⟨fun i H => ∃ (xs : List V) (x : V), SqT K H a xs ∧ xs[i]? = some x, fun i H v H' => ∃ T x, v = .ref T ∧ H T = none ∧ H' = upd H T (.tup [.int (i : Nat), x]) ∧ ∀ xs, SqT K H a xs → xs[i]? = some x, fun i H => ∃ xs : List V, SqT K H a xs ∧ xs.length ≤ i⟩
theorem turn_enumT {P : Program} {w : World} {K : PySem.W.Frag} {elts : List Expr} {kk : Nat} {tpos : Pos} (a e it : Addr) (items : Array Value) :
    Turn P w K (.Tuple elts kk tpos) (IteT K a) [e, it] e (fun i h => (∃ old, IsEnum h e it ((i : Nat) : Int) old) ∧ h.IsTupleIter it a i ∧ e ≠ it) where
  mem := by simp
  obj := fun i h st b hb => by
    obtain ⟨⟨old, he⟩, ⟨o, ho, hc, hd⟩, _⟩ := st
    have e' : b = e ∨ b = it := by simpa using hb
    rcases e' with z | z
    · rw [z]; exact ⟨_, he, fun v q => nomatch q⟩
    · rw [z]; exact ⟨o, ho, fun v q => by rw [hd] at q; cases q⟩
  keep := fun i h h' st k => let ⟨⟨old, he⟩, hi, hne⟩ := st; ⟨⟨old, k e (by simp) _ he⟩, hi.at fun o q => k it (by simp) o q, hne⟩
  item := by
    intro X hP hw hK hc i pins s σ H E I hf st hg
    subst hP hw hK
    obtain ⟨⟨old, he⟩, hit, hne⟩ := st
    obtain ⟨xs, x, hq, hx⟩ := hg
    obtain ⟨its, rv, p, hz⟩ := I.tuple hq
    obtain ⟨u, hu, ru⟩ := rv.get hx
    have hel : e < s.heap.objs.size := Heap.lt_size he
    have hil : it < s.heap.objs.size := by obtain ⟨_, q, _⟩ := hit; exact Heap.lt_size q
    have hai : a ≠ it := fun q => by
      obtain ⟨o1, q1, c1, _⟩ := p
      obtain ⟨o2, q2, c2, _⟩ := hit
      rw [q, q2] at q1
      cases q1
      rw [c2] at c1
      exact absurd c1 (by decide)
    have hae : a ≠ e := fun q => by
      obtain ⟨o1, q1, c1, _⟩ := p
      rw [q, he] at q1
      cases q1
      exact absurd (show Value.type "enumerate" = .type "tuple" from c1) (by decide)
    have hef : e ∉ [it, a] := fun q => by
      rcases List.mem_cons.mp q with z | z
      · exact hne z
      · exact hae (List.mem_singleton.mp z).symm
    have hlt : i < its.toArray.size := by
      have := (List.getElem?_eq_some_iff.mp hu).1
      rw [List.size_toArray]
      exact this
    refine wpAny_pyNext_enum_itemC (Draws.tuple (A := X.A.in1) (show X.A.in1.handled = none from I.ok.hd hc) it a hai its.toArray) he ⟨hit, p⟩ hlt hne hef fun y h' tk hP ho hit' hT hsz hk => ?_
    have hyu : y = u := by
      have h1 : its[i]? = some y := by simpa using hP
      rw [hu] at h1
      exact (Option.some.inj h1).symm
    subst hyu
    refine ⟨_, rfl, wpAny_letOwnedTupleGo_enum (s := { s with heap := h', toks := tk + 1 }) ho fun h'' he' sb => ?_⟩
    have hT2 : h''.get? s.heap.objs.size = some { cls := .type "tuple", data := .seq #[.int i tk, y] } := (sb.2 _ (Nat.ne_of_gt hel)).trans hT
    have new : ObjOk X.prog X.w (upd H s.heap.objs.size (.tup [.int (i : Nat), x])) h'' s.heap.objs.size (.tup [.int (i : Nat), x]) :=
      ⟨by show 2 ≤ sizeLine; decide, [.int i tk, y], .cons ⟨_, rfl⟩ (.cons ru .nil), ⟨_, hT2, rfl, _, rfl⟩⟩
    have I1 : Inv X pins σ (upd H s.heap.objs.size (.tup [.int (i : Nat), x])) { s with heap := h'', toks := tk + 1 } :=
      I.turnedNew (ch := [e, it]) (fun b ob hb q => (sb.2 b (fun z => hb (by simp [z]))).trans (hk b ob (fun z => hb (by simp [z])) (fun z => hb (by simp [z])) q)) hf (Nat.le_refl _) new
    refine ⟨.ref s.heap.objs.size, _, I1, rfl, ⟨_, x, rfl, I.hok.fresh (Nat.le_refl _), rfl, fun ys hy => by rw [I.tuple_inj hy hq]; exact hx⟩, ⟨⟨y, ?_⟩, hit'.1.at fun o q => (sb.2 it (Ne.symm hne)).trans q, hne⟩, fun b hb => ?_⟩
    · have e1 : ((i + 1 : Nat) : Int) = (i : Int) + 1 := by omega
      rw [e1]; exact he'
    · have hb' : b < s.heap.objs.size := by
        have e' : b = e ∨ b = it := by simpa using hb
        rcases e' with z | z
        · rw [z]; exact hel
        · rw [z]; exact hil
      rw [upd_ne (Nat.ne_of_lt hb')]
      exact (hf b hb).1
  done := by
    intro X hP hw hK hc i pins s σ H E I hf st hg
    subst hP hw hK
    obtain ⟨⟨old, he⟩, hit, hne⟩ := st
    obtain ⟨xs, hq, hx⟩ := hg
    obtain ⟨its, rv, p, hz⟩ := I.tuple hq
    obtain ⟨f0, f1, f2, f3, f4, f5⟩ := hf it (by simp)
    have hl := rv.length
    have hai : a ≠ it := fun q => by
      obtain ⟨o1, q1, c1, _⟩ := p
      obtain ⟨o2, q2, c2, _⟩ := hit
      rw [q, q2] at q1
      cases q1
      rw [c2] at c1
      exact absurd c1 (by decide)
    have hT : s.TypeIs (.ref e) "enumerate" := ⟨_, he, rfl⟩
    unfold pyNext
    refine wpAny_bind (wpAny_attempt (wpAny_callSpecial?_slot (name := Str.ofString "__next__") hT F.slot_enumerate_next
      (wpAny_call_entry F.slot_enumerate_next hT F.entry_enumerate_next ?_ (F.args_enumerate_next_1 _))))
    show wpAny _ _ (field (.ref e) 2 >>= _) _ _ _
    refine wpAny_bind (wpAny_field he rfl (x := .ref it) rfl ?_)
    refine wpAny_bind (wpAny_nextOf_tuple_end (I.ok.hd hc) hit p (Array.getElem?_eq_none (by rw [List.size_toArray]; omega)) fun h' x eb hx' => ?_)
    obtain ⟨o, ho, hc'⟩ := hx'
    refine wpAny_bind (wpAny_isInstance (T := "StopIteration") (b := true) ⟨o, ho, hc'⟩ isSubtype_stop ?_)
    exact wpAny_pure ⟨rfl, I.turned (t' := s.toks) (fun b o hb q => eb b o hb q) f0 f1 f3 f4 f5⟩
  self := fun A i s Q E st h => let ⟨⟨_, he⟩, _⟩ := st; wpAny_pyIter_enum he h
def iEnumT (K : PySem.W.Frag) (ta : TA) : TI := fun σ H R => ta σ H fun vs H1 => ∃ a xs, vs = [.ref a] ∧ SqT K H1 a xs ∧ R (IteT K a) H1
theorem pi_enumT {X : Cx} {e : Expr} {ta : TA} {p pos tpos : Pos} {elts : List Expr} {kk : Nat} (hg : Gl X "enumerate") (hm : X.mg "enumerate" = none) (ha : PA X [e] ta) (hs : starEach [e] X.env = [(false, eval e X.env)]) :
    PI X (.Tuple elts kk tpos) (.Call (.Name "enumerate" p) [e] [] pos) (iEnumT X.K ta) := by
  refine ⟨fun pins s σ H R I h => ?_⟩
  refine Call_ (ld_blt I hg hm boot_enumerate (PyProof.Rows.callWith_type1 (thn (ha.run pos pins s σ H _ I h) fun us s1 ⟨vs, H1, I1, r1, q1⟩ => ?_) hs rfl))
  obtain ⟨a, xs, ex, hq, q⟩ := q1
  subst ex
  cases r1 with
  | cons r rr =>
    cases rr
    cases r
    obtain ⟨its, rv, p', hz⟩ := I1.tuple hq
    refine enum_begins1 (begins_tuple a its.toArray) p' fun h' he hit hsz hk => wpAny_pyIter_enum he ?_
    have I2 : Inv X pins σ H1 { s1 with heap := h' } := I1.kept (t' := s1.toks) hk
    refine ⟨s1.heap.objs.size + 1, [s1.heap.objs.size + 1, s1.heap.objs.size], _, _, H1, rfl, I2, turn_enumT a (s1.heap.objs.size + 1) s1.heap.objs.size its.toArray, ⟨⟨.none, he⟩, ⟨_, hit, rfl, rfl⟩, Nat.succ_ne_self _⟩, fun b hb => ?_, q⟩
    have e' : b = s1.heap.objs.size + 1 ∨ b = s1.heap.objs.size := by simpa using hb
    have hle : s1.heap.objs.size ≤ b := by
      rcases e' with z | z
      · rw [z]; exact Nat.le_add_right _ _
      · rw [z]; exact Nat.le_refl _
    exact I1.fpOk hle (I1.hok.fresh hle)
theorem walk_enumT {K : PySem.W.Frag} {a : Addr} {xs : List V} : Walk (IteT K a) xs.length (fun H => SqT K H a xs) (YPair (fun i => some (.int (i : Nat))) (fun i => xs[i]?)) := by
  refine ⟨fun i _ hi q => ⟨xs, xs[i], q, by simp [hi]⟩, fun _ q => ⟨xs, q, Nat.le_refl _⟩, fun i H v H' _ q y => ?_⟩
  obtain ⟨T, x, h1, h2, h3, h4⟩ := y
  exact ⟨T, .int (i : Nat), x, h1, h2, h3, rfl, h4 xs q⟩
/-- the pairs that enumerate gives -/
def enumD (ds : List PyData) : List PyData := (List.range ds.length).map fun i => .tuple [nD i, ds.getD i .none]
section
variable {X : Cx} {e iter : Expr} {elts : List Expr} {pos p tpos : Pos} {kk : Nat} {Γ : Ev} {ds : List PyData}
theorem pit_enumT (h : PD X e Γ (.tuple ds)) (hl : lfA ds = true) (hg : Gl X "enumerate") (hm : X.mg "enumerate" = none) (hs : starEach [e] X.env = (false, eval e X.env) :: starEach [] X.env) (hs2 : starEach [e] X.env = [(false, eval e X.env)]) :
    PIT X (.Tuple elts kk tpos) (.Call (.Name "enumerate" p) [e] [] pos) Γ (enumD ds) := ⟨fun σ H st R q => ⟨_, pi_enumT hg hm (pa_cons (wE_ok e) pa_nil hs) hs2, h σ H st _ fun v H1 e1 hv => by
  obtain ⟨a, xs, rfl, h1, h2⟩ := hv.tup_inv
  refine ⟨a, xs, rfl, h1, q _ H1 e1 fun Hb et => ?_⟩
  unfold WalkD
  have hlen : (enumD ds).length = xs.length := by
    unfold enumD
    rw [List.length_map, List.length_range, h2.length]
  rw [hlen]
  have hb := HdA.lf et _ _ hl h2
  refine walk_enumT.mono (fun H2 e2 => Same.sqt e2 (et _ _ h1)) fun i H2 x H3 hi e2 y => ?_
  obtain ⟨T, y1, y2, rfl, hT, rfl, h5, h6⟩ := y
  cases h5
  obtain ⟨d, hd, hvd⟩ := hb.getV h6
  refine ⟨same_new hT, .tuple [nD i, d], ?_, .tup (SqT.of upd_same) (.cons (.int _) (.cons ((hvd.same e2).same (same_new hT)) .nil))⟩
  have hi2 : i < ds.length := (List.getElem?_eq_some_iff.mp hd).1
  unfold enumD
  rw [List.getElem?_map, List.getElem?_range hi2]
  show some (PyData.tuple [nD i, ds.getD i .none]) = _
  rw [List.getD_eq_getElem?_getD, hd] <;> rfl⟩⟩
end
/-! ### for (x, y) in .. -/
section
variable {X : Cx} {iter : Expr} {rest body : List Stmt} {pos p1 p2 tpos : Pos} {kk : Nat} {own : List Nat} {Γ : Ev} {nx : List Nat → Ev → Prop} {rt : PyData → Prop}
theorem ro_for2 {x y : Str} {j k : Nat} (ps : List (PyData × PyData)) (Inv : Nat → Ev → Prop) (hi : PIT X (.Tuple [.Name x p1, .Name y p2] kk tpos) iter Γ (ps.map fun p => .tuple [p.1, p.2])) (hlf : ∀ p ∈ ps, lf p.1 = true ∧ lf p.2 = true) (hjo : j ∉ own) (hko : k ∉ own) (h0 : ∃ Γ', Le Γ Γ' ∧ (∀ i ∈ own, ∃ ds, Γ'[i]? = some (some (.list ds))) ∧ Inv 0 Γ')
    (hs : ∀ (i : Nat) (p : PyData × PyData) (Γ' : Ev), ps[i]? = some p → Inv i Γ' → RO X body own ((Γ'.set j (some p.1)).set k (some p.2)) (fun o Γ2 => o = own ∧ ∃ Γ3, Le Γ2 Γ3 ∧ (∀ i ∈ own, ∃ ds, Γ3[i]? = some (some (.list ds))) ∧ Inv (i + 1) Γ3) rt)
    (hd : ∀ Γ', Inv ps.length Γ' → RO X rest own Γ' nx rt) (hlf2 : ∀ (i : Nat) (Γ' : Ev), Inv ps.length Γ' → ∀ d, i ∉ own → Γ'[i]? = some (some d) → lf d = true) (hp : PassesOwn (model X.prog X.w) X.A X.env X.xe) (hc : X.calm = true) (hN : X.N.Nodup)
    (hj : X.N[j]? = some x) (hx : Loc X.env.scope x) (hf : X.fn x = true ∨ X.env.scope.names.lookup x = some .local) (hk : X.N[k]? = some y) (hy : Loc X.env.scope y) (hf2 : X.fn y = true ∨ X.env.scope.names.lookup y = some .local)
    (hsi : ∀ z, foldedSetIterable iter X.env z = pure z)
    (ha1 : (assignEach [.Name x p1, .Name y p2] X.env).map (·.2) = assign (.Name x p1) X.env :: (assignEach [.Name y p2] X.env).map (·.2)) (ha2 : (assignEach [.Name y p2] X.env).map (·.2) = assign (.Name y p2) X.env :: (assignEach [] X.env).map (·.2))
    (hn2 : (assignEach [.Name x p1, .Name y p2] X.env).length = 2) (hst : (assignEach [.Name x p1, .Name y p2] X.env).findIdx? (·.1) = none) :
    RO X (.For (.Tuple [.Name x p1, .Name y p2] kk tpos) iter body [] pos :: rest) own Γ nx rt := ⟨fun H0 σ H st D k1 k2 =>
  ⟨_, pss_cons (ps_for hp hc (wI_ok _ iter) (pg_tup hc (pgs_cons (pg_name (i := j) hN hj hx hf) (pgs_cons (pg_name (i := k) hN hk hy hf2) pgs_nil ha2) ha1) hn2 hst) (wB_ok body) hsi) (wB_ok rest), hi.run σ H st.st _ fun J H1 e1 w => by
    obtain ⟨Γ0, l0, o0, i0⟩ := h0
    have st1 := st.same e1
    have stb := st1.rebase
    have eb := hide_base st1
    have w' := w _ (hide_t st1)
    unfold WalkD at w'
    rw [List.length_map] at w'
    refine for_it w' (fun i σ' H' => ∃ Γ', Inv i Γ' ∧ StO X.K (hide own σ H1) own Γ' σ' H') ⟨Γ0, i0, stb.le l0 (fun i hi => ⟨hi, o0 i hi⟩) fun i d h1 h2 => absurd h2 h1⟩ (fun i σ' H' _ ⟨_, _, q⟩ => q.base) (fun i v σ' H2 H3 hi' q y => ?_) (fun σ' H2 q => ?_)
    · obtain ⟨Γ', inv, st'⟩ := q
      obtain ⟨e3, d, hd', hv⟩ := y
      rw [List.getElem?_map, List.getElem?_eq_getElem hi'] at hd'
      have ed : PyData.tuple [(ps[i]).1, (ps[i]).2] = d := Option.some.inj hd'
      subst ed
      have hld := hlf _ (List.getElem_mem hi')
      obtain ⟨a, xs, rfl, h3, h4⟩ := hv.tup_inv
      obtain ⟨v1, v2, rfl, hv1, hv2⟩ := h4.two_inv
      have s1 := (st'.same e3).put (i := j) hv1 hld.1 (fun z hz => ⟨hz, fun e => hjo (e ▸ hz)⟩) fun z h1 h2 => absurd h1 h2
      have s2 := s1.put (i := k) hv2 hld.2 (fun z hz => ⟨hz, fun e => hko (e ▸ hz)⟩) fun z h1 h2 => absurd h1 h2
      refine ⟨a, _, rfl, h3, rfl, v1, [v2], rfl, v2, [], rfl, rfl, ?_⟩
      refine (hs i ps[i] Γ' (List.getElem?_eq_getElem hi') inv).run (hide own σ H1) _ H3 s2 _ (fun o Γ2 σ2 H4 n st2 => ?_) (fun d2 v2 H4 r e4 hv2 fr => k2 d2 v2 H4 r (eb.trans e4) hv2 (fr.down eb))
      obtain ⟨rfl, Γ3, l3, o3, i3⟩ := n
      exact ⟨Γ3, i3, st2.le l3 (fun i hi => ⟨hi, o3 i hi⟩) fun i d h1 h2 => absurd h2 h1⟩
    · obtain ⟨Γ', inv, st'⟩ := q
      exact (hd Γ' inv).run H0 σ' H2 (st'.down eb fun i d h1 h2 => hlf2 i Γ' inv d h1 h2) D k1 k2⟩⟩
end
/-! ### [elt for x, y in iter] -/
section
variable {X : Cx} {elt iter : Expr} {pos p1 p2 tpos : Pos} {kk : Nat} {Γ : Ev}
theorem set_wipe2 {σ : L2.St} {j k : Nat} {v u : Option V} (h : j ≠ k) : wipe (((wipe σ [j, k]).set j v).set k u) [j, k] = wipe σ [j, k] := by
  show ((((((σ.set k none).set j none).set j v).set k u).set k none).set j none) = (σ.set k none).set j none
  rw [List.set_set, List.set_set, List.set_comm _ _ h, List.set_set, List.set_set]
theorem pdl_lc2 {α : Type} (e1 e2 out : α → PyData) (xs : List α) {scope : Scope} {x y : Str} {j k : Nat} (hi : PID X (.Tuple [.Name x p1, .Name y p2] kk tpos) iter Γ (xs.map fun a => .tuple [e1 a, e2 a])) (hz : xs.length ≤ 16000000) (hlf : ∀ a ∈ xs, lf (out a) = true) (hjk : j ≠ k)
    (he : ∀ (s : Shared) (H : Hp) (C : Addr) (cl : List (Str × Addr)) (fp : List Addr), ∀ a ∈ xs, PD (Bk X scope s H C cl fp) elt ((Γ.set j (some (e1 a))).set k (some (e2 a))) (out a))
    (hc : X.calm = true) (hN : X.N.Nodup) (ok : blkC X.N X.env.scope scope [(x, j), (y, k)] = true)
    (hg : ∀ (s : Shared) (H : Hp) (C : Addr) (cl : List (Str × Addr)) (fp : List Addr), PG (Bk X scope s H C cl fp) (.Tuple [.Name x p1, .Name y p2] kk tpos) (gTup X.K 2 (gCons (gName j) (gCons (gName k) gNil)))) (hs : ∀ x, foldedSetIterable iter X.env x = pure x) :
    PDL X (.ListComp elt [⟨.Tuple [.Name x p1, .Name y p2] kk tpos, iter, [], 0⟩] scope pos) Γ (xs.map out) := .mk fun σ H st Q q =>
  ⟨_, pe_lc (own := [(x, j), (y, k)]) (tt := tYes) hc hN (wI_ok _ iter) (blkOk_by ok) hg (fun _ _ _ _ _ => pts_nil) (fun s H C cl fp => bE_ok elt s H C cl fp) hs, hi σ H st _ fun J H1 e3 w => fun D hD =>
    lc_main (enc := fun a => .tuple [e1 a, e2 a]) (out := out) (keep := fun _ => true) (xs := xs) (K := X.K) w hD hz hlf (fun a v H2 H3 ha e4 e5 hv R r1 _ => by
        obtain ⟨b, vs, rfl, h3, h4⟩ := hv.tup_inv
        obtain ⟨v1, v2, rfl, hv1, hv2⟩ := h4.two_inv
        refine ⟨b, _, rfl, h3, rfl, v1, [v2], rfl, v2, [], rfl, rfl, set_wipe2 hjk, fun s H' C cl fp => he s H' C cl fp a ha _ _ ?_ _ fun y H4 e6 hy => r1 y H4 rfl e6 hy⟩
        have q1 := (((st.same (e3.trans (e4.trans e5))).wipe (own := [j, k])).set (i := j) hv1).set (i := k) hv2
        have e7 : (([j, k].foldr (fun i g => g.set i none) Γ).set j (some (e1 a))).set k (some (e2 a)) = (Γ.set j (some (e1 a))).set k (some (e2 a)) := by
          show ((((Γ.set k none).set j none).set j (some (e1 a))).set k (some (e2 a))) = _
          rw [List.set_set, List.set_comm _ _ hjk, List.set_set, List.set_comm _ _ (Ne.symm hjk)]
        rw [e7] at q1
        exact q1)
      (fun H2 acc e4 h2 h3 => q D acc H2 (same_back e3 hD) (e3.trans e4) h2 (by
        have e6 : xs.filter (fun _ => true) = xs := List.filter_eq_self.mpr fun _ _ => rfl
        rw [e6] at h3
        exact h3))⟩
end
/-! ### max(xs, default=d); max, min of a tuple -/
theorem reads_intsAre {h : Heap} : ∀ {vs : List Value} {ns : List Int}, IntsAre vs ns → ReadsAll h vs (ns.map .int) []
  | _, _, .nil => .nil
  | _, _, .cons n t r => .cons (as := []) (bs := []) (.int n t) (reads_intsAre r)
theorem alikeInts (ns : List Int) : PySem.W.AlikeAll (ns.map PyData.int) := by
  refine ⟨fun x hx y hy => ?_, fun x hx => ?_⟩
  · obtain ⟨n, _, rfl⟩ := List.mem_map.mp hx
    obtain ⟨m, _, rfl⟩ := List.mem_map.mp hy
    rfl
  · obtain ⟨n, _, rfl⟩ := List.mem_map.mp hx
    intro q
    cases q
def maxOr (d : Int) : List Int → Int
  | [] => d
  | n :: ns => ns.foldl max n
section
variable {X : Cx}
theorem cr_maxDef (hc : X.calm = true) (hu : X.A.units + 64 < cLine) : CallRK X (.builtin "max") [Str.ofString "default"] (fun vs zs H Q => ∃ (a : Addr) (ns : List Int) (d : Int), vs = [.ref a] ∧ zs = [.int d] ∧ SqL X.K H a (ns.map V.int) ∧ Q (.int (maxOr d ns)) H) := by
  intro pins s σ H vs zs us ws Q I r rz h
  obtain ⟨a, ns, d, rfl, rfl, hs, q⟩ := h
  obtain rfl := Vals.ref1 r
  obtain ⟨w1, rfl, t, rfl⟩ := vals1 rz
  obtain ⟨its, rv, hl, _⟩ := I.list hs
  have hr := reads_intsAre (h := s.heap) rv.ints
  have hr' : ReadsAll s.heap its.toArray.toList (ns.map .int) [] := hr
  refine PySem.W.max_list_default (I.ok.hd hc) hl.isList hr' (alikeInts ns) (by rw [dep_ints]; omega) (fun h0 h' tk hk => ?_) fun y ys i v h' tk bs e hv hrd hk => ?_
  · have e : ns = [] := by
      cases ns with
      | nil => rfl
      | cons a b => cases h0
    subst e
    exact ⟨.int _, H, I.kept hk, ⟨_, rfl⟩, q⟩
  · cases ns with
    | nil => cases e
    | cons n ns =>
      injection e with e1 e2
      subst e1
      subst e2
      rw [PySem.W.maxD_ints] at hrd
      cases hrd
      exact ⟨.int _, H, I.kept hk, ⟨_, rfl⟩, q⟩
theorem cr_maxT (hc : X.calm = true) (hu : X.A.units + 64 < cLine) : CallR X (.builtin "max") (fun vs H Q => ∃ (a : Addr) (n : Int) (ns : List Int), vs = [.ref a] ∧ SqT X.K H a ((n :: ns).map V.int) ∧ Q (.int (ns.foldl max n)) H) := by
  intro pins s σ H vs us Q I r h
  obtain ⟨a, n, ns, rfl, hs, q⟩ := h
  obtain rfl := Vals.ref1 r
  obtain ⟨its, rv, hl, _⟩ := I.tuple hs
  have hr' : ReadsAll s.heap its.toArray.toList (.int n :: ns.map .int) [] := reads_intsAre (h := s.heap) (ns := n :: ns) rv.ints
  refine PySem.W.max_tuple_data (I.ok.hd hc) hl hr' (alikeInts (n :: ns)) (by rw [show PyData.int n :: ns.map PyData.int = (n :: ns).map PyData.int from rfl, dep_ints]; omega) fun i v h' tk bs hv hrd hk => ?_
  rw [PySem.W.maxD_ints] at hrd
  cases hrd
  exact ⟨.int _, H, I.kept hk, ⟨_, rfl⟩, q⟩
theorem cr_minT (hc : X.calm = true) (hu : X.A.units + 64 < cLine) : CallR X (.builtin "min") (fun vs H Q => ∃ (a : Addr) (n : Int) (ns : List Int), vs = [.ref a] ∧ SqT X.K H a ((n :: ns).map V.int) ∧ Q (.int (ns.foldl min n)) H) := by
  intro pins s σ H vs us Q I r h
  obtain ⟨a, n, ns, rfl, hs, q⟩ := h
  obtain rfl := Vals.ref1 r
  obtain ⟨its, rv, hl, _⟩ := I.tuple hs
  have hr' : ReadsAll s.heap its.toArray.toList (.int n :: ns.map .int) [] := reads_intsAre (h := s.heap) (ns := n :: ns) rv.ints
  refine PySem.W.min_tuple_data (I.ok.hd hc) hl hr' (alikeInts (n :: ns)) (by rw [show PyData.int n :: ns.map PyData.int = (n :: ns).map PyData.int from rfl, dep_ints]; omega) fun i v h' tk bs hv hrd hk => ?_
  rw [PySem.W.minD_ints] at hrd
  cases hrd
  exact ⟨.int _, H, I.kept hk, ⟨_, rfl⟩, q⟩
theorem cd_maxT {n : Int} {ns : List Int} (hc : X.calm = true) (hu : X.A.units + 64 < cLine) : CD X (.builtin "max") [.tuple ((n :: ns).map PyData.int)] (.int (ns.foldl max n)) := ⟨_, cr_maxT hc hu, fun H xs h Q q => by
  obtain ⟨v, rfl, hv⟩ := h.one_inv
  obtain ⟨a, ys, rfl, h1, h2⟩ := hv.tup_inv
  rw [h2.ints_inv] at h1
  exact ⟨a, n, ns, rfl, h1, q _ H (Same.refl H) (.int _)⟩⟩
theorem cd_minT {n : Int} {ns : List Int} (hc : X.calm = true) (hu : X.A.units + 64 < cLine) : CD X (.builtin "min") [.tuple ((n :: ns).map PyData.int)] (.int (ns.foldl min n)) := ⟨_, cr_minT hc hu, fun H xs h Q q => by
  obtain ⟨v, rfl, hv⟩ := h.one_inv
  obtain ⟨a, ys, rfl, h1, h2⟩ := hv.tup_inv
  rw [h2.ints_inv] at h1
  exact ⟨a, n, ns, rfl, h1, q _ H (Same.refl H) (.int _)⟩⟩
/-- max(e, default=d) -/
theorem pd_maxDef {e e2 : Expr} {Γ : Ev} {p pos kpos : Pos} {ns : List Int} {d : Int} (hc : X.calm = true) (hu : X.A.units + 64 < cLine) (hg : Gl X "max") (hm : X.mg "max" = none) (h : PD X e Γ (.list (ns.map PyData.int))) (h2 : PD X e2 Γ (.int d))
    (hs : starEach [e] X.env = (false, eval e X.env) :: starEach [] X.env)
    (he : backTo pos (starEach [e] X.env) = (false, eval e X.env) :: backTo pos (starEach [] X.env)) (hpl : (backTo pos (starEach [e] X.env)).any (·.1) = false)
    (hall : (backToKw pos (keywordEach [⟨some (Str.ofString "default"), e2, kpos⟩] X.env)).all (·.1.isSome) = true) (hnone : (backToKw pos (keywordEach [⟨some (Str.ofString "default"), e2, kpos⟩] X.env)).any (·.1.isNone) = false) (hks : (backToKw pos (keywordEach [⟨some (Str.ofString "default"), e2, kpos⟩] X.env)).filterMap (·.1) = [Str.ofString "default"]) :
    PD X (.Call (.Name "max" p) [e] [⟨some (Str.ofString "default"), e2, kpos⟩] pos) Γ (.int (maxOr d ns)) := .mk fun σ H st Q q =>
  ⟨_, pe_callBK (cr_maxDef hc hu) hg hm bb_max (pa_cons (wE_ok e) pa_nil hs) (pk_cons (wE_ok e2) pk_nil) (by decide) (by decide) he hpl hall hnone hks, h σ H st _ fun v H1 e1 hv => h2 σ H1 (st.same e1) _ fun u H2 e3 hu2 => by
    obtain ⟨a, ys, rfl, h3, h4⟩ := hv.list_inv
    obtain rfl := hu2.int_inv
    rw [h4.ints_inv] at h3
    exact ⟨a, ns, d, rfl, rfl, SqL.of (e3 _ _ h3), q _ H2 (e1.trans e3) (.int _)⟩⟩
end
/-! ### name = [elt for x in iter] on one row, the name a local -/
section
variable {X : Cx} {elt iter : Expr} {pos spos : Pos} {Γ : Ev} {rest : List Stmt} {nx : Ev → Prop} {rt : PyData → Prop}
theorem rb_setLc {α : Type} (enc out : α → PyData) (xs : List α) {scope : Scope} {x y : Str} {i j : Nat} {tp py : Pos} (hi : PID X (.Name x tp) iter Γ (xs.map enc)) (hz : xs.length ≤ 16000000) (hlf : ∀ a ∈ xs, lf (out a) = true)
    (he : ∀ (s : Shared) (H : Hp) (C : Addr) (cl : List (Str × Addr)) (fp : List Addr), ∀ a ∈ xs, PD (Bk X scope s H C cl fp) elt (Γ.set j (some (enc a))) (out a))
    (hr : RB X rest (Γ.set i (some (.list (xs.map out)))) nx rt)
    (hc : X.calm = true) (hN : X.N.Nodup) (ok : blkC X.N X.env.scope scope [(x, j)] = true)
    (hg : ∀ (s : Shared) (H : Hp) (C : Addr) (cl : List (Str × Addr)) (fp : List Addr), PG (Bk X scope s H C cl fp) (.Name x tp) (gName j)) (hs : ∀ x, foldedSetIterable iter X.env x = pure x)
    (hy : X.N[i]? = some y) (hyl : X.env.scope.names.lookup y = some .local) (hsw : swapsWith (.ListComp elt [⟨.Name x tp, iter, [], 0⟩] scope pos) (some (.Name y py)) spos.line X.env = pure true) :
    RB X (.Assign [.Name y py] (.ListComp elt [⟨.Name x tp, iter, [], 0⟩] scope pos) spos :: rest) Γ nx rt := .mk fun σ H st D k1 k2 =>
  ⟨_, pss_cons (ps_setLc (own := [(x, j)]) (g := gName j) (tt := tYes) hc hN hy hyl hsw (wI_ok (.Name x tp) iter) (blkOk_by ok) hg (fun _ _ _ _ _ => pts_nil) (fun s H C cl fp => bE_ok elt s H C cl fp) hs) (wB_ok rest), hi σ H st _ fun J H1 e1 w => fun E hE =>
    lc_main (enc := enc) (out := out) (keep := fun _ => true) (xs := xs) (K := X.K) w hE hz hlf (fun a v H2 H3 ha e2 e3 hv R r1 _ => ⟨set_wipe, fun s H' C cl fp => he s H' C cl fp a ha _ _ (by
        have q1 := ((st.same (e1.trans (e2.trans e3))).wipe (own := [j])).set (i := j) hv
        have e5 : ([j].foldr (fun i g => g.set i none) Γ).set j (some (enc a)) = Γ.set j (some (enc a)) := List.set_set ..
        rw [e5] at q1
        exact q1) _ fun y H4 e4 hy => r1 y H4 rfl e4 hy⟩)
      (fun H2 acc e2 h2 h3 => by
        have e6 : xs.filter (fun _ => true) = xs := List.filter_eq_self.mpr fun _ _ => rfl
        rw [e6] at h3
        exact hr _ H2 ((st.same (e1.trans e2)).set (.lst h2 h3)) D (fun Γ' σ' H' n e4 => k1 Γ' σ' H' n ((e1.trans e2).trans e4)) fun d v H' r e4 => k2 d v H' r ((e1.trans e2).trans e4))⟩
end
end Tw
namespace Tw
open PySem PySem.Spec PyProof.Rows L2
/-! ### d in t, d not in t: t a tuple of any data -/
section
variable {X : Cx} {dx : PyData} {ds : List PyData}
theorem op_inTD (hu : X.A.units + 65 < cLine) : OpR X (compareOp .In) (fun x y H Q => ∃ d ds, Dp X.K H x d ∧ Dp X.K H y (.tuple ds) ∧ SeqAt.shaped d = true ∧ SeqAt.shaped (.tuple ds) = true ∧ Q (.bl (ds.any fun z => PyData.eqv z d)) H) := by
  intro pins s σ H x y v u Q I rx ry h
  obtain ⟨d, ds, hd, he, sd, se, q⟩ := h
  obtain ⟨as, r1⟩ := Dp.reads I d x v hd rx
  obtain ⟨bs, r2⟩ := Dp.reads I (.tuple ds) y u he ry
  exact SeqAt.in_tuple_reads r2 r1 (SeqAt.canLay_of_shaped se) (SeqAt.canLay_of_shaped sd) (room_in_shaped sd hu) ⟨.bl _, H, I, rfl, q⟩
theorem op_notInTD (hu : X.A.units + 65 < cLine) : OpR X (compareOp .NotIn) (fun x y H Q => ∃ d ds, Dp X.K H x d ∧ Dp X.K H y (.tuple ds) ∧ SeqAt.shaped d = true ∧ SeqAt.shaped (.tuple ds) = true ∧ Q (.bl (!ds.any fun z => PyData.eqv z d)) H) := by
  intro pins s σ H x y v u Q I rx ry h
  obtain ⟨d, ds, hd, he, sd, se, q⟩ := h
  obtain ⟨as, r1⟩ := Dp.reads I d x v hd rx
  obtain ⟨bs, r2⟩ := Dp.reads I (.tuple ds) y u he ry
  exact SeqAt.notIn_tuple_reads r2 r1 (SeqAt.canLay_of_shaped se) (SeqAt.canLay_of_shaped sd) (room_in_shaped sd hu) ⟨.bl _, H, I, rfl, q⟩
theorem od_inTD (hu : X.A.units + 65 < cLine) (h1 : SeqAt.shaped dx = true) (h2 : SeqAt.shaped (.tuple ds) = true) : OD X (compareOp .In) dx (.tuple ds) (.bool (ds.any fun z => PyData.eqv z dx)) := ⟨_, op_inTD hu, fun H x y hx hy Q q =>
  ⟨dx, ds, Hd.dp dx x (shaped_lay h1) hx, Hd.dp (.tuple ds) y (shaped_lay h2) hy, h1, h2, q _ H (Same.refl H) (.bl _)⟩⟩
theorem od_notInTD (hu : X.A.units + 65 < cLine) (h1 : SeqAt.shaped dx = true) (h2 : SeqAt.shaped (.tuple ds) = true) : OD X (compareOp .NotIn) dx (.tuple ds) (.bool (!ds.any fun z => PyData.eqv z dx)) := ⟨_, op_notInTD hu, fun H x y hx hy Q q =>
  ⟨dx, ds, Hd.dp dx x (shaped_lay h1) hx, Hd.dp (.tuple ds) y (shaped_lay h2) hy, h1, h2, q _ H (Same.refl H) (.bl _)⟩⟩
/-- a thing of the module -/
def GD (K : PySem.W.Frag) (mg : Str → Option Value) (x : Str) (d : PyData) : Prop := ∃ b, mg x = some (.ref b) ∧ ∀ H, Hd K H (.ref b) d
theorem pd_gd {x : Str} {pos : Pos} {Γ : Ev} (h : GD X.K X.mg x dx) (hg : Gl X x) (hd : (x == ("__debug__" : Str)) = false) : PD X (.Name x pos) Γ dx := .mk fun σ H st Q q => by
  obtain ⟨b, hm, hk⟩ := h
  exact ⟨_, pe_glob (v := .ref b) hg hm rfl hd, q _ H (Same.refl H) (hk H)⟩
end
end Tw
namespace Tw
open PySem PySem.Spec PyProof.Rows L2
/-! ### a walk over a list of one's own; a list of one's own gets another name -/
theorem StO.move {K : PySem.W.Frag} {H0 H : Hp} {own own' : List Nat} {Γ : Ev} {σ : L2.St} {i j : Nat} {b : Addr} {ds : List PyData} (h : StO K H0 own Γ σ H) (hj : j ∈ own) (hij : i ≠ j) (hb : σ[j]? = some (some (.ref b))) (hΓ : Γ[j]? = some (some (.list ds))) (hlt : i < Γ.length)
    (ho : ∀ k ∈ own', k = i ∨ (k ∈ own ∧ k ≠ i ∧ k ≠ j)) (hs : ∀ k ∈ own, k ∉ own' → k = j ∨ k = i) (hi' : i ∈ own') : StO K H0 own' ((Γ.set j none).set i (some (.list ds))) (σ.set i (some (.ref b))) H := by
  obtain ⟨b0, vs, ds0, c1, c2, c3, c4, c5, c6⟩ := h.mine j hj
  rw [c1] at hb
  cases hb
  rw [hΓ] at c4
  cases c4
  have hσ : i < σ.length := by rw [← h.st.1]; exact hlt
  refine ⟨h.base, ⟨by rw [List.length_set, List.length_set, List.length_set]; exact h.st.1, fun k d hk => ?_⟩, fun k hk => ?_, fun k hk l hl hkl c => ?_, fun k d hk hd => ?_⟩
  · by_cases e : i = k
    · subst e
      rw [List.getElem?_set_self (by rw [List.length_set]; exact hlt)] at hk
      cases hk
      exact ⟨_, List.getElem?_set_self hσ, .lst c3 c5⟩
    · rw [get_set_ne e] at hk ⊢
      by_cases e2 : j = k
      · subst e2
        by_cases hjl : j < Γ.length
        · rw [List.getElem?_set_self hjl] at hk
          cases hk
        · rw [List.getElem?_eq_none (by rw [List.length_set]; omega)] at hk
          cases hk
      · rw [get_set_ne e2] at hk
        exact h.st.2 k d hk
  · rcases ho k hk with e | ⟨k1, k2, k3⟩
    · subst e
      exact ⟨_, vs, ds, List.getElem?_set_self hσ, c2, c3, List.getElem?_set_self (by rw [List.length_set]; exact hlt), c5, c6⟩
    · obtain ⟨a, ws, es, a1, a2, a3, a4, a5, a6⟩ := h.mine k k1
      exact ⟨a, ws, es, by rw [get_set_ne (Ne.symm k2)]; exact a1, a2, a3, by rw [get_set_ne (Ne.symm k2), get_set_ne (Ne.symm k3)]; exact a4, a5, a6⟩
  · rcases ho k hk with e | ⟨k1, k2, k3⟩
    · subst e
      rw [List.getElem?_set_self hσ, get_set_ne hkl]
      intro q r
      cases q
      rcases ho l hl with e | ⟨l1, l2, l3⟩
      · exact hkl e.symm
      · exact h.apart j hj l l1 (Ne.symm l3) _ c1 r
    · rw [get_set_ne (Ne.symm k2)]
      rcases ho l hl with e | ⟨l1, l2, l3⟩
      · subst e
        rw [List.getElem?_set_self hσ]
        intro q r
        cases r
        exact h.apart j hj k k1 (Ne.symm k3) _ c1 q
      · rw [get_set_ne (Ne.symm l2)]
        exact h.apart k k1 l l1 hkl c
  · have hik : i ≠ k := fun q => by subst q; exact hk hi'
    rw [get_set_ne hik] at hd ⊢
    by_cases e2 : j = k
    · subst e2
      by_cases hjl : j < Γ.length
      · rw [List.getElem?_set_self hjl] at hd
        cases hd
      · rw [List.getElem?_eq_none (by rw [List.length_set]; omega)] at hd
        cases hd
    · rw [get_set_ne e2] at hd
      refine h.still k d (fun q => ?_) hd
      rcases hs k q hk with z | z
      · exact e2 z.symm
      · exact hik z.symm
section
variable {X : Cx} {rest body : List Stmt} {pos : Pos} {own own' : List Nat} {Γ : Ev} {ds : List PyData} {nx : List Nat → Ev → Prop} {rt : PyData → Prop}
theorem ro_move {x y : Str} {i j : Nat} {px py : Pos} (own' : List Nat) (hj : j ∈ own) (hij : i ≠ j) (hΓ : Γ[j]? = some (some (.list ds))) (hlt : i < Γ.length) (ho : ∀ k ∈ own', k = i ∨ (k ∈ own ∧ k ≠ i ∧ k ≠ j)) (hs : ∀ k ∈ own, k ∉ own' → k = j ∨ k = i) (hi' : i ∈ own')
    (hr : RO X rest own' ((Γ.set j none).set i (some (.list ds))) nx rt) (hN : X.N.Nodup) (hi : X.N[i]? = some x) (hx : Loc X.env.scope x) (hN2 : X.N[j]? = some y) (hv2 : Vis X.env.scope y)
    (hsw : swapsWith (.Name y py) (some (.Name x px)) pos.line X.env = pure false) (hf : X.fn x = true ∨ X.env.scope.names.lookup x = some .local) (hd : (y == ("__debug__" : Str)) = false) (hcd : (y == ("__classdict__" : Str)) = false) :
    RO X (.Assign [.Name x px] (.Name y py) pos :: rest) own Γ nx rt := ⟨fun H0 σ H st D h1 h2 => by
  obtain ⟨b, vs, ds0, c1, c2, c3, c4, c5, c6⟩ := st.mine j hj
  exact ⟨_, pss_cons (ps_set hN hi hx (pe_var hN2 hv2 hd hcd) hsw hf) (wB_ok rest), _, c1, hr.run H0 _ H (st.move hj hij c1 hΓ hlt ho hs hi') D h1 h2⟩⟩
theorem ro_forO {x y : Str} {i0 j : Nat} {tp py : Pos} (own' : List Nat) (Inv : Nat → Ev → Prop) (hi0 : i0 ∈ own) (ho1 : ∀ i ∈ own', i ∈ own ∧ i ≠ i0) (ho2 : ∀ i ∈ own, i ∉ own' → i = i0) (hΓ : Γ[i0]? = some (some (.list ds))) (hN0 : X.N[i0]? = some y) (hv0 : Vis X.env.scope y) (hjo : j ∉ own')
    (h0 : ∃ Γ', Le Γ Γ' ∧ (∀ d, Γ'[i0]? ≠ some (some d)) ∧ (∀ i ∈ own', ∃ ds, Γ'[i]? = some (some (.list ds))) ∧ Inv 0 Γ')
    (hs : ∀ (i : Nat) (d : PyData) (Γ' : Ev), ds[i]? = some d → Inv i Γ' → RO X body own' (Γ'.set j (some d)) (fun o Γ2 => o = own' ∧ ∃ Γ3, Le Γ2 Γ3 ∧ (∀ i ∈ own', ∃ ds, Γ3[i]? = some (some (.list ds))) ∧ Inv (i + 1) Γ3) rt)
    (hd : ∀ Γ', Inv ds.length Γ' → RO X rest own' Γ' nx rt) (hlf2 : ∀ (i : Nat) (Γ' : Ev), Inv ds.length Γ' → ∀ d, i ∉ own' → Γ'[i]? = some (some d) → lf d = true) (hp : PassesOwn (model X.prog X.w) X.A X.env X.xe) (hc : X.calm = true) (hN : X.N.Nodup) (hj : X.N[j]? = some x) (hx : Loc X.env.scope x) (hf : X.fn x = true ∨ X.env.scope.names.lookup x = some .local) (hsi : ∀ z, foldedSetIterable (.Name y py) X.env z = pure z)
    (hd0 : (y == ("__debug__" : Str)) = false) (hcd0 : (y == ("__classdict__" : Str)) = false) :
    RO X (.For (.Name x tp) (.Name y py) body [] pos :: rest) own Γ nx rt := ⟨fun H0 σ H st D k1 k2 => by
  refine ⟨_, pss_cons (ps_for hp hc (pi_list (pe_var hN0 hv0 hd0 hcd0)) (pg_name (i := j) hN hj hx hf) (wB_ok body) hsi) (wB_ok rest), ?_⟩
  obtain ⟨b, vs, ds0, c1, c2, c3, c4, c5, c6⟩ := st.mine i0 hi0
  rw [hΓ] at c4
  cases c4
  obtain ⟨Γ0, l0, d0, o0, inv0⟩ := h0
  have stL : StO X.K H0 own' Γ0 σ H := st.le l0 (fun i hi => ⟨(ho1 i hi).1, o0 i hi⟩) fun i d h1 h2 h3 => by
    have e := ho2 i h2 h1
    subst e
    exact d0 d h3
  have stb := stL.rebase
  have eb := hide_base stL
  have hpb : hide own' σ H b = some (.lst vs) := by
    rw [hide_def, if_neg]
    · exact c3
    · rintro ⟨i, hi, e2⟩
      obtain ⟨q1, q2⟩ := ho1 i hi
      exact st.apart i q1 i0 hi0 q2 b e2 c1
  refine ⟨_, c1, b, rfl, ⟨vs, SqL.of c3⟩, for_it (walkD_list hpb (HdA.lf (hide_t stL) _ _ c6 c5)) (fun i σ' H' => ∃ Γ', Inv i Γ' ∧ StO X.K (hide own' σ H) own' Γ' σ' H') ⟨Γ0, inv0, stb⟩ (fun i σ' H' _ ⟨_, _, q⟩ => q.base) (fun i v σ' H2 H3 hi' q y => ?_) (fun σ' H2 q => ?_)⟩
  · obtain ⟨Γ', inv, st'⟩ := q
    obtain ⟨e3, d, hd', hv⟩ := y
    have hld : lf d = true := lf_of_mem c6 (List.mem_of_getElem? hd')
    refine (hs i d Γ' hd' inv).run (hide own' σ H) (σ'.set j (some v)) H3 ((st'.same e3).put hv hld (fun k hk => ⟨hk, fun e => hjo (e ▸ hk)⟩) fun k h1 h2 => absurd h1 h2) _ (fun o Γ2 σ2 H4 n st2 => ?_) (fun d2 v2 H4 r e4 hv2 fr => k2 d2 v2 H4 r (eb.trans e4) hv2 (fr.down eb))
    obtain ⟨rfl, Γ3, l3, o3, i3⟩ := n
    exact ⟨Γ3, i3, st2.le l3 (fun i hi => ⟨hi, o3 i hi⟩) fun i d h1 h2 => absurd h2 h1⟩
  · obtain ⟨Γ', inv, st'⟩ := q
    exact (hd Γ' inv).run H0 σ' H2 (st'.down eb fun i d h1 h2 => hlf2 i Γ' inv d h1 h2) D k1 k2⟩
/-- from here on nothing of one's own is changed -/
theorem ro_of_rb {sts : List Stmt} (h : RB X sts Γ (fun _ => False) rt) (hl : ∀ d, rt d → lf d = true) : RO X sts own Γ nx rt := ⟨fun H0 σ H st D h1 h2 => h.run σ H st.st D (fun Γ' σ' H' n => n.elim) fun d v H' r e hv => h2 d v H' r (st.base.trans e) hv (.inl (hl d r))⟩
end
end Tw
namespace Tw
open PySem PySem.Spec PyProof.Rows L2
/-! ### a for over a range, in a body with lists of its own: what else stands, stands -/
structure PIR (X : Cx) (tg iter : Expr) (Γ : Ev) (ds : List PyData) : Prop where
  run : ∀ (σ : L2.St) (H : Hp), StV X.K Γ σ H → ∀ R : It → Hp → Prop, (∀ J H', Same H H' → (∀ Hb, WalkD X.K J Hb ds) → R J H') → wI X tg iter σ H R
section
variable {X : Cx} {a iter tg : Expr} {rest body : List Stmt} {pos p : Pos} {own : List Nat} {Γ : Ev} {ds : List PyData} {nx : List Nat → Ev → Prop} {rt : PyData → Prop}
theorem pir_range1 {n : Nat} (ha : PD X a Γ (.int (n : Int))) (hg : Gl X "range") (hm : X.mg "range" = none) (hn : n ≤ 100000000) (hs : starEach [a] X.env = (false, eval a X.env) :: starEach [] X.env) : PIR X tg (.Call (.Name "range" p) [a] [] pos) Γ ((List.range n).map nD) := ⟨fun σ H st R q =>
  ⟨_, pi_range1 hg hm (pa_cons (wE_ok a) pa_nil hs) hs, ha σ H st _ fun v H1 e1 hv => by
    cases hv
    refine ⟨(n : Int), rfl, by omega, by omega, q _ H1 e1 fun Hb => ?_⟩
    rw [List.range_eq_range']
    exact walkD_rng 0 n⟩⟩
theorem ro_for0 {x : Str} {j : Nat} {tp : Pos} (Inv : Nat → Ev → Prop) (hi : PIR X (.Name x tp) iter Γ ds) (hlf : lfA ds = true) (hjo : j ∉ own) (h0 : ∃ Γ', Le Γ Γ' ∧ (∀ i ∈ own, ∃ ds, Γ'[i]? = some (some (.list ds))) ∧ Inv 0 Γ')
    (hs : ∀ (i : Nat) (d : PyData) (Γ' : Ev), ds[i]? = some d → Inv i Γ' → RO X body own (Γ'.set j (some d)) (fun o Γ2 => o = own ∧ ∃ Γ3, Le Γ2 Γ3 ∧ (∀ i ∈ own, ∃ ds, Γ3[i]? = some (some (.list ds))) ∧ Inv (i + 1) Γ3) rt)
    (hd : ∀ Γ', Inv ds.length Γ' → RO X rest own Γ' nx rt) (hp : PassesOwn (model X.prog X.w) X.A X.env X.xe) (hc : X.calm = true) (hN : X.N.Nodup) (hj : X.N[j]? = some x) (hx : Loc X.env.scope x) (hf : X.fn x = true ∨ X.env.scope.names.lookup x = some .local) (hsi : ∀ x, foldedSetIterable iter X.env x = pure x) :
    RO X (.For (.Name x tp) iter body [] pos :: rest) own Γ nx rt := ⟨fun H0 σ H st D k1 k2 =>
  ⟨_, pss_cons (ps_for hp hc (wI_ok (.Name x tp) iter) (pg_name (i := j) hN hj hx hf) (wB_ok body) hsi) (wB_ok rest), hi.run σ H st.st _ fun J H1 e1 w => by
    obtain ⟨Γ0, l0, o0, i0⟩ := h0
    have st1 := st.same e1
    refine for_it (w H0) (fun i σ' H' => ∃ Γ', Inv i Γ' ∧ StO X.K H0 own Γ' σ' H') ⟨Γ0, i0, st1.le l0 (fun i hi => ⟨hi, o0 i hi⟩) fun i d h1 h2 => absurd h2 h1⟩ (fun i σ' H' _ ⟨_, _, q⟩ => q.base) (fun i v σ' H2 H3 hi' q y => ?_) (fun σ' H2 q => ?_)
    · obtain ⟨Γ', inv, st'⟩ := q
      obtain ⟨e3, d, hd', hv⟩ := y
      have hld : lf d = true := lf_of_mem hlf (List.mem_of_getElem? hd')
      refine (hs i d Γ' hd' inv).run H0 (σ'.set j (some v)) H3 ((st'.same e3).put hv hld (fun k hk => ⟨hk, fun e => hjo (e ▸ hk)⟩) fun k h1 h2 => absurd h1 h2) _ (fun o Γ2 σ2 H4 n st2 => ?_) k2
      obtain ⟨rfl, Γ3, l3, o3, i3⟩ := n
      exact ⟨Γ3, i3, st2.le l3 (fun i hi => ⟨hi, o3 i hi⟩) fun i d h1 h2 => absurd h2 h1⟩
    · obtain ⟨Γ', inv, st'⟩ := q
      exact (hd Γ' inv).run H0 σ' H2 st' D k1 k2⟩⟩
end
end Tw
namespace Tw
open PySem PySem.Spec PyProof.Rows L2
/-! what is tried at an expression, a test, an operation -/
local macro_rules | `(tactic| walk_at "vis") => `(tactic| first | exact Or.inl rfl | exact Or.inr (Or.inl rfl) | exact Or.inr (Or.inr rfl))
local macro_rules | `(tactic| walk_at "side") => `(tactic| first | decide | assumption | omega)
local macro_rules | `(tactic| walk_at "od") => `(tactic| first
  | (with_reducible exact od_add) | (with_reducible exact od_sub)
  | ((with_reducible refine' od_mod ?q); (case q => walk_at "side"))
  | ((with_reducible refine' od_fdiv ?q); (case q => exact ⟨by walk_at "side", by walk_at "side"⟩))
  | ((with_reducible refine' od_mul ?q); (case q => first | exact .inr ⟨by walk_at "side", by walk_at "side"⟩ | exact .inl ⟨by walk_at "side", by walk_at "side"⟩))
  | (with_reducible exact od_lt) | (with_reducible exact od_le) | (with_reducible exact od_gt) | (with_reducible exact od_ge) | (with_reducible exact od_eqI) | (with_reducible exact od_neI) | (with_reducible exact od_eqB) | (with_reducible exact od_neB) | (with_reducible exact od_eqS) | (with_reducible exact od_neS) | (with_reducible exact od_isN) | (with_reducible exact od_notN)
  | ((with_reducible refine' (odl_cat ?q).od); (case q => walk_at "size"))
  | ((with_reducible refine' od_catT ?q); (case q => walk_at "size"))
  | ((with_reducible refine' od_repT ?q1 ?q2 ?q3); (case q1 => decide); (case q2 => decide); (case q3 => walk_at "size"))
  | (with_reducible exact od_inT) | (with_reducible exact od_notInT)
  | (with_reducible exact od_eqR (Room.units (by assumption))) | (with_reducible exact od_neR (Room.units (by assumption))) | (with_reducible exact od_eqLR (Room.units (by assumption))) | (with_reducible exact od_eqLI (Room.units (by assumption)))
  | (with_reducible exact od_eqLI2 (Room.units (by assumption))) | (with_reducible exact od_eqLI3 (Room.units (by assumption))) | (with_reducible exact od_neLI3 (Room.units (by assumption)))
  | ((with_reducible refine' od_eqT0 ?hu ?q); (case hu => exact Room.units (by assumption)); (case q => walk_at "shaped")) | ((with_reducible refine' od_neT0 ?hu ?q); (case hu => exact Room.units (by assumption)); (case q => walk_at "shaped"))
  | ((with_reducible refine' od_eqL0 ?hu ?q); (case hu => exact Room.units (by assumption)); (case q => walk_at "shaped")) | ((with_reducible refine' od_neL0 ?hu ?q); (case hu => exact Room.units (by assumption)); (case q => walk_at "shaped"))
  | exact od_add | exact od_sub | exact od_lt | exact od_le | exact od_gt | exact od_ge | exact od_eqI | exact od_neI)
local macro_rules | `(tactic| walk_at "size") => `(tactic| first | decide | assumption | omega | (simp only [List.length_append, List.length_map, List.length_cons, List.length_nil, List.length_take, List.length_drop, List.length_range]; omega))
local macro_rules | `(tactic| walk_at "cd") => `(tactic| first
  | (with_reducible exact cd_lenL) | (with_reducible exact cd_lenT) | (with_reducible exact cd_lenS) | (with_reducible exact cd_tupL) | (with_reducible exact cd_tupT) | (with_reducible exact cdl_listL.cd) | (with_reducible exact cdl_listT.cd) | ((with_reducible refine' (cdl_sortedT ?q).cd); (case q => walk_at "size")) | ((with_reducible refine' (cdl_sortedL ?q).cd); (case q => walk_at "size"))
  | ((with_reducible refine' cd_max2 ?q); (case q => rfl)) | ((with_reducible refine' cd_min2 ?q); (case q => rfl)) | ((with_reducible refine' cd_sum ?q); (case q => rfl)) | ((with_reducible refine' cd_all ?q); (case q => rfl)))
local macro_rules | `(tactic| walk_at "args") => `(tactic| first
  | (with_reducible exact pad_nil)
  | ((with_reducible refine' pad_cons ?ha ?hb ?hs); (case hs => rfl); (case ha => walk_at "ev"); (case hb => walk_at "args")))
local macro_rules | `(tactic| walk_at "mark") => `(tactic| first | rfl | exact nomark _)
local macro_rules | `(tactic| walk_at "bi") => `(tactic| first
  | ((with_reducible refine' pd_callB (id := "len") ?ho ?hg ?hm (hv := bb_len) ?ha ?hn ?hd ?he ?hp); (case hm => exact (by assumption : Bl _).len))
  | ((with_reducible refine' pd_callT (id := "tuple") ?ho ?hg ?hm (hv := bb_tuple) ?ha ?hn ?hd ?he ?hp); (case hm => exact (by assumption : Bl _).tuple))
  | ((with_reducible refine' pd_callT (id := "list") ?ho ?hg ?hm (hv := bb_list) ?ha ?hn ?hd ?he ?hp); (case hm => exact (by assumption : Bl _).list))
  | ((with_reducible refine' pd_callB (id := "max") ?ho ?hg ?hm (hv := bb_max) ?ha ?hn ?hd ?he ?hp); (case hm => exact (by assumption : Bl _).max))
  | ((with_reducible refine' pd_callB (id := "min") ?ho ?hg ?hm (hv := bb_min) ?ha ?hn ?hd ?he ?hp); (case hm => exact (by assumption : Bl _).min))
  | ((with_reducible refine' pd_callB (id := "sorted") ?ho ?hg ?hm (hv := bb_sorted) ?ha ?hn ?hd ?he ?hp); (case hm => exact (by assumption : Bl _).sorted))
  | ((with_reducible refine' pd_callB (id := "sum") ?ho ?hg ?hm (hv := bb_sum) ?ha ?hn ?hd ?he ?hp); (case hm => exact (by assumption : Bl _).sum))
  | ((with_reducible refine' pd_callB (id := "all") ?ho ?hg ?hm (hv := bb_all) ?ha ?hn ?hd ?he ?hp); (case hm => exact (by assumption : Bl _).all)))
local macro_rules | `(tactic| walk_at "ev") => `(tactic| first
  | (with_reducible exact pd_int)
  | (with_reducible exact pd_bl)
  | (with_reducible exact pd_non)
  | (with_reducible exact pd_str)
  | walk_at "slot"
  | ((with_reducible refine' pd_bin ?ha ?hb ?ho); (case ha => walk_at "ev"); (case hb => walk_at "ev"); (case ho => walk_at "od"))
  | ((with_reducible refine' pd_cmp ?ha ?hb ?ho ?hm); (case hm => walk_at "mark"); (case ha => walk_at "ev"); (case hb => walk_at "ev"); (case ho => walk_at "od"))
  | ((with_reducible refine' pd_chain ?ha ?hb ?hc ?ho ?ho2 ?hm); (case hm => rfl); (case ha => walk_at "ev"); (case hb => walk_at "ev"); (case hc => walk_at "ev"); (case ho => walk_at "od"); (case ho2 => walk_at "od"))
  | ((with_reducible refine' pd_neg ?ha); (case ha => walk_at "ev"))
  | ((with_reducible refine' pd_not ?ha); (case ha => walk_at "ev"))
  | ((with_reducible refine' pd_one ?ha); (case ha => walk_at "ev"))
  | ((with_reducible refine' pd_tup ?ha ?hz); (case ha => walk_at "args"); (case hz => exact Nat.le_of_ble_eq_true rfl))
  | ((with_reducible refine' (pdl_lst ?ha ?hz).pd); (case ha => walk_at "args"); (case hz => exact Nat.le_of_ble_eq_true rfl))
  | ((with_reducible refine' pd_isInt ?ha ?hn ?hg ?hm ?hg2 ?hm2 ?he); (case hg => rfl); (case hg2 => rfl); (case hm => exact (by assumption : Bl _).isinstance); (case hm2 => exact (by assumption : Bl _).int); (case he => rfl); (case ha => walk_at "ev"); (case hn => walk_at "nd"))
  | ((with_reducible refine' pd_isBool ?ha ?hn ?hg ?hm ?hg2 ?hm2 ?he); (case hg => rfl); (case hg2 => rfl); (case hm => exact (by assumption : Bl _).isinstance); (case hm2 => exact (by assumption : Bl _).bool); (case he => rfl); (case ha => walk_at "ev"); (case hn => walk_at "nd"))
  | ((with_reducible refine' pd_isTup ?ha ?hn ?hg ?hm ?hg2 ?hm2 ?he); (case hg => rfl); (case hg2 => rfl); (case hm => exact (by assumption : Bl _).isinstance); (case hm2 => exact (by assumption : Bl _).tuple); (case he => rfl); (case ha => walk_at "ev"); (case hn => walk_at "nd"))
  | ((with_reducible refine' (pdl_lrg ?ha ?hn ?hc ?hg ?hm ?hg2 ?hm2 ?na ?nb).pd); (case hc => rfl); (case hg => rfl); (case hg2 => rfl); (case hm => exact (by assumption : Bl _).list); (case hm2 => exact (by assumption : Bl _).range); (case na => rfl); (case nb => rfl); (case ha => walk_at "ev"); (case hn => walk_at "size"))
  | ((with_reducible refine' pd_tuprg ?ha ?hn ?hc ?hg ?hm ?hg2 ?hm2 ?na ?nb); (case hc => rfl); (case hg => rfl); (case hg2 => rfl); (case hm => exact (by assumption : Bl _).tuple); (case hm2 => exact (by assumption : Bl _).range); (case na => rfl); (case nb => rfl); (case ha => walk_at "ev"); (case hn => walk_at "size"))
  | ((with_reducible refine' pd_tuprgI ?ha ?h0 ?hn ?hc ?hg ?hm ?hg2 ?hm2 ?na ?nb); (case hc => rfl); (case hg => rfl); (case hg2 => rfl); (case hm => exact (by assumption : Bl _).tuple); (case hm2 => exact (by assumption : Bl _).range); (case na => rfl); (case nb => rfl); (case ha => walk_at "ev"); (case h0 => decide); (case hn => decide))
  | (walk_at "bi"; (case hg => rfl); (case hn => decide); (case hd => decide); (case he => rfl); (case hp => rfl); (case ha => walk_at "args"); (case ho => walk_at "cd"))
  | ((with_reducible refine' pd_call ?hf ?hr ?hg ?ha ?hR ?hd ?he ?hp); (case hf => assumption); (case hg => rfl); (case hd => decide); (case he => rfl); (case hp => rfl); (case hr => exact Room.mono (by assumption) (by decide)); (case ha => walk_at "args"); (case hR => walk_at "R"))
  | ((with_reducible refine' pd_meth (name := Str.ofString "index") (T := "list") (id := "list.index") PySem.F.plainAttrs_list PySem.F.slot_list_index PySem.F.type_list_index ?hm ?ho ?ha ?hb ?hf ?hl ?hs ?hp); (case hb => rfl); (case hf => rfl); (case hl => rfl); (case hs => rfl); (case hp => rfl); (case ho => walk_at "ev"); (case ha => walk_at "args"); (case hm => walk_at "index"))
  | ((with_reducible refine' (pdl_slTo ?ha ?h1 ?h2).pd); (case ha => walk_at "ev"); (case h1 => walk_at "ev"); (case h2 => walk_at "side"))
  | ((with_reducible refine' (pdl_slFrom ?ha ?h1 ?h2).pd); (case ha => walk_at "ev"); (case h1 => walk_at "ev"); (case h2 => walk_at "side"))
  | ((with_reducible refine' pd_slTTo ?ha ?h1 ?h2); (case ha => walk_at "ev"); (case h1 => walk_at "ev"); (case h2 => walk_at "side"))
  | ((with_reducible refine' pd_slTFrom ?ha ?h1 ?h2); (case ha => walk_at "ev"); (case h1 => walk_at "ev"); (case h2 => walk_at "side"))
  | ((with_reducible refine' pd_revT ?ha); (case ha => walk_at "ev"))
  | ((with_reducible refine' (pdl_revL ?ha).pd); (case ha => walk_at "ev"))
  | ((with_reducible refine' pd_slT ?ha ?h1 ?h2); (case ha => walk_at "ev"); (case h1 => walk_at "part"); (case h2 => walk_at "part"))
  | ((with_reducible refine' (pdl_sl ?ha ?h1 ?h2).pd); (case ha => walk_at "ev"); (case h1 => walk_at "part"); (case h2 => walk_at "part"))
  | ((with_reducible refine' pd_ix ?ha ?hb ?ho ?hs); (case hs => exact fun _ _ => rfl); (case ha => walk_at "ev"); (case hb => walk_at "ev"); (case ho => walk_at "ix"))
  )
local macro_rules | `(tactic| walk_at "part") => `(tactic| first
  | (with_reducible exact pod_none)
  | ((with_reducible refine' pod_some ?ha); (case ha => walk_at "ev")))
local macro_rules | `(tactic| walk_at "test") => `(tactic| first
  | ((with_reducible refine' ptd_cmp ?ha ?hb ?ho ?hm); (case hm => walk_at "mark"); (case ha => walk_at "ev"); (case hb => walk_at "ev"); (case ho => walk_at "od"))
  | ((with_reducible refine' ptd_chain ?ha ?hb ?hc ?ho ?ho2 ?hm); (case hm => rfl); (case ha => walk_at "ev"); (case hb => walk_at "ev"); (case hc => walk_at "ev"); (case ho => walk_at "od"); (case ho2 => walk_at "od"))
  | ((with_reducible refine' ptd_not ?ha); (case ha => walk_at "test"))
  | ((with_reducible refine' ptd_val ?ha ?he); (case he => intro _; rfl); (case ha => walk_at "ev")))
local macro_rules | `(tactic| walk_at "loc") => `(tactic| first | exact Or.inl rfl | exact Or.inr rfl)
local macro_rules | `(tactic| walk_at "set") => `(tactic| (walk_at "asg"; (case hN => assumption); (case hi => rfl); (case hx => walk_at "loc"); (case hs => rfl); (case hf => walk_at "loc"); (case he => walk_at "ev"); walk_at "tidy"))
local macro_rules | `(tactic| walk_at "ret") => `(tactic| ((with_reducible refine' rb_ret ?he ?hr); (case he => walk_at "ev")))
local macro_rules | `(tactic| walk_at "open") => `(tactic| ((show RB _ (_ :: _) _ _ _); walk_at "tidy"))
local macro_rules | `(tactic| walk_at "if") => `(tactic| ((with_reducible refine' rb_ifr ?hc ?h1 ?hr); (case hc => walk_at "test")))
local macro_rules | `(tactic| walk_at "ifset") => `(tactic| (walk_at "ifasg"; (case hN => assumption); (case hi => rfl); (case hx => walk_at "loc"); (case hs => rfl); (case hf => walk_at "loc"); (case h0 => rfl); (case hc => walk_at "test"); (case he => intro _; walk_at "ev"); walk_at "tidy"))
local macro_rules | `(tactic| walk_at "for1") => `(tactic| ((case hp => exact PassesOwn.never); (case hc => rfl); (case hN => assumption); (case hj => rfl); (case hx => walk_at "loc"); (case hf => walk_at "loc"); (case hsi => intro _; rfl)))
local macro_rules | `(tactic| walk_at "lc") => `(tactic| ((case hc => rfl); (case hN => assumption); (case ok => walk_at "blk"); (case hg => (intro s H C cl fp; first | exact pg_name (by assumption) rfl (Or.inl rfl) | exact pg_name (by assumption) rfl (Or.inr rfl))); (case hs => intro _; rfl)))
local macro_rules | `(tactic| walk_at "tup") => `(tactic| ((with_reducible refine' pd_tupL ?hl ?hg ?hm ?hs); (case hg => rfl); (case hm => exact (by assumption : Bl _).tuple); (case hs => rfl)))
local macro_rules | `(tactic| walk_at "len") => `(tactic| ((with_reducible refine' pd_lenL ?hl ?hg ?hm ?hs); (case hg => rfl); (case hm => exact (by assumption : Bl _).len); (case hs => rfl)))
local macro_rules | `(tactic| walk_at "shaped") => `(tactic| first | assumption | exact sh_row _ | exact sh_lst _ | rfl | exact sh_ints _)
local macro_rules | `(tactic| walk_at "nd") => `(tactic| first | exact shaped_nd (by assumption) | (intro _ q; cases q))
local macro_rules | `(tactic| walk_at "lc2") => `(tactic| ((case hc => rfl); (case hN => assumption); (case ok => kernel_rfl); (case hg => (intro s H C cl fp; first | exact pg_name (by assumption) rfl (Or.inl rfl) | exact pg_name (by assumption) rfl (Or.inr rfl))); (case hs => intro _; rfl)))
/-! bodies that change lists of their own -/
local macro_rules | `(tactic| walk_at "ropen") => `(tactic| ((show RO _ (_ :: _) _ _ _ _); walk_at "rtidy"))
local macro_rules | `(tactic| walk_at "lf") => `(tactic| first | rfl | assumption | exact lfA_ints _)
local macro_rules | `(tactic| walk_at "rset") => `(tactic| (walk_at "rasg"; (case hN => assumption); (case hi => rfl); (case hx => walk_at "loc"); (case hs => rfl); (case hf => walk_at "loc"); (case ho => decide); (case he => walk_at "ev"); (case hl => walk_at "lf"); walk_at "rtidy"))
local macro_rules | `(tactic| walk_at "rifset") => `(tactic| (walk_at "rifasg"; (case hN => assumption); (case hi => rfl); (case hx => walk_at "loc"); (case hs => rfl); (case hf => walk_at "loc"); (case h0 => rfl); (case hio => decide); (case hc => walk_at "test"); (case he => intro _; walk_at "ev"); walk_at "rtidy"))
local macro_rules | `(tactic| walk_at "rfor1") => `(tactic| ((case hp => exact PassesOwn.never); (case hc => rfl); (case hN => assumption); (case hj => rfl); (case hx => walk_at "loc"); (case hf => walk_at "loc"); (case hsi => intro _; rfl); (case hjo => decide)))
local macro_rules | `(tactic| walk_at "rif") => `(tactic| ((with_reducible refine' ro_ifr ?hc ?h1 ?hr); (case hc => walk_at "test")))
local macro_rules | `(tactic| walk_at "rret") => `(tactic| ((with_reducible refine' ro_ret ?he ?hl ?hr); (case he => walk_at "ev"); (case hl => walk_at "lf")))
def topS (i : Nat) : Stmt := PySem.Challenge.pw_twistyard_k41_whole_put_together.main.body.getD i (.Pass ⟨0, 0, 0, 0⟩)
section
variable {P : Program} {w : World} {K : PySem.W.Frag} {mg : Str → Option Value} {base : Heap}
def flatI (ns : List Int) : List Nat := ns.map fun n => (srt ns).idxOf n
def flatN (xs : List Nat) : List Nat := flatI (xs.map fun n : Nat => (n : Int))
abbrev s_flat : Stmt := topS 1
abbrev p_flat : List Str := ["numbers"]
abbrev n_flat : List Str := ["numbers", "order", "number"]
theorem sc_flat : FnScope n_flat p_flat (defScope s_flat) := ⟨rfl, rfl, rfl, by decide +kernel, rfl, by decide +kernel, by decide +kernel⟩
local macro_rules | `(tactic| walk_at "slot") => `(tactic| first

  | ((with_reducible refine' pd_var (x := Str.ofString "numbers") (i := 0) ?hN ?hΓ ?hv ?hd ?hcd); (case hN => rfl); (case hΓ => rfl); (case hv => walk_at "vis"); (case hd => decide); (case hcd => decide))
  | ((with_reducible refine' pd_var (x := Str.ofString "order") (i := 1) ?hN ?hΓ ?hv ?hd ?hcd); (case hN => rfl); (case hΓ => rfl); (case hv => walk_at "vis"); (case hd => decide); (case hcd => decide))
  | ((with_reducible refine' pd_var (x := Str.ofString "number") (i := 2) ?hN ?hΓ ?hv ?hd ?hcd); (case hN => rfl); (case hΓ => rfl); (case hv => walk_at "vis"); (case hd => decide); (case hcd => decide)))
local macro_rules | `(tactic| walk_at "asg") => `(tactic| first
  | (with_reducible refine' rb_asg (x := Str.ofString "numbers") (i := 0) ?he ?hr ?hN ?hi ?hx ?hs ?hf)
  | (with_reducible refine' rb_asg (x := Str.ofString "order") (i := 1) ?he ?hr ?hN ?hi ?hx ?hs ?hf)
  | (with_reducible refine' rb_asg (x := Str.ofString "number") (i := 2) ?he ?hr ?hN ?hi ?hx ?hs ?hf))
local macro_rules | `(tactic| walk_at "rasg") => `(tactic| first
  | (with_reducible refine' ro_asgS (x := Str.ofString "numbers") (i := 0) ?he ?hl ?hr ?ho ?hN ?hi ?hx ?hs ?hf)
  | (with_reducible refine' ro_asgS (x := Str.ofString "order") (i := 1) ?he ?hl ?hr ?ho ?hN ?hi ?hx ?hs ?hf)
  | (with_reducible refine' ro_asgS (x := Str.ofString "number") (i := 2) ?he ?hl ?hr ?ho ?hN ?hi ?hx ?hs ?hf))
local macro_rules | `(tactic| walk_at "rasgL") => `(tactic| first
  | (with_reducible refine' ro_asgL (x := Str.ofString "numbers") (i := 0) _ ?he ?hl ?hr ?hlt ?ho ?ho2 ?hio ?hN ?hi ?hx ?hs ?hf)
  | (with_reducible refine' ro_asgL (x := Str.ofString "order") (i := 1) _ ?he ?hl ?hr ?hlt ?ho ?ho2 ?hio ?hN ?hi ?hx ?hs ?hf)
  | (with_reducible refine' ro_asgL (x := Str.ofString "number") (i := 2) _ ?he ?hl ?hr ?hlt ?ho ?ho2 ?hio ?hN ?hi ?hx ?hs ?hf))
local macro_rules | `(tactic| walk_at "rifasg") => `(tactic| first
  | (with_reducible refine' ro_ifI (x := Str.ofString "numbers") (i := 0) ?hc ?he ?h0 ?hr ?hio ?hN ?hi ?hx ?hs ?hf)
  | (with_reducible refine' ro_ifI (x := Str.ofString "order") (i := 1) ?hc ?he ?h0 ?hr ?hio ?hN ?hi ?hx ?hs ?hf)
  | (with_reducible refine' ro_ifI (x := Str.ofString "number") (i := 2) ?hc ?he ?h0 ?hr ?hio ?hN ?hi ?hx ?hs ?hf))
local macro_rules | `(tactic| walk_at "rtidy") => `(tactic| (show RO _ _ _ [_, _, _] _ _))
local macro_rules | `(tactic| walk_at "blk") => `(tactic| ((show blkC n_flat (defScope s_flat) _ _ = true); decide +kernel))
local macro_rules | `(tactic| walk_at "tidy") => `(tactic| (show RB _ _ [_, _, _] _ _))
local macro_rules | `(tactic| walk_at "ifasg") => `(tactic| first
  | (with_reducible refine' rb_ifI (x := Str.ofString "numbers") (i := 0) ?hc ?he ?h0 ?hr ?hN ?hi ?hx ?hs ?hf)
  | (with_reducible refine' rb_ifI (x := Str.ofString "order") (i := 1) ?hc ?he ?h0 ?hr ?hN ?hi ?hx ?hs ?hf)
  | (with_reducible refine' rb_ifI (x := Str.ofString "number") (i := 2) ?hc ?he ?h0 ?hr ?hN ?hi ?hx ?hs ?hf))
def R_flat : Rel := fun ds r => ∃ ns : List Int, ds = [.tuple (ns.map PyData.int)] ∧ ns.length < 64 ∧ r = rowD (flatI ns)
theorem R_flat_i {xs : List Nat} (h : xs.length < 64) : R_flat [.tuple (xs.map nD)] (rowD (flatN xs)) := ⟨_, by rw [nD_ints], by rw [List.length_map]; exact h, rfl⟩
local macro_rules | `(tactic| walk_at "R") => `(tactic| exact R_flat_i (by walk_at "size"))
local macro_rules | `(tactic| walk_at "index") => `(tactic| exact md_index ((srt_perm _).symm.subset (by assumption)))
theorem ok_flat (D : Dn K mg "flat" s_flat p_flat) (B : Bl mg) : Df P w K mg base "flat" 1 p_flat R_flat := by
  refine D.ok sc_flat (fun ds r ⟨ns, e, _⟩ => by rw [e] <;> rfl) fun f cdv A outer s H E hr ds r h => ?_
  obtain ⟨ns, rfl, h64, rfl⟩ := h
  have nd := sc_flat.nd
  walk_at "open"
  walk_at "set"
  refine' rb_ret ?he ?hr
  case he =>
    walk_at "tup"
    case hl =>
      refine' pdl_lc (j := 2) PyData.int (fun n => nD ((srt ns).idxOf n)) ns ?hi ?hz ?hlf ?he ?hc ?hN ?ok ?hg ?hs
      walk_at "lc"
      case hi => exact pid_tup (by walk_at "ev")
      case hz => omega
      case hlf => intro a ha; rfl
      case he =>
        intro s H C cl fp a ha
        walk_at "ev"
  case hr =>
    show PyData.tuple _ = PyData.tuple ((ns.map fun n => (srt ns).idxOf n).map nD)
    rw [List.map_map] <;> rfl
def firstF (rest : List Nat) : Nat := match rest.getLast? with
  | none => 0
  | some x => x + 1
def stepP (n : Nat) (rest : List Nat) : List (List Nat) := (List.range' (firstF rest) (n - firstF rest)).map fun p => rest ++ [p]
def placesF (n : Nat) : Nat → List (List Nat)
  | 0 => [[]]
  | m + 1 => (placesF n m).flatMap (stepP n)
theorem stepP_len (n : Nat) (rest : List Nat) : (stepP n rest).length ≤ n := by
  unfold stepP
  rw [List.length_map, List.length_range']
  omega
theorem flatP_len (n : Nat) : ∀ xs : List (List Nat), (xs.flatMap (stepP n)).length ≤ n * xs.length
  | [] => by simp
  | x :: xs => by
    rw [List.flatMap_cons, List.length_append, List.length_cons, Nat.mul_add]
    have h1 := stepP_len n x
    have h2 := flatP_len n xs
    omega
theorem placesF_len {n : Nat} (h : n ≤ 10) : ∀ m, (placesF n m).length ≤ 10 ^ m
  | 0 => Nat.le_refl _
  | m + 1 => by
    rw [placesF, Nat.pow_succ, Nat.mul_comm]
    refine Nat.le_trans (flatP_len n _) (Nat.mul_le_mul h (placesF_len h m))
theorem stepP_mem {n : Nat} {rest ps : List Nat} (h : ps ∈ stepP n rest) : ∃ p, ps = rest ++ [p] ∧ firstF rest ≤ p ∧ p < n := by
  unfold stepP at h
  obtain ⟨p, hp, rfl⟩ := List.mem_map.mp h
  rw [List.mem_range'_1] at hp
  exact ⟨p, rfl, by omega, by omega⟩
theorem places_mem {n : Nat} : ∀ {m : Nat} {ps : List Nat}, ps ∈ placesF n m → ps.Pairwise (· < ·) ∧ ps.length = m ∧ ∀ p ∈ ps, p < n
  | 0, ps, h => by
    rw [placesF, List.mem_singleton] at h
    subst h
    exact ⟨.nil, rfl, fun p hp => nomatch hp⟩
  | m + 1, ps, h => by
    rw [placesF, List.mem_flatMap] at h
    obtain ⟨rest, hr, hps⟩ := h
    obtain ⟨h1, h2, h3⟩ := places_mem hr
    obtain ⟨p, rfl, hp1, hp2⟩ := stepP_mem hps
    refine ⟨List.pairwise_append.mpr ⟨h1, by simp, fun a ha b hb => ?_⟩, by rw [List.length_append, h2] <;> rfl, fun q hq => ?_⟩
    · rw [List.mem_singleton] at hb
      subst hb
      refine Nat.lt_of_lt_of_le ?_ hp1
      have hne : rest ≠ [] := List.ne_nil_of_mem ha
      unfold firstF
      rw [List.getLast?_eq_getLast hne]
      show a < rest.getLast hne + 1
      have e := List.dropLast_concat_getLast hne
      rw [← e] at ha h1
      rcases List.mem_append.mp ha with q | q
      · have := (List.pairwise_append.mp h1).2.2 a q _ (List.mem_singleton.mpr rfl)
        omega
      · rw [List.mem_singleton] at q
        omega
    · rcases List.mem_append.mp hq with q | q
      · exact h3 _ q
      · rw [List.mem_singleton] at q
        omega
theorem firstF_le {n m : Nat} {ps : List Nat} (h : ps ∈ placesF n m) : firstF ps ≤ n := by
  obtain ⟨_, _, h3⟩ := places_mem h
  unfold firstF
  split
  · exact Nat.zero_le _
  · rename_i x hx
    have := h3 x (List.mem_of_getLast? hx)
    omega
def optD : Option (List Nat) → PyData
  | none => .none
  | some ps => rowD ps
def pickF (row ps : List Nat) : List Nat := ps.map fun p => row.getD p 0
def standsF (row pat : List Nat) : Option (List Nat) := (placesF row.length pat.length).find? fun ps => decide (flatN (pickF row ps) = pat)
theorem find_at {α : Type} {f : α → Bool} : ∀ {xs : List α} {i : Nat} {a : α}, xs[i]? = some a → f a = true → (∀ b ∈ xs.take i, f b = false) → xs.find? f = some a
  | x :: xs, 0, a, h, ha, _ => by
    have e : x = a := by simpa using h
    subst e
    rw [List.find?_cons, ha]
  | x :: xs, i + 1, a, h, ha, hb => by
    have hx : f x = false := hb x (by simp)
    rw [List.find?_cons, hx]
    exact find_at (i := i) (by simpa using h) ha fun b hm => hb b (by simp [hm])
theorem row_at {row : List Nat} {p : Nat} (h : p < row.length) : atI (row.map nD) (p : Int) = some (nD (row.getD p 0)) := by
  refine atI_nat ?_
  rw [List.getElem?_map, List.getElem?_eq_getElem h, List.getD_eq_getElem?_getD, List.getElem?_eq_getElem h] <;> rfl
inductive Tr
  | one : Tr
  | node : Bool → Tr → Tr → Tr
def upC (a b : List Nat) : List Nat := a ++ b.map fun x => x + a.length
def dnC (a b : List Nat) : List Nat := (a.map fun x => x + b.length) ++ b
def rowT : Tr → List Nat
  | .one => [0]
  | .node u l r => if u = true then upC (rowT l) (rowT r) else dnC (rowT l) (rowT r)
def depT : Tr → Nat
  | .one => 1
  | .node _ l r => max (depT l) (depT r) + 1
def lvs : Tr → Nat
  | .one => 1
  | .node _ l r => lvs l + lvs r
theorem dep_lvs : ∀ t : Tr, depT t ≤ lvs t ∧ 1 ≤ lvs t ∧ 1 ≤ depT t
  | .one => ⟨Nat.le_refl _, Nat.le_refl _, Nat.le_refl _⟩
  | .node _ l r => by
    have h1 := dep_lvs l
    have h2 := dep_lvs r
    simp only [depT, lvs]
    omega
theorem rowT_len : ∀ t : Tr, (rowT t).length = lvs t
  | .one => rfl
  | .node u l r => by
    have h1 := rowT_len l
    have h2 := rowT_len r
    cases u with
    | true =>
      show (upC (rowT l) (rowT r)).length = lvs l + lvs r
      unfold upC
      rw [List.length_append, List.length_map, h1, h2]
    | false =>
      show (dnC (rowT l) (rowT r)).length = lvs l + lvs r
      unfold dnC
      rw [List.length_append, List.length_map, h1, h2]
def upB (row : List Nat) (k : Nat) : Bool := (row.take k).all fun x => (row.drop k).all fun y => decide (x < y)
def dnB (row : List Nat) (k : Nat) : Bool := (row.take k).all fun x => (row.drop k).all fun y => decide (y < x)
def cutF (row : List Nat) : Option Nat := (List.range' 1 (row.length - 1)).find? fun k => upB row k || dnB row k
def treeF : Nat → List Nat → Option Tr
  | 0, _ => none
  | f + 1, row => if row.length = 1 then some .one else match cutF row with
    | none => none
    | some k => match treeF f (flatN (row.take k)), treeF f (flatN (row.drop k)) with
      | some l, some r => some (.node (upB row k) l r)
      | _, _ => none
def barF (row : List Nat) : Option (List Nat) := match standsF row [1, 3, 0, 2] with
  | some ps => some ps
  | none => standsF row [2, 0, 3, 1]
theorem gd {xs : List Nat} {a : Nat} (h : a < xs.length) : xs.getD a 0 = xs[a] := by
  rw [List.getD_eq_getElem?_getD, List.getElem?_eq_getElem h] <;> rfl
theorem gd_mem {xs : List Nat} {a : Nat} (h : a < xs.length) : xs.getD a 0 ∈ xs := by
  rw [gd h]
  exact List.getElem_mem h
theorem gd_map {xs : List Nat} {f : Nat → Nat} {a : Nat} (h : a < xs.length) : (xs.map f).getD a 0 = f (xs.getD a 0) := by
  rw [gd h, gd (by rw [List.length_map]; exact h), List.getElem_map]
theorem gd_rev {xs : List Nat} {a : Nat} (h : a < xs.length) : xs.reverse.getD a 0 = xs.getD (xs.length - 1 - a) 0 := by
  rw [gd (by rw [List.length_reverse]; exact h), gd (by omega), List.getElem_reverse]
theorem mem_gd {xs : List Nat} {x : Nat} (h : x ∈ xs) : ∃ a, a < xs.length ∧ xs.getD a 0 = x := by
  obtain ⟨a, ha, e⟩ := List.getElem_of_mem h
  exact ⟨a, ha, by rw [gd ha, e]⟩
theorem gd_ext {xs ys : List Nat} (hl : xs.length = ys.length) (h : ∀ a, a < ys.length → xs.getD a 0 = ys.getD a 0) : xs = ys := by
  refine List.ext_getElem hl fun a h1 h2 => ?_
  have := h a h2
  rw [gd h1, gd h2] at this
  exact this
theorem gd_inj {xs : List Nat} (h : xs.Nodup) {a b : Nat} (ha : a < xs.length) (hb : b < xs.length) (e : xs.getD a 0 = xs.getD b 0) : a = b := by
  rw [gd ha, gd hb] at e
  exact (List.getElem_inj h).mp e
theorem up_gd {xs : List Nat} (h : xs.Pairwise (· < ·)) {a b : Nat} (ha : a < xs.length) (hb : b < xs.length) : xs.getD a 0 < xs.getD b 0 ↔ a < b := by
  have hp := List.pairwise_iff_getElem.mp h
  rw [gd ha, gd hb]
  refine ⟨fun q => ?_, fun q => hp a b ha hb q⟩
  rcases Nat.lt_trichotomy a b with r | r | r
  · exact r
  · subst r; omega
  · have := hp b a hb ha r
    omega
theorem up_of_gd {xs : List Nat} (h : ∀ a b, a < b → b < xs.length → xs.getD a 0 < xs.getD b 0) : xs.Pairwise (· < ·) := by
  refine List.pairwise_iff_getElem.mpr fun a b ha hb hab => ?_
  have := h a b hab hb
  rw [gd ha, gd hb] at this
  exact this
/-- a row of numbers -/
def IsR (xs : List Nat) : Prop := xs.Perm (List.range xs.length)
theorem IsR.nd {xs : List Nat} (h : IsR xs) : xs.Nodup := h.symm.nodup List.nodup_range
theorem IsR.lt {xs : List Nat} (h : IsR xs) {x : Nat} (hx : x ∈ xs) : x < xs.length := List.mem_range.mp (h.subset hx)
theorem IsR.mem {xs : List Nat} (h : IsR xs) {x : Nat} (hx : x < xs.length) : x ∈ xs := h.symm.subset (List.mem_range.mpr hx)
theorem nd_le : ∀ (n : Nat) (xs : List Nat), xs.Nodup → (∀ x ∈ xs, x < n) → xs.length ≤ n
  | 0, xs, _, h => by
    cases xs with
    | nil => exact Nat.le_refl _
    | cons x xs => exact absurd (h x (by simp)) (by omega)
  | n + 1, xs, hn, h => by
    have h1 := nd_le n (xs.erase n) (hn.erase n) fun x hx => by
      have h2 := h x (List.mem_of_mem_erase hx)
      have h3 : x ≠ n := fun e => by
        subst e
        exact absurd hx (List.Nodup.not_mem_erase hn)
      omega
    by_cases hm : n ∈ xs
    · rw [List.length_erase_of_mem hm] at h1
      omega
    · rw [List.erase_of_not_mem hm] at h1
      omega
theorem isR_of {xs : List Nat} (hn : xs.Nodup) (h : ∀ x ∈ xs, x < xs.length) : IsR xs := by
  refine (List.perm_ext_iff_of_nodup hn List.nodup_range).mpr fun k => ⟨fun hk => List.mem_range.mpr (h k hk), fun hk => ?_⟩
  have hk' := List.mem_range.mp hk
  by_cases hm : k ∈ xs
  · exact hm
  · have := nd_le xs.length (k :: xs) (List.nodup_cons.mpr ⟨hm, hn⟩) fun x hx => by
      rcases List.mem_cons.mp hx with e | e
      · subst e; exact hk'
      · exact h x e
    rw [List.length_cons] at this
    omega
theorem nd_map {xs : List Nat} {f : Nat → Nat} (h : xs.Nodup) (hf : ∀ x ∈ xs, ∀ y ∈ xs, f x = f y → x = y) : (xs.map f).Nodup := by
  rw [List.Nodup, List.pairwise_map]
  exact List.Pairwise.imp_of_mem (fun {a b} ha hb hab e => hab (hf a ha b hb e)) h
def lessI (ns : List Int) : List Nat := ns.map fun n => (ns.filter fun m => decide (m < n)).length
def lessN (xs : List Nat) : List Nat := lessI (xs.map fun n : Nat => (n : Int))
theorem idx_count : ∀ {s : List Int} {n : Int}, s.Pairwise (· < ·) → n ∈ s → s.idxOf n = (s.filter fun m => decide (m < n)).length
  | a :: t, n, h, hn => by
    obtain ⟨h1, h2⟩ := List.pairwise_cons.mp h
    by_cases e : a = n
    · subst e
      have e1 : (a :: t).filter (fun m => decide (m < a)) = [] := by
        refine List.filter_eq_nil_iff.mpr fun m hm => ?_
        rcases List.mem_cons.mp hm with e | e
        · subst e; simp
        · have := h1 m e
          simp only [decide_eq_true_eq]
          omega
      rw [e1, List.idxOf_cons_self] <;> rfl
    · have ht : n ∈ t := by
        rcases List.mem_cons.mp hn with q | q
        · exact absurd q.symm e
        · exact q
      have ha := h1 n ht
      have e2 : (a == n) = false := beq_eq_false_iff_ne.mpr e
      rw [List.idxOf_cons, e2, idx_count h2 ht, List.filter_cons, if_pos (by simpa using ha), List.length_cons] <;> rfl
theorem srt_strict {ns : List Int} (h : ns.Nodup) : (srt ns).Pairwise (· < ·) := by
  have h1 := srt_up ns
  have h2 : (srt ns).Nodup := (srt_perm ns).symm.nodup h
  exact (List.pairwise_and_iff.mpr ⟨h1, h2⟩).imp fun ⟨a, b⟩ => by omega
theorem flat_less {ns : List Int} (h : ns.Nodup) : flatI ns = lessI ns := by
  unfold flatI lessI
  refine List.map_congr_left fun n hn => ?_
  rw [idx_count (srt_strict h) ((srt_perm ns).symm.subset hn)]
  exact ((srt_perm ns).filter _).length_eq
theorem idx_range : ∀ {s : List Int}, s.Nodup → s.map (fun n => s.idxOf n) = List.range s.length := by
  intro s h
  refine List.ext_getElem (by simp) fun i h1 h2 => ?_
  rw [List.getElem_map, List.getElem_range]
  exact List.Nodup.idxOf_getElem h i (by simpa using h1)
theorem flat_perm {ns : List Int} (h : ns.Nodup) : (flatI ns).Perm (List.range ns.length) := by
  have h2 : (srt ns).Nodup := (srt_perm ns).symm.nodup h
  have e := idx_range h2
  rw [(srt_perm ns).length_eq] at e
  rw [← e]
  exact (srt_perm ns).symm.map _
theorem cast_nodup {xs : List Nat} (h : xs.Nodup) : (xs.map fun n : Nat => (n : Int)).Nodup := by
  rw [List.Nodup, List.pairwise_map]
  exact h.imp fun h e => h (by omega)
theorem flatN_less {xs : List Nat} (h : xs.Nodup) : flatN xs = lessN xs := flat_less (cast_nodup h)
theorem pick_nodup {row ps : List Nat} (h : row.Nodup) (h1 : ps.Pairwise (· < ·)) (h2 : ∀ p ∈ ps, p < row.length) : (pickF row ps).Nodup := by
  unfold pickF
  rw [List.Nodup, List.pairwise_map]
  refine List.Pairwise.imp_of_mem ?_ h1
  intro a b ha hb hab e
  rw [List.getD_eq_getElem?_getD, List.getD_eq_getElem?_getD, List.getElem?_eq_getElem (h2 a ha), List.getElem?_eq_getElem (h2 b hb)] at e
  have := (List.getElem_inj h).mp (show row[a]'(h2 a ha) = row[b]'(h2 b hb) from e)
  omega
theorem eqv_optD (o : Option (List Nat)) : PyData.eqv (optD o) (optD o) = true := by
  cases o with
  | none => rfl
  | some ps =>
    show PyData.eqv (.tuple (ps.map nD)) (.tuple (ps.map nD)) = true
    rw [PyData.eqv, eqvAll_row]
    exact decide_eq_true rfl
theorem sh_optD (o : Option (List Nat)) : SeqAt.shaped (optD o) = true := by
  cases o with
  | none => rfl
  | some ps => exact sh_row ps
theorem places_all {n : Nat} : ∀ (m : Nat) (ps : List Nat), ps.length = m → ps.Pairwise (· < ·) → (∀ p ∈ ps, p < n) → ps ∈ placesF n m
  | 0, ps, h, _, _ => by
    have e := List.eq_nil_of_length_eq_zero h
    subst e
    simp [placesF]
  | m + 1, ps, h, hu, hl => by
    have hne : ps ≠ [] := by intro e; subst e; simp at h
    have e := List.dropLast_concat_getLast hne
    obtain ⟨rest, hr⟩ : ∃ r, ps.dropLast = r := ⟨_, rfl⟩
    obtain ⟨p, hp⟩ : ∃ p, ps.getLast hne = p := ⟨_, rfl⟩
    rw [hr, hp] at e
    have hrl : rest.length = m := by rw [← hr, List.length_dropLast]; omega
    rw [← e] at hu hl ⊢
    have hu2 := List.pairwise_append.mp hu
    have ih := places_all m rest hrl hu2.1 fun q hq => hl q (List.mem_append_left _ hq)
    rw [placesF, List.mem_flatMap]
    refine ⟨rest, ih, ?_⟩
    unfold stepP
    have hpn := hl p (List.mem_append_right _ (List.mem_singleton.mpr rfl))
    have hfp : firstF rest ≤ p := by
      unfold firstF
      split
      · exact Nat.zero_le _
      · rename_i x hx
        exact hu2.2.2 x (List.mem_of_getLast? hx) p (List.mem_singleton.mpr rfl)
    exact List.mem_map.mpr ⟨p, List.mem_range'_1.mpr ⟨hfp, by omega⟩, rfl⟩
/-- how many are less -/
def cntN (xs : List Nat) : List Nat := xs.map fun x => (xs.filter fun y => decide (y < x)).length
theorem lessN_cnt (xs : List Nat) : lessN xs = cntN xs := by
  unfold lessN lessI cntN
  rw [List.map_map]
  refine List.map_congr_left fun x _ => ?_
  show (List.filter (fun m : Int => decide (m < (x : Int))) (xs.map fun n : Nat => (n : Int))).length = _
  rw [List.filter_map, List.length_map]
  refine congrArg List.length (List.filter_congr fun y _ => ?_)
  show decide ((y : Int) < (x : Int)) = decide (y < x)
  exact decide_eq_decide.mpr (by omega)
theorem flt_le {p q : Nat → Bool} : ∀ {xs : List Nat}, (∀ z ∈ xs, p z = true → q z = true) → (xs.filter p).length ≤ (xs.filter q).length
  | [], _ => Nat.le_refl _
  | x :: xs, h => by
    have ih := flt_le (xs := xs) fun z hz => h z (List.mem_cons_of_mem _ hz)
    rw [List.filter_cons, List.filter_cons]
    have hx := h x (by simp)
    cases hp : p x with
    | true =>
      rw [hx hp]
      simp only [if_true, List.length_cons]
      omega
    | false =>
      cases q x with
      | true => simp only [if_true, Bool.false_eq_true, if_false, List.length_cons]; omega
      | false => simpa using ih
theorem flt_lt {p q : Nat → Bool} : ∀ {xs : List Nat}, (∀ z ∈ xs, p z = true → q z = true) → (∃ z ∈ xs, q z = true ∧ p z = false) → (xs.filter p).length < (xs.filter q).length
  | [], _, h => by obtain ⟨z, hz, _⟩ := h; cases hz
  | x :: xs, h, h2 => by
    have hs : ∀ z ∈ xs, p z = true → q z = true := fun z hz => h z (List.mem_cons_of_mem _ hz)
    have ih0 := flt_le hs
    rw [List.filter_cons, List.filter_cons]
    have hx := h x (by simp)
    obtain ⟨z, hz, hq, hp⟩ := h2
    rcases List.mem_cons.mp hz with e | e
    · subst e
      rw [hq, hp]
      simp only [if_true, Bool.false_eq_true, if_false, List.length_cons]
      omega
    · have ih := flt_lt hs ⟨z, e, hq, hp⟩
      cases hpx : p x with
      | true =>
        rw [hx hpx]
        simp only [if_true, List.length_cons]
        omega
      | false =>
        cases q x with
        | true => simp only [if_true, Bool.false_eq_true, if_false, List.length_cons]; omega
        | false => simpa using ih
theorem cnt_gd {xs : List Nat} {a : Nat} (h : a < xs.length) : (cntN xs).getD a 0 = (xs.filter fun y => decide (y < xs.getD a 0)).length := by
  unfold cntN
  exact gd_map h
theorem cnt_len (xs : List Nat) : (cntN xs).length = xs.length := List.length_map _
theorem cnt_mono {xs : List Nat} {a b : Nat} (ha : a < xs.length) (hb : b < xs.length) : (cntN xs).getD a 0 < (cntN xs).getD b 0 ↔ xs.getD a 0 < xs.getD b 0 := by
  rw [cnt_gd ha, cnt_gd hb]
  refine ⟨fun q => ?_, fun q => ?_⟩
  · refine Nat.lt_of_not_le fun r => ?_
    have : (xs.filter fun y => decide (y < xs.getD b 0)).length ≤ (xs.filter fun y => decide (y < xs.getD a 0)).length := flt_le fun z _ hz => by
      have := of_decide_eq_true hz
      exact decide_eq_true (by omega)
    omega
  · refine flt_lt (fun z _ hz => ?_) ⟨xs.getD a 0, gd_mem ha, decide_eq_true q, decide_eq_false (by omega)⟩
    have := of_decide_eq_true hz
    exact decide_eq_true (by omega)
theorem flt_range (x : Nat) : ∀ n, ((List.range n).filter fun y => decide (y < x)).length = min n x
  | 0 => by simp
  | n + 1 => by
    rw [List.range_succ, List.filter_append, List.length_append, flt_range x n, List.filter_cons, List.filter_nil]
    by_cases h : n < x
    · rw [if_pos (decide_eq_true h)]
      show min n x + 1 = _
      omega
    · rw [if_neg (by simpa using h)]
      show min n x + 0 = _
      omega
theorem cnt_row {xs : List Nat} (h : IsR xs) : cntN xs = xs := by
  unfold cntN
  have e : xs.map (fun x => (xs.filter fun y => decide (y < x)).length) = xs.map id := List.map_congr_left fun x hx => by
    rw [(h.filter fun y => decide (y < x)).length_eq, flt_range]
    have := h.lt hx
    show min xs.length x = x
    omega
  rw [e, List.map_id]
/-- ordered alike -/
def Iso (xs ys : List Nat) : Prop := xs.length = ys.length ∧ ∀ a b, a < ys.length → b < ys.length → (xs.getD a 0 < xs.getD b 0 ↔ ys.getD a 0 < ys.getD b 0)
theorem flt_ix {p : Nat → Bool} (xs : List Nat) : (xs.filter p).length = ((List.range xs.length).filter fun i => p (xs.getD i 0)).length := by
  have e : xs = (List.range xs.length).map fun i => xs.getD i 0 := by
    refine List.ext_getElem (by simp) fun i h1 h2 => ?_
    rw [List.getElem_map, List.getElem_range, gd h1]
  have e2 : xs.filter p = ((List.range xs.length).map fun i => xs.getD i 0).filter p := congrArg (List.filter p) e
  rw [e2, List.filter_map, List.length_map]
  rfl
theorem cnt_iso {xs ys : List Nat} (h : Iso xs ys) : cntN xs = cntN ys := by
  refine gd_ext (by rw [cnt_len, cnt_len, h.1]) fun a ha => ?_
  rw [cnt_len] at ha
  rw [cnt_gd (by rw [h.1]; exact ha), cnt_gd ha, flt_ix xs, flt_ix ys, h.1]
  refine congrArg List.length (List.filter_congr fun i hi => ?_)
  exact decide_eq_decide.mpr (h.2 i a (List.mem_range.mp hi) ha)
theorem flatN_iso {xs pat : List Nat} (hx : xs.Nodup) (hp : IsR pat) : flatN xs = pat ↔ Iso xs pat := by
  rw [flatN_less hx, lessN_cnt]
  refine ⟨fun e => ?_, fun h => (cnt_iso h).trans (cnt_row hp)⟩
  have hl : xs.length = pat.length := by rw [← e, cnt_len]
  refine ⟨hl, fun a b ha hb => ?_⟩
  have := cnt_mono (xs := xs) (a := a) (b := b) (by omega) (by omega)
  rw [e] at this
  exact this.symm
/-- a pattern stands at places -/
structure Occ (row pat ps : List Nat) : Prop where
  up : ps.Pairwise (· < ·)
  lt : ∀ p ∈ ps, p < row.length
  len : ps.length = pat.length
  iso : ∀ a b, a < pat.length → b < pat.length → (row.getD (ps.getD a 0) 0 < row.getD (ps.getD b 0) 0 ↔ pat.getD a 0 < pat.getD b 0)
theorem pick_gd {row ps : List Nat} {a : Nat} (h : a < ps.length) : (pickF row ps).getD a 0 = row.getD (ps.getD a 0) 0 := gd_map h
theorem pick_len (row ps : List Nat) : (pickF row ps).length = ps.length := List.length_map _
theorem occ_iff {row pat ps : List Nat} (hr : row.Nodup) (hp : IsR pat) (hm : ps ∈ placesF row.length pat.length) : flatN (pickF row ps) = pat ↔ Occ row pat ps := by
  obtain ⟨h1, h2, h3⟩ := places_mem hm
  rw [flatN_iso (pick_nodup hr h1 h3) hp]
  refine ⟨fun ⟨a, b⟩ => ⟨h1, h3, h2, fun i j hi hj => ?_⟩, fun o => ⟨by rw [pick_len, h2], fun i j hi hj => ?_⟩⟩
  · have := b i j hi hj
    rw [pick_gd (by omega), pick_gd (by omega)] at this
    exact this
  · rw [pick_gd (by omega), pick_gd (by omega)]
    exact o.iso i j hi hj
theorem stands_none {row pat : List Nat} (hr : row.Nodup) (hp : IsR pat) : standsF row pat = none ↔ ∀ ps, ¬ Occ row pat ps := by
  unfold standsF
  rw [List.find?_eq_none]
  refine ⟨fun h ps o => ?_, fun h ps hm q => h ps ((occ_iff hr hp hm).mp (of_decide_eq_true q))⟩
  have hm := places_all pat.length ps o.len o.up o.lt
  exact h ps hm (decide_eq_true ((occ_iff hr hp hm).mpr o))
theorem stands_some {row pat ps : List Nat} (hr : row.Nodup) (hp : IsR pat) (h : standsF row pat = some ps) : Occ row pat ps ∧ flatN (pickF row ps) = pat := by
  have h' : (placesF row.length pat.length).find? (fun ps => decide (flatN (pickF row ps) = pat)) = some ps := h
  have h1 := List.mem_of_find?_eq_some h'
  have h3 : (fun ps => decide (flatN (pickF row ps) = pat)) ps = true := List.find?_some (p := fun ps => decide (flatN (pickF row ps) = pat)) h'
  have h2 : flatN (pickF row ps) = pat := of_decide_eq_true h3
  exact ⟨(occ_iff hr hp h1).mp h2, h2⟩
/-! a pattern stands in a row: numbers of it, in its order, are ordered like the pattern -/
theorem pick_sub : ∀ (row ps : List Nat), ps.Pairwise (· < ·) → (∀ p ∈ ps, p < row.length) → (pickF row ps).Sublist row
  | [], ps, _, h => by
    cases ps with
    | nil => exact .slnil
    | cons p ps => exact absurd (h p (by simp)) (by simp)
  | x :: r, ps, hu, hl => by
    have key : ∀ qs : List Nat, qs.Pairwise (· < ·) → (∀ q ∈ qs, 0 < q ∧ q < r.length + 1) → (pickF (x :: r) qs).Sublist r := fun qs h1 h2 => by
      have e : pickF (x :: r) qs = pickF r (qs.map fun q => q - 1) := by
        unfold pickF
        rw [List.map_map]
        refine List.map_congr_left fun q hq => ?_
        have := (h2 q hq).1
        obtain ⟨k, rfl⟩ : ∃ k, q = k + 1 := ⟨q - 1, by omega⟩
        rfl
      rw [e]
      refine pick_sub r _ ?_ fun p hp => ?_
      · rw [List.pairwise_map]
        refine List.Pairwise.imp_of_mem (fun {a b} ha hb hab => ?_) h1
        have := (h2 a ha).1
        omega
      · obtain ⟨q, hq, rfl⟩ := List.mem_map.mp hp
        have := h2 q hq
        omega
    cases ps with
    | nil => exact List.nil_sublist _
    | cons p qs =>
      have hu2 := List.pairwise_cons.mp hu
      by_cases h0 : p = 0
      · subst h0
        refine List.Sublist.cons_cons x (key qs hu2.2 fun q hq => ?_)
        have h1 := hu2.1 q hq
        have h2 := hl q (List.mem_cons_of_mem _ hq)
        rw [List.length_cons] at h2
        exact ⟨h1, h2⟩
      · refine List.Sublist.cons x (key (p :: qs) hu fun q hq => ?_)
        have h2 := hl q hq
        rw [List.length_cons] at h2
        refine ⟨?_, h2⟩
        rcases List.mem_cons.mp hq with e | e
        · omega
        · have := hu2.1 q e
          omega
theorem sub_pick {xs row : List Nat} (h : xs.Sublist row) : ∃ ps : List Nat, ps.Pairwise (· < ·) ∧ (∀ p ∈ ps, p < row.length) ∧ pickF row ps = xs := by
  have sh : ∀ {x : Nat} {r ps : List Nat}, ps.Pairwise (· < ·) → (∀ p ∈ ps, p < r.length) → (ps.map fun p => p + 1).Pairwise (· < ·) ∧ (∀ p ∈ ps.map fun p => p + 1, 0 < p ∧ p < (x :: r).length) ∧ pickF (x :: r) (ps.map fun p => p + 1) = pickF r ps := by
    intro x r ps h1 h2
    refine ⟨?_, fun p hp => ?_, ?_⟩
    · rw [List.pairwise_map]
      exact h1.imp fun h => by omega
    · obtain ⟨q, hq, rfl⟩ := List.mem_map.mp hp
      have := h2 q hq
      rw [List.length_cons]
      omega
    · unfold pickF
      rw [List.map_map]
      exact List.map_congr_left fun q _ => rfl
  induction h with
  | slnil => exact ⟨[], .nil, (fun p hp => nomatch hp), rfl⟩
  | cons x h ih =>
    obtain ⟨ps, h1, h2, h3⟩ := ih
    obtain ⟨a, b, c⟩ := sh (x := x) h1 h2
    exact ⟨_, a, fun p hp => (b p hp).2, c.trans h3⟩
  | cons_cons x h ih =>
    obtain ⟨ps, h1, h2, h3⟩ := ih
    obtain ⟨a, b, c⟩ := sh (x := x) h1 h2
    refine ⟨0 :: ps.map fun p => p + 1, List.pairwise_cons.mpr ⟨fun p hp => (b p hp).1, a⟩, fun p hp => ?_, ?_⟩
    · rcases List.mem_cons.mp hp with e | e
      · subst e
        simp
      · exact (b p e).2
    · show x :: pickF _ _ = _
      rw [c, h3]
theorem occ_sub {row pat : List Nat} : (∃ ps, Occ row pat ps) ↔ ∃ xs : List Nat, xs.Sublist row ∧ Iso xs pat := by
  refine ⟨fun ⟨ps, o⟩ => ⟨pickF row ps, pick_sub _ _ o.up o.lt, by rw [pick_len, o.len], fun a b ha hb => ?_⟩, fun ⟨xs, hs, hi⟩ => ?_⟩
  · have hl := o.len
    rw [pick_gd (by omega), pick_gd (by omega)]
    exact o.iso a b ha hb
  · obtain ⟨ps, h1, h2, h3⟩ := sub_pick hs
    subst h3
    have hl : ps.length = pat.length := by rw [← pick_len row ps, hi.1]
    refine ⟨ps, h1, h2, hl, fun a b ha hb => ?_⟩
    have := hi.2 a b ha hb
    rw [pick_gd (by omega), pick_gd (by omega)] at this
    exact this
theorem stands_sub {row pat : List Nat} (hr : row.Nodup) (hp : IsR pat) : standsF row pat = none ↔ ∀ xs : List Nat, xs.Sublist row → ¬ Iso xs pat := by
  rw [stands_none hr hp]
  refine ⟨fun h xs hs hi => ?_, fun h ps o => ?_⟩
  · obtain ⟨ps, o⟩ := occ_sub.mpr ⟨xs, hs, hi⟩
    exact h ps o
  · obtain ⟨xs, hs, hi⟩ := occ_sub.mp ⟨ps, o⟩
    exact h xs hs hi
def Av (row pat : List Nat) : Prop := ∀ xs : List Nat, xs.Sublist row → ¬ Iso xs pat
theorem av_occ {row pat : List Nat} : Av row pat ↔ ∀ ps, ¬ Occ row pat ps := by
  refine ⟨fun h ps o => ?_, fun h xs hs hi => ?_⟩
  · obtain ⟨xs, hs, hi⟩ := occ_sub.mp ⟨ps, o⟩
    exact h xs hs hi
  · obtain ⟨ps, o⟩ := occ_sub.mpr ⟨xs, hs, hi⟩
    exact h ps o
theorem iso_symm {xs ys : List Nat} (h : Iso xs ys) : Iso ys xs := ⟨h.1.symm, fun a b ha hb => (h.2 a b (by rw [← h.1]; exact ha) (by rw [← h.1]; exact hb)).symm⟩
theorem av_iso {xs ys pat : List Nat} (h : Iso xs ys) (a : Av xs pat) : Av ys pat := by
  rw [av_occ] at a ⊢
  intro ps o
  refine a ps ⟨o.up, fun p hp => by rw [h.1]; exact o.lt p hp, o.len, fun i j hi hj => ?_⟩
  have hl := o.len
  have h1 := o.lt _ (gd_mem (xs := ps) (a := i) (by omega))
  have h2 := o.lt _ (gd_mem (xs := ps) (a := j) (by omega))
  exact (h.2 _ _ h1 h2).trans (o.iso i j hi hj)
theorem av_sub {xs ys pat : List Nat} (h : xs.Sublist ys) (a : Av ys pat) : Av xs pat := fun zs hz => a zs (hz.trans h)
theorem flat_iso {xs : List Nat} (h : xs.Nodup) : Iso (flatN xs) xs := by
  rw [flatN_less h, lessN_cnt]
  exact ⟨cnt_len xs, fun a b ha hb => cnt_mono ha hb⟩
theorem map_iso (xs : List Nat) (c : Nat) : Iso (xs.map fun x => x + c) xs := ⟨List.length_map _, fun a b ha hb => by
  rw [gd_map ha, gd_map hb]
  omega⟩
theorem flat_len {xs : List Nat} (h : xs.Nodup) : (flatN xs).length = xs.length := (flat_iso h).1
theorem flat_row {xs : List Nat} (h : xs.Nodup) : IsR (flatN xs) := by
  have h2 := flat_perm (cast_nodup h)
  unfold IsR
  rw [flat_len h]
  rw [List.length_map] at h2
  exact h2
theorem flat_of {xs ys : List Nat} (hx : xs.Nodup) (hy : IsR ys) (h : Iso xs ys) : flatN xs = ys := (flatN_iso hx hy).mpr h
theorem len4 : ∀ {xs : List Nat}, xs.length = 4 → ∃ a b c d, xs = [a, b, c, d]
  | [], h => absurd h (by decide)
  | [_], h => absurd h (by simp)
  | [_, _], h => absurd h (by simp)
  | [_, _, _], h => absurd h (by simp)
  | [a, b, c, d], _ => ⟨a, b, c, d, rfl⟩
  | _ :: _ :: _ :: _ :: _ :: _, h => absurd h (by simp)
theorem iso_b1 {xs : List Nat} : Iso xs [1, 3, 0, 2] ↔ ∃ a b c d, xs = [a, b, c, d] ∧ c < a ∧ a < d ∧ d < b := by
  refine ⟨fun ⟨hl, h⟩ => ?_, fun ⟨a, b, c, d, e, h1, h2, h3⟩ => ?_⟩
  · obtain ⟨a, b, c, d, rfl⟩ := len4 (show xs.length = 4 from hl)
    exact ⟨a, b, c, d, rfl, (h 2 0 (by decide) (by decide)).mpr (by decide), (h 0 3 (by decide) (by decide)).mpr (by decide), (h 3 1 (by decide) (by decide)).mpr (by decide)⟩
  · subst e
    refine ⟨rfl, fun i j hi hj => ?_⟩
    have hi' : i < 4 := hi
    have hj' : j < 4 := hj
    have i4 : i = 0 ∨ i = 1 ∨ i = 2 ∨ i = 3 := by omega
    have j4 : j = 0 ∨ j = 1 ∨ j = 2 ∨ j = 3 := by omega
    rcases i4 with e | e | e | e <;> rcases j4 with e2 | e2 | e2 | e2 <;> subst e <;> subst e2 <;> simp <;> omega
theorem iso_b2 {xs : List Nat} : Iso xs [2, 0, 3, 1] ↔ ∃ a b c d, xs = [a, b, c, d] ∧ b < d ∧ d < a ∧ a < c := by
  refine ⟨fun ⟨hl, h⟩ => ?_, fun ⟨a, b, c, d, e, h1, h2, h3⟩ => ?_⟩
  · obtain ⟨a, b, c, d, rfl⟩ := len4 (show xs.length = 4 from hl)
    exact ⟨a, b, c, d, rfl, (h 1 3 (by decide) (by decide)).mpr (by decide), (h 3 0 (by decide) (by decide)).mpr (by decide), (h 0 2 (by decide) (by decide)).mpr (by decide)⟩
  · subst e
    refine ⟨rfl, fun i j hi hj => ?_⟩
    have hi' : i < 4 := hi
    have hj' : j < 4 := hj
    have i4 : i = 0 ∨ i = 1 ∨ i = 2 ∨ i = 3 := by omega
    have j4 : j = 0 ∨ j = 1 ∨ j = 2 ∨ j = 3 := by omega
    rcases i4 with e | e | e | e <;> rcases j4 with e2 | e2 | e2 | e2 <;> subst e <;> subst e2 <;> simp <;> omega
theorem isR_b1 : IsR [1, 3, 0, 2] := by unfold IsR; decide
theorem isR_b2 : IsR [2, 0, 3, 1] := by unfold IsR; decide
/-- no bar of a tree -/
def NoB (row : List Nat) : Prop := Av row [1, 3, 0, 2] ∧ Av row [2, 0, 3, 1]
theorem nob_iso {xs ys : List Nat} (h : Iso xs ys) (a : NoB xs) : NoB ys := ⟨av_iso h a.1, av_iso h a.2⟩
theorem nob_sub {xs ys : List Nat} (h : xs.Sublist ys) (a : NoB ys) : NoB xs := ⟨av_sub h a.1, av_sub h a.2⟩
theorem nob_flat {xs : List Nat} (h : xs.Nodup) (a : NoB xs) : NoB (flatN xs) := nob_iso (iso_symm (flat_iso h)) a
theorem four_split {a b c d : Nat} {l1 l2 : List Nat} (h : [a, b, c, d] = l1 ++ l2) : (l1 = [] ∧ l2 = [a, b, c, d]) ∨ (l1 = [a] ∧ l2 = [b, c, d]) ∨ (l1 = [a, b] ∧ l2 = [c, d]) ∨ (l1 = [a, b, c] ∧ l2 = [d]) ∨ (l1 = [a, b, c, d] ∧ l2 = []) := by
  match l1, h with
  | [], h => exact .inl ⟨rfl, h.symm⟩
  | [x], h =>
    injection h with h1 h2
    exact .inr (.inl ⟨by rw [h1], h2.symm⟩)
  | [x, y], h =>
    injection h with h1 h2
    injection h2 with h2 h3
    exact .inr (.inr (.inl ⟨by rw [h1, h2], h3.symm⟩))
  | [x, y, z], h =>
    injection h with h1 h2
    injection h2 with h2 h3
    injection h3 with h3 h4
    exact .inr (.inr (.inr (.inl ⟨by rw [h1, h2, h3], h4.symm⟩)))
  | x :: y :: z :: w :: l, h =>
    injection h with h1 h2
    injection h2 with h2 h3
    injection h3 with h3 h4
    injection h4 with h4 h5
    have h6 := List.append_eq_nil_iff.mp h5.symm
    exact .inr (.inr (.inr (.inr ⟨by rw [h1, h2, h3, h4, h6.1], h6.2⟩)))
theorem nob_cat {a b : List Nat} (ha : NoB a) (hb : NoB b) (h : (∀ x ∈ a, ∀ y ∈ b, x < y) ∨ (∀ x ∈ a, ∀ y ∈ b, y < x)) : NoB (a ++ b) := by
  refine ⟨fun xs hs hi => ?_, fun xs hs hi => ?_⟩
  · obtain ⟨p, q, r, s, rfl, h1, h2, h3⟩ := iso_b1.mp hi
    obtain ⟨l1, l2, e, s1, s2⟩ := List.sublist_append_iff.mp hs
    rcases four_split e with ⟨rfl, rfl⟩ | ⟨rfl, rfl⟩ | ⟨rfl, rfl⟩ | ⟨rfl, rfl⟩ | ⟨rfl, rfl⟩
    · exact hb.1 _ s2 hi
    · have m1 : p ∈ a := s1.subset (by simp)
      have m2 : q ∈ b := s2.subset (by simp)
      have m3 : r ∈ b := s2.subset (by simp)
      rcases h with h | h
      · have := h p m1 r m3; omega
      · have := h p m1 q m2; omega
    · have m1 : p ∈ a := s1.subset (by simp)
      have m2 : r ∈ b := s2.subset (by simp)
      have m3 : s ∈ b := s2.subset (by simp)
      rcases h with h | h
      · have := h p m1 r m2; omega
      · have := h p m1 s m3; omega
    · have m1 : q ∈ a := s1.subset (by simp)
      have m2 : s ∈ b := s2.subset (by simp)
      have m3 : r ∈ a := s1.subset (by simp)
      rcases h with h | h
      · have := h q m1 s m2; omega
      · have := h r m3 s m2; omega
    · exact ha.1 _ s1 hi
  · obtain ⟨p, q, r, s, rfl, h1, h2, h3⟩ := iso_b2.mp hi
    obtain ⟨l1, l2, e, s1, s2⟩ := List.sublist_append_iff.mp hs
    rcases four_split e with ⟨rfl, rfl⟩ | ⟨rfl, rfl⟩ | ⟨rfl, rfl⟩ | ⟨rfl, rfl⟩ | ⟨rfl, rfl⟩
    · exact hb.2 _ s2 hi
    · have m1 : p ∈ a := s1.subset (by simp)
      have m2 : q ∈ b := s2.subset (by simp)
      have m3 : r ∈ b := s2.subset (by simp)
      rcases h with h | h
      · have := h p m1 q m2; omega
      · have := h p m1 r m3; omega
    · have m1 : p ∈ a := s1.subset (by simp)
      have m2 : q ∈ a := s1.subset (by simp)
      have m3 : s ∈ b := s2.subset (by simp)
      rcases h with h | h
      · have := h p m1 s m3; omega
      · have := h q m2 s m3; omega
    · have m1 : r ∈ a := s1.subset (by simp)
      have m2 : s ∈ b := s2.subset (by simp)
      have m3 : q ∈ a := s1.subset (by simp)
      rcases h with h | h
      · have := h r m1 s m2; omega
      · have := h q m3 s m2; omega
    · exact ha.2 _ s1 hi
/-- cut in two -/
def Dec (xs : List Nat) : Prop := ∃ p q, xs = p ++ q ∧ p ≠ [] ∧ q ≠ [] ∧ ((∀ x ∈ p, ∀ y ∈ q, x < y) ∨ (∀ x ∈ p, ∀ y ∈ q, y < x))
theorem split_at (P : Nat → Bool) (xs : List Nat) : (∃ u l, [u, l].Sublist xs ∧ P u = false ∧ P l = true) ∨ ∃ p q, xs = p ++ q ∧ (∀ x ∈ p, P x = true) ∧ ∀ x ∈ q, P x = false := by
  induction xs with
  | nil => exact .inr ⟨[], [], rfl, (fun x hx => nomatch hx), fun x hx => nomatch hx⟩
  | cons a xs ih =>
    cases ha : P a with
    | true =>
      rcases ih with ⟨u, l, hs, h1, h2⟩ | ⟨p, q, e, h1, h2⟩
      · exact .inl ⟨u, l, hs.cons a, h1, h2⟩
      · refine .inr ⟨a :: p, q, by rw [e] <;> rfl, fun x hx => ?_, h2⟩
        rcases List.mem_cons.mp hx with e | e
        · rw [e]; exact ha
        · exact h1 x e
    | false =>
      by_cases hl : ∃ l ∈ xs, P l = true
      · obtain ⟨l, hl1, hl2⟩ := hl
        exact .inl ⟨a, l, List.Sublist.cons_cons a (List.singleton_sublist.mpr hl1), ha, hl2⟩
      · refine .inr ⟨[], a :: xs, rfl, (fun x hx => nomatch hx), fun x hx => ?_⟩
        rcases List.mem_cons.mp hx with e | e
        · rw [e]; exact ha
        · cases hx2 : P x with
          | false => rfl
          | true => exact absurd ⟨x, e, hx2⟩ hl
theorem dec_of : ∀ (n : Nat) (xs : List Nat), xs.length = n + 2 → xs.Nodup → NoB xs → Dec xs
  | 0, xs, hl, hn, _ => by
    match xs, hl with
    | [a, b], _ =>
      refine ⟨[a], [b], rfl, by simp, by simp, ?_⟩
      have hne : a ≠ b := by
        intro e
        subst e
        simp at hn
      rcases Nat.lt_or_ge a b with q | q
      · exact .inl fun x hx y hy => by
          rw [List.mem_singleton] at hx hy
          omega
      · exact .inr fun x hx y hy => by
          rw [List.mem_singleton] at hx hy
          omega
  | n + 1, xs, hl, hn, hb => by
    have hne : xs ≠ [] := by intro e; subst e; simp at hl
    have e0 := List.dropLast_concat_getLast hne
    obtain ⟨ys, hys⟩ : ∃ ys, xs.dropLast = ys := ⟨_, rfl⟩
    obtain ⟨v, hv⟩ : ∃ v, xs.getLast hne = v := ⟨_, rfl⟩
    have hyl : ys.length = n + 2 := by rw [← hys, List.length_dropLast]; omega
    rw [hys, hv] at e0
    subst e0
    have hn2 := List.nodup_append.mp hn
    have hvn : ∀ x ∈ ys, x ≠ v := fun x hx => hn2.2.2 x hx v (List.mem_singleton.mpr rfl)
    obtain ⟨A, B, rfl, hA, hB, hAB⟩ := dec_of n ys hyl hn2.1 (nob_sub (List.sublist_append_left _ _) hb)
    obtain ⟨b, hbm⟩ := List.exists_mem_of_ne_nil B hB
    have hAne : ∀ x ∈ A, x ≠ v := fun x hx => hvn x (List.mem_append_left _ hx)
    have hsub : ∀ {u l : Nat}, [u, l].Sublist A → [u, l, b, v].Sublist (A ++ B ++ [v]) := fun {u l} hs => by
      have h1 : ([u, l] ++ [b]).Sublist (A ++ B) := hs.append (List.singleton_sublist.mpr hbm)
      exact h1.append (List.Sublist.refl [v])
    rcases hAB with hAB | hAB
    · rcases split_at (fun x => decide (x < v)) A with ⟨u, l, hs, h1, h2⟩ | ⟨p, q, e, h1, h2⟩
      · exfalso
        have hu : u ∈ A := hs.subset (by simp)
        have h1' := of_decide_eq_false h1
        have h2' := of_decide_eq_true h2
        have h3 := hAB u hu b hbm
        have h4 := hAne u hu
        exact hb.2 _ (hsub hs) (iso_b2.mpr ⟨u, l, b, v, rfl, h2', by omega, h3⟩)
      · subst e
        have h1' : ∀ x ∈ p, x < v := fun x hx => of_decide_eq_true (h1 x hx)
        have h2' : ∀ x ∈ q, v < x := fun x hx => by
          have := of_decide_eq_false (h2 x hx)
          have := hAne x (List.mem_append_right _ hx)
          omega
        by_cases hp : p = []
        · subst hp
          refine ⟨[] ++ q ++ B, [v], rfl, by simpa using fun _ => hB, by simp, .inr fun x hx y hy => ?_⟩
          rw [List.mem_singleton] at hy
          subst hy
          rcases List.mem_append.mp hx with z | z
          · exact h2' x (by simpa using z)
          · have hq : q ≠ [] := by simpa using hA
            obtain ⟨a, ha⟩ := List.exists_mem_of_ne_nil q hq
            have h5 := h2' a ha
            have h6 := hAB a (by simpa using ha) x z
            omega
        · refine ⟨p, q ++ B ++ [v], by simp, hp, by simp, .inl fun x hx y hy => ?_⟩
          have h5 := h1' x hx
          rcases List.mem_append.mp hy with z | z
          · rcases List.mem_append.mp z with z | z
            · have := h2' y z
              omega
            · exact hAB x (List.mem_append_left _ hx) y z
          · rw [List.mem_singleton] at z
            omega
    · rcases split_at (fun x => decide (v < x)) A with ⟨u, l, hs, h1, h2⟩ | ⟨p, q, e, h1, h2⟩
      · exfalso
        have hu : u ∈ A := hs.subset (by simp)
        have h1' := of_decide_eq_false h1
        have h2' := of_decide_eq_true h2
        have h3 := hAB u hu b hbm
        have h4 := hAne u hu
        exact hb.1 _ (hsub hs) (iso_b1.mpr ⟨u, l, b, v, rfl, h3, by omega, h2'⟩)
      · subst e
        have h1' : ∀ x ∈ p, v < x := fun x hx => of_decide_eq_true (h1 x hx)
        have h2' : ∀ x ∈ q, x < v := fun x hx => by
          have := of_decide_eq_false (h2 x hx)
          have := hAne x (List.mem_append_right _ hx)
          omega
        by_cases hp : p = []
        · subst hp
          refine ⟨[] ++ q ++ B, [v], rfl, by simpa using fun _ => hB, by simp, .inl fun x hx y hy => ?_⟩
          rw [List.mem_singleton] at hy
          subst hy
          rcases List.mem_append.mp hx with z | z
          · exact h2' x (by simpa using z)
          · have hq : q ≠ [] := by simpa using hA
            obtain ⟨a, ha⟩ := List.exists_mem_of_ne_nil q hq
            have h5 := h2' a ha
            have h6 := hAB a (by simpa using ha) x z
            omega
        · refine ⟨p, q ++ B ++ [v], by simp, hp, by simp, .inr fun x hx y hy => ?_⟩
          have h5 := h1' x hx
          rcases List.mem_append.mp hy with z | z
          · rcases List.mem_append.mp z with z | z
            · have := h2' y z
              omega
            · exact hAB x (List.mem_append_left _ hx) y z
          · rw [List.mem_singleton] at z
            omega
theorem upB_iff {row : List Nat} {k : Nat} : upB row k = true ↔ ∀ x ∈ row.take k, ∀ y ∈ row.drop k, x < y := by
  unfold upB
  simp only [List.all_eq_true, decide_eq_true_eq]
theorem dnB_iff {row : List Nat} {k : Nat} : dnB row k = true ↔ ∀ x ∈ row.take k, ∀ y ∈ row.drop k, y < x := by
  unfold dnB
  simp only [List.all_eq_true, decide_eq_true_eq]
theorem cut_some {row : List Nat} (h : Dec row) : ∃ k, cutF row = some k := by
  obtain ⟨p, q, rfl, hp, hq, hpq⟩ := h
  have h1 := List.length_pos_iff.mpr hp
  have h2 := List.length_pos_iff.mpr hq
  unfold cutF
  cases e : (List.range' 1 ((p ++ q).length - 1)).find? (fun k => upB (p ++ q) k || dnB (p ++ q) k) with
  | some k => exact ⟨k, rfl⟩
  | none =>
    have h3 := List.find?_eq_none.mp e p.length (by rw [List.mem_range'_1, List.length_append]; omega)
    exfalso
    refine h3 ?_
    rw [Bool.or_eq_true, upB_iff, dnB_iff, List.take_left' rfl, List.drop_left' rfl]
    exact hpq
theorem cut_ok {row : List Nat} {k : Nat} (h : cutF row = some k) : 1 ≤ k ∧ k < row.length ∧ (upB row k = true ∨ dnB row k = true) := by
  have h1 := List.mem_of_find?_eq_some h
  have h2 : (upB row k || dnB row k) = true := List.find?_some (p := fun k => upB row k || dnB row k) h
  rw [List.mem_range'_1] at h1
  rw [Bool.or_eq_true] at h2
  exact ⟨h1.1, by omega, h2⟩
theorem tree_some : ∀ (f : Nat) (row : List Nat), 1 ≤ row.length → row.length ≤ f → row.Nodup → NoB row → ∃ t, treeF f row = some t
  | 0, row, h1, h2, _, _ => by omega
  | f + 1, row, h1, h2, hn, hb => by
    rw [treeF]
    by_cases hl : row.length = 1
    · rw [if_pos hl]
      exact ⟨_, rfl⟩
    · rw [if_neg hl]
      obtain ⟨k, hk⟩ := cut_some (dec_of (row.length - 2) row (by omega) hn hb)
      obtain ⟨k1, k2, _⟩ := cut_ok hk
      have n1 : (row.take k).Nodup := hn.sublist (List.take_sublist k row)
      have n2 : (row.drop k).Nodup := hn.sublist (List.drop_sublist k row)
      have l1 : (flatN (row.take k)).length = k := by rw [flat_len n1, List.length_take]; omega
      have l2 : (flatN (row.drop k)).length = row.length - k := by rw [flat_len n2, List.length_drop]
      obtain ⟨l, hl'⟩ := tree_some f (flatN (row.take k)) (by omega) (by omega) (flat_row n1).nd (nob_flat n1 (nob_sub (List.take_sublist k row) hb))
      obtain ⟨r, hr'⟩ := tree_some f (flatN (row.drop k)) (by omega) (by omega) (flat_row n2).nd (nob_flat n2 (nob_sub (List.drop_sublist k row) hb))
      rw [hk]
      show ∃ t, (match treeF f (flatN (row.take k)), treeF f (flatN (row.drop k)) with
        | some l, some r => some (Tr.node (upB row k) l r)
        | _, _ => none) = some t
      rw [hl', hr']
      exact ⟨_, rfl⟩
theorem nob_one : NoB [0] := by
  refine ⟨fun xs hs hi => ?_, fun xs hs hi => ?_⟩
  · have h1 := hs.length_le
    have h2 : xs.length = 4 := hi.1
    rw [h2] at h1
    simp at h1
  · have h1 := hs.length_le
    have h2 : xs.length = 4 := hi.1
    rw [h2] at h1
    simp at h1
theorem isR_up2 {a b : List Nat} (ha : IsR a) (hb : IsR b) : IsR (upC a b) ∧ (∀ x ∈ a, ∀ y ∈ b.map fun x => x + a.length, x < y) := by
  have hlt : ∀ x ∈ a, ∀ y ∈ b.map fun x => x + a.length, x < y := fun x hx y hy => by
    obtain ⟨z, hz, rfl⟩ := List.mem_map.mp hy
    have := ha.lt hx
    omega
  refine ⟨isR_of ?_ fun x hx => ?_, hlt⟩
  · unfold upC
    refine List.nodup_append.mpr ⟨ha.nd, nd_map hb.nd fun x _ y _ e => by omega, fun x hx y hy e => ?_⟩
    have := hlt x hx y hy
    omega
  · unfold upC at hx ⊢
    rw [List.length_append, List.length_map]
    rcases List.mem_append.mp hx with z | z
    · have := ha.lt z
      omega
    · obtain ⟨w, hw, rfl⟩ := List.mem_map.mp z
      have := hb.lt hw
      omega
theorem isR_dn2 {a b : List Nat} (ha : IsR a) (hb : IsR b) : IsR (dnC a b) ∧ (∀ x ∈ a.map fun x => x + b.length, ∀ y ∈ b, y < x) := by
  have hlt : ∀ x ∈ a.map fun x => x + b.length, ∀ y ∈ b, y < x := fun x hx y hy => by
    obtain ⟨z, hz, rfl⟩ := List.mem_map.mp hx
    have := hb.lt hy
    omega
  refine ⟨isR_of ?_ fun x hx => ?_, hlt⟩
  · unfold dnC
    refine List.nodup_append.mpr ⟨nd_map ha.nd fun x _ y _ e => by omega, hb.nd, fun x hx y hy e => ?_⟩
    have := hlt x hx y hy
    omega
  · unfold dnC at hx ⊢
    rw [List.length_append, List.length_map]
    rcases List.mem_append.mp hx with z | z
    · obtain ⟨w, hw, rfl⟩ := List.mem_map.mp z
      have := ha.lt hw
      omega
    · have := hb.lt z
      omega
theorem nob_up {a b : List Nat} (ha : IsR a) (hb : IsR b) : NoB (upC a b) ↔ NoB a ∧ NoB b := by
  have h := (isR_up2 ha hb).2
  refine ⟨fun n => ⟨nob_sub (List.sublist_append_left _ _) n, nob_iso (map_iso b a.length) (nob_sub (List.sublist_append_right _ _) n)⟩, fun ⟨n1, n2⟩ => nob_cat n1 (nob_iso (iso_symm (map_iso b a.length)) n2) (.inl h)⟩
theorem nob_dn {a b : List Nat} (ha : IsR a) (hb : IsR b) : NoB (dnC a b) ↔ NoB a ∧ NoB b := by
  have h := (isR_dn2 ha hb).2
  refine ⟨fun n => ⟨nob_iso (map_iso a b.length) (nob_sub (List.sublist_append_left _ _) n), nob_sub (List.sublist_append_right _ _) n⟩, fun ⟨n1, n2⟩ => nob_cat (nob_iso (iso_symm (map_iso a b.length)) n1) n2 (.inr h)⟩
theorem tree_good : ∀ t : Tr, IsR (rowT t) ∧ NoB (rowT t)
  | .one => ⟨by unfold IsR; decide, nob_one⟩
  | .node u l r => by
    obtain ⟨a1, a2⟩ := tree_good l
    obtain ⟨b1, b2⟩ := tree_good r
    cases u with
    | true => exact ⟨(isR_up2 a1 b1).1, (nob_up a1 b1).mpr ⟨a2, b2⟩⟩
    | false => exact ⟨(isR_dn2 a1 b1).1, (nob_dn a1 b1).mpr ⟨a2, b2⟩⟩
/-- a row that is cut, put together -/
theorem put_up {row : List Nat} {k : Nat} (hr : IsR row) (hk : k < row.length) (h : upB row k = true) : upC (flatN (row.take k)) (flatN (row.drop k)) = row := by
  have hu := upB_iff.mp h
  have n1 : (row.take k).Nodup := hr.nd.sublist (List.take_sublist k row)
  have n2 : (row.drop k).Nodup := hr.nd.sublist (List.drop_sublist k row)
  have i1 := isR_up2 (flat_row n1) (flat_row n2)
  have l1 : (flatN (row.take k)).length = k := by rw [flat_len n1, List.length_take]; omega
  have f1 := flat_iso n1
  have f2 := flat_iso n2
  have e : Iso (upC (flatN (row.take k)) (flatN (row.drop k))) row := by
    have hrow := List.take_append_drop k row
    have hlen : (upC (flatN (row.take k)) (flatN (row.drop k))).length = row.length := by
      unfold upC
      rw [List.length_append, List.length_map, l1, flat_len n2, List.length_drop]
      omega
    have g1 : ∀ a, a < k → (upC (flatN (row.take k)) (flatN (row.drop k))).getD a 0 = (flatN (row.take k)).getD a 0 := fun a ha => by
      unfold upC
      rw [List.getD_eq_getElem?_getD, List.getElem?_append_left (by omega), ← List.getD_eq_getElem?_getD]
    have g2 : ∀ a, k ≤ a → a < row.length → (upC (flatN (row.take k)) (flatN (row.drop k))).getD a 0 = (flatN (row.drop k)).getD (a - k) 0 + k := fun a ha hal => by
      unfold upC
      rw [List.getD_eq_getElem?_getD, List.getElem?_append_right (by omega), ← List.getD_eq_getElem?_getD, l1]
      exact gd_map (by rw [flat_len n2, List.length_drop]; omega)
    have r1 : ∀ a, a < k → row.getD a 0 = (row.take k).getD a 0 := fun a ha => by
      rw [List.getD_eq_getElem?_getD, List.getD_eq_getElem?_getD, List.getElem?_take_of_lt ha]
    have r2 : ∀ a, k ≤ a → row.getD a 0 = (row.drop k).getD (a - k) 0 := fun a ha => by
      rw [List.getD_eq_getElem?_getD, List.getD_eq_getElem?_getD, List.getElem?_drop]
      congr 2
      omega
    have t1 : (row.take k).length = k := by rw [List.length_take]; omega
    have t2 : (row.drop k).length = row.length - k := List.length_drop
    refine ⟨hlen, fun a b ha hb => ?_⟩
    rcases Nat.lt_or_ge a k with qa | qa <;> rcases Nat.lt_or_ge b k with qb | qb
    · rw [g1 a qa, g1 b qb, r1 a qa, r1 b qb]
      exact f1.2 a b (by omega) (by omega)
    · rw [g1 a qa, g2 b qb hb, r1 a qa, r2 b qb]
      have h1 := (flat_row n1).lt (gd_mem (xs := flatN (row.take k)) (a := a) (by omega))
      have h2 := hu _ (gd_mem (xs := row.take k) (a := a) (by omega)) _ (gd_mem (xs := row.drop k) (a := b - k) (by omega))
      exact ⟨fun _ => h2, fun _ => by omega⟩
    · rw [g2 a qa ha, g1 b qb, r2 a qa, r1 b qb]
      have h1 := (flat_row n1).lt (gd_mem (xs := flatN (row.take k)) (a := b) (by omega))
      have h2 := hu _ (gd_mem (xs := row.take k) (a := b) (by omega)) _ (gd_mem (xs := row.drop k) (a := a - k) (by omega))
      exact ⟨fun _ => by omega, fun _ => by omega⟩
    · rw [g2 a qa ha, g2 b qb hb, r2 a qa, r2 b qb]
      have := f2.2 (a - k) (b - k) (by omega) (by omega)
      omega
  exact (flat_of i1.1.nd i1.1 ⟨rfl, fun _ _ _ _ => Iff.rfl⟩).symm.trans (flat_of i1.1.nd hr e)
theorem put_dn {row : List Nat} {k : Nat} (hr : IsR row) (hk : k < row.length) (h : dnB row k = true) : dnC (flatN (row.take k)) (flatN (row.drop k)) = row := by
  have hu := dnB_iff.mp h
  have n1 : (row.take k).Nodup := hr.nd.sublist (List.take_sublist k row)
  have n2 : (row.drop k).Nodup := hr.nd.sublist (List.drop_sublist k row)
  have i1 := isR_dn2 (flat_row n1) (flat_row n2)
  have l1 : (flatN (row.take k)).length = k := by rw [flat_len n1, List.length_take]; omega
  have f1 := flat_iso n1
  have f2 := flat_iso n2
  have e : Iso (dnC (flatN (row.take k)) (flatN (row.drop k))) row := by
    have hlen : (dnC (flatN (row.take k)) (flatN (row.drop k))).length = row.length := by
      unfold dnC
      rw [List.length_append, List.length_map, l1, flat_len n2, List.length_drop]
      omega
    have l2 : (flatN (row.drop k)).length = row.length - k := by rw [flat_len n2, List.length_drop]
    have g1 : ∀ a, a < k → (dnC (flatN (row.take k)) (flatN (row.drop k))).getD a 0 = (flatN (row.take k)).getD a 0 + (row.length - k) := fun a ha => by
      unfold dnC
      rw [List.getD_eq_getElem?_getD, List.getElem?_append_left (by rw [List.length_map]; omega), ← List.getD_eq_getElem?_getD, l2]
      exact gd_map (by omega)
    have g2 : ∀ a, k ≤ a → a < row.length → (dnC (flatN (row.take k)) (flatN (row.drop k))).getD a 0 = (flatN (row.drop k)).getD (a - k) 0 := fun a ha hal => by
      unfold dnC
      rw [List.getD_eq_getElem?_getD, List.getElem?_append_right (by rw [List.length_map]; omega), ← List.getD_eq_getElem?_getD, List.length_map, l1]
    have r1 : ∀ a, a < k → row.getD a 0 = (row.take k).getD a 0 := fun a ha => by
      rw [List.getD_eq_getElem?_getD, List.getD_eq_getElem?_getD, List.getElem?_take_of_lt ha]
    have r2 : ∀ a, k ≤ a → row.getD a 0 = (row.drop k).getD (a - k) 0 := fun a ha => by
      rw [List.getD_eq_getElem?_getD, List.getD_eq_getElem?_getD, List.getElem?_drop]
      congr 2
      omega
    have t1 : (row.take k).length = k := by rw [List.length_take]; omega
    have t2 : (row.drop k).length = row.length - k := List.length_drop
    refine ⟨hlen, fun a b ha hb => ?_⟩
    rcases Nat.lt_or_ge a k with qa | qa <;> rcases Nat.lt_or_ge b k with qb | qb
    · rw [g1 a qa, g1 b qb, r1 a qa, r1 b qb]
      have := f1.2 a b (by omega) (by omega)
      omega
    · rw [g1 a qa, g2 b qb hb, r1 a qa, r2 b qb]
      have h1 := (flat_row n2).lt (gd_mem (xs := flatN (row.drop k)) (a := b - k) (by omega))
      have h2 := hu _ (gd_mem (xs := row.take k) (a := a) (by omega)) _ (gd_mem (xs := row.drop k) (a := b - k) (by omega))
      exact ⟨fun _ => by omega, fun _ => by omega⟩
    · rw [g2 a qa ha, g1 b qb, r2 a qa, r1 b qb]
      have h1 := (flat_row n2).lt (gd_mem (xs := flatN (row.drop k)) (a := a - k) (by omega))
      have h2 := hu _ (gd_mem (xs := row.take k) (a := b) (by omega)) _ (gd_mem (xs := row.drop k) (a := a - k) (by omega))
      exact ⟨fun _ => h2, fun _ => by omega⟩
    · rw [g2 a qa ha, g2 b qb hb, r2 a qa, r2 b qb]
      exact f2.2 (a - k) (b - k) (by omega) (by omega)
  exact (flat_of i1.1.nd i1.1 ⟨rfl, fun _ _ _ _ => Iff.rfl⟩).symm.trans (flat_of i1.1.nd hr e)
theorem tree_row : ∀ (f : Nat) (row : List Nat) (t : Tr), IsR row → treeF f row = some t → rowT t = row
  | 0, row, t, _, h => by cases h
  | f + 1, row, t, hr, h => by
    rw [treeF] at h
    by_cases hl : row.length = 1
    · rw [if_pos hl] at h
      injection h with h
      subst h
      match row, hl with
      | [a], _ =>
        have := hr.lt (x := a) (by simp)
        have : a = 0 := by simpa using this
        subst this
        rfl
    · rw [if_neg hl] at h
      cases hk : cutF row with
      | none => rw [hk] at h; cases h
      | some k =>
        rw [hk] at h
        obtain ⟨k1, k2, k3⟩ := cut_ok hk
        have n1 : (row.take k).Nodup := hr.nd.sublist (List.take_sublist k row)
        have n2 : (row.drop k).Nodup := hr.nd.sublist (List.drop_sublist k row)
        have h' : (match treeF f (flatN (row.take k)), treeF f (flatN (row.drop k)) with
          | some l, some r => some (Tr.node (upB row k) l r)
          | _, _ => none) = some t := h
        cases e1 : treeF f (flatN (row.take k)) with
        | none => rw [e1] at h'; cases h'
        | some l =>
          cases e2 : treeF f (flatN (row.drop k)) with
          | none => rw [e1, e2] at h'; cases h'
          | some r =>
            rw [e1, e2] at h'
            injection h' with h'
            subst h'
            have r1 := tree_row f _ l (flat_row n1) e1
            have r2 := tree_row f _ r (flat_row n2) e2
            rw [rowT, r1, r2]
            by_cases hu : upB row k = true
            · rw [if_pos hu]
              exact put_up hr k2 hu
            · rw [if_neg hu]
              exact put_dn hr k2 (k3.resolve_left hu)
theorem bar_none {row : List Nat} (hn : row.Nodup) : barF row = none ↔ NoB row := by
  have h1 := stands_sub hn isR_b1
  have h2 := stands_sub hn isR_b2
  unfold barF NoB
  cases e : standsF row [1, 3, 0, 2] with
  | none =>
    show standsF row [2, 0, 3, 1] = none ↔ _
    exact h2.trans ⟨fun h => ⟨h1.mp e, h⟩, fun h => h.2⟩
  | some ps =>
    refine ⟨(fun h => by cases h), fun h => ?_⟩
    have := h1.mpr h.1
    rw [e] at this
    cases this
theorem tree_iff {row : List Nat} {f : Nat} (hr : IsR row) (hl : 1 ≤ row.length) (hf : row.length ≤ f) : (∃ t, treeF f row = some t) ↔ NoB row := by
  refine ⟨fun ⟨t, h⟩ => ?_, fun h => tree_some _ row hl hf hr.nd h⟩
  have := (tree_good t).2
  rw [tree_row _ row t hr h] at this
  exact this
abbrev s_up : Stmt := topS 3
abbrev p_up : List Str := ["one", "other"]
abbrev n_up : List Str := ["one", "other", "number"]
theorem sc_up : FnScope n_up p_up (defScope s_up) := ⟨rfl, rfl, rfl, by decide +kernel, rfl, by decide +kernel, by decide +kernel⟩
local macro_rules | `(tactic| walk_at "slot") => `(tactic| first

  | ((with_reducible refine' pd_var (x := Str.ofString "one") (i := 0) ?hN ?hΓ ?hv ?hd ?hcd); (case hN => rfl); (case hΓ => rfl); (case hv => walk_at "vis"); (case hd => decide); (case hcd => decide))
  | ((with_reducible refine' pd_var (x := Str.ofString "other") (i := 1) ?hN ?hΓ ?hv ?hd ?hcd); (case hN => rfl); (case hΓ => rfl); (case hv => walk_at "vis"); (case hd => decide); (case hcd => decide))
  | ((with_reducible refine' pd_var (x := Str.ofString "number") (i := 2) ?hN ?hΓ ?hv ?hd ?hcd); (case hN => rfl); (case hΓ => rfl); (case hv => walk_at "vis"); (case hd => decide); (case hcd => decide)))
local macro_rules | `(tactic| walk_at "asg") => `(tactic| first
  | (with_reducible refine' rb_asg (x := Str.ofString "one") (i := 0) ?he ?hr ?hN ?hi ?hx ?hs ?hf)
  | (with_reducible refine' rb_asg (x := Str.ofString "other") (i := 1) ?he ?hr ?hN ?hi ?hx ?hs ?hf)
  | (with_reducible refine' rb_asg (x := Str.ofString "number") (i := 2) ?he ?hr ?hN ?hi ?hx ?hs ?hf))
local macro_rules | `(tactic| walk_at "rasg") => `(tactic| first
  | (with_reducible refine' ro_asgS (x := Str.ofString "one") (i := 0) ?he ?hl ?hr ?ho ?hN ?hi ?hx ?hs ?hf)
  | (with_reducible refine' ro_asgS (x := Str.ofString "other") (i := 1) ?he ?hl ?hr ?ho ?hN ?hi ?hx ?hs ?hf)
  | (with_reducible refine' ro_asgS (x := Str.ofString "number") (i := 2) ?he ?hl ?hr ?ho ?hN ?hi ?hx ?hs ?hf))
local macro_rules | `(tactic| walk_at "rasgL") => `(tactic| first
  | (with_reducible refine' ro_asgL (x := Str.ofString "one") (i := 0) _ ?he ?hl ?hr ?hlt ?ho ?ho2 ?hio ?hN ?hi ?hx ?hs ?hf)
  | (with_reducible refine' ro_asgL (x := Str.ofString "other") (i := 1) _ ?he ?hl ?hr ?hlt ?ho ?ho2 ?hio ?hN ?hi ?hx ?hs ?hf)
  | (with_reducible refine' ro_asgL (x := Str.ofString "number") (i := 2) _ ?he ?hl ?hr ?hlt ?ho ?ho2 ?hio ?hN ?hi ?hx ?hs ?hf))
local macro_rules | `(tactic| walk_at "rifasg") => `(tactic| first
  | (with_reducible refine' ro_ifI (x := Str.ofString "one") (i := 0) ?hc ?he ?h0 ?hr ?hio ?hN ?hi ?hx ?hs ?hf)
  | (with_reducible refine' ro_ifI (x := Str.ofString "other") (i := 1) ?hc ?he ?h0 ?hr ?hio ?hN ?hi ?hx ?hs ?hf)
  | (with_reducible refine' ro_ifI (x := Str.ofString "number") (i := 2) ?hc ?he ?h0 ?hr ?hio ?hN ?hi ?hx ?hs ?hf))
local macro_rules | `(tactic| walk_at "rtidy") => `(tactic| (show RO _ _ _ [_, _, _] _ _))
local macro_rules | `(tactic| walk_at "blk") => `(tactic| ((show blkC n_up (defScope s_up) _ _ = true); decide +kernel))
local macro_rules | `(tactic| walk_at "tidy") => `(tactic| (show RB _ _ [_, _, _] _ _))
local macro_rules | `(tactic| walk_at "ifasg") => `(tactic| first
  | (with_reducible refine' rb_ifI (x := Str.ofString "one") (i := 0) ?hc ?he ?h0 ?hr ?hN ?hi ?hx ?hs ?hf)
  | (with_reducible refine' rb_ifI (x := Str.ofString "other") (i := 1) ?hc ?he ?h0 ?hr ?hN ?hi ?hx ?hs ?hf)
  | (with_reducible refine' rb_ifI (x := Str.ofString "number") (i := 2) ?hc ?he ?h0 ?hr ?hN ?hi ?hx ?hs ?hf))
def R_up : Rel := fun ds r => ∃ a b : List Nat, ds = [rowD a, rowD b] ∧ a.length ≤ 1000 ∧ b.length ≤ 1000 ∧ r = rowD (upC a b)
theorem R_up_i {a b : List Nat} (h : a.length ≤ 1000) (h2 : b.length ≤ 1000) : R_up [.tuple (a.map nD), .tuple (b.map nD)] (rowD (upC a b)) := ⟨a, b, rfl, h, h2, rfl⟩
local macro_rules | `(tactic| walk_at "R") => `(tactic| exact R_up_i (by walk_at "size") (by walk_at "size"))
theorem addD (b : List Nat) (k : Nat) : b.map (fun x : Nat => PyData.int ((x : Int) + (k : Int))) = (b.map fun x => x + k).map nD := by
  rw [List.map_map]
  exact List.map_congr_left fun x _ => congrArg PyData.int (by show (x : Int) + (k : Int) = ((x + k : Nat) : Int); omega)
theorem ok_up (D : Dn K mg "up" s_up p_up) (B : Bl mg) : Df P w K mg base "up" 1 p_up R_up := by
  refine D.ok sc_up (fun ds r ⟨n, m, e, _⟩ => by rw [e] <;> rfl) fun f cdv A outer s H E hr ds r h => ?_
  obtain ⟨a, b, rfl, ha, hb, rfl⟩ := h
  have nd := sc_up.nd
  walk_at "open"
  refine' rb_ret (pd_bin (dx := rowD a) (dy := rowD (b.map fun x => x + a.length)) ?g1 ?g2 (od_catT ?g3)) ?g4
  case g1 => walk_at "ev"
  case g2 =>
    walk_at "tup"
    case hl =>
      rw [← addD]
      refine' pdl_lc (j := 2) nD (fun x : Nat => PyData.int ((x : Int) + (a.length : Int))) b ?hi ?hz ?hlf ?he ?hc ?hN ?ok ?hg ?hs
      walk_at "lc"
      case hi => exact pid_tup (by walk_at "ev")
      case hz => omega
      case hlf => intro x hx; rfl
      case he =>
        intro s H C cl fp x hx
        refine' PD.is ?h1 ?h2
        case h1 => walk_at "ev"
        case h2 => rw [List.length_map]
  case g3 => rw [List.length_map, List.length_map, List.length_map]; omega
  case g4 =>
    show PyData.tuple _ = PyData.tuple ((a ++ b.map fun x => x + a.length).map nD)
    rw [List.map_append]
abbrev s_down : Stmt := topS 4
abbrev p_down : List Str := ["one", "other"]
abbrev n_down : List Str := ["one", "other", "number"]
theorem sc_down : FnScope n_down p_down (defScope s_down) := ⟨rfl, rfl, rfl, by decide +kernel, rfl, by decide +kernel, by decide +kernel⟩
local macro_rules | `(tactic| walk_at "slot") => `(tactic| first

  | ((with_reducible refine' pd_var (x := Str.ofString "one") (i := 0) ?hN ?hΓ ?hv ?hd ?hcd); (case hN => rfl); (case hΓ => rfl); (case hv => walk_at "vis"); (case hd => decide); (case hcd => decide))
  | ((with_reducible refine' pd_var (x := Str.ofString "other") (i := 1) ?hN ?hΓ ?hv ?hd ?hcd); (case hN => rfl); (case hΓ => rfl); (case hv => walk_at "vis"); (case hd => decide); (case hcd => decide))
  | ((with_reducible refine' pd_var (x := Str.ofString "number") (i := 2) ?hN ?hΓ ?hv ?hd ?hcd); (case hN => rfl); (case hΓ => rfl); (case hv => walk_at "vis"); (case hd => decide); (case hcd => decide)))
local macro_rules | `(tactic| walk_at "asg") => `(tactic| first
  | (with_reducible refine' rb_asg (x := Str.ofString "one") (i := 0) ?he ?hr ?hN ?hi ?hx ?hs ?hf)
  | (with_reducible refine' rb_asg (x := Str.ofString "other") (i := 1) ?he ?hr ?hN ?hi ?hx ?hs ?hf)
  | (with_reducible refine' rb_asg (x := Str.ofString "number") (i := 2) ?he ?hr ?hN ?hi ?hx ?hs ?hf))
local macro_rules | `(tactic| walk_at "rasg") => `(tactic| first
  | (with_reducible refine' ro_asgS (x := Str.ofString "one") (i := 0) ?he ?hl ?hr ?ho ?hN ?hi ?hx ?hs ?hf)
  | (with_reducible refine' ro_asgS (x := Str.ofString "other") (i := 1) ?he ?hl ?hr ?ho ?hN ?hi ?hx ?hs ?hf)
  | (with_reducible refine' ro_asgS (x := Str.ofString "number") (i := 2) ?he ?hl ?hr ?ho ?hN ?hi ?hx ?hs ?hf))
local macro_rules | `(tactic| walk_at "rasgL") => `(tactic| first
  | (with_reducible refine' ro_asgL (x := Str.ofString "one") (i := 0) _ ?he ?hl ?hr ?hlt ?ho ?ho2 ?hio ?hN ?hi ?hx ?hs ?hf)
  | (with_reducible refine' ro_asgL (x := Str.ofString "other") (i := 1) _ ?he ?hl ?hr ?hlt ?ho ?ho2 ?hio ?hN ?hi ?hx ?hs ?hf)
  | (with_reducible refine' ro_asgL (x := Str.ofString "number") (i := 2) _ ?he ?hl ?hr ?hlt ?ho ?ho2 ?hio ?hN ?hi ?hx ?hs ?hf))
local macro_rules | `(tactic| walk_at "rifasg") => `(tactic| first
  | (with_reducible refine' ro_ifI (x := Str.ofString "one") (i := 0) ?hc ?he ?h0 ?hr ?hio ?hN ?hi ?hx ?hs ?hf)
  | (with_reducible refine' ro_ifI (x := Str.ofString "other") (i := 1) ?hc ?he ?h0 ?hr ?hio ?hN ?hi ?hx ?hs ?hf)
  | (with_reducible refine' ro_ifI (x := Str.ofString "number") (i := 2) ?hc ?he ?h0 ?hr ?hio ?hN ?hi ?hx ?hs ?hf))
local macro_rules | `(tactic| walk_at "rtidy") => `(tactic| (show RO _ _ _ [_, _, _] _ _))
local macro_rules | `(tactic| walk_at "blk") => `(tactic| ((show blkC n_down (defScope s_down) _ _ = true); decide +kernel))
local macro_rules | `(tactic| walk_at "tidy") => `(tactic| (show RB _ _ [_, _, _] _ _))
local macro_rules | `(tactic| walk_at "ifasg") => `(tactic| first
  | (with_reducible refine' rb_ifI (x := Str.ofString "one") (i := 0) ?hc ?he ?h0 ?hr ?hN ?hi ?hx ?hs ?hf)
  | (with_reducible refine' rb_ifI (x := Str.ofString "other") (i := 1) ?hc ?he ?h0 ?hr ?hN ?hi ?hx ?hs ?hf)
  | (with_reducible refine' rb_ifI (x := Str.ofString "number") (i := 2) ?hc ?he ?h0 ?hr ?hN ?hi ?hx ?hs ?hf))
def R_down : Rel := fun ds r => ∃ a b : List Nat, ds = [rowD a, rowD b] ∧ a.length ≤ 1000 ∧ b.length ≤ 1000 ∧ r = rowD (dnC a b)
theorem R_down_i {a b : List Nat} (h : a.length ≤ 1000) (h2 : b.length ≤ 1000) : R_down [.tuple (a.map nD), .tuple (b.map nD)] (rowD (dnC a b)) := ⟨a, b, rfl, h, h2, rfl⟩
local macro_rules | `(tactic| walk_at "R") => `(tactic| exact R_down_i (by walk_at "size") (by walk_at "size"))
theorem ok_down (D : Dn K mg "down" s_down p_down) (B : Bl mg) : Df P w K mg base "down" 1 p_down R_down := by
  refine D.ok sc_down (fun ds r ⟨n, m, e, _⟩ => by rw [e] <;> rfl) fun f cdv A outer s H E hr ds r h => ?_
  obtain ⟨a, b, rfl, ha, hb, rfl⟩ := h
  have nd := sc_down.nd
  walk_at "open"
  refine' rb_ret (pd_bin (dx := rowD (a.map fun x => x + b.length)) (dy := rowD b) ?g1 ?g2 (od_catT ?g3)) ?g4
  case g2 => walk_at "ev"
  case g1 =>
    walk_at "tup"
    case hl =>
      rw [← addD]
      refine' pdl_lc (j := 2) nD (fun x : Nat => PyData.int ((x : Int) + (b.length : Int))) a ?hi ?hz ?hlf ?he ?hc ?hN ?ok ?hg ?hs
      walk_at "lc"
      case hi => exact pid_tup (by walk_at "ev")
      case hz => omega
      case hlf => intro x hx; rfl
      case he =>
        intro s H C cl fp x hx
        refine' PD.is ?h1 ?h2
        case h1 => walk_at "ev"
        case h2 => rw [List.length_map]
  case g3 => rw [List.length_map, List.length_map, List.length_map]; omega
  case g4 =>
    show PyData.tuple _ = PyData.tuple (((a.map fun x => x + b.length) ++ b).map nD)
    rw [List.map_append]
theorem fold_max_ge : ∀ (xs : List Nat) (a : Nat), a ≤ xs.foldl max a ∧ ∀ x ∈ xs, x ≤ xs.foldl max a
  | [], a => ⟨Nat.le_refl _, fun x hx => nomatch hx⟩
  | y :: xs, a => by
    obtain ⟨h1, h2⟩ := fold_max_ge xs (max a y)
    rw [List.foldl_cons]
    refine ⟨by omega, fun x hx => ?_⟩
    rcases List.mem_cons.mp hx with e | e
    · subst e; omega
    · exact h2 x e
theorem fold_max_mem : ∀ (xs : List Nat) (a : Nat), xs.foldl max a = a ∨ xs.foldl max a ∈ xs
  | [], a => .inl rfl
  | y :: xs, a => by
    rw [List.foldl_cons]
    rcases fold_max_mem xs (max a y) with q | q
    · rw [q]
      rcases Nat.le_total a y with r | r
      · rw [Nat.max_eq_right r]
        exact .inr (by simp)
      · rw [Nat.max_eq_left r]
        exact .inl rfl
    · exact .inr (List.mem_cons_of_mem _ q)
theorem fold_min_le : ∀ (xs : List Nat) (a : Nat), xs.foldl min a ≤ a ∧ ∀ x ∈ xs, xs.foldl min a ≤ x
  | [], a => ⟨Nat.le_refl _, fun x hx => nomatch hx⟩
  | y :: xs, a => by
    obtain ⟨h1, h2⟩ := fold_min_le xs (min a y)
    rw [List.foldl_cons]
    refine ⟨by omega, fun x hx => ?_⟩
    rcases List.mem_cons.mp hx with e | e
    · subst e; omega
    · exact h2 x e
theorem fold_min_mem : ∀ (xs : List Nat) (a : Nat), xs.foldl min a = a ∨ xs.foldl min a ∈ xs
  | [], a => .inl rfl
  | y :: xs, a => by
    rw [List.foldl_cons]
    rcases fold_min_mem xs (min a y) with q | q
    · rw [q]
      rcases Nat.le_total a y with r | r
      · rw [Nat.min_eq_left r]
        exact .inl rfl
      · rw [Nat.min_eq_right r]
        exact .inr (by simp)
    · exact .inr (List.mem_cons_of_mem _ q)
theorem fold_cast : ∀ (xs : List Nat) (a : Nat), (xs.map fun n : Nat => (n : Int)).foldl max (a : Int) = ((xs.foldl max a : Nat) : Int)
  | [], a => rfl
  | x :: xs, a => by
    rw [List.map_cons, List.foldl_cons, List.foldl_cons, ← fold_cast xs]
    congr 1
    omega
theorem fold_castm : ∀ (xs : List Nat) (a : Nat), (xs.map fun n : Nat => (n : Int)).foldl min (a : Int) = ((xs.foldl min a : Nat) : Int)
  | [], a => rfl
  | x :: xs, a => by
    rw [List.map_cons, List.foldl_cons, List.foldl_cons, ← fold_castm xs]
    congr 1
    omega
theorem max_min_lt {x y : Nat} {xs ys : List Nat} : xs.foldl max x < ys.foldl min y ↔ ∀ a ∈ x :: xs, ∀ b ∈ y :: ys, a < b := by
  obtain ⟨h1, h2⟩ := fold_max_ge xs x
  obtain ⟨h3, h4⟩ := fold_min_le ys y
  refine ⟨fun h a ha b hb => ?_, fun h => ?_⟩
  · have q1 : a ≤ xs.foldl max x := by
      rcases List.mem_cons.mp ha with e | e
      · subst e; exact h1
      · exact h2 a e
    have q2 : ys.foldl min y ≤ b := by
      rcases List.mem_cons.mp hb with e | e
      · subst e; exact h3
      · exact h4 b e
    omega
  · refine h _ ?_ _ ?_
    · rcases fold_max_mem xs x with e | e
      · rw [e]; simp
      · exact List.mem_cons_of_mem _ e
    · rcases fold_min_mem ys y with e | e
      · rw [e]; simp
      · exact List.mem_cons_of_mem _ e
abbrev s_word_at : Stmt := topS 5
abbrev p_word_at : List Str := ["row", "at"]
abbrev n_word_at : List Str := ["row", "at"]
theorem sc_word_at : FnScope n_word_at p_word_at (defScope s_word_at) := ⟨rfl, rfl, rfl, by decide +kernel, rfl, by decide +kernel, by decide +kernel⟩
local macro_rules | `(tactic| walk_at "slot") => `(tactic| first

  | ((with_reducible refine' pd_var (x := Str.ofString "row") (i := 0) ?hN ?hΓ ?hv ?hd ?hcd); (case hN => rfl); (case hΓ => rfl); (case hv => walk_at "vis"); (case hd => decide); (case hcd => decide))
  | ((with_reducible refine' pd_var (x := Str.ofString "at") (i := 1) ?hN ?hΓ ?hv ?hd ?hcd); (case hN => rfl); (case hΓ => rfl); (case hv => walk_at "vis"); (case hd => decide); (case hcd => decide)))
local macro_rules | `(tactic| walk_at "asg") => `(tactic| first
  | (with_reducible refine' rb_asg (x := Str.ofString "row") (i := 0) ?he ?hr ?hN ?hi ?hx ?hs ?hf)
  | (with_reducible refine' rb_asg (x := Str.ofString "at") (i := 1) ?he ?hr ?hN ?hi ?hx ?hs ?hf))
local macro_rules | `(tactic| walk_at "rasg") => `(tactic| first
  | (with_reducible refine' ro_asgS (x := Str.ofString "row") (i := 0) ?he ?hl ?hr ?ho ?hN ?hi ?hx ?hs ?hf)
  | (with_reducible refine' ro_asgS (x := Str.ofString "at") (i := 1) ?he ?hl ?hr ?ho ?hN ?hi ?hx ?hs ?hf))
local macro_rules | `(tactic| walk_at "rasgL") => `(tactic| first
  | (with_reducible refine' ro_asgL (x := Str.ofString "row") (i := 0) _ ?he ?hl ?hr ?hlt ?ho ?ho2 ?hio ?hN ?hi ?hx ?hs ?hf)
  | (with_reducible refine' ro_asgL (x := Str.ofString "at") (i := 1) _ ?he ?hl ?hr ?hlt ?ho ?ho2 ?hio ?hN ?hi ?hx ?hs ?hf))
local macro_rules | `(tactic| walk_at "rifasg") => `(tactic| first
  | (with_reducible refine' ro_ifI (x := Str.ofString "row") (i := 0) ?hc ?he ?h0 ?hr ?hio ?hN ?hi ?hx ?hs ?hf)
  | (with_reducible refine' ro_ifI (x := Str.ofString "at") (i := 1) ?hc ?he ?h0 ?hr ?hio ?hN ?hi ?hx ?hs ?hf))
local macro_rules | `(tactic| walk_at "rtidy") => `(tactic| (show RO _ _ _ [_, _] _ _))
local macro_rules | `(tactic| walk_at "blk") => `(tactic| ((show blkC n_word_at (defScope s_word_at) _ _ = true); decide +kernel))
local macro_rules | `(tactic| walk_at "tidy") => `(tactic| (show RB _ _ [_, _] _ _))
local macro_rules | `(tactic| walk_at "ifasg") => `(tactic| first
  | (with_reducible refine' rb_ifI (x := Str.ofString "row") (i := 0) ?hc ?he ?h0 ?hr ?hN ?hi ?hx ?hs ?hf)
  | (with_reducible refine' rb_ifI (x := Str.ofString "at") (i := 1) ?hc ?he ?h0 ?hr ?hN ?hi ?hx ?hs ?hf))
def wordF (row : List Nat) (k : Nat) : Str := if upB row k = true then Str.ofString "up" else if dnB row k = true then Str.ofString "down" else Str.ofString ""
def R_word_at : Rel := fun ds r => ∃ (row : List Nat) (k : Nat), ds = [rowD row, nD k] ∧ 1 ≤ k ∧ k < row.length ∧ row.length ≤ 1000 ∧ r = .str (wordF row k)
theorem cut_data (xs : List Nat) : PyData.tuple (xs.map nD) = .tuple ((xs.map fun n : Nat => (n : Int)).map PyData.int) := congrArg PyData.tuple (nD_ints xs)
theorem ok_word_at (D : Dn K mg "word_at" s_word_at p_word_at) (B : Bl mg) : Df P w K mg base "word_at" 1 p_word_at R_word_at := by
  refine D.ok sc_word_at (fun ds r ⟨n, m, e, _⟩ => by rw [e] <;> rfl) fun f cdv A outer s H E hr ds r h => ?_
  obtain ⟨row, k, rfl, hk1, hk2, hl, rfl⟩ := h
  have nd := sc_word_at.nd
  obtain ⟨x, xs, hx⟩ : ∃ x xs, row.take k = x :: xs := by
    cases e : row.take k with
    | nil =>
      have := congrArg List.length e
      rw [List.length_take, List.length_nil] at this
      omega
    | cons x xs => exact ⟨x, xs, rfl⟩
  obtain ⟨y, ys, hy⟩ : ∃ y ys, row.drop k = y :: ys := by
    cases e : row.drop k with
    | nil =>
      have := congrArg List.length e
      rw [List.length_drop, List.length_nil] at this
      omega
    | cons x xs => exact ⟨x, xs, rfl⟩
  have hup : decide ((((xs.map fun n : Nat => (n : Int)).foldl max (x : Int))) < ((ys.map fun n : Nat => (n : Int)).foldl min (y : Int))) = upB row k := by
    rw [fold_cast, fold_castm]
    cases e : upB row k with
    | true =>
      have := upB_iff.mp e
      rw [hx, hy] at this
      have := max_min_lt.mpr this
      exact decide_eq_true (by omega)
    | false =>
      refine decide_eq_false fun q => ?_
      have h1 := max_min_lt.mp (show xs.foldl max x < ys.foldl min y by omega)
      rw [← hx, ← hy] at h1
      rw [upB_iff.mpr h1] at e
      cases e
  have hdn : decide (((ys.map fun n : Nat => (n : Int)).foldl max (y : Int)) < ((xs.map fun n : Nat => (n : Int)).foldl min (x : Int))) = dnB row k := by
    rw [fold_cast, fold_castm]
    cases e : dnB row k with
    | true =>
      have h0 := dnB_iff.mp e
      rw [hx, hy] at h0
      have := max_min_lt.mpr fun a ha b hb => h0 b hb a ha
      exact decide_eq_true (by omega)
    | false =>
      refine decide_eq_false fun q => ?_
      have h1 := max_min_lt.mp (show ys.foldl max y < xs.foldl min x by omega)
      rw [← hx, ← hy] at h1
      rw [dnB_iff.mpr fun a ha b hb => h1 b hb a ha] at e
      cases e
  have dt : PyData.tuple (List.take ((k : Int)).toNat (row.map nD)) = .tuple (((x :: xs).map fun n : Nat => (n : Int)).map PyData.int) := by
    rw [← hx, ← cut_data]
    show PyData.tuple ((row.map nD).take k) = _
    rw [List.map_take]
  have dd : PyData.tuple (List.drop ((k : Int)).toNat (row.map nD)) = .tuple (((y :: ys).map fun n : Nat => (n : Int)).map PyData.int) := by
    rw [← hy, ← cut_data]
    show PyData.tuple ((row.map nD).drop k) = _
    rw [List.map_drop]
  walk_at "open"
  refine' rb_ifr (k := upB row k) (PTD.is (ptd_cmp (dx := .int ((xs.map fun n : Nat => (n : Int)).foldl max (x : Int))) (dy := .int ((ys.map fun n : Nat => (n : Int)).foldl min (y : Int))) ?a1 ?a2 od_lt (by walk_at "mark")) hup) ?a3 ?a4
  case a1 =>
    refine' pd_callB (ds := [.tuple (((x :: xs).map fun n : Nat => (n : Int)).map PyData.int)]) (cd_maxT rfl (Room.units hr)) rfl B.max bb_max (pad_cons ?b1 pad_nil)
    case b1 =>
      refine' PD.is ?b2 dt
      case b2 => walk_at "ev"
  case a2 =>
    refine' pd_callB (ds := [.tuple (((y :: ys).map fun n : Nat => (n : Int)).map PyData.int)]) (cd_minT rfl (Room.units hr)) rfl B.min bb_min (pad_cons ?b1 pad_nil)
    case b1 =>
      refine' PD.is ?b2 dd
      case b2 => walk_at "ev"
  case a3 =>
    intro hk
    refine' rb_ret (d := .str (Str.ofString "up")) ?c1 ?c2
    case c1 => walk_at "ev"
    case c2 =>
      unfold wordF
      rw [if_pos hk]
  case a4 =>
    intro hk
    refine' rb_ifr (k := dnB row k) (PTD.is (ptd_cmp (dx := .int ((xs.map fun n : Nat => (n : Int)).foldl min (x : Int))) (dy := .int ((ys.map fun n : Nat => (n : Int)).foldl max (y : Int))) ?d1 ?d2 od_gt (by walk_at "mark")) hdn) ?d3 ?d4
    case d1 =>
      refine' pd_callB (ds := [.tuple (((x :: xs).map fun n : Nat => (n : Int)).map PyData.int)]) (cd_minT rfl (Room.units hr)) rfl B.min bb_min (pad_cons ?b1 pad_nil)
      case b1 =>
        refine' PD.is ?b2 dt
        case b2 => walk_at "ev"
    case d2 =>
      refine' pd_callB (ds := [.tuple (((y :: ys).map fun n : Nat => (n : Int)).map PyData.int)]) (cd_maxT rfl (Room.units hr)) rfl B.max bb_max (pad_cons ?b1 pad_nil)
      case b1 =>
        refine' PD.is ?b2 dd
        case b2 => walk_at "ev"
    case d3 =>
      intro hk2
      refine' rb_ret (d := .str (Str.ofString "down")) ?c1 ?c2
      case c1 => walk_at "ev"
      case c2 =>
        unfold wordF
        rw [if_neg (by rw [hk]; decide), if_pos hk2]
    case d4 =>
      intro hk2
      refine' rb_ret (d := .str (Str.ofString "")) ?c1 ?c2
      case c1 => walk_at "ev"
      case c2 =>
        unfold wordF
        rw [if_neg (by rw [hk]; decide), if_neg (by rw [hk2]; decide)]
def dirS (u : Bool) : Str := if u = true then Str.ofString "up" else Str.ofString "down"
def trD : Tr → PyData
  | .one => .tuple [.str (Str.ofString "one")]
  | .node u l r => .tuple [.str (dirS u), trD l, trD r]
def optT : Option Tr → PyData
  | none => .none
  | some t => trD t
theorem dirS_ok (u : Bool) : PyData.strOk (dirS u) = true := by cases u <;> decide +kernel
theorem tr_lay : ∀ t : Tr, PyData.canLay0 (trD t) = true
  | .one => by decide +kernel
  | .node u l r => by
    have h1 := tr_lay l
    have h2 := tr_lay r
    show PyData.canLay0 (.tuple [.str (dirS u), trD l, trD r]) = true
    simp [PyData.canLay0, PyData.canLayAll0, h1, h2, dirS_ok]
theorem tr_dep : ∀ t : Tr, PyData.depth (trD t) ≤ depT t
  | .one => by decide +kernel
  | .node u l r => by
    have h1 := tr_dep l
    have h2 := tr_dep r
    show PyData.depth (.tuple [.str (dirS u), trD l, trD r]) ≤ max (depT l) (depT r) + 1
    simp only [PyData.depth, PyData.depthAll]
    omega
theorem tr_sh {t : Tr} (h : depT t ≤ 60) : SeqAt.shaped (trD t) = true := by
  cases t with
  | one => decide +kernel
  | node u l r =>
    have h' : max (depT l) (depT r) + 1 ≤ 60 := h
    have h1 := tr_dep l
    have h2 := tr_dep r
    refine shaped_tup ?_ ?_
    · simp [PyData.canLayAll0, tr_lay l, tr_lay r, PyData.canLay0, dirS_ok]
    · simp only [PyData.depth, PyData.depthAll]
      omega
theorem dirS_one (u : Bool) : (dirS u == Str.ofString "one") = false := by cases u <;> decide +kernel
theorem dirS_up (u : Bool) : (dirS u == Str.ofString "up") = u := by cases u <;> decide +kernel
abbrev s_tree_of : Stmt := topS 6
abbrev p_tree_of : List Str := ["row"]
abbrev n_tree_of : List Str := ["row", "at", "word", "first", "second"]
theorem sc_tree_of : FnScope n_tree_of p_tree_of (defScope s_tree_of) := ⟨rfl, rfl, rfl, by decide +kernel, rfl, by decide +kernel, by decide +kernel⟩
local macro_rules | `(tactic| walk_at "slot") => `(tactic| first

  | ((with_reducible refine' pd_var (x := Str.ofString "row") (i := 0) ?hN ?hΓ ?hv ?hd ?hcd); (case hN => rfl); (case hΓ => rfl); (case hv => walk_at "vis"); (case hd => decide); (case hcd => decide))
  | ((with_reducible refine' pd_var (x := Str.ofString "at") (i := 1) ?hN ?hΓ ?hv ?hd ?hcd); (case hN => rfl); (case hΓ => rfl); (case hv => walk_at "vis"); (case hd => decide); (case hcd => decide))
  | ((with_reducible refine' pd_var (x := Str.ofString "word") (i := 2) ?hN ?hΓ ?hv ?hd ?hcd); (case hN => rfl); (case hΓ => rfl); (case hv => walk_at "vis"); (case hd => decide); (case hcd => decide))
  | ((with_reducible refine' pd_var (x := Str.ofString "first") (i := 3) ?hN ?hΓ ?hv ?hd ?hcd); (case hN => rfl); (case hΓ => rfl); (case hv => walk_at "vis"); (case hd => decide); (case hcd => decide))
  | ((with_reducible refine' pd_var (x := Str.ofString "second") (i := 4) ?hN ?hΓ ?hv ?hd ?hcd); (case hN => rfl); (case hΓ => rfl); (case hv => walk_at "vis"); (case hd => decide); (case hcd => decide)))
local macro_rules | `(tactic| walk_at "asg") => `(tactic| first
  | (with_reducible refine' rb_asg (x := Str.ofString "row") (i := 0) ?he ?hr ?hN ?hi ?hx ?hs ?hf)
  | (with_reducible refine' rb_asg (x := Str.ofString "at") (i := 1) ?he ?hr ?hN ?hi ?hx ?hs ?hf)
  | (with_reducible refine' rb_asg (x := Str.ofString "word") (i := 2) ?he ?hr ?hN ?hi ?hx ?hs ?hf)
  | (with_reducible refine' rb_asg (x := Str.ofString "first") (i := 3) ?he ?hr ?hN ?hi ?hx ?hs ?hf)
  | (with_reducible refine' rb_asg (x := Str.ofString "second") (i := 4) ?he ?hr ?hN ?hi ?hx ?hs ?hf))
local macro_rules | `(tactic| walk_at "rasg") => `(tactic| first
  | (with_reducible refine' ro_asgS (x := Str.ofString "row") (i := 0) ?he ?hl ?hr ?ho ?hN ?hi ?hx ?hs ?hf)
  | (with_reducible refine' ro_asgS (x := Str.ofString "at") (i := 1) ?he ?hl ?hr ?ho ?hN ?hi ?hx ?hs ?hf)
  | (with_reducible refine' ro_asgS (x := Str.ofString "word") (i := 2) ?he ?hl ?hr ?ho ?hN ?hi ?hx ?hs ?hf)
  | (with_reducible refine' ro_asgS (x := Str.ofString "first") (i := 3) ?he ?hl ?hr ?ho ?hN ?hi ?hx ?hs ?hf)
  | (with_reducible refine' ro_asgS (x := Str.ofString "second") (i := 4) ?he ?hl ?hr ?ho ?hN ?hi ?hx ?hs ?hf))
local macro_rules | `(tactic| walk_at "rasgL") => `(tactic| first
  | (with_reducible refine' ro_asgL (x := Str.ofString "row") (i := 0) _ ?he ?hl ?hr ?hlt ?ho ?ho2 ?hio ?hN ?hi ?hx ?hs ?hf)
  | (with_reducible refine' ro_asgL (x := Str.ofString "at") (i := 1) _ ?he ?hl ?hr ?hlt ?ho ?ho2 ?hio ?hN ?hi ?hx ?hs ?hf)
  | (with_reducible refine' ro_asgL (x := Str.ofString "word") (i := 2) _ ?he ?hl ?hr ?hlt ?ho ?ho2 ?hio ?hN ?hi ?hx ?hs ?hf)
  | (with_reducible refine' ro_asgL (x := Str.ofString "first") (i := 3) _ ?he ?hl ?hr ?hlt ?ho ?ho2 ?hio ?hN ?hi ?hx ?hs ?hf)
  | (with_reducible refine' ro_asgL (x := Str.ofString "second") (i := 4) _ ?he ?hl ?hr ?hlt ?ho ?ho2 ?hio ?hN ?hi ?hx ?hs ?hf))
local macro_rules | `(tactic| walk_at "rifasg") => `(tactic| first
  | (with_reducible refine' ro_ifI (x := Str.ofString "row") (i := 0) ?hc ?he ?h0 ?hr ?hio ?hN ?hi ?hx ?hs ?hf)
  | (with_reducible refine' ro_ifI (x := Str.ofString "at") (i := 1) ?hc ?he ?h0 ?hr ?hio ?hN ?hi ?hx ?hs ?hf)
  | (with_reducible refine' ro_ifI (x := Str.ofString "word") (i := 2) ?hc ?he ?h0 ?hr ?hio ?hN ?hi ?hx ?hs ?hf)
  | (with_reducible refine' ro_ifI (x := Str.ofString "first") (i := 3) ?hc ?he ?h0 ?hr ?hio ?hN ?hi ?hx ?hs ?hf)
  | (with_reducible refine' ro_ifI (x := Str.ofString "second") (i := 4) ?hc ?he ?h0 ?hr ?hio ?hN ?hi ?hx ?hs ?hf))
local macro_rules | `(tactic| walk_at "rtidy") => `(tactic| (show RO _ _ _ [_, _, _, _, _] _ _))
local macro_rules | `(tactic| walk_at "blk") => `(tactic| ((show blkC n_tree_of (defScope s_tree_of) _ _ = true); decide +kernel))
local macro_rules | `(tactic| walk_at "tidy") => `(tactic| (show RB _ _ [_, _, _, _, _] _ _))
local macro_rules | `(tactic| walk_at "ifasg") => `(tactic| first
  | (with_reducible refine' rb_ifI (x := Str.ofString "row") (i := 0) ?hc ?he ?h0 ?hr ?hN ?hi ?hx ?hs ?hf)
  | (with_reducible refine' rb_ifI (x := Str.ofString "at") (i := 1) ?hc ?he ?h0 ?hr ?hN ?hi ?hx ?hs ?hf)
  | (with_reducible refine' rb_ifI (x := Str.ofString "word") (i := 2) ?hc ?he ?h0 ?hr ?hN ?hi ?hx ?hs ?hf)
  | (with_reducible refine' rb_ifI (x := Str.ofString "first") (i := 3) ?hc ?he ?h0 ?hr ?hN ?hi ?hx ?hs ?hf)
  | (with_reducible refine' rb_ifI (x := Str.ofString "second") (i := 4) ?hc ?he ?h0 ?hr ?hN ?hi ?hx ?hs ?hf))
def R_tree_of (M : Nat) : Rel := fun ds r => ∃ row : List Nat, ds = [rowD row] ∧ row.Nodup ∧ row.length ≤ M ∧ row.length ≤ 60 ∧ r = optT (treeF M row)
theorem wordF_ne (row : List Nat) (k : Nat) : (!(wordF row k == Str.ofString "")) = (upB row k || dnB row k) := by
  unfold wordF
  cases upB row k <;> cases dnB row k <;> decide +kernel
theorem wordF_dir {row : List Nat} {k : Nat} (h : (upB row k || dnB row k) = true) : wordF row k = dirS (upB row k) := by
  unfold wordF dirS
  cases hu : upB row k with
  | true => rfl
  | false =>
    rw [hu] at h
    have h' : dnB row k = true := h
    rw [h'] <;> rfl
theorem isNo_optT (o : Option Tr) : isNo (optT o) = o.isNone := by
  cases o with
  | none => rfl
  | some t => cases t <;> rfl
theorem ok_tree_of_0 {k : Nat} (M : Nat) (hk : 1 ≤ k) (m0 : M = 0 ∨ ∃ M', M = M' + 1 ∧ k = M' + 2 ∧ Df P w K mg base "tree_of" (M' + 2) p_tree_of (R_tree_of M')) (D : Dn K mg "tree_of" s_tree_of p_tree_of) (B : Bl mg)
    (D1 : Df P w K mg base "word_at" 1 p_word_at R_word_at) (D2 : Df P w K mg base "flat" 1 p_flat R_flat) : Df P w K mg base "tree_of" (k + 1) p_tree_of (R_tree_of M) := by
  refine D.ok sc_tree_of (fun ds r ⟨n, e, _⟩ => by rw [e] <;> rfl) fun f cdv A outer s H E hr ds r h => ?_
  obtain ⟨row, rfl, hnd, hM, hl, rfl⟩ := h
  have nd := sc_tree_of.nd
  walk_at "open"
  refine' rb_ifr (k := decide (row.length = 1)) (PTD.is ?a1 ?a2) ?a3 ?a4
  case a1 => walk_at "test"
  case a2 =>
    rw [List.length_map]
    exact decide_eq_decide.mpr (by omega)
  case a3 =>
    intro hq
    have hq' := of_decide_eq_true hq
    obtain ⟨M', rfl⟩ : ∃ M', M = M' + 1 := ⟨M - 1, by omega⟩
    have e : treeF (M' + 1) row = some .one := by rw [treeF, if_pos hq']
    rw [e]
    refine' rb_ret (d := .tuple [.str (Str.ofString "one")]) ?b1 rfl
    case b1 => walk_at "ev"
  case a4 =>
    intro hq
    have hq' := of_decide_eq_false hq
    refine' rb_for (j := 1) (ds := (List.range' 1 (row.length - 1)).map nD) (fun i Γ => Γ = [some (rowD row), none, none, none, none] ∧ ∀ b ∈ (List.range' 1 (row.length - 1)).take i, (upB row b || dnB row b) = false) ?hi ?h0 ?hs ?hd ?hp ?hc ?hN ?hj ?hx ?hf ?hsi
    walk_at "for1"
    case hi =>
      refine' pid_range2 (lo := 1) (hi := row.length) ?e1 ?e2 rfl B.range (by decide) (by omega)
      case e1 => exact pd_int
      case e2 =>
        refine' PD.is ?e3 ?e4
        case e3 => walk_at "ev"
        case e4 => rw [List.length_map]
    case h0 => exact ⟨_, Le.refl _, rfl, fun b hb => by rw [List.take_zero] at hb; cases hb⟩
    case hs =>
      rintro i d Γ' hd' ⟨rfl, hno⟩
      obtain ⟨at', hat, rfl⟩ := mapG_at hd'
      have hm := List.mem_of_getElem? hat
      rw [List.mem_range'_1] at hm
      walk_at "tidy"
      refine' rb_asg (x := Str.ofString "word") (i := 2) (d := .str (wordF row at')) (pd_call (ds := [rowD row, nD at']) D1 (Room.mono hr hk) rfl ?f1 ⟨row, at', rfl, hm.1, by omega, by omega, rfl⟩) ?f2 nd rfl (by walk_at "loc") rfl (by walk_at "loc")
      case f1 => walk_at "args"
      case f2 =>
        walk_at "tidy"
        refine' rb_ifr (k := upB row at' || dnB row at') (PTD.is ?g1 (wordF_ne row at')) ?g2 ?g3
        case g1 => walk_at "test"
        case g2 =>
          intro hc
          have hcut : cutF row = some at' := find_at hat hc hno
          obtain ⟨M', rfl, rfl, ih⟩ : ∃ M', M = M' + 1 ∧ k = M' + 2 ∧ Df P w K mg base "tree_of" (M' + 2) p_tree_of (R_tree_of M') := by
            rcases m0 with q | q
            · omega
            · exact q
          clear m0
          have n1 : (row.take at').Nodup := hnd.sublist (List.take_sublist at' row)
          have n2 : (row.drop at').Nodup := hnd.sublist (List.drop_sublist at' row)
          have l1 : (flatN (row.take at')).length = at' := by rw [flat_len n1, List.length_take]; omega
          have l2 : (flatN (row.drop at')).length = row.length - at' := by rw [flat_len n2, List.length_drop]
          have l3 : (row.take at').length < 64 := by rw [List.length_take]; omega
          have l4 : (row.drop at').length < 64 := by rw [List.length_drop]; omega
          have et : treeF (M' + 1) row = (match treeF M' (flatN (row.take at')), treeF M' (flatN (row.drop at')) with
            | some l, some r => some (.node (upB row at') l r)
            | _, _ => none) := by rw [treeF, if_neg hq', hcut] <;> rfl
          have z1 : (flatN (row.take at')).length ≤ M' := by omega
          have z2 : (flatN (row.take at')).length ≤ 60 := by omega
          have z3 : (flatN (row.drop at')).length ≤ M' := by omega
          have z4 : (flatN (row.drop at')).length ≤ 60 := by omega
          have hr1 := Room.mono (j := 1) hr (by omega)
          refine' rb_asg (x := Str.ofString "first") (i := 3) (d := optT (treeF M' (flatN (row.take at')))) (pd_call (ds := [rowD (flatN (row.take at'))]) ih hr rfl (pad_cons (pd_call (ds := [rowD (row.take at')]) D2 hr1 rfl (pad_cons ?i1 pad_nil) (R_flat_i l3)) pad_nil) ⟨flatN (row.take at'), rfl, (flat_row n1).nd, z1, z2, rfl⟩) ?i2 nd rfl (by walk_at "loc") rfl (by walk_at "loc")
          case i1 =>
            refine' PD.is ?i3 ?i4
            case i3 => walk_at "ev"
            case i4 =>
              show PyData.tuple ((row.map nD).take at') = PyData.tuple ((row.take at').map nD)
              rw [List.map_take]
          case i2 =>
            walk_at "tidy"
            refine' rb_asg (x := Str.ofString "second") (i := 4) (d := optT (treeF M' (flatN (row.drop at')))) (pd_call (ds := [rowD (flatN (row.drop at'))]) ih hr rfl (pad_cons (pd_call (ds := [rowD (row.drop at')]) D2 hr1 rfl (pad_cons ?j1 pad_nil) (R_flat_i l4)) pad_nil) ⟨flatN (row.drop at'), rfl, (flat_row n2).nd, z3, z4, rfl⟩) ?j2 nd rfl (by walk_at "loc") rfl (by walk_at "loc")
            case j1 =>
              refine' PD.is ?j3 ?j4
              case j3 => walk_at "ev"
              case j4 =>
                show PyData.tuple ((row.map nD).drop at') = PyData.tuple ((row.drop at').map nD)
                rw [List.map_drop]
            case j2 =>
              walk_at "tidy"
              rw [et]
              obtain ⟨o1, ho1⟩ : ∃ o, treeF M' (flatN (row.take at')) = o := ⟨_, rfl⟩
              obtain ⟨o2, ho2⟩ : ∃ o, treeF M' (flatN (row.drop at')) = o := ⟨_, rfl⟩
              rw [ho1, ho2]
              refine' rb_ifr (k := o1.isNone || o2.isNone) (ptd_bool (pwd_or (k := o1.isNone) (j := o2.isNone) ?k1 fun _ => pwd_or1 ?k2)) ?k3 ?k4
              case k1 =>
                refine' PTD.is ?l1 (isNo_optT o1)
                case l1 => walk_at "test"
              case k2 =>
                refine' PTD.is ?l1 (isNo_optT o2)
                case l1 => walk_at "test"
              case k3 =>
                intro hz
                refine' rb_ret pd_non ?m1
                case m1 =>
                  cases o1 with
                  | none => rfl
                  | some t1 =>
                    cases o2 with
                    | none => rfl
                    | some t2 => cases hz
              case k4 =>
                intro hz
                cases o1 with
                | none => cases hz
                | some t1 =>
                  cases o2 with
                  | none => cases hz
                  | some t2 =>
                    refine' rb_ret (d := .tuple [.str (wordF row at'), optT (some t1), optT (some t2)]) ?m2 ?m3
                    case m2 => walk_at "ev"
                    case m3 => rw [wordF_dir hc] <;> rfl
        case g3 =>
          intro hc
          refine rb_nil ⟨_, .cons (.drop (.drop (.drop (.drop .nil)))), rfl, fun b hb => ?_⟩
          rw [List.take_add_one, hat] at hb
          rcases List.mem_append.mp hb with q | q
          · exact hno b q
          · have e : b = at' := by simpa using q
            rw [e]
            exact hc
    case hd =>
      rintro Γ' ⟨rfl, hno⟩
      rw [List.length_map, List.take_length] at hno
      have hcut : cutF row = none := List.find?_eq_none.mpr fun b hb q => by
        have := hno b hb
        rw [show (upB row b || dnB row b) = true from q] at this
        cases this
      have et : treeF M row = none := by
        cases M with
        | zero => rfl
        | succ M' => rw [treeF, if_neg hq', hcut]
      rw [et]
      walk_at "ret"
      rfl
theorem ok_tree_of (D : Dn K mg "tree_of" s_tree_of p_tree_of) (B : Bl mg) (D1 : Df P w K mg base "word_at" 1 p_word_at R_word_at) (D2 : Df P w K mg base "flat" 1 p_flat R_flat) : ∀ M, Df P w K mg base "tree_of" (M + 2) p_tree_of (R_tree_of M)
  | 0 => ok_tree_of_0 0 (Nat.le_refl _) (.inl rfl) D B D1 D2
  | M + 1 => ok_tree_of_0 (M + 1) (by omega) (.inr ⟨M, rfl, rfl, ok_tree_of D B D1 D2 M⟩) D B D1 D2
def bStep (row : List Nat) (found : List (Nat × Int)) (x : Nat) (b : Nat × Int) (o : Nat) : Nat × Int := if x < row.getD o 0 ∧ b.1 < (found.getD o (0, -1)).1 then ((found.getD o (0, -1)).1, (o : Int)) else b
def bestF (row : List Nat) (found : List (Nat × Int)) (x p : Nat) : Nat × Int := (List.range p).foldl (bStep row found x) (0, -1)
def hList (row : List Nat) : Nat → List (Nat × Int)
  | 0 => []
  | p + 1 => hList row p ++ [((bestF row (hList row p) (row.getD p 0) p).1 + 1, (bestF row (hList row p) (row.getD p 0) p).2)]
theorem hList_len (row : List Nat) : ∀ p, (hList row p).length = p
  | 0 => rfl
  | p + 1 => by
    rw [hList, List.length_append, hList_len row p] <;> rfl
theorem bestF_succ (row : List Nat) (found : List (Nat × Int)) (x p : Nat) : bestF row found x (p + 1) = bStep row found x (bestF row found x p) p := by
  unfold bestF
  rw [List.range_succ, List.foldl_append] <;> rfl
/-- the height and the place ahead -/
def hAt (row : List Nat) (p : Nat) : Nat × Int := (hList row (p + 1)).getD p (0, -1)
theorem hList_at (row : List Nat) {p : Nat} : ∀ {q : Nat}, p < q → (hList row q).getD p (0, -1) = hAt row p
  | 0, h => absurd h (by omega)
  | q + 1, h => by
    by_cases e : p = q
    · subst e
      rfl
    · rw [hList, List.getD_eq_getElem?_getD, List.getElem?_append_left (by rw [hList_len]; omega), ← List.getD_eq_getElem?_getD]
      exact hList_at row (by omega)
def partF (row : List Nat) (k : Nat) : List Nat := (List.range row.length).filter fun p => decide ((hAt row p).1 = k + 1)
def mostF (row : List Nat) : Nat := ((List.range row.length).map fun p => (hAt row p).1).foldl max 0
def partsF (row : List Nat) : List (List Nat) := (List.range (mostF row)).map (partF row)
def climb (row : List Nat) : Nat → List Nat → List Nat
  | 0, ps => ps
  | _ + 1, [] => []
  | f + 1, p :: ps => if 0 ≤ (hAt row p).2 then climb row f ((hAt row p).2.toNat :: p :: ps) else p :: ps
def longF (row : List Nat) : List Nat := climb row row.length (((List.range row.length).filter fun p => decide ((hAt row p).1 = mostF row)).take 1)
theorem rowsD_lf : ∀ xs : List (List Nat), lfA (xs.map rowD) = true
  | [] => by simp [lfA]
  | x :: xs => by
    rw [List.map_cons, lfA, rowsD_lf xs, Bool.and_true]
    show lf (.tuple (x.map nD)) = true
    rw [lf, nD_ints]
    exact lfA_ints _
theorem lf_row (xs : List Nat) : lf (rowD xs) = true := by
  show lf (.tuple (xs.map nD)) = true
  rw [lf, nD_ints]
  exact lfA_ints _
abbrev mvD (b : Bool) : PyData := .str (if b = true then Str.ofString "in" else Str.ofString "out")
theorem lfA_mv (ms : List Bool) : lfA (ms.map mvD) = true := lfA_of fun d hd => by
  obtain ⟨b, _, rfl⟩ := List.mem_map.mp hd
  cases b <;> rfl
theorem lfA_row (xs : List Nat) : lfA (xs.map nD) = true := by
  rw [nD_ints]
  exact lfA_ints _
theorem own1 {P : Nat → Prop} {a : Nat} (h : P a) : ∀ i ∈ [a], P i := fun i hi => by
  rw [List.mem_singleton] at hi
  subst hi
  exact h
theorem own2 {P : Nat → Prop} {a b : Nat} (h : P a) (h2 : P b) : ∀ i ∈ [a, b], P i := fun i hi => by
  rcases List.mem_cons.mp hi with e | e
  · subst e; exact h
  · exact own1 h2 i e
theorem own3 {P : Nat → Prop} {a b c : Nat} (h : P a) (h2 : P b) (h3 : P c) : ∀ i ∈ [a, b, c], P i := fun i hi => by
  rcases List.mem_cons.mp hi with e | e
  · subst e; exact h
  · exact own2 h2 h3 i e
theorem is_in (b : Bool) : ((if b = true then Str.ofString "in" else Str.ofString "out") == Str.ofString "in") = b := by cases b <;> decide
theorem is_out (b : Bool) : ((if b = true then Str.ofString "in" else Str.ofString "out") == Str.ofString "out") = !b := by cases b <;> decide
theorem len_pos {α : Type} (xs : List α) : decide ((0 : Int) < (xs.length : Int)) = !xs.isEmpty := by cases xs <;> simp <;> omega
theorem lf_optD (o : Option (List Nat)) : lf (optD o) = true := by
  cases o with
  | none => rfl
  | some ps => exact lf_row ps
abbrev s_heights : Stmt := topS 8
abbrev p_heights : List Str := ["row"]
abbrev n_heights : List Str := ["row", "found", "place", "number", "best", "other"]
theorem sc_heights : FnScope n_heights p_heights (defScope s_heights) := ⟨rfl, rfl, rfl, by decide +kernel, rfl, by decide +kernel, by decide +kernel⟩
local macro_rules | `(tactic| walk_at "slot") => `(tactic| first

  | ((with_reducible refine' pd_var (x := Str.ofString "row") (i := 0) ?hN ?hΓ ?hv ?hd ?hcd); (case hN => rfl); (case hΓ => rfl); (case hv => walk_at "vis"); (case hd => decide); (case hcd => decide))
  | ((with_reducible refine' pd_var (x := Str.ofString "found") (i := 1) ?hN ?hΓ ?hv ?hd ?hcd); (case hN => rfl); (case hΓ => rfl); (case hv => walk_at "vis"); (case hd => decide); (case hcd => decide))
  | ((with_reducible refine' pd_var (x := Str.ofString "place") (i := 2) ?hN ?hΓ ?hv ?hd ?hcd); (case hN => rfl); (case hΓ => rfl); (case hv => walk_at "vis"); (case hd => decide); (case hcd => decide))
  | ((with_reducible refine' pd_var (x := Str.ofString "number") (i := 3) ?hN ?hΓ ?hv ?hd ?hcd); (case hN => rfl); (case hΓ => rfl); (case hv => walk_at "vis"); (case hd => decide); (case hcd => decide))
  | ((with_reducible refine' pd_var (x := Str.ofString "best") (i := 4) ?hN ?hΓ ?hv ?hd ?hcd); (case hN => rfl); (case hΓ => rfl); (case hv => walk_at "vis"); (case hd => decide); (case hcd => decide))
  | ((with_reducible refine' pd_var (x := Str.ofString "other") (i := 5) ?hN ?hΓ ?hv ?hd ?hcd); (case hN => rfl); (case hΓ => rfl); (case hv => walk_at "vis"); (case hd => decide); (case hcd => decide)))
local macro_rules | `(tactic| walk_at "asg") => `(tactic| first
  | (with_reducible refine' rb_asg (x := Str.ofString "row") (i := 0) ?he ?hr ?hN ?hi ?hx ?hs ?hf)
  | (with_reducible refine' rb_asg (x := Str.ofString "found") (i := 1) ?he ?hr ?hN ?hi ?hx ?hs ?hf)
  | (with_reducible refine' rb_asg (x := Str.ofString "place") (i := 2) ?he ?hr ?hN ?hi ?hx ?hs ?hf)
  | (with_reducible refine' rb_asg (x := Str.ofString "number") (i := 3) ?he ?hr ?hN ?hi ?hx ?hs ?hf)
  | (with_reducible refine' rb_asg (x := Str.ofString "best") (i := 4) ?he ?hr ?hN ?hi ?hx ?hs ?hf)
  | (with_reducible refine' rb_asg (x := Str.ofString "other") (i := 5) ?he ?hr ?hN ?hi ?hx ?hs ?hf))
local macro_rules | `(tactic| walk_at "rasg") => `(tactic| first
  | (with_reducible refine' ro_asgS (x := Str.ofString "row") (i := 0) ?he ?hl ?hr ?ho ?hN ?hi ?hx ?hs ?hf)
  | (with_reducible refine' ro_asgS (x := Str.ofString "found") (i := 1) ?he ?hl ?hr ?ho ?hN ?hi ?hx ?hs ?hf)
  | (with_reducible refine' ro_asgS (x := Str.ofString "place") (i := 2) ?he ?hl ?hr ?ho ?hN ?hi ?hx ?hs ?hf)
  | (with_reducible refine' ro_asgS (x := Str.ofString "number") (i := 3) ?he ?hl ?hr ?ho ?hN ?hi ?hx ?hs ?hf)
  | (with_reducible refine' ro_asgS (x := Str.ofString "best") (i := 4) ?he ?hl ?hr ?ho ?hN ?hi ?hx ?hs ?hf)
  | (with_reducible refine' ro_asgS (x := Str.ofString "other") (i := 5) ?he ?hl ?hr ?ho ?hN ?hi ?hx ?hs ?hf))
local macro_rules | `(tactic| walk_at "rasgL") => `(tactic| first
  | (with_reducible refine' ro_asgL (x := Str.ofString "row") (i := 0) _ ?he ?hl ?hr ?hlt ?ho ?ho2 ?hio ?hN ?hi ?hx ?hs ?hf)
  | (with_reducible refine' ro_asgL (x := Str.ofString "found") (i := 1) _ ?he ?hl ?hr ?hlt ?ho ?ho2 ?hio ?hN ?hi ?hx ?hs ?hf)
  | (with_reducible refine' ro_asgL (x := Str.ofString "place") (i := 2) _ ?he ?hl ?hr ?hlt ?ho ?ho2 ?hio ?hN ?hi ?hx ?hs ?hf)
  | (with_reducible refine' ro_asgL (x := Str.ofString "number") (i := 3) _ ?he ?hl ?hr ?hlt ?ho ?ho2 ?hio ?hN ?hi ?hx ?hs ?hf)
  | (with_reducible refine' ro_asgL (x := Str.ofString "best") (i := 4) _ ?he ?hl ?hr ?hlt ?ho ?ho2 ?hio ?hN ?hi ?hx ?hs ?hf)
  | (with_reducible refine' ro_asgL (x := Str.ofString "other") (i := 5) _ ?he ?hl ?hr ?hlt ?ho ?ho2 ?hio ?hN ?hi ?hx ?hs ?hf))
local macro_rules | `(tactic| walk_at "rifasg") => `(tactic| first
  | (with_reducible refine' ro_ifI (x := Str.ofString "row") (i := 0) ?hc ?he ?h0 ?hr ?hio ?hN ?hi ?hx ?hs ?hf)
  | (with_reducible refine' ro_ifI (x := Str.ofString "found") (i := 1) ?hc ?he ?h0 ?hr ?hio ?hN ?hi ?hx ?hs ?hf)
  | (with_reducible refine' ro_ifI (x := Str.ofString "place") (i := 2) ?hc ?he ?h0 ?hr ?hio ?hN ?hi ?hx ?hs ?hf)
  | (with_reducible refine' ro_ifI (x := Str.ofString "number") (i := 3) ?hc ?he ?h0 ?hr ?hio ?hN ?hi ?hx ?hs ?hf)
  | (with_reducible refine' ro_ifI (x := Str.ofString "best") (i := 4) ?hc ?he ?h0 ?hr ?hio ?hN ?hi ?hx ?hs ?hf)
  | (with_reducible refine' ro_ifI (x := Str.ofString "other") (i := 5) ?hc ?he ?h0 ?hr ?hio ?hN ?hi ?hx ?hs ?hf))
local macro_rules | `(tactic| walk_at "rtidy") => `(tactic| (show RO _ _ _ [_, _, _, _, _, _] _ _))
local macro_rules | `(tactic| walk_at "blk") => `(tactic| ((show blkC n_heights (defScope s_heights) _ _ = true); decide +kernel))
local macro_rules | `(tactic| walk_at "tidy") => `(tactic| (show RB _ _ [_, _, _, _, _, _] _ _))
local macro_rules | `(tactic| walk_at "ifasg") => `(tactic| first
  | (with_reducible refine' rb_ifI (x := Str.ofString "row") (i := 0) ?hc ?he ?h0 ?hr ?hN ?hi ?hx ?hs ?hf)
  | (with_reducible refine' rb_ifI (x := Str.ofString "found") (i := 1) ?hc ?he ?h0 ?hr ?hN ?hi ?hx ?hs ?hf)
  | (with_reducible refine' rb_ifI (x := Str.ofString "place") (i := 2) ?hc ?he ?h0 ?hr ?hN ?hi ?hx ?hs ?hf)
  | (with_reducible refine' rb_ifI (x := Str.ofString "number") (i := 3) ?hc ?he ?h0 ?hr ?hN ?hi ?hx ?hs ?hf)
  | (with_reducible refine' rb_ifI (x := Str.ofString "best") (i := 4) ?hc ?he ?h0 ?hr ?hN ?hi ?hx ?hs ?hf)
  | (with_reducible refine' rb_ifI (x := Str.ofString "other") (i := 5) ?hc ?he ?h0 ?hr ?hN ?hi ?hx ?hs ?hf))
abbrev hD (p : Nat × Int) : PyData := .tuple [nD p.1, .int p.2]
def R_heights : List PyData → List PyData → Prop := fun ds r => ∃ row : List Nat, ds = [rowD row] ∧ row.length ≤ 1000 ∧ r = (hList row row.length).map hD
theorem lfA_h : ∀ hs : List (Nat × Int), lfA (hs.map hD) = true
  | [] => rfl
  | h :: hs => by
    rw [List.map_cons, lfA, lfA_h hs] <;> rfl
theorem enum_row (row : List Nat) : enumD (row.map nD) = ((List.range row.length).map fun i => (nD i, nD (row.getD i 0))).map fun p => .tuple [p.1, p.2] := by
  unfold enumD
  rw [List.length_map, List.map_map]
  refine List.map_congr_left fun i hi => ?_
  have hi' := List.mem_range.mp hi
  show PyData.tuple [nD i, (row.map nD).getD i .none] = PyData.tuple [nD i, nD (row.getD i 0)]
  rw [List.getD_eq_getElem?_getD, List.getElem?_map, List.getD_eq_getElem?_getD, List.getElem?_eq_getElem hi'] <;> rfl
theorem h_at {hs : List (Nat × Int)} {o : Nat} (h : o < hs.length) : atI (hs.map hD) (o : Int) = some (hD (hs.getD o (0, -1))) := by
  refine atI_nat ?_
  rw [List.getElem?_map, List.getD_eq_getElem?_getD, List.getElem?_eq_getElem h] <;> rfl
theorem ok_heights (D : Dn K mg "heights" s_heights p_heights) (B : Bl mg) : DfL P w K mg base "heights" 1 p_heights R_heights := by
  refine D.okL sc_heights (fun ds r ⟨n, e, _⟩ => by rw [e] <;> rfl) (fun _ _ _ => trivial) fun f cdv A outer s H E hr ds r h => ?_
  obtain ⟨row, rfl, hl, rfl⟩ := h
  have nd := sc_heights.nd
  walk_at "ropen"
  refine' ro_asgL (x := Str.ofString "found") (i := 1) (ds := []) [1] ?a1 rfl ?a2 (Nat.le_of_ble_eq_true rfl) (by decide) (by decide) (by decide) nd rfl (by walk_at "loc") rfl (by walk_at "loc")
  case a1 =>
    refine' pdl_lst ?b1 (by decide)
    case b1 => walk_at "args"
  case a2 =>
    walk_at "rtidy"
    refine' ro_for2 (j := 2) (k := 3) ((List.range row.length).map fun i => (nD i, nD (row.getD i 0))) (fun i Γ => Γ = [some (rowD row), some (.list ((hList row i).map hD)), none, none, none, none]) ?i1 ?i2 (by decide) (by decide) ?h0 ?hs ?hd ?hlf2 PassesOwn.never rfl nd rfl (by walk_at "loc") (by walk_at "loc") rfl (by walk_at "loc") (by walk_at "loc") (fun _ => rfl) rfl rfl rfl rfl
    case i1 =>
      rw [← enum_row]
      refine' pit_enumT ?b2 (lfA_row _) rfl B.enumerate rfl rfl
      case b2 => walk_at "ev"
    case i2 =>
      intro p hp
      obtain ⟨i, _, rfl⟩ := List.mem_map.mp hp
      exact ⟨rfl, rfl⟩
    case h0 => exact ⟨_, .cons (.cons (.drop (.drop (.drop (.drop .nil))))), own1 ⟨_, rfl⟩, rfl⟩
    case hs =>
      rintro i p Γ' hp rfl
      rw [List.getElem?_map] at hp
      have hi : i < row.length := by
        rcases Nat.lt_or_ge i row.length with q | q
        · exact q
        · rw [List.getElem?_eq_none (by rw [List.length_range]; exact q)] at hp
          cases hp
      rw [List.getElem?_range hi] at hp
      have ep : (nD i, nD (row.getD i 0)) = p := Option.some.inj hp
      subst ep
      obtain ⟨x, hx⟩ : ∃ x, row.getD i 0 = x := ⟨_, rfl⟩
      have hll := hList_len row i
      have hsucc : hList row (i + 1) = hList row i ++ [((bestF row (hList row i) (row.getD i 0) i).1 + 1, (bestF row (hList row i) (row.getD i 0) i).2)] := rfl
      rw [hx] at hsucc ⊢
      obtain ⟨found, hfo⟩ : ∃ found, hList row i = found := ⟨_, rfl⟩
      rw [hfo] at hsucc hll ⊢
      walk_at "rtidy"
      refine' ro_asgS (x := Str.ofString "best") (i := 4) (d := hD (0, -1)) ?c1 rfl ?c2 (by decide) nd rfl (by walk_at "loc") rfl (by walk_at "loc")
      case c1 =>
        refine' PD.is ?c3 ?c4
        case c3 => walk_at "ev"
        case c4 => rfl
      case c2 =>
        walk_at "rtidy"
        refine' ro_for (j := 5) (ds := (List.range i).map nD) (fun o Γ => Γ = [some (rowD row), some (.list (found.map hD)), some (nD i), some (nD x), some (hD (bestF row found x o)), none]) (pit_range1 ?d1 rfl B.range (by omega)) (lfA_row _) ?hjo ?k0 ?ks ?kd ?klf ?hp ?hc ?hN ?hj ?hx ?hf ?hsi
        walk_at "rfor1"
        case d1 => walk_at "ev"
        case k0 => exact ⟨_, .cons (.cons (.cons (.cons (.cons (.drop .nil))))), own1 ⟨_, rfl⟩, rfl⟩
        case ks =>
          rintro o d Γ' hd' rfl
          obtain ⟨ho, rfl⟩ := range_at hd'
          rw [bestF_succ]
          obtain ⟨b, hb⟩ : ∃ b, bestF row found x o = b := ⟨_, rfl⟩
          rw [hb]
          have hor : atI (row.map nD) (o : Int) = some (nD (row.getD o 0)) := row_at (by omega)
          have hof : atI (found.map hD) (o : Int) = some (hD (found.getD o (0, -1))) := h_at (by omega)
          obtain ⟨g, hg⟩ : ∃ g, found.getD o (0, -1) = g := ⟨_, rfl⟩
          obtain ⟨y, hy⟩ : ∃ y, row.getD o 0 = y := ⟨_, rfl⟩
          have hbs : bStep row found x b o = if x < y ∧ b.1 < g.1 then (g.1, (o : Int)) else b := by
            unfold bStep
            rw [hg, hy]
          rw [hg] at hof
          rw [hy] at hor
          walk_at "rtidy"
          refine' ro_if (k := decide (x < y ∧ b.1 < g.1)) (mid := fun o2 Γ2 => o2 = [1] ∧ Γ2 = [some (rowD row), some (.list (found.map hD)), some (nD i), some (nD x), some (hD (bStep row found x b o)), some (nD o)]) (PTD.is (ptd_bool (pwd_and (k := decide (x < y)) (j := decide (b.1 < g.1)) ?e1 fun _ => pwd_and1 ?e2)) ?e3) ?t1 ?t2 ?t3
          case e1 =>
            refine' PTD.is (ptd_cmp (dx := nD y) (dy := nD x) (pd_ix (dx := rowD row) (dy := nD o) ?f1 ?f2 (id_tup hor)) ?f3 od_gt (by walk_at "mark")) ?f4
            case f1 => walk_at "ev"
            case f2 => walk_at "ev"
            case f3 => walk_at "ev"
            case f4 => exact decide_eq_decide.mpr (by omega)
          case e2 =>
            refine' PTD.is (ptd_cmp (dx := nD g.1) (dy := nD b.1) (pd_ix (dx := hD g) (dy := .int 0) (pd_ix (dx := .list (found.map hD)) (dy := nD o) ?f1 ?f2 (id_list hof)) ?f3 (id_tup rfl)) (pd_ix (dx := hD b) (dy := .int 0) ?f4 ?f5 (id_tup rfl)) od_gt (by walk_at "mark")) ?f6
            case f1 => walk_at "ev"
            case f2 => walk_at "ev"
            case f3 => walk_at "ev"
            case f4 => walk_at "ev"
            case f5 => walk_at "ev"
            case f6 => exact decide_eq_decide.mpr (by omega)
          case e3 => rw [Bool.decide_and]
          case t1 =>
            intro hk
            rw [hbs, if_pos (of_decide_eq_true hk)]
            refine' ro_asgS (x := Str.ofString "best") (i := 4) (d := hD (g.1, (o : Int))) ?f1 rfl ?f2 (by decide) nd rfl (by walk_at "loc") rfl (by walk_at "loc")
            case f1 =>
              refine' pd_tup (pad_cons (pd_ix (dx := hD g) (dy := .int 0) (pd_ix (dx := .list (found.map hD)) (dy := nD o) ?f3 ?f4 (id_list hof)) ?f5 (id_tup rfl)) (pad_cons ?f6 pad_nil)) (Nat.le_of_ble_eq_true rfl)
              case f3 => walk_at "ev"
              case f4 => walk_at "ev"
              case f5 => walk_at "ev"
              case f6 => walk_at "ev"
            case f2 => exact ro_nil ⟨rfl, rfl⟩
          case t2 =>
            intro hk
            rw [hbs, if_neg (of_decide_eq_false hk)]
            exact ro_nil ⟨rfl, rfl⟩
          case t3 =>
            rintro o2 Γ2 ⟨rfl, rfl⟩
            exact ro_nil ⟨rfl, _, .cons (.cons (.cons (.cons (.cons (.drop .nil))))), own1 ⟨_, rfl⟩, rfl⟩
        case kd =>
          rintro Γ' rfl
          rw [List.length_map, List.length_range]
          obtain ⟨b, hb⟩ : ∃ b, bestF row found x i = b := ⟨_, rfl⟩
          rw [hb] at hsucc ⊢
          walk_at "rtidy"
          refine' ro_app (x := Str.ofString "found") (i := 1) (d := hD (b.1 + 1, b.2)) (ds := found.map hD) (by decide) rfl ?z1 rfl ?z2 ?z3 rfl (Or.inl rfl)
          case z1 =>
            refine' pd_tup (pad_cons (pd_bin (dx := nD b.1) (dy := .int 1) (pd_ix (dx := hD b) (dy := .int 0) ?y1 ?y2 (id_tup rfl)) pd_int od_add) (pad_cons (pd_ix (dx := hD b) (dy := .int 1) ?y3 ?y4 (id_tup rfl)) pad_nil)) (Nat.le_of_ble_eq_true rfl)
            case y1 => walk_at "ev"
            case y2 => walk_at "ev"
            case y3 => walk_at "ev"
            case y4 => walk_at "ev"
          case z2 => rw [List.length_map, hll]; omega
          case z3 =>
            walk_at "rtidy"
            refine ro_nil ⟨rfl, _, .cons (.cons (.drop (.drop (.drop (.drop .nil))))), own1 ⟨_, rfl⟩, ?_⟩
            rw [hsucc, List.map_append] <;> rfl
        case klf =>
          rintro i' Γ' rfl d hd1 hd2
          match i', hd2 with
          | 0, hd2 => cases hd2; exact lf_row _
          | 1, hd2 => exact absurd (by decide) hd1
          | 2, hd2 => cases hd2; rfl
          | 3, hd2 => cases hd2; rfl
          | 4, hd2 => cases hd2; rfl
          | 5, hd2 => cases hd2
          | k + 6, hd2 => cases hd2
    case hd =>
      rintro Γ' rfl
      rw [List.length_map, List.length_range]
      exact ro_retO (x := Str.ofString "found") (i := 1) (by decide) rfl rfl rfl (Or.inl rfl)
    case hlf2 =>
      rintro i' Γ' rfl d hd1 hd2
      match i', hd2 with
      | 0, hd2 => cases hd2; exact lf_row _
      | 1, hd2 => exact absurd (by decide) hd1
      | 2, hd2 => cases hd2
      | 3, hd2 => cases hd2
      | 4, hd2 => cases hd2
      | 5, hd2 => cases hd2
      | k + 6, hd2 => cases hd2
def upF (xs : List Nat) : List Nat := xs.map fun x => xs.length - 1 - x
def invF (xs : List Nat) : List Nat := (List.range xs.length).map fun k => xs.idxOf k
theorem upF_len (xs : List Nat) : (upF xs).length = xs.length := List.length_map _
theorem invF_len (xs : List Nat) : (invF xs).length = xs.length := by
  unfold invF
  rw [List.length_map, List.length_range]
theorem isR_rev {xs : List Nat} (h : IsR xs) : IsR xs.reverse := by
  unfold IsR
  rw [List.length_reverse]
  exact (List.reverse_perm xs).trans h
theorem isR_up {xs : List Nat} (h : IsR xs) : IsR (upF xs) := by
  refine isR_of (nd_map h.nd fun x hx y hy e => ?_) fun x hx => ?_
  · have h1 := h.lt hx
    have h2 := h.lt hy
    omega
  · rw [upF_len]
    unfold upF at hx
    obtain ⟨y, hy, rfl⟩ := List.mem_map.mp hx
    have := h.lt hy
    omega
theorem idx_lt {xs : List Nat} (h : IsR xs) {k : Nat} (hk : k < xs.length) : xs.idxOf k < xs.length := List.idxOf_lt_length_iff.mpr (h.mem hk)
theorem gd_idx {xs : List Nat} (h : IsR xs) {k : Nat} (hk : k < xs.length) : xs.getD (xs.idxOf k) 0 = k := by
  rw [gd (idx_lt h hk)]
  exact List.getElem_idxOf _
theorem idx_gd {xs : List Nat} (h : IsR xs) {a : Nat} (ha : a < xs.length) : xs.idxOf (xs.getD a 0) = a := by
  rw [gd ha]
  exact List.Nodup.idxOf_getElem h.nd a ha
theorem inv_gd {xs : List Nat} {k : Nat} (hk : k < xs.length) : (invF xs).getD k 0 = xs.idxOf k := by
  unfold invF
  rw [gd_map (by rw [List.length_range]; exact hk), gd (by rw [List.length_range]; exact hk), List.getElem_range]
theorem isR_inv {xs : List Nat} (h : IsR xs) : IsR (invF xs) := by
  refine isR_of (nd_map List.nodup_range fun x hx y hy e => ?_) fun x hx => ?_
  · have h1 := List.mem_range.mp hx
    have h2 := List.mem_range.mp hy
    rw [← gd_idx h h1, e, gd_idx h h2]
  · rw [invF_len]
    unfold invF at hx
    obtain ⟨y, hy, rfl⟩ := List.mem_map.mp hx
    exact idx_lt h (List.mem_range.mp hy)
theorem up_up {xs : List Nat} (h : IsR xs) : upF (upF xs) = xs := by
  refine gd_ext (by rw [upF_len, upF_len]) fun a ha => ?_
  have h1 : (upF (upF xs)).getD a 0 = (upF xs).length - 1 - (upF xs).getD a 0 := gd_map (by rw [upF_len]; exact ha)
  have h2 : (upF xs).getD a 0 = xs.length - 1 - xs.getD a 0 := gd_map ha
  have h3 := h.lt (gd_mem ha)
  rw [h1, h2, upF_len]
  omega
theorem inv_inv {xs : List Nat} (h : IsR xs) : invF (invF xs) = xs := by
  refine gd_ext (by rw [invF_len, invF_len]) fun a ha => ?_
  have ha' : a < (invF xs).length := by rw [invF_len]; exact ha
  rw [inv_gd ha']
  have h1 := h.lt (gd_mem ha)
  have e : (invF xs).getD (xs.getD a 0) 0 = a := by rw [inv_gd h1, idx_gd h ha]
  have h2 := idx_gd (isR_inv h) (a := xs.getD a 0) (by rw [invF_len]; exact h1)
  rw [e] at h2
  exact h2
theorem Occ.rev {row pat ps : List Nat} (o : Occ row pat ps) : Occ row.reverse pat.reverse (ps.map fun p => row.length - 1 - p).reverse := by
  have hl := o.len
  have g1 : ∀ a, a < pat.length → ((ps.map fun p => row.length - 1 - p).reverse).getD a 0 = row.length - 1 - ps.getD (pat.length - 1 - a) 0 := fun a ha => by
    rw [gd_rev (by rw [List.length_map]; omega), gd_map (by rw [List.length_map]; omega), List.length_map, hl]
  have g2 : ∀ a, a < pat.length → row.reverse.getD (row.length - 1 - ps.getD a 0) 0 = row.getD (ps.getD a 0) 0 := fun a ha => by
    have h1 := o.lt _ (gd_mem (xs := ps) (a := a) (by omega))
    rw [gd_rev (by omega)]
    congr 1
    omega
  refine ⟨?_, fun p hp => ?_, by simp [hl], fun a b ha hb => ?_⟩
  · rw [List.pairwise_reverse, List.pairwise_map]
    refine List.Pairwise.imp_of_mem (fun {a b} ha hb hab => ?_) o.up
    have h1 := o.lt _ ha
    have h2 := o.lt _ hb
    omega
  · rw [List.mem_reverse] at hp
    obtain ⟨q, hq, rfl⟩ := List.mem_map.mp hp
    have := o.lt _ hq
    rw [List.length_reverse]
    omega
  · rw [List.length_reverse] at ha hb
    rw [g1 a ha, g1 b hb, g2 _ (by omega), g2 _ (by omega), gd_rev ha, gd_rev hb]
    exact o.iso _ _ (by omega) (by omega)
theorem Occ.upside {row pat ps : List Nat} (hr : IsR row) (hp : IsR pat) (o : Occ row pat ps) : Occ (upF row) (upF pat) ps := by
  have hl := o.len
  refine ⟨o.up, fun p hp => by rw [upF_len]; exact o.lt p hp, by rw [upF_len]; exact hl, fun a b ha hb => ?_⟩
  rw [upF_len] at ha hb
  have h1 := o.lt _ (gd_mem (xs := ps) (a := a) (by omega))
  have h2 := o.lt _ (gd_mem (xs := ps) (a := b) (by omega))
  have e1 : (upF row).getD (ps.getD a 0) 0 = row.length - 1 - row.getD (ps.getD a 0) 0 := gd_map h1
  have e2 : (upF row).getD (ps.getD b 0) 0 = row.length - 1 - row.getD (ps.getD b 0) 0 := gd_map h2
  have e3 : (upF pat).getD a 0 = pat.length - 1 - pat.getD a 0 := gd_map ha
  have e4 : (upF pat).getD b 0 = pat.length - 1 - pat.getD b 0 := gd_map hb
  rw [e1, e2, e3, e4]
  have k1 := hr.lt (gd_mem h1)
  have k2 := hr.lt (gd_mem h2)
  have k3 := hp.lt (gd_mem ha)
  have k4 := hp.lt (gd_mem hb)
  have := o.iso b a hb ha
  omega
theorem Occ.inverse {row pat ps : List Nat} (hr : IsR row) (hp : IsR pat) (o : Occ row pat ps) : Occ (invF row) (invF pat) ((List.range pat.length).map fun a => row.getD (ps.getD (pat.idxOf a) 0) 0) := by
  have hl := o.len
  have g : ∀ a, a < pat.length → ((List.range pat.length).map fun a => row.getD (ps.getD (pat.idxOf a) 0) 0).getD a 0 = row.getD (ps.getD (pat.idxOf a) 0) 0 := fun a ha => by
    rw [gd_map (by rw [List.length_range]; exact ha), gd (xs := List.range pat.length) (by rw [List.length_range]; exact ha), List.getElem_range]
  have hps : ∀ a, a < pat.length → ps.getD (pat.idxOf a) 0 < row.length := fun a ha => o.lt _ (gd_mem (by have := idx_lt hp ha; omega))
  refine ⟨up_of_gd fun a b hab hb => ?_, fun p hp' => ?_, by rw [List.length_map, List.length_range, invF_len], fun a b ha hb => ?_⟩
  · rw [List.length_map, List.length_range] at hb
    rw [g a (by omega), g b hb]
    refine (o.iso _ _ (idx_lt hp (by omega)) (idx_lt hp hb)).mpr ?_
    rw [gd_idx hp (by omega), gd_idx hp hb]
    exact hab
  · obtain ⟨a, ha, rfl⟩ := List.mem_map.mp hp'
    rw [invF_len]
    exact hr.lt (gd_mem (hps a (List.mem_range.mp ha)))
  · rw [invF_len] at ha hb
    rw [g a ha, g b hb, inv_gd (hr.lt (gd_mem (hps a ha))), inv_gd (hr.lt (gd_mem (hps b hb))), idx_gd hr (hps a ha), idx_gd hr (hps b hb), inv_gd ha, inv_gd hb]
    exact up_gd o.up (by have := idx_lt hp ha; omega) (by have := idx_lt hp hb; omega)
/-- a turn that keeps rows, patterns, and is its own back -/
theorem turn_same {T : List Nat → List Nat} (h1 : ∀ xs, IsR xs → IsR (T xs)) (h2 : ∀ xs, IsR xs → T (T xs) = xs) (h3 : ∀ row pat ps, IsR row → IsR pat → Occ row pat ps → ∃ qs, Occ (T row) (T pat) qs) {row pat : List Nat} (hr : IsR row) (hp : IsR pat) :
    isNo (optD (standsF (T row) (T pat))) = isNo (optD (standsF row pat)) := by
  have e : ∀ o : Option (List Nat), isNo (optD o) = decide (o = none) := fun o => by cases o <;> rfl
  rw [e, e]
  refine decide_eq_decide.mpr ?_
  rw [stands_none (h1 _ hr).nd (h1 _ hp), stands_none hr.nd hp]
  refine ⟨fun h ps o => ?_, fun h ps o => ?_⟩
  · obtain ⟨qs, q⟩ := h3 _ _ _ hr hp o
    exact h qs q
  · obtain ⟨qs, q⟩ := h3 _ _ _ (h1 _ hr) (h1 _ hp) o
    rw [h2 _ hr, h2 _ hp] at q
    exact h qs q
theorem rev_same {row pat : List Nat} (hr : IsR row) (hp : IsR pat) : isNo (optD (standsF row.reverse pat.reverse)) = isNo (optD (standsF row pat)) :=
  turn_same (T := List.reverse) (fun _ h => isR_rev h) (fun _ _ => List.reverse_reverse _) (fun _ _ _ _ _ o => ⟨_, o.rev⟩) hr hp
theorem upside_same {row pat : List Nat} (hr : IsR row) (hp : IsR pat) : isNo (optD (standsF (upF row) (upF pat))) = isNo (optD (standsF row pat)) :=
  turn_same (fun _ h => isR_up h) (fun _ h => up_up h) (fun _ _ _ h1 h2 o => ⟨_, o.upside h1 h2⟩) hr hp
theorem inv_same {row pat : List Nat} (hr : IsR row) (hp : IsR pat) : isNo (optD (standsF (invF row) (invF pat))) = isNo (optD (standsF row pat)) :=
  turn_same (fun _ h => isR_inv h) (fun _ h => inv_inv h) (fun _ _ _ h1 h2 o => ⟨_, o.inverse h1 h2⟩) hr hp
theorem best_spec (row : List Nat) (found : List (Nat × Int)) (x : Nat) : ∀ p, (bestF row found x p = (0, -1) ∨ ∃ o, o < p ∧ x < row.getD o 0 ∧ bestF row found x p = ((found.getD o (0, -1)).1, (o : Int))) ∧ ∀ o, o < p → x < row.getD o 0 → (found.getD o (0, -1)).1 ≤ (bestF row found x p).1
  | 0 => ⟨.inl rfl, fun o h => absurd h (by omega)⟩
  | p + 1 => by
    obtain ⟨h1, h2⟩ := best_spec row found x p
    rw [bestF_succ]
    obtain ⟨b, hb⟩ : ∃ b, bestF row found x p = b := ⟨_, rfl⟩
    rw [hb] at h1 h2 ⊢
    unfold bStep
    by_cases hc : x < row.getD p 0 ∧ b.1 < (found.getD p (0, -1)).1
    · rw [if_pos hc]
      refine ⟨.inr ⟨p, by omega, hc.1, rfl⟩, fun o ho hx => ?_⟩
      by_cases e : o = p
      · subst e; exact Nat.le_refl _
      · have := h2 o (by omega) hx
        show _ ≤ (found.getD p (0, -1)).1
        omega
    · rw [if_neg hc]
      refine ⟨?_, fun o ho hx => ?_⟩
      · rcases h1 with q | ⟨o, q1, q2, q3⟩
        · exact .inl q
        · exact .inr ⟨o, by omega, q2, q3⟩
      · by_cases e : o = p
        · subst e
          refine Nat.le_of_not_lt fun q => hc ⟨hx, q⟩
        · exact h2 o (by omega) hx
theorem h_spec (row : List Nat) (p : Nat) : 1 ≤ (hAt row p).1 ∧ (((hAt row p).2 = -1 ∧ (hAt row p).1 = 1) ∨ ∃ o, o < p ∧ row.getD p 0 < row.getD o 0 ∧ (hAt row p).2 = (o : Int) ∧ (hAt row p).1 = (hAt row o).1 + 1) ∧ ∀ o, o < p → row.getD p 0 < row.getD o 0 → (hAt row o).1 < (hAt row p).1 := by
  have e : hAt row p = ((bestF row (hList row p) (row.getD p 0) p).1 + 1, (bestF row (hList row p) (row.getD p 0) p).2) := by
    unfold hAt
    rw [hList, List.getD_eq_getElem?_getD, List.getElem?_append_right (by rw [hList_len]; exact Nat.le_refl _), hList_len, Nat.sub_self] <;> rfl
  obtain ⟨h1, h2⟩ := best_spec row (hList row p) (row.getD p 0) p
  obtain ⟨b, hb⟩ : ∃ b, bestF row (hList row p) (row.getD p 0) p = b := ⟨_, rfl⟩
  rw [hb] at h1 h2 e
  rw [e]
  refine ⟨by show 1 ≤ b.1 + 1; omega, ?_, fun o ho hx => ?_⟩
  · rcases h1 with q | ⟨o, q1, q2, q3⟩
    · subst q
      exact .inl ⟨rfl, rfl⟩
    · rw [hList_at row q1] at q3
      subst q3
      exact .inr ⟨o, q1, q2, rfl, rfl⟩
  · have := h2 o ho hx
    rw [hList_at row ho] at this
    show (hAt row o).1 < b.1 + 1
    omega
theorem h_le {row : List Nat} {p : Nat} (h : p < row.length) : (hAt row p).1 ≤ mostF row := (fold_max_ge _ 0).2 _ (List.mem_map.mpr ⟨p, List.mem_range.mpr h, rfl⟩)
theorem h_most {row : List Nat} (h : 0 < mostF row) : ∃ p, p < row.length ∧ (hAt row p).1 = mostF row := by
  rcases fold_max_mem ((List.range row.length).map fun p => (hAt row p).1) 0 with q | q
  · have : mostF row = 0 := q
    omega
  · obtain ⟨p, hp, e⟩ := List.mem_map.mp q
    exact ⟨p, List.mem_range.mp hp, e⟩
theorem h_all {row : List Nat} : ∀ (d k : Nat), k + d + 1 = mostF row → ∃ p, p < row.length ∧ (hAt row p).1 = k + 1
  | 0, k, h => by
    obtain ⟨p, hp, e⟩ := h_most (row := row) (by omega)
    exact ⟨p, hp, by omega⟩
  | d + 1, k, h => by
    obtain ⟨p, hp, e⟩ := h_all (row := row) d (k + 1) (by omega)
    rcases (h_spec row p).2.1 with q | ⟨o, q1, q2, q3, q4⟩
    · omega
    · exact ⟨o, by omega, by omega⟩
theorem part_good (row : List Nat) (k : Nat) : (partF row k).Pairwise (· < ·) ∧ (∀ p ∈ partF row k, p < row.length) := by
  refine ⟨List.Pairwise.filter _ List.pairwise_lt_range, fun p hp => List.mem_range.mp (List.mem_filter.mp hp).1⟩
theorem part_ne {row : List Nat} {k : Nat} (h : k < mostF row) : partF row k ≠ [] := by
  obtain ⟨p, hp, e⟩ := h_all (row := row) (mostF row - k - 1) k (by omega)
  exact List.ne_nil_of_mem (List.mem_filter.mpr ⟨List.mem_range.mpr hp, decide_eq_true e⟩)
/-- the numbers at some places rise, or fall -/
def Goes (row ps : List Nat) (up : Bool) : Prop := ps.Pairwise fun a b => if up = true then row.getD a 0 < row.getD b 0 else row.getD b 0 < row.getD a 0
theorem part_up {row : List Nat} (hn : row.Nodup) (k : Nat) : Goes row (partF row k) true := by
  refine List.Pairwise.imp_of_mem (fun {a b} ha hb hab => ?_) (part_good row k).1
  show row.getD a 0 < row.getD b 0
  have h1 := of_decide_eq_true (List.mem_filter.mp ha).2
  have h2 := of_decide_eq_true (List.mem_filter.mp hb).2
  have h3 := (h_spec row b).2.2 a hab
  have h4 := (part_good row k).2 a ha
  have h5 := (part_good row k).2 b hb
  have hne : row.getD a 0 ≠ row.getD b 0 := fun e => by
    have := gd_inj hn h4 h5 e
    omega
  rcases Nat.lt_or_ge (row.getD b 0) (row.getD a 0) with q | q
  · have := h3 q
    omega
  · omega
theorem parts_perm (row : List Nat) : (partsF row).flatten.Perm (List.range row.length) := by
  refine (List.perm_ext_iff_of_nodup ?_ List.nodup_range).mpr fun p => ⟨fun hp => ?_, fun hp => ?_⟩
  · unfold partsF
    rw [List.Nodup, List.pairwise_flatten]
    refine ⟨fun l hl => ?_, ?_⟩
    · obtain ⟨k, _, rfl⟩ := List.mem_map.mp hl
      exact List.Pairwise.filter _ List.nodup_range
    · rw [List.pairwise_map]
      refine List.pairwise_lt_range.imp fun {a b} hab x hx y hy e => ?_
      subst e
      have h1 := of_decide_eq_true (List.mem_filter.mp hx).2
      have h2 := of_decide_eq_true (List.mem_filter.mp hy).2
      omega
  · obtain ⟨l, hl, hpl⟩ := List.mem_flatten.mp hp
    obtain ⟨k, _, rfl⟩ := List.mem_map.mp hl
    exact (List.mem_filter.mp hpl).1
  · have hp' := List.mem_range.mp hp
    have h1 := h_le hp'
    have h2 := (h_spec row p).1
    refine List.mem_flatten.mpr ⟨partF row ((hAt row p).1 - 1), List.mem_map.mpr ⟨_, List.mem_range.mpr (by omega), rfl⟩, List.mem_filter.mpr ⟨hp, decide_eq_true (by omega)⟩⟩
theorem climb_ok (row : List Nat) : ∀ (f p : Nat) (ps : List Nat), p < f → p < row.length → (p :: ps).Pairwise (· < ·) → (∀ q ∈ ps, q < row.length) → Goes row (p :: ps) false →
    (climb row f (p :: ps)).Pairwise (· < ·) ∧ (∀ q ∈ climb row f (p :: ps), q < row.length) ∧ Goes row (climb row f (p :: ps)) false ∧ (climb row f (p :: ps)).length = (hAt row p).1 + ps.length
  | 0, p, ps, h, _, _, _, _ => absurd h (by omega)
  | f + 1, p, ps, h, hp, hu, hl, hg => by
    rw [climb]
    rcases (h_spec row p).2.1 with ⟨q1, q2⟩ | ⟨o, q1, q2, q3, q4⟩
    · rw [if_neg (by omega)]
      refine ⟨hu, fun q hq => ?_, hg, by rw [List.length_cons, q2]; omega⟩
      rcases List.mem_cons.mp hq with e | e
      · subst e; exact hp
      · exact hl q e
    · have e : (hAt row p).2.toNat = o := by rw [q3]; rfl
      rw [if_pos (by omega), e]
      have hu2 := List.pairwise_cons.mp hu
      have hg2 := List.pairwise_cons.mp hg
      obtain ⟨a, b, c, d⟩ := climb_ok row f o (p :: ps) (by omega) (by omega) (List.pairwise_cons.mpr ⟨fun q hq => by
        rcases List.mem_cons.mp hq with e | e
        · subst e; exact q1
        · have := hu2.1 q e
          omega, hu⟩) (fun q hq => by
        rcases List.mem_cons.mp hq with e | e
        · subst e; exact hp
        · exact hl q e) (List.pairwise_cons.mpr ⟨fun q hq => by
        show row.getD q 0 < row.getD o 0
        rcases List.mem_cons.mp hq with e | e
        · subst e; exact q2
        · have : row.getD q 0 < row.getD p 0 := hg2.1 q e
          omega, hg⟩)
      refine ⟨a, b, c, ?_⟩
      rw [d, List.length_cons]
      omega
theorem long_ok (row : List Nat) : (longF row).Pairwise (· < ·) ∧ (∀ q ∈ longF row, q < row.length) ∧ Goes row (longF row) false ∧ (longF row).length = mostF row := by
  unfold longF
  cases e : (List.range row.length).filter fun p => decide ((hAt row p).1 = mostF row) with
  | nil =>
    have hm : mostF row = 0 := by
      rcases Nat.eq_zero_or_pos (mostF row) with q | q
      · exact q
      · obtain ⟨p, hp, e2⟩ := h_most q
        have : p ∈ ([] : List Nat) := by
          rw [← e]
          exact List.mem_filter.mpr ⟨List.mem_range.mpr hp, decide_eq_true e2⟩
        cases this
    have hc : ∀ f, climb row f [] = [] := fun f => by cases f <;> rfl
    rw [List.take_nil, hc, hm]
    exact ⟨.nil, (fun q hq => nomatch hq), .nil, rfl⟩
  | cons p ps =>
    have hp : p ∈ (List.range row.length).filter fun p => decide ((hAt row p).1 = mostF row) := by rw [e]; simp
    have h1 := List.mem_range.mp (List.mem_filter.mp hp).1
    have h2 := of_decide_eq_true (List.mem_filter.mp hp).2
    obtain ⟨a, b, c, d⟩ := climb_ok row row.length p [] h1 h1 (by simp) (fun q hq => nomatch hq) (by unfold Goes; simp)
    exact ⟨a, b, c, by rw [show List.take 1 (p :: ps) = [p] from rfl, d, h2] <;> rfl⟩
theorem goes_flip {row ps : List Nat} {b : Bool} (hr : IsR row) (hl : ∀ p ∈ ps, p < row.length) (h : Goes (upF row) ps b) : Goes row ps (!b) := by
  refine List.Pairwise.imp_of_mem (fun {p q} hp hq hpq => ?_) h
  have e1 : (upF row).getD p 0 = row.length - 1 - row.getD p 0 := gd_map (hl p hp)
  have e2 : (upF row).getD q 0 = row.length - 1 - row.getD q 0 := gd_map (hl q hq)
  have h1 := hr.lt (gd_mem (hl p hp))
  have h2 := hr.lt (gd_mem (hl q hq))
  rw [e1, e2] at hpq
  cases b with
  | true =>
    show row.getD q 0 < row.getD p 0
    have : row.length - 1 - row.getD p 0 < row.length - 1 - row.getD q 0 := hpq
    omega
  | false =>
    show row.getD p 0 < row.getD q 0
    have : row.length - 1 - row.getD q 0 < row.length - 1 - row.getD p 0 := hpq
    omega
/-- both lengths multiplied -/
theorem most_mul {row : List Nat} (hr : IsR row) : row.length ≤ mostF row * mostF (upF row) := by
  obtain ⟨M, hM⟩ : ∃ M, mostF (upF row) = M := ⟨_, rfl⟩
  have hb : ∀ p, p < row.length → (hAt row p).1 - 1 < mostF row ∧ (hAt (upF row) p).1 - 1 < M := fun p hp => by
    have h1 := h_le hp
    have h2 := h_le (row := upF row) (p := p) (by rw [upF_len]; exact hp)
    have h3 := (h_spec row p).1
    have h4 := (h_spec (upF row) p).1
    omega
  have key : ∀ p q, p < q → q < row.length → ¬ ((hAt row p).1 = (hAt row q).1 ∧ (hAt (upF row) p).1 = (hAt (upF row) q).1) := fun p q hpq hq ⟨e1, e2⟩ => by
    have hne : row.getD p 0 ≠ row.getD q 0 := fun e => by
      have := gd_inj hr.nd (by omega) hq e
      omega
    rcases Nat.lt_or_ge (row.getD q 0) (row.getD p 0) with z | z
    · have := (h_spec row q).2.2 p hpq z
      omega
    · have u1 : (upF row).getD p 0 = row.length - 1 - row.getD p 0 := gd_map (by omega)
      have u2 : (upF row).getD q 0 = row.length - 1 - row.getD q 0 := gd_map hq
      have h1 := hr.lt (gd_mem (xs := row) (a := p) (by omega))
      have h2 := hr.lt (gd_mem hq)
      have := (h_spec (upF row) q).2.2 p hpq (by rw [u1, u2]; omega)
      omega
  have hnd : ((List.range row.length).map fun p => ((hAt row p).1 - 1) * M + ((hAt (upF row) p).1 - 1)).Nodup := by
    refine nd_map List.nodup_range fun p hp q hq e => ?_
    have hp' := List.mem_range.mp hp
    have hq' := List.mem_range.mp hq
    obtain ⟨b1, b2⟩ := hb p hp'
    obtain ⟨b3, b4⟩ := hb q hq'
    have hMp : 0 < M := by omega
    have d1 : (((hAt row p).1 - 1) * M + ((hAt (upF row) p).1 - 1)) / M = (hAt row p).1 - 1 := by
      rw [Nat.mul_comm, Nat.mul_add_div hMp, Nat.div_eq_of_lt b2, Nat.add_zero]
    have d2 : (((hAt row q).1 - 1) * M + ((hAt (upF row) q).1 - 1)) / M = (hAt row q).1 - 1 := by
      rw [Nat.mul_comm, Nat.mul_add_div hMp, Nat.div_eq_of_lt b4, Nat.add_zero]
    have e' : ((hAt row p).1 - 1) * M + ((hAt (upF row) p).1 - 1) = ((hAt row q).1 - 1) * M + ((hAt (upF row) q).1 - 1) := e
    have e1 : (hAt row p).1 - 1 = (hAt row q).1 - 1 := by rw [← d1, ← d2, e']
    rw [e1] at e'
    have s1 := (h_spec row p).1
    have s2 := (h_spec row q).1
    have s3 := (h_spec (upF row) p).1
    have s4 := (h_spec (upF row) q).1
    rcases Nat.lt_trichotomy p q with z | z | z
    · exact absurd ⟨by omega, by omega⟩ (key p q z hq')
    · exact z
    · exact absurd ⟨by omega, by omega⟩ (key q p z hp')
  have hle := nd_le (mostF row * M) _ hnd fun x hx => by
    obtain ⟨p, hp, rfl⟩ := List.mem_map.mp hx
    obtain ⟨b1, b2⟩ := hb p (List.mem_range.mp hp)
    have h1 : ((hAt row p).1 - 1 + 1) * M ≤ mostF row * M := Nat.mul_le_mul_right M b1
    rw [Nat.add_mul, Nat.one_mul] at h1
    omega
  rw [List.length_map, List.length_range] at hle
  rw [hM]
  exact hle
abbrev s_rising_parts : Stmt := topS 9
abbrev p_rising_parts : List Str := ["row"]
abbrev n_rising_parts : List Str := ["row", "found", "most", "height", "ahead", "place", "k"]
theorem sc_rising_parts : FnScope n_rising_parts p_rising_parts (defScope s_rising_parts) := ⟨rfl, rfl, rfl, by decide +kernel, rfl, by decide +kernel, by decide +kernel⟩
local macro_rules | `(tactic| walk_at "slot") => `(tactic| first

  | ((with_reducible refine' pd_var (x := Str.ofString "row") (i := 0) ?hN ?hΓ ?hv ?hd ?hcd); (case hN => rfl); (case hΓ => rfl); (case hv => walk_at "vis"); (case hd => decide); (case hcd => decide))
  | ((with_reducible refine' pd_var (x := Str.ofString "found") (i := 1) ?hN ?hΓ ?hv ?hd ?hcd); (case hN => rfl); (case hΓ => rfl); (case hv => walk_at "vis"); (case hd => decide); (case hcd => decide))
  | ((with_reducible refine' pd_var (x := Str.ofString "most") (i := 2) ?hN ?hΓ ?hv ?hd ?hcd); (case hN => rfl); (case hΓ => rfl); (case hv => walk_at "vis"); (case hd => decide); (case hcd => decide))
  | ((with_reducible refine' pd_var (x := Str.ofString "height") (i := 3) ?hN ?hΓ ?hv ?hd ?hcd); (case hN => rfl); (case hΓ => rfl); (case hv => walk_at "vis"); (case hd => decide); (case hcd => decide))
  | ((with_reducible refine' pd_var (x := Str.ofString "ahead") (i := 4) ?hN ?hΓ ?hv ?hd ?hcd); (case hN => rfl); (case hΓ => rfl); (case hv => walk_at "vis"); (case hd => decide); (case hcd => decide))
  | ((with_reducible refine' pd_var (x := Str.ofString "place") (i := 5) ?hN ?hΓ ?hv ?hd ?hcd); (case hN => rfl); (case hΓ => rfl); (case hv => walk_at "vis"); (case hd => decide); (case hcd => decide))
  | ((with_reducible refine' pd_var (x := Str.ofString "k") (i := 6) ?hN ?hΓ ?hv ?hd ?hcd); (case hN => rfl); (case hΓ => rfl); (case hv => walk_at "vis"); (case hd => decide); (case hcd => decide)))
local macro_rules | `(tactic| walk_at "asg") => `(tactic| first
  | (with_reducible refine' rb_asg (x := Str.ofString "row") (i := 0) ?he ?hr ?hN ?hi ?hx ?hs ?hf)
  | (with_reducible refine' rb_asg (x := Str.ofString "found") (i := 1) ?he ?hr ?hN ?hi ?hx ?hs ?hf)
  | (with_reducible refine' rb_asg (x := Str.ofString "most") (i := 2) ?he ?hr ?hN ?hi ?hx ?hs ?hf)
  | (with_reducible refine' rb_asg (x := Str.ofString "height") (i := 3) ?he ?hr ?hN ?hi ?hx ?hs ?hf)
  | (with_reducible refine' rb_asg (x := Str.ofString "ahead") (i := 4) ?he ?hr ?hN ?hi ?hx ?hs ?hf)
  | (with_reducible refine' rb_asg (x := Str.ofString "place") (i := 5) ?he ?hr ?hN ?hi ?hx ?hs ?hf)
  | (with_reducible refine' rb_asg (x := Str.ofString "k") (i := 6) ?he ?hr ?hN ?hi ?hx ?hs ?hf))
local macro_rules | `(tactic| walk_at "rasg") => `(tactic| first
  | (with_reducible refine' ro_asgS (x := Str.ofString "row") (i := 0) ?he ?hl ?hr ?ho ?hN ?hi ?hx ?hs ?hf)
  | (with_reducible refine' ro_asgS (x := Str.ofString "found") (i := 1) ?he ?hl ?hr ?ho ?hN ?hi ?hx ?hs ?hf)
  | (with_reducible refine' ro_asgS (x := Str.ofString "most") (i := 2) ?he ?hl ?hr ?ho ?hN ?hi ?hx ?hs ?hf)
  | (with_reducible refine' ro_asgS (x := Str.ofString "height") (i := 3) ?he ?hl ?hr ?ho ?hN ?hi ?hx ?hs ?hf)
  | (with_reducible refine' ro_asgS (x := Str.ofString "ahead") (i := 4) ?he ?hl ?hr ?ho ?hN ?hi ?hx ?hs ?hf)
  | (with_reducible refine' ro_asgS (x := Str.ofString "place") (i := 5) ?he ?hl ?hr ?ho ?hN ?hi ?hx ?hs ?hf)
  | (with_reducible refine' ro_asgS (x := Str.ofString "k") (i := 6) ?he ?hl ?hr ?ho ?hN ?hi ?hx ?hs ?hf))
local macro_rules | `(tactic| walk_at "rasgL") => `(tactic| first
  | (with_reducible refine' ro_asgL (x := Str.ofString "row") (i := 0) _ ?he ?hl ?hr ?hlt ?ho ?ho2 ?hio ?hN ?hi ?hx ?hs ?hf)
  | (with_reducible refine' ro_asgL (x := Str.ofString "found") (i := 1) _ ?he ?hl ?hr ?hlt ?ho ?ho2 ?hio ?hN ?hi ?hx ?hs ?hf)
  | (with_reducible refine' ro_asgL (x := Str.ofString "most") (i := 2) _ ?he ?hl ?hr ?hlt ?ho ?ho2 ?hio ?hN ?hi ?hx ?hs ?hf)
  | (with_reducible refine' ro_asgL (x := Str.ofString "height") (i := 3) _ ?he ?hl ?hr ?hlt ?ho ?ho2 ?hio ?hN ?hi ?hx ?hs ?hf)
  | (with_reducible refine' ro_asgL (x := Str.ofString "ahead") (i := 4) _ ?he ?hl ?hr ?hlt ?ho ?ho2 ?hio ?hN ?hi ?hx ?hs ?hf)
  | (with_reducible refine' ro_asgL (x := Str.ofString "place") (i := 5) _ ?he ?hl ?hr ?hlt ?ho ?ho2 ?hio ?hN ?hi ?hx ?hs ?hf)
  | (with_reducible refine' ro_asgL (x := Str.ofString "k") (i := 6) _ ?he ?hl ?hr ?hlt ?ho ?ho2 ?hio ?hN ?hi ?hx ?hs ?hf))
local macro_rules | `(tactic| walk_at "rifasg") => `(tactic| first
  | (with_reducible refine' ro_ifI (x := Str.ofString "row") (i := 0) ?hc ?he ?h0 ?hr ?hio ?hN ?hi ?hx ?hs ?hf)
  | (with_reducible refine' ro_ifI (x := Str.ofString "found") (i := 1) ?hc ?he ?h0 ?hr ?hio ?hN ?hi ?hx ?hs ?hf)
  | (with_reducible refine' ro_ifI (x := Str.ofString "most") (i := 2) ?hc ?he ?h0 ?hr ?hio ?hN ?hi ?hx ?hs ?hf)
  | (with_reducible refine' ro_ifI (x := Str.ofString "height") (i := 3) ?hc ?he ?h0 ?hr ?hio ?hN ?hi ?hx ?hs ?hf)
  | (with_reducible refine' ro_ifI (x := Str.ofString "ahead") (i := 4) ?hc ?he ?h0 ?hr ?hio ?hN ?hi ?hx ?hs ?hf)
  | (with_reducible refine' ro_ifI (x := Str.ofString "place") (i := 5) ?hc ?he ?h0 ?hr ?hio ?hN ?hi ?hx ?hs ?hf)
  | (with_reducible refine' ro_ifI (x := Str.ofString "k") (i := 6) ?hc ?he ?h0 ?hr ?hio ?hN ?hi ?hx ?hs ?hf))
local macro_rules | `(tactic| walk_at "rtidy") => `(tactic| (show RO _ _ _ [_, _, _, _, _, _, _] _ _))
local macro_rules | `(tactic| walk_at "blk") => `(tactic| ((show blkC n_rising_parts (defScope s_rising_parts) _ _ = true); decide +kernel))
local macro_rules | `(tactic| walk_at "tidy") => `(tactic| (show RB _ _ [_, _, _, _, _, _, _] _ _))
local macro_rules | `(tactic| walk_at "ifasg") => `(tactic| first
  | (with_reducible refine' rb_ifI (x := Str.ofString "row") (i := 0) ?hc ?he ?h0 ?hr ?hN ?hi ?hx ?hs ?hf)
  | (with_reducible refine' rb_ifI (x := Str.ofString "found") (i := 1) ?hc ?he ?h0 ?hr ?hN ?hi ?hx ?hs ?hf)
  | (with_reducible refine' rb_ifI (x := Str.ofString "most") (i := 2) ?hc ?he ?h0 ?hr ?hN ?hi ?hx ?hs ?hf)
  | (with_reducible refine' rb_ifI (x := Str.ofString "height") (i := 3) ?hc ?he ?h0 ?hr ?hN ?hi ?hx ?hs ?hf)
  | (with_reducible refine' rb_ifI (x := Str.ofString "ahead") (i := 4) ?hc ?he ?h0 ?hr ?hN ?hi ?hx ?hs ?hf)
  | (with_reducible refine' rb_ifI (x := Str.ofString "place") (i := 5) ?hc ?he ?h0 ?hr ?hN ?hi ?hx ?hs ?hf)
  | (with_reducible refine' rb_ifI (x := Str.ofString "k") (i := 6) ?hc ?he ?h0 ?hr ?hN ?hi ?hx ?hs ?hf))
def R_rising_parts : Rel := fun ds r => ∃ row : List Nat, ds = [rowD row] ∧ row.length ≤ 1000 ∧ r = .tuple ((partsF row).map rowD)
theorem R_rising_parts_i {row : List Nat} (h : row.length ≤ 1000) : R_rising_parts [.tuple (row.map nD)] (.tuple ((partsF row).map rowD)) := ⟨row, rfl, h, rfl⟩
local macro_rules | `(tactic| walk_at "R") => `(tactic| exact R_rising_parts_i (by walk_at "size"))
theorem h_get {row : List Nat} {p : Nat} (h : p < row.length) : atI ((hList row row.length).map hD) (p : Int) = some (hD (hAt row p)) := by
  rw [← hList_at row h]
  exact h_at (by rw [hList_len]; exact h)
theorem hList_all (row : List Nat) : hList row row.length = (List.range row.length).map (hAt row) := by
  refine List.ext_getElem (by rw [hList_len, List.length_map, List.length_range]) fun i h1 h2 => ?_
  rw [hList_len] at h1
  have h3 := hList_at row h1
  rw [List.getD_eq_getElem?_getD, List.getElem?_eq_getElem (by rw [hList_len]; exact h1)] at h3
  rw [List.getElem_map, List.getElem_range]
  exact h3
theorem most_or (row : List Nat) : maxOr 0 ((hList row row.length).map fun h => (h.1 : Int)) = (mostF row : Int) := by
  have e : (hList row row.length).map (fun h => (h.1 : Int)) = ((List.range row.length).map fun p => (hAt row p).1).map fun n : Nat => (n : Int) := by
    rw [hList_all, List.map_map, List.map_map] <;> rfl
  rw [e]
  unfold mostF
  cases (List.range row.length).map fun p => (hAt row p).1 with
  | nil => rfl
  | cons x xs =>
    show (xs.map fun n : Nat => (n : Int)).foldl max (x : Int) = ((xs.foldl max (max 0 x) : Nat) : Int)
    rw [fold_cast, Nat.zero_max]
theorem most_le (row : List Nat) : mostF row ≤ row.length := by
  rcases Nat.eq_zero_or_pos (mostF row) with q | q
  · omega
  · have h := (long_ok row).2.2.2
    have hu := (long_ok row).1
    have hl := (long_ok row).2.1
    have := nd_le row.length (longF row) (hu.imp fun h => Nat.ne_of_lt h) hl
    omega
section
variable {X : Cx} {pos p1 p2 tpos : Pos} {kk : Nat}
theorem pg_two {x y : Str} {j k : Nat} (hc : X.calm = true) (hN : X.N.Nodup) (hj : X.N[j]? = some x) (hx : Loc X.env.scope x) (hf : X.fn x = true ∨ X.env.scope.names.lookup x = some .local) (hk : X.N[k]? = some y) (hy : Loc X.env.scope y) (hf2 : X.fn y = true ∨ X.env.scope.names.lookup y = some .local)
    (ha1 : (assignEach [.Name x p1, .Name y p2] X.env).map (·.2) = assign (.Name x p1) X.env :: (assignEach [.Name y p2] X.env).map (·.2)) (ha2 : (assignEach [.Name y p2] X.env).map (·.2) = assign (.Name y p2) X.env :: (assignEach [] X.env).map (·.2))
    (hn2 : (assignEach [.Name x p1, .Name y p2] X.env).length = 2) (hst : (assignEach [.Name x p1, .Name y p2] X.env).findIdx? (·.1) = none) : PG X (.Tuple [.Name x p1, .Name y p2] kk tpos) (gTup X.K 2 (gCons (gName j) (gCons (gName k) gNil))) :=
  pg_tup hc (pgs_cons (pg_name (i := j) hN hj hx hf) (pgs_cons (pg_name (i := k) hN hk hy hf2) pgs_nil ha2) ha1) hn2 hst
end
theorem ok_rising_parts (D : Dn K mg "rising_parts" s_rising_parts p_rising_parts) (B : Bl mg) (D1 : DfL P w K mg base "heights" 1 p_heights R_heights) : Df P w K mg base "rising_parts" 2 p_rising_parts R_rising_parts := by
  refine D.ok sc_rising_parts (fun ds r ⟨n, e, _⟩ => by rw [e] <;> rfl) fun f cdv A outer s H E hr ds r h => ?_
  obtain ⟨row, rfl, hl, rfl⟩ := h
  have nd := sc_rising_parts.nd
  have hml := most_le row
  walk_at "open"
  refine' rb_asg (x := Str.ofString "found") (i := 1) (d := .list ((hList row row.length).map hD)) (PDL.pd (pdl_call (ds := [rowD row]) D1 (Room.mono hr (by decide)) rfl ?a1 ⟨row, rfl, hl, rfl⟩)) ?a2 nd rfl (by walk_at "loc") rfl (by walk_at "loc")
  case a1 => walk_at "args"
  case a2 =>
    walk_at "tidy"
    refine' rb_asg (x := Str.ofString "most") (i := 2) (d := nD (mostF row)) ?b1 ?b2 nd rfl (by walk_at "loc") rfl (by walk_at "loc")
    case b1 =>
      refine' PD.is (pd_maxDef (ns := (hList row row.length).map fun h => (h.1 : Int)) (d := 0) rfl (Room.units (by assumption)) rfl B.max (PDL.pd ?c1) ?c2 rfl rfl rfl rfl rfl rfl) ?c3
      case c1 =>
        rw [List.map_map]
        refine' pdl_lc2 (j := 3) (k := 4) (fun h : Nat × Int => nD h.1) (fun h => PyData.int h.2) (PyData.int ∘ fun h : Nat × Int => (h.1 : Int)) (hList row row.length) ?hi ?hz ?hlf (by decide) ?he ?hc ?hN ?ok ?hg ?hs
        case hi => exact pid_list (by walk_at "ev")
        case hz => rw [hList_len]; omega
        case hlf => intro a ha; rfl
        case he =>
          intro s H C cl fp a ha
          show PD _ _ _ (nD a.1)
          walk_at "ev"
        case hc => rfl
        case hN => assumption
        case ok => walk_at "blk"
        case hg =>
          intro s H C cl fp
          refine' pg_two rfl nd rfl ?g1 ?g2 rfl ?g3 ?g4 rfl rfl rfl rfl
          case g1 => walk_at "loc"
          case g2 => walk_at "loc"
          case g3 => walk_at "loc"
          case g4 => walk_at "loc"
        case hs => intro _; rfl
      case c2 => walk_at "ev"
      case c3 => rw [most_or]
    case b2 =>
      walk_at "tidy"
      refine' rb_ret ?d1 ?d2
      case d1 =>
        walk_at "tup"
        case hl =>
          refine' pdl_lc (j := 6) nD (fun k => rowD (partF row k)) (List.range (mostF row)) ?hi ?hz ?hlf ?he ?hc ?hN ?ok ?hg ?hs
          walk_at "lc2"
          case hi =>
            refine' pid_range1 ?e1 rfl B.range (by omega)
            case e1 => walk_at "ev"
          case hz => rw [List.length_range]; omega
          case hlf => intro a ha; exact lf_row _
          case he =>
            intro s H C cl fp k hk
            walk_at "tup"
            case hl =>
              refine' pdl_lcF (j := 5) nD nD (fun p => decide ((hAt row p).1 = k + 1)) (List.range row.length) ?hi2 ?hz2 ?hlf2 ?ht2 ?he2 ?hc2 ?hN2 ?ok2 ?hg2 ?hs2
              case hc2 => rfl
              case hN2 => assumption
              case ok2 => kernel_rfl
              case hg2 => (intro s H C cl fp; first | exact pg_name (by assumption) rfl (Or.inl rfl) | exact pg_name (by assumption) rfl (Or.inr rfl))
              case hs2 => intro _; rfl
              case hi2 =>
                refine' pid_range1 ?f1 rfl B.range (by omega)
                case f1 =>
                  refine' PD.is ?f2 ?f3
                  case f2 => walk_at "ev"
                  case f3 => rw [List.length_map]
              case hz2 => rw [List.length_range]; omega
              case hlf2 => intro a ha; rfl
              case ht2 =>
                intro s H C cl fp p hp
                have hp' := List.mem_range.mp hp
                refine' PTD.is (ptd_cmp (dx := nD (hAt row p).1) (dy := .int ((k : Int) + 1)) (pd_ix (dx := hD (hAt row p)) (dy := .int 0) (pd_ix (dx := .list ((hList row row.length).map hD)) (dy := nD p) ?i1 ?i2 (id_list (h_get hp'))) ?i3 (id_tup rfl)) ?i4 od_eqI (by walk_at "mark")) ?i5
                case i1 => walk_at "ev"
                case i2 => walk_at "ev"
                case i3 => walk_at "ev"
                case i4 => walk_at "ev"
                case i5 => exact decide_eq_decide.mpr (by omega)
              case he2 =>
                intro s H C cl fp p hp hk
                walk_at "ev"
      case d2 =>
        unfold partsF
        rw [List.map_map] <;> rfl
abbrev s_longest_falling : Stmt := topS 10
abbrev p_longest_falling : List Str := ["row"]
abbrev n_longest_falling : List Str := ["row", "found", "most", "height", "ahead", "places", "place"]
theorem sc_longest_falling : FnScope n_longest_falling p_longest_falling (defScope s_longest_falling) := ⟨rfl, rfl, rfl, by decide +kernel, rfl, by decide +kernel, by decide +kernel⟩
local macro_rules | `(tactic| walk_at "slot") => `(tactic| first

  | ((with_reducible refine' pd_var (x := Str.ofString "row") (i := 0) ?hN ?hΓ ?hv ?hd ?hcd); (case hN => rfl); (case hΓ => rfl); (case hv => walk_at "vis"); (case hd => decide); (case hcd => decide))
  | ((with_reducible refine' pd_var (x := Str.ofString "found") (i := 1) ?hN ?hΓ ?hv ?hd ?hcd); (case hN => rfl); (case hΓ => rfl); (case hv => walk_at "vis"); (case hd => decide); (case hcd => decide))
  | ((with_reducible refine' pd_var (x := Str.ofString "most") (i := 2) ?hN ?hΓ ?hv ?hd ?hcd); (case hN => rfl); (case hΓ => rfl); (case hv => walk_at "vis"); (case hd => decide); (case hcd => decide))
  | ((with_reducible refine' pd_var (x := Str.ofString "height") (i := 3) ?hN ?hΓ ?hv ?hd ?hcd); (case hN => rfl); (case hΓ => rfl); (case hv => walk_at "vis"); (case hd => decide); (case hcd => decide))
  | ((with_reducible refine' pd_var (x := Str.ofString "ahead") (i := 4) ?hN ?hΓ ?hv ?hd ?hcd); (case hN => rfl); (case hΓ => rfl); (case hv => walk_at "vis"); (case hd => decide); (case hcd => decide))
  | ((with_reducible refine' pd_var (x := Str.ofString "places") (i := 5) ?hN ?hΓ ?hv ?hd ?hcd); (case hN => rfl); (case hΓ => rfl); (case hv => walk_at "vis"); (case hd => decide); (case hcd => decide))
  | ((with_reducible refine' pd_var (x := Str.ofString "place") (i := 6) ?hN ?hΓ ?hv ?hd ?hcd); (case hN => rfl); (case hΓ => rfl); (case hv => walk_at "vis"); (case hd => decide); (case hcd => decide)))
local macro_rules | `(tactic| walk_at "asg") => `(tactic| first
  | (with_reducible refine' rb_asg (x := Str.ofString "row") (i := 0) ?he ?hr ?hN ?hi ?hx ?hs ?hf)
  | (with_reducible refine' rb_asg (x := Str.ofString "found") (i := 1) ?he ?hr ?hN ?hi ?hx ?hs ?hf)
  | (with_reducible refine' rb_asg (x := Str.ofString "most") (i := 2) ?he ?hr ?hN ?hi ?hx ?hs ?hf)
  | (with_reducible refine' rb_asg (x := Str.ofString "height") (i := 3) ?he ?hr ?hN ?hi ?hx ?hs ?hf)
  | (with_reducible refine' rb_asg (x := Str.ofString "ahead") (i := 4) ?he ?hr ?hN ?hi ?hx ?hs ?hf)
  | (with_reducible refine' rb_asg (x := Str.ofString "places") (i := 5) ?he ?hr ?hN ?hi ?hx ?hs ?hf)
  | (with_reducible refine' rb_asg (x := Str.ofString "place") (i := 6) ?he ?hr ?hN ?hi ?hx ?hs ?hf))
local macro_rules | `(tactic| walk_at "rasg") => `(tactic| first
  | (with_reducible refine' ro_asgS (x := Str.ofString "row") (i := 0) ?he ?hl ?hr ?ho ?hN ?hi ?hx ?hs ?hf)
  | (with_reducible refine' ro_asgS (x := Str.ofString "found") (i := 1) ?he ?hl ?hr ?ho ?hN ?hi ?hx ?hs ?hf)
  | (with_reducible refine' ro_asgS (x := Str.ofString "most") (i := 2) ?he ?hl ?hr ?ho ?hN ?hi ?hx ?hs ?hf)
  | (with_reducible refine' ro_asgS (x := Str.ofString "height") (i := 3) ?he ?hl ?hr ?ho ?hN ?hi ?hx ?hs ?hf)
  | (with_reducible refine' ro_asgS (x := Str.ofString "ahead") (i := 4) ?he ?hl ?hr ?ho ?hN ?hi ?hx ?hs ?hf)
  | (with_reducible refine' ro_asgS (x := Str.ofString "places") (i := 5) ?he ?hl ?hr ?ho ?hN ?hi ?hx ?hs ?hf)
  | (with_reducible refine' ro_asgS (x := Str.ofString "place") (i := 6) ?he ?hl ?hr ?ho ?hN ?hi ?hx ?hs ?hf))
local macro_rules | `(tactic| walk_at "rasgL") => `(tactic| first
  | (with_reducible refine' ro_asgL (x := Str.ofString "row") (i := 0) _ ?he ?hl ?hr ?hlt ?ho ?ho2 ?hio ?hN ?hi ?hx ?hs ?hf)
  | (with_reducible refine' ro_asgL (x := Str.ofString "found") (i := 1) _ ?he ?hl ?hr ?hlt ?ho ?ho2 ?hio ?hN ?hi ?hx ?hs ?hf)
  | (with_reducible refine' ro_asgL (x := Str.ofString "most") (i := 2) _ ?he ?hl ?hr ?hlt ?ho ?ho2 ?hio ?hN ?hi ?hx ?hs ?hf)
  | (with_reducible refine' ro_asgL (x := Str.ofString "height") (i := 3) _ ?he ?hl ?hr ?hlt ?ho ?ho2 ?hio ?hN ?hi ?hx ?hs ?hf)
  | (with_reducible refine' ro_asgL (x := Str.ofString "ahead") (i := 4) _ ?he ?hl ?hr ?hlt ?ho ?ho2 ?hio ?hN ?hi ?hx ?hs ?hf)
  | (with_reducible refine' ro_asgL (x := Str.ofString "places") (i := 5) _ ?he ?hl ?hr ?hlt ?ho ?ho2 ?hio ?hN ?hi ?hx ?hs ?hf)
  | (with_reducible refine' ro_asgL (x := Str.ofString "place") (i := 6) _ ?he ?hl ?hr ?hlt ?ho ?ho2 ?hio ?hN ?hi ?hx ?hs ?hf))
local macro_rules | `(tactic| walk_at "rifasg") => `(tactic| first
  | (with_reducible refine' ro_ifI (x := Str.ofString "row") (i := 0) ?hc ?he ?h0 ?hr ?hio ?hN ?hi ?hx ?hs ?hf)
  | (with_reducible refine' ro_ifI (x := Str.ofString "found") (i := 1) ?hc ?he ?h0 ?hr ?hio ?hN ?hi ?hx ?hs ?hf)
  | (with_reducible refine' ro_ifI (x := Str.ofString "most") (i := 2) ?hc ?he ?h0 ?hr ?hio ?hN ?hi ?hx ?hs ?hf)
  | (with_reducible refine' ro_ifI (x := Str.ofString "height") (i := 3) ?hc ?he ?h0 ?hr ?hio ?hN ?hi ?hx ?hs ?hf)
  | (with_reducible refine' ro_ifI (x := Str.ofString "ahead") (i := 4) ?hc ?he ?h0 ?hr ?hio ?hN ?hi ?hx ?hs ?hf)
  | (with_reducible refine' ro_ifI (x := Str.ofString "places") (i := 5) ?hc ?he ?h0 ?hr ?hio ?hN ?hi ?hx ?hs ?hf)
  | (with_reducible refine' ro_ifI (x := Str.ofString "place") (i := 6) ?hc ?he ?h0 ?hr ?hio ?hN ?hi ?hx ?hs ?hf))
local macro_rules | `(tactic| walk_at "rtidy") => `(tactic| (show RO _ _ _ [_, _, _, _, _, _, _] _ _))
local macro_rules | `(tactic| walk_at "blk") => `(tactic| ((show blkC n_longest_falling (defScope s_longest_falling) _ _ = true); decide +kernel))
local macro_rules | `(tactic| walk_at "tidy") => `(tactic| (show RB _ _ [_, _, _, _, _, _, _] _ _))
local macro_rules | `(tactic| walk_at "ifasg") => `(tactic| first
  | (with_reducible refine' rb_ifI (x := Str.ofString "row") (i := 0) ?hc ?he ?h0 ?hr ?hN ?hi ?hx ?hs ?hf)
  | (with_reducible refine' rb_ifI (x := Str.ofString "found") (i := 1) ?hc ?he ?h0 ?hr ?hN ?hi ?hx ?hs ?hf)
  | (with_reducible refine' rb_ifI (x := Str.ofString "most") (i := 2) ?hc ?he ?h0 ?hr ?hN ?hi ?hx ?hs ?hf)
  | (with_reducible refine' rb_ifI (x := Str.ofString "height") (i := 3) ?hc ?he ?h0 ?hr ?hN ?hi ?hx ?hs ?hf)
  | (with_reducible refine' rb_ifI (x := Str.ofString "ahead") (i := 4) ?hc ?he ?h0 ?hr ?hN ?hi ?hx ?hs ?hf)
  | (with_reducible refine' rb_ifI (x := Str.ofString "places") (i := 5) ?hc ?he ?h0 ?hr ?hN ?hi ?hx ?hs ?hf)
  | (with_reducible refine' rb_ifI (x := Str.ofString "place") (i := 6) ?hc ?he ?h0 ?hr ?hN ?hi ?hx ?hs ?hf))
def R_longest_falling : Rel := fun ds r => ∃ row : List Nat, ds = [rowD row] ∧ row.length ≤ 1000 ∧ r = rowD (longF row)
theorem R_longest_falling_i {row : List Nat} (h : row.length ≤ 1000) : R_longest_falling [.tuple (row.map nD)] (rowD (longF row)) := ⟨row, rfl, h, rfl⟩
local macro_rules | `(tactic| walk_at "R") => `(tactic| exact R_longest_falling_i (by walk_at "size"))
theorem ok_longest_falling (D : Dn K mg "longest_falling" s_longest_falling p_longest_falling) (B : Bl mg) (D1 : DfL P w K mg base "heights" 1 p_heights R_heights) : Df P w K mg base "longest_falling" 2 p_longest_falling R_longest_falling := by
  refine D.ok sc_longest_falling (fun ds r ⟨n, e, _⟩ => by rw [e] <;> rfl) fun f cdv A outer s H E hr ds r h => ?_
  obtain ⟨row, rfl, hl, rfl⟩ := h
  have nd := sc_longest_falling.nd
  have hml := most_le row
  walk_at "open"
  refine' rb_asg (x := Str.ofString "found") (i := 1) (d := .list ((hList row row.length).map hD)) (PDL.pd (pdl_call (ds := [rowD row]) D1 (Room.mono hr (by decide)) rfl ?a1 ⟨row, rfl, hl, rfl⟩)) ?a2 nd rfl (by walk_at "loc") rfl (by walk_at "loc")
  case a1 => walk_at "args"
  case a2 =>
    walk_at "tidy"
    refine' rb_asg (x := Str.ofString "most") (i := 2) (d := nD (mostF row)) ?b1 ?b2 nd rfl (by walk_at "loc") rfl (by walk_at "loc")
    case b1 =>
      refine' PD.is (pd_maxDef (ns := (hList row row.length).map fun h => (h.1 : Int)) (d := 0) rfl (Room.units (by assumption)) rfl B.max (PDL.pd ?c1) ?c2 rfl rfl rfl rfl rfl rfl) ?c3
      case c1 =>
        rw [List.map_map]
        refine' pdl_lc2 (j := 3) (k := 4) (fun h : Nat × Int => nD h.1) (fun h => PyData.int h.2) (PyData.int ∘ fun h : Nat × Int => (h.1 : Int)) (hList row row.length) ?hi ?hz ?hlf (by decide) ?he ?hc ?hN ?ok ?hg ?hs
        case hi => exact pid_list (by walk_at "ev")
        case hz => rw [hList_len]; omega
        case hlf => intro a ha; rfl
        case he =>
          intro s H C cl fp a ha
          show PD _ _ _ (nD a.1)
          walk_at "ev"
        case hc => rfl
        case hN => assumption
        case ok => walk_at "blk"
        case hg =>
          intro s H C cl fp
          refine' pg_two rfl nd rfl ?g1 ?g2 rfl ?g3 ?g4 rfl rfl rfl rfl
          case g1 => walk_at "loc"
          case g2 => walk_at "loc"
          case g3 => walk_at "loc"
          case g4 => walk_at "loc"
        case hs => intro _; rfl
      case c2 => walk_at "ev"
      case c3 => rw [most_or]
    case b2 =>
      walk_at "tidy"
      refine' rb_asg (x := Str.ofString "places") (i := 5) (d := lstD (((List.range row.length).filter fun p => decide ((hAt row p).1 = mostF row)).take 1)) ?d1 ?d2 nd rfl (by walk_at "loc") rfl (by walk_at "loc")
      case d1 =>
        refine' PD.is (PDL.pd (pdl_slTo (ds := ((List.range row.length).filter fun p => decide ((hAt row p).1 = mostF row)).map nD) (i := 1) (PDL.pd ?e1) ?e2 (by decide))) ?e3
        case e1 =>
          refine' pdl_lcF (j := 6) nD nD (fun p => decide ((hAt row p).1 = mostF row)) (List.range row.length) ?hi2 ?hz2 ?hlf2 ?ht2 ?he2 ?hc2 ?hN2 ?ok2 ?hg2 ?hs2
          case hc2 => rfl
          case hN2 => assumption
          case ok2 => walk_at "blk"
          case hg2 => (intro s H C cl fp; first | exact pg_name (by assumption) rfl (Or.inl rfl) | exact pg_name (by assumption) rfl (Or.inr rfl))
          case hs2 => intro _; rfl
          case hi2 =>
            refine' pid_range1 ?f1 rfl B.range (by omega)
            case f1 =>
              refine' PD.is ?f2 ?f3
              case f2 => walk_at "ev"
              case f3 => rw [List.length_map]
          case hz2 => rw [List.length_range]; omega
          case hlf2 => intro a ha; rfl
          case ht2 =>
            intro s H C cl fp p hp
            have hp' := List.mem_range.mp hp
            refine' PTD.is (ptd_cmp (dx := nD (hAt row p).1) (dy := nD (mostF row)) (pd_ix (dx := hD (hAt row p)) (dy := .int 0) (pd_ix (dx := .list ((hList row row.length).map hD)) (dy := nD p) ?i1 ?i2 (id_list (h_get hp'))) ?i3 (id_tup rfl)) ?i4 od_eqI (by walk_at "mark")) ?i5
            case i1 => walk_at "ev"
            case i2 => walk_at "ev"
            case i3 => walk_at "ev"
            case i4 => walk_at "ev"
            case i5 => exact decide_eq_decide.mpr (by omega)
          case he2 =>
            intro s H C cl fp p hp hk
            walk_at "ev"
        case e2 => walk_at "ev"
        case e3 => rw [← List.map_take] <;> rfl
      case d2 =>
        walk_at "tidy"
        refine' rb_while (fun m Γ => ∃ ps : List Nat, climb row m ps = longF row ∧ (∀ p ∈ ps, p < row.length) ∧ (∀ p, ps.head? = some p → p < m) ∧ ps.length + m ≤ row.length + 1 ∧ Γ = [some (rowD row), some (.list ((hList row row.length).map hD)), some (nD (mostF row)), none, none, some (lstD ps), none]) ?w1 ?w2 PassesOwn.never
        case w1 =>
          refine ⟨row.length, _, Le.refl _, _, rfl, fun p hp => ?_, fun p hp => ?_, ?_, rfl⟩
          · exact List.mem_range.mp (List.mem_filter.mp (List.mem_of_mem_take hp)).1
          · exact List.mem_range.mp (List.mem_filter.mp (List.mem_of_mem_take (List.mem_of_mem_head? hp))).1
          · rw [List.length_take]; omega
        case w2 =>
          rintro m Γ' ⟨ps, hcl, hps, hhd, hsz, rfl⟩
          cases ps with
          | nil =>
            refine ⟨false, ?_, (fun h => by cases h), fun _ => ?_⟩
            · refine' PTD.is (ptd_bool (pwd_and (k := false) (j := false) ?u1 fun h => by cases h)) rfl
              case u1 =>
                refine' PTD.is ?u2 ?u3
                case u2 => walk_at "test"
                case u3 => rfl
            · have e : longF row = [] := by
                rw [← hcl]
                cases m <;> rfl
              rw [e]
              refine' rb_ret ?u4 rfl
              case u4 => walk_at "ev"
          | cons p ps =>
            have hpm := hhd p rfl
            have hp := hps p (by simp)
            obtain ⟨m', rfl⟩ : ∃ m', m = m' + 1 := ⟨m - 1, by omega⟩
            rw [climb] at hcl
            have hv : PD (bx P w K mg base n_longest_falling "longest_falling" (defScope s_longest_falling) f cdv A outer s H E) (.Subscript (.Subscript (.Name "found" ⟨0, 0, 0, 0⟩) (.Subscript (.Name "places" ⟨0, 0, 0, 0⟩) (.Constant (.int 0) 0 ⟨0, 0, 0, 0⟩) ⟨0, 0, 0, 0⟩) ⟨0, 0, 0, 0⟩) (.Constant (.int 1) 0 ⟨0, 0, 0, 0⟩) ⟨0, 0, 0, 0⟩) [some (rowD row), some (.list ((hList row row.length).map hD)), some (nD (mostF row)), none, none, some (lstD (p :: ps)), none] (.int (hAt row p).2) := by
              refine' pd_ix (dx := hD (hAt row p)) (dy := .int 1) (pd_ix (dx := .list ((hList row row.length).map hD)) (dy := nD p) ?i1 (pd_ix (dx := lstD (p :: ps)) (dy := .int 0) ?i2 ?i3 (id_list (atI_nat (j := 0) rfl))) (id_list (h_get hp))) ?i4 (id_tup rfl)
              case i1 => walk_at "ev"
              case i2 => walk_at "ev"
              case i3 => walk_at "ev"
              case i4 => walk_at "ev"
            refine ⟨decide (0 ≤ (hAt row p).2), ?_, fun hk => ?_, fun hk => ?_⟩
            · refine' PTD.is (ptd_bool (pwd_and (k := true) (j := decide (0 ≤ (hAt row p).2)) ?u1 fun _ => pwd_and1 ?u4)) (Bool.true_and _)
              case u1 =>
                refine' PTD.is ?u2 ?u3
                case u2 => walk_at "test"
                case u3 => simp
              case u4 =>
                refine' ptd_cmp (dx := .int (hAt row p).2) (dy := .int 0) (pd_ix (dx := hD (hAt row p)) (dy := .int 1) (pd_ix (dx := .list ((hList row row.length).map hD)) (dy := nD p) ?i1 (pd_ix (dx := lstD (p :: ps)) (dy := .int 0) ?i2 ?i3 (id_list (atI_nat (j := 0) rfl))) (id_list (h_get hp))) ?i4 (id_tup rfl)) pd_int od_ge (by walk_at "mark")
                case i1 => walk_at "ev"
                case i2 => walk_at "ev"
                case i3 => walk_at "ev"
                case i4 => walk_at "ev"
            · have hk' := of_decide_eq_true hk
              rw [if_pos hk'] at hcl
              have hlt : (hAt row p).2.toNat < p := by
                rcases (h_spec row p).2.1 with ⟨q1, q2⟩ | ⟨o, q1, q2, q3, q4⟩
                · omega
                · omega
              have hnn : (((hAt row p).2.toNat : Nat) : Int) = (hAt row p).2 := by omega
              rw [List.length_cons] at hsz
              refine' rb_asg (x := Str.ofString "places") (i := 5) (d := lstD ((hAt row p).2.toNat :: p :: ps)) ?v1 ?v2 nd rfl (by walk_at "loc") rfl (by walk_at "loc")
              case v1 =>
                refine' PD.is (pd_bin (dx := .list [.int (hAt row p).2]) (dy := lstD (p :: ps)) (PDL.pd (pdl_lst (pad_cons (pd_ix (dx := hD (hAt row p)) (dy := .int 1) (pd_ix (dx := .list ((hList row row.length).map hD)) (dy := nD p) ?i1 (pd_ix (dx := lstD (p :: ps)) (dy := .int 0) ?i2 ?i3 (id_list (atI_nat (j := 0) rfl))) (id_list (h_get hp))) ?i4 (id_tup rfl)) pad_nil) (Nat.le_of_ble_eq_true rfl))) ?v3 (odl_cat ?v4).od) ?v5
                case i1 => walk_at "ev"
                case i2 => walk_at "ev"
                case i3 => walk_at "ev"
                case i4 => walk_at "ev"
                case v3 => walk_at "ev"
                case v4 => simp only [List.length_map, List.length_cons, List.length_nil]; omega
                case v5 =>
                  show PyData.list (PyData.int (hAt row p).2 :: (p :: ps).map nD) = PyData.list (nD (hAt row p).2.toNat :: (p :: ps).map nD)
                  rw [show nD (hAt row p).2.toNat = PyData.int (hAt row p).2 from congrArg PyData.int hnn]
              case v2 =>
                refine rb_nil ⟨m', _, Nat.lt_succ_self _, Le.refl _, _, hcl, fun q hq => ?_, fun q hq => ?_, ?_, rfl⟩
                · rcases List.mem_cons.mp hq with e | e
                  · omega
                  · exact hps q e
                · have e : (hAt row p).2.toNat = q := Option.some.inj hq
                  omega
                · simp only [List.length_cons]
                  omega
            · have hk' := of_decide_eq_false hk
              rw [if_neg hk'] at hcl
              rw [← hcl]
              refine' rb_ret ?u4 rfl
              case u4 => walk_at "ev"
def stM (st : List Nat × List Nat × List Nat) (b : Bool) : Option (List Nat × List Nat × List Nat) :=
  if b = true then (match st.1 with
    | [] => none
    | x :: l => some (l, x :: st.2.1, st.2.2))
  else (match st.2.1 with
    | [] => none
    | x :: s => some (st.1, s, st.2.2 ++ [x]))
def runM : List Bool → List Nat × List Nat × List Nat → Option (List Nat × List Nat × List Nat)
  | [], st => some st
  | b :: ms, st => (stM st b).bind (runM ms)
theorem runM_app : ∀ (a b : List Bool) (st : List Nat × List Nat × List Nat), runM (a ++ b) st = (runM a st).bind (runM b)
  | [], _, _ => rfl
  | c :: a, b, st => by
    show (stM st c).bind (runM (a ++ b)) = ((stM st c).bind (runM a)).bind (runM b)
    cases stM st c with
    | none => rfl
    | some st' => exact runM_app a b st'
theorem stM_len {st st' : List Nat × List Nat × List Nat} {b : Bool} (h : stM st b = some st') : st'.1.length + st'.2.1.length + st'.2.2.length = st.1.length + st.2.1.length + st.2.2.length := by
  obtain ⟨l, s, t⟩ := st
  unfold stM at h
  cases b with
  | true =>
    cases l with
    | nil => cases h
    | cons x l =>
      injection h with h
      subst h
      simp only [List.length_cons]
      omega
  | false =>
    cases s with
    | nil => cases h
    | cons x s =>
      injection h with h
      subst h
      simp only [List.length_cons, List.length_append, List.length_nil]
      omega
theorem runM_len : ∀ {ms : List Bool} {st st' : List Nat × List Nat × List Nat}, runM ms st = some st' → st'.1.length + st'.2.1.length + st'.2.2.length = st.1.length + st.2.1.length + st.2.2.length
  | [], st, st', h => by
    injection h with h
    subst h
    rfl
  | b :: ms, st, st', h => by
    have h' : (stM st b).bind (runM ms) = some st' := h
    cases e : stM st b with
    | none => rw [e] at h'; cases h'
    | some st2 =>
      rw [e] at h'
      exact (runM_len (show runM ms st2 = some st' from h')).trans (stM_len e)
def doneF (row : List Nat) (ms : List Bool) : Option (List Nat) := match runM ms (row, [], []) with
  | none => none
  | some st => if st.2.2.length < row.length then none else some st.2.2
theorem run_take {ms : List Bool} {i : Nat} {b : Bool} (h : ms[i]? = some b) (st : List Nat × List Nat × List Nat) : runM (ms.take (i + 1)) st = (runM (ms.take i) st).bind fun st' => stM st' b := by
  rw [List.take_add_one, h, runM_app]
  congr 1
  funext st'
  show (stM st' b).bind (fun x => some x) = stM st' b
  cases stM st' b <;> rfl
theorem run_none {ms : List Bool} {i : Nat} {b : Bool} {st st' : List Nat × List Nat × List Nat} (h : ms[i]? = some b) (h1 : runM (ms.take i) st = some st') (h2 : stM st' b = none) : runM ms st = none := by
  have e : runM (ms.take (i + 1)) st = none := by
    rw [run_take h, h1]
    exact h2
  have e2 := runM_app (ms.take (i + 1)) (ms.drop (i + 1)) st
  rw [List.take_append_drop, e] at e2
  exact e2
def gStep (S : List Nat × List Bool) (x : Nat) : List Nat × List Bool := (x :: S.1.dropWhile (fun y => decide (y < x)), S.2 ++ List.replicate (S.1.takeWhile fun y => decide (y < x)).length false ++ [true])
def greedyS (xs : List Nat) : List Nat × List Bool := xs.foldl gStep ([], [])
def greedyF (row : List Nat) : List Bool := (greedyS row).2 ++ List.replicate (greedyS row).1.length false
def pStep (S : List Nat × List Nat) (x : Nat) : List Nat × List Nat := (x :: S.1.dropWhile (fun y => decide (y < x)), S.2 ++ S.1.takeWhile fun y => decide (y < x))
def passS (xs : List Nat) : List Nat × List Nat := xs.foldl pStep ([], [])
def passF (row : List Nat) : List Nat := (passS row).2 ++ (passS row).1
theorem tw_dw {p : Nat → Bool} : ∀ s : List Nat, s.take (s.takeWhile p).length = s.takeWhile p ∧ s.drop (s.takeWhile p).length = s.dropWhile p ∧ (s.takeWhile p).length + (s.dropWhile p).length = s.length
  | [] => ⟨rfl, rfl, rfl⟩
  | x :: s => by
    obtain ⟨h1, h2, h3⟩ := tw_dw (p := p) s
    rw [List.takeWhile_cons, List.dropWhile_cons]
    cases p x with
    | true =>
      simp only [if_true, List.length_cons, List.take_succ_cons, List.drop_succ_cons]
      exact ⟨by rw [h1], h2, by omega⟩
    | false =>
      simp only [Bool.false_eq_true, if_false, List.length_nil, List.take_zero, List.drop_zero, List.length_cons]
      exact ⟨trivial, trivial, by omega⟩
theorem gfold_len : ∀ (xs : List Nat) (S : List Nat × List Bool), (xs.foldl gStep S).2.length + (xs.foldl gStep S).1.length = 2 * xs.length + (S.2.length + S.1.length)
  | [], S => by simp
  | x :: xs, S => by
    rw [List.foldl_cons, gfold_len xs]
    have h := (tw_dw (p := fun y => decide (y < x)) S.1).2.2
    show 2 * xs.length + ((S.2 ++ List.replicate (S.1.takeWhile fun y => decide (y < x)).length false ++ [true]).length + (x :: S.1.dropWhile (fun y => decide (y < x))).length) = _
    simp only [List.length_append, List.length_replicate, List.length_cons, List.length_nil]
    omega
theorem greedyS_len (xs : List Nat) : (greedyS xs).2.length + (greedyS xs).1.length = 2 * xs.length := gfold_len xs ([], [])
theorem greedyF_len (xs : List Nat) : (greedyF xs).length = 2 * xs.length := by
  unfold greedyF
  rw [List.length_append, List.length_replicate]
  exact greedyS_len xs
theorem runM_outs : ∀ (k : Nat) (l s t : List Nat), k ≤ s.length → runM (List.replicate k false) (l, s, t) = some (l, s.drop k, t ++ s.take k)
  | 0, l, s, t, _ => by simp [runM]
  | k + 1, l, [], t, h => absurd h (by simp)
  | k + 1, l, x :: s, t, h => by
    rw [List.replicate_succ]
    show runM (List.replicate k false) (l, s, t ++ [x]) = _
    rw [runM_outs k l s (t ++ [x]) (by simpa using h)]
    simp
theorem run_greedy : ∀ (xs post s t : List Nat) (m : List Bool) (st0 : List Nat × List Nat × List Nat), runM m st0 = some (xs ++ post, s, t) →
    runM (xs.foldl gStep (s, m)).2 st0 = some (post, (xs.foldl pStep (s, t)).1, (xs.foldl pStep (s, t)).2) ∧ (xs.foldl gStep (s, m)).1 = (xs.foldl pStep (s, t)).1
  | [], post, s, t, m, st0, h => ⟨h, rfl⟩
  | x :: xs, post, s, t, m, st0, h => by
    rw [List.foldl_cons, List.foldl_cons]
    obtain ⟨h1, h2, h3⟩ := tw_dw (p := fun y => decide (y < x)) s
    refine run_greedy xs post _ _ _ st0 ?_
    show runM (m ++ List.replicate (s.takeWhile fun y => decide (y < x)).length false ++ [true]) st0 = some (xs ++ post, x :: s.dropWhile (fun y => decide (y < x)), t ++ s.takeWhile fun y => decide (y < x))
    rw [List.append_assoc, runM_app, h]
    show runM (List.replicate (s.takeWhile fun y => decide (y < x)).length false ++ [true]) (x :: xs ++ post, s, t) = _
    rw [runM_app, runM_outs _ _ _ _ (by omega), h1, h2] <;> rfl
theorem pfold_perm : ∀ (xs s t : List Nat), ((xs.foldl pStep (s, t)).2 ++ (xs.foldl pStep (s, t)).1).Perm (t ++ s ++ xs)
  | [], s, t => by simp
  | x :: xs, s, t => by
    rw [List.foldl_cons]
    refine (pfold_perm xs _ _).trans ?_
    have e := List.takeWhile_append_dropWhile (p := fun y => decide (y < x)) (l := s)
    have h : (t ++ s.takeWhile (fun y => decide (y < x)) ++ x :: s.dropWhile (fun y => decide (y < x))).Perm (t ++ s ++ [x]) := by
      have h2 : (s.takeWhile (fun y => decide (y < x)) ++ x :: s.dropWhile (fun y => decide (y < x))).Perm (s ++ [x]) := by
        refine List.perm_middle.trans ?_
        rw [e]
        exact (List.perm_append_singleton x s).symm
      rw [List.append_assoc, List.append_assoc]
      exact h2.append_left t
    have h3 := h.append_right xs
    rw [List.append_assoc (t ++ s) [x] xs] at h3
    exact h3
theorem pass_perm (row : List Nat) : (passF row).Perm row := pfold_perm row [] []
theorem done_greedy (row : List Nat) : doneF row (greedyF row) = some (passF row) := by
  obtain ⟨h1, h2⟩ := run_greedy row [] [] [] [] (row, [], []) (by rw [List.append_nil] <;> rfl)
  have hl := (pass_perm row).length_eq
  unfold doneF greedyF
  have e : (greedyS row).1 = (passS row).1 := h2
  have h1' : runM (greedyS row).2 (row, [], []) = some ([], (passS row).1, (passS row).2) := h1
  rw [runM_app, h1', e]
  show (match runM (List.replicate (passS row).1.length false) ([], (passS row).1, (passS row).2) with
    | none => none
    | some st => if st.2.2.length < row.length then none else some st.2.2) = _
  rw [runM_outs _ _ _ _ (Nat.le_refl _), List.take_length]
  show (if (passF row).length < row.length then none else some (passF row)) = _
  rw [if_neg (by omega)]
abbrev s_done_by : Stmt := topS 12
abbrev p_done_by : List Str := ["row", "moves"]
abbrev n_done_by : List Str := ["row", "moves", "left", "stack", "told", "move"]
theorem sc_done_by : FnScope n_done_by p_done_by (defScope s_done_by) := ⟨rfl, rfl, rfl, by decide +kernel, rfl, by decide +kernel, by decide +kernel⟩
local macro_rules | `(tactic| walk_at "slot") => `(tactic| first

  | ((with_reducible refine' pd_var (x := Str.ofString "row") (i := 0) ?hN ?hΓ ?hv ?hd ?hcd); (case hN => rfl); (case hΓ => rfl); (case hv => walk_at "vis"); (case hd => decide); (case hcd => decide))
  | ((with_reducible refine' pd_var (x := Str.ofString "moves") (i := 1) ?hN ?hΓ ?hv ?hd ?hcd); (case hN => rfl); (case hΓ => rfl); (case hv => walk_at "vis"); (case hd => decide); (case hcd => decide))
  | ((with_reducible refine' pd_var (x := Str.ofString "left") (i := 2) ?hN ?hΓ ?hv ?hd ?hcd); (case hN => rfl); (case hΓ => rfl); (case hv => walk_at "vis"); (case hd => decide); (case hcd => decide))
  | ((with_reducible refine' pd_var (x := Str.ofString "stack") (i := 3) ?hN ?hΓ ?hv ?hd ?hcd); (case hN => rfl); (case hΓ => rfl); (case hv => walk_at "vis"); (case hd => decide); (case hcd => decide))
  | ((with_reducible refine' pd_var (x := Str.ofString "told") (i := 4) ?hN ?hΓ ?hv ?hd ?hcd); (case hN => rfl); (case hΓ => rfl); (case hv => walk_at "vis"); (case hd => decide); (case hcd => decide))
  | ((with_reducible refine' pd_var (x := Str.ofString "move") (i := 5) ?hN ?hΓ ?hv ?hd ?hcd); (case hN => rfl); (case hΓ => rfl); (case hv => walk_at "vis"); (case hd => decide); (case hcd => decide)))
local macro_rules | `(tactic| walk_at "asg") => `(tactic| first
  | (with_reducible refine' rb_asg (x := Str.ofString "row") (i := 0) ?he ?hr ?hN ?hi ?hx ?hs ?hf)
  | (with_reducible refine' rb_asg (x := Str.ofString "moves") (i := 1) ?he ?hr ?hN ?hi ?hx ?hs ?hf)
  | (with_reducible refine' rb_asg (x := Str.ofString "left") (i := 2) ?he ?hr ?hN ?hi ?hx ?hs ?hf)
  | (with_reducible refine' rb_asg (x := Str.ofString "stack") (i := 3) ?he ?hr ?hN ?hi ?hx ?hs ?hf)
  | (with_reducible refine' rb_asg (x := Str.ofString "told") (i := 4) ?he ?hr ?hN ?hi ?hx ?hs ?hf)
  | (with_reducible refine' rb_asg (x := Str.ofString "move") (i := 5) ?he ?hr ?hN ?hi ?hx ?hs ?hf))
local macro_rules | `(tactic| walk_at "rasg") => `(tactic| first
  | (with_reducible refine' ro_asgS (x := Str.ofString "row") (i := 0) ?he ?hl ?hr ?ho ?hN ?hi ?hx ?hs ?hf)
  | (with_reducible refine' ro_asgS (x := Str.ofString "moves") (i := 1) ?he ?hl ?hr ?ho ?hN ?hi ?hx ?hs ?hf)
  | (with_reducible refine' ro_asgS (x := Str.ofString "left") (i := 2) ?he ?hl ?hr ?ho ?hN ?hi ?hx ?hs ?hf)
  | (with_reducible refine' ro_asgS (x := Str.ofString "stack") (i := 3) ?he ?hl ?hr ?ho ?hN ?hi ?hx ?hs ?hf)
  | (with_reducible refine' ro_asgS (x := Str.ofString "told") (i := 4) ?he ?hl ?hr ?ho ?hN ?hi ?hx ?hs ?hf)
  | (with_reducible refine' ro_asgS (x := Str.ofString "move") (i := 5) ?he ?hl ?hr ?ho ?hN ?hi ?hx ?hs ?hf))
local macro_rules | `(tactic| walk_at "rasgL") => `(tactic| first
  | (with_reducible refine' ro_asgL (x := Str.ofString "row") (i := 0) _ ?he ?hl ?hr ?hlt ?ho ?ho2 ?hio ?hN ?hi ?hx ?hs ?hf)
  | (with_reducible refine' ro_asgL (x := Str.ofString "moves") (i := 1) _ ?he ?hl ?hr ?hlt ?ho ?ho2 ?hio ?hN ?hi ?hx ?hs ?hf)
  | (with_reducible refine' ro_asgL (x := Str.ofString "left") (i := 2) _ ?he ?hl ?hr ?hlt ?ho ?ho2 ?hio ?hN ?hi ?hx ?hs ?hf)
  | (with_reducible refine' ro_asgL (x := Str.ofString "stack") (i := 3) _ ?he ?hl ?hr ?hlt ?ho ?ho2 ?hio ?hN ?hi ?hx ?hs ?hf)
  | (with_reducible refine' ro_asgL (x := Str.ofString "told") (i := 4) _ ?he ?hl ?hr ?hlt ?ho ?ho2 ?hio ?hN ?hi ?hx ?hs ?hf)
  | (with_reducible refine' ro_asgL (x := Str.ofString "move") (i := 5) _ ?he ?hl ?hr ?hlt ?ho ?ho2 ?hio ?hN ?hi ?hx ?hs ?hf))
local macro_rules | `(tactic| walk_at "rifasg") => `(tactic| first
  | (with_reducible refine' ro_ifI (x := Str.ofString "row") (i := 0) ?hc ?he ?h0 ?hr ?hio ?hN ?hi ?hx ?hs ?hf)
  | (with_reducible refine' ro_ifI (x := Str.ofString "moves") (i := 1) ?hc ?he ?h0 ?hr ?hio ?hN ?hi ?hx ?hs ?hf)
  | (with_reducible refine' ro_ifI (x := Str.ofString "left") (i := 2) ?hc ?he ?h0 ?hr ?hio ?hN ?hi ?hx ?hs ?hf)
  | (with_reducible refine' ro_ifI (x := Str.ofString "stack") (i := 3) ?hc ?he ?h0 ?hr ?hio ?hN ?hi ?hx ?hs ?hf)
  | (with_reducible refine' ro_ifI (x := Str.ofString "told") (i := 4) ?hc ?he ?h0 ?hr ?hio ?hN ?hi ?hx ?hs ?hf)
  | (with_reducible refine' ro_ifI (x := Str.ofString "move") (i := 5) ?hc ?he ?h0 ?hr ?hio ?hN ?hi ?hx ?hs ?hf))
local macro_rules | `(tactic| walk_at "rtidy") => `(tactic| (show RO _ _ _ [_, _, _, _, _, _] _ _))
local macro_rules | `(tactic| walk_at "blk") => `(tactic| ((show blkC n_done_by (defScope s_done_by) _ _ = true); decide +kernel))
local macro_rules | `(tactic| walk_at "tidy") => `(tactic| (show RB _ _ [_, _, _, _, _, _] _ _))
local macro_rules | `(tactic| walk_at "ifasg") => `(tactic| first
  | (with_reducible refine' rb_ifI (x := Str.ofString "row") (i := 0) ?hc ?he ?h0 ?hr ?hN ?hi ?hx ?hs ?hf)
  | (with_reducible refine' rb_ifI (x := Str.ofString "moves") (i := 1) ?hc ?he ?h0 ?hr ?hN ?hi ?hx ?hs ?hf)
  | (with_reducible refine' rb_ifI (x := Str.ofString "left") (i := 2) ?hc ?he ?h0 ?hr ?hN ?hi ?hx ?hs ?hf)
  | (with_reducible refine' rb_ifI (x := Str.ofString "stack") (i := 3) ?hc ?he ?h0 ?hr ?hN ?hi ?hx ?hs ?hf)
  | (with_reducible refine' rb_ifI (x := Str.ofString "told") (i := 4) ?hc ?he ?h0 ?hr ?hN ?hi ?hx ?hs ?hf)
  | (with_reducible refine' rb_ifI (x := Str.ofString "move") (i := 5) ?hc ?he ?h0 ?hr ?hN ?hi ?hx ?hs ?hf))
def R_done_by : Rel := fun ds r => ∃ (row : List Nat) (ms : List Bool), ds = [rowD row, .tuple (ms.map mvD)] ∧ row.length ≤ 1000 ∧ r = optD (doneF row ms)
theorem R_done_by_i {row : List Nat} {ms : List Bool} (h : row.length ≤ 1000) : R_done_by [.tuple (row.map nD), .tuple (ms.map mvD)] (optD (doneF row ms)) := ⟨row, ms, rfl, h, rfl⟩
local macro_rules | `(tactic| walk_at "R") => `(tactic| exact R_done_by_i (by walk_at "size"))
theorem done_none {row : List Nat} {ms : List Bool} (h : runM ms (row, [], []) = none) : doneF row ms = none := by
  unfold doneF
  rw [h]
theorem done_some {row : List Nat} {ms : List Bool} {S : List Nat × List Nat × List Nat} (h : runM ms (row, [], []) = some S) : doneF row ms = if S.2.2.length < row.length then none else some S.2.2 := by
  unfold doneF
  rw [h]
theorem ok_done_by (D : Dn K mg "done_by" s_done_by p_done_by) (B : Bl mg) : Df P w K mg base "done_by" 1 p_done_by R_done_by := by
  refine D.okO sc_done_by (fun ds r ⟨n, m, e, _⟩ => by rw [e] <;> rfl) fun f cdv A outer s H E hr ds r h => ?_
  obtain ⟨row, ms, rfl, hl, rfl⟩ := h
  have nd := sc_done_by.nd
  walk_at "ropen"
  refine' ro_asgL (x := Str.ofString "left") (i := 2) (ds := row.map nD) [2] ?a1 (lfA_row _) ?a3 (Nat.le_of_ble_eq_true rfl) (by decide) (by decide) (by decide) nd rfl (by walk_at "loc") rfl (by walk_at "loc")
  case a1 =>
    refine' pdl_callT (ds := [rowD row]) cdl_listT rfl B.list bb_list (pad_cons ?b1 pad_nil)
    case b1 => walk_at "ev"
  case a3 =>
    walk_at "rtidy"
    refine' ro_asgL (x := Str.ofString "stack") (i := 3) (ds := []) [2, 3] ?a4 rfl ?a5 (Nat.le_of_ble_eq_true rfl) (by decide) (by decide) (by decide) nd rfl (by walk_at "loc") rfl (by walk_at "loc")
    case a4 =>
      refine' pdl_lst ?b1 (by decide)
      case b1 => walk_at "args"
    case a5 =>
      walk_at "rtidy"
      refine' ro_asgL (x := Str.ofString "told") (i := 4) (ds := []) [2, 3, 4] ?a6 rfl ?a7 (Nat.le_of_ble_eq_true rfl) (by decide) (by decide) (by decide) nd rfl (by walk_at "loc") rfl (by walk_at "loc")
      case a6 =>
        refine' pdl_lst ?b1 (by decide)
        case b1 => walk_at "args"
      case a7 =>
        walk_at "rtidy"
        refine' ro_for (j := 5) (ds := ms.map mvD) (fun i Γ => ∃ S : List Nat × List Nat × List Nat, runM (ms.take i) (row, [], []) = some S ∧ Γ = [some (rowD row), some (.tuple (ms.map mvD)), some (lstD S.1), some (.list (S.2.1.reverse.map nD)), some (lstD S.2.2), none]) (pit_tup ?i1 (lfA_mv ms)) (lfA_mv ms) ?hjo ?h0 ?hs ?hd ?hlf2 ?hp ?hc ?hN ?hj ?hx ?hf ?hsi
        walk_at "rfor1"
        case i1 => walk_at "ev"
        case h0 => exact ⟨_, .cons (.cons (.cons (.cons (.cons (.drop .nil))))), own3 ⟨_, rfl⟩ ⟨_, rfl⟩ ⟨_, rfl⟩, (row, [], []), rfl, rfl⟩
        case hs =>
          rintro i d Γ' hd' ⟨⟨l, s0, t⟩, hS, rfl⟩
          obtain ⟨b, hb, rfl⟩ := mapG_at hd'
          have hlen := runM_len hS
          have hlen' : l.length + s0.length + t.length = row.length := by simpa using hlen
          walk_at "rtidy"
          refine' ro_if (k := b && !l.isEmpty) (mid := fun o Γ2 => o = [2, 3, 4] ∧ ∃ S : List Nat × List Nat × List Nat, runM (ms.take (i + 1)) (row, [], []) = some S ∧ Γ2 = [some (rowD row), some (.tuple (ms.map mvD)), some (lstD S.1), some (.list (S.2.1.reverse.map nD)), some (lstD S.2.2), some (mvD b)]) (ptd_bool (pwd_and (k := b) (j := !l.isEmpty) ?c1 fun _ => pwd_and1 ?c2)) ?t1 ?t2 ?r0
          case c1 =>
            refine' PTD.is ?d1 (is_in b)
            case d1 => walk_at "test"
          case c2 =>
            refine' PTD.is ?d1 ?d2
            case d1 => walk_at "test"
            case d2 => rw [len_pos]; cases l <;> rfl
          case r0 =>
            rintro o Γ2 ⟨rfl, S', h', rfl⟩
            exact ro_nil ⟨rfl, _, .cons (.cons (.cons (.cons (.cons (.drop .nil))))), own3 ⟨_, rfl⟩ ⟨_, rfl⟩ ⟨_, rfl⟩, S', h', rfl⟩
          case t1 =>
            intro hk
            rw [Bool.and_eq_true] at hk
            obtain ⟨rfl, hk2⟩ := hk
            cases l with
            | nil => cases hk2
            | cons x l =>
              refine' ro_appPop0 (x := Str.ofString "stack") (y := Str.ofString "left") (i := 3) (j := 2) (d := nD x) (es' := l.map nD) (ds := s0.reverse.map nD) (by decide) (by decide) (by decide) rfl rfl ?e1 ?e2 rfl (Or.inl rfl) rfl (Or.inl rfl)
              case e1 => rw [List.length_map, List.length_reverse]; omega
              case e2 =>
                walk_at "rtidy"
                refine ro_nil ⟨rfl, (l, x :: s0, t), ?_, ?_⟩
                · rw [run_take hb, hS] <;> rfl
                · rw [List.reverse_cons, List.map_append] <;> rfl
          case t2 =>
            intro hk
            refine' ro_if (k := !b && !s0.isEmpty) (mid := fun o Γ2 => o = [2, 3, 4] ∧ ∃ S : List Nat × List Nat × List Nat, runM (ms.take (i + 1)) (row, [], []) = some S ∧ Γ2 = [some (rowD row), some (.tuple (ms.map mvD)), some (lstD S.1), some (.list (S.2.1.reverse.map nD)), some (lstD S.2.2), some (mvD b)]) (ptd_bool (pwd_and (k := !b) (j := !s0.isEmpty) ?c1 fun _ => pwd_and1 ?c2)) ?t3 ?t4 (fun o Γ2 m => ro_nil m)
            case c1 =>
              refine' PTD.is ?d1 (is_out b)
              case d1 => walk_at "test"
            case c2 =>
              refine' PTD.is ?d1 ?d2
              case d1 => walk_at "test"
              case d2 => rw [len_pos]; cases s0 <;> simp
            case t3 =>
              intro hk
              rw [Bool.and_eq_true] at hk
              obtain ⟨hk1, hk2⟩ := hk
              cases b with
              | true => cases hk1
              | false =>
                cases s0 with
                | nil => cases hk2
                | cons x s0 =>
                  refine' ro_appPop (x := Str.ofString "told") (y := Str.ofString "stack") (i := 4) (j := 3) (d := nD x) (es' := s0.reverse.map nD) (ds := t.map nD) (by decide) (by decide) (by decide) rfl ?e0 ?e1 ?e2 rfl (Or.inl rfl) rfl (Or.inl rfl)
                  case e0 =>
                    show some (some (PyData.list ((x :: s0).reverse.map nD))) = _
                    rw [List.reverse_cons, List.map_append] <;> rfl
                  case e1 => rw [List.length_map]; omega
                  case e2 =>
                    walk_at "rtidy"
                    refine ro_nil ⟨rfl, (l, s0, t ++ [x]), ?_, ?_⟩
                    · rw [run_take hb, hS] <;> rfl
                    · show _ = [_, _, _, _, some (PyData.list ((t ++ [x]).map nD)), _]
                      rw [List.map_append] <;> rfl
            case t4 =>
              intro hk2
              refine' ro_ret pd_non rfl ?z1
              case z1 =>
                have h2 : stM (l, s0, t) b = none := by
                  cases b with
                  | true =>
                    cases l with
                    | nil => rfl
                    | cons x l => cases hk
                  | false =>
                    cases s0 with
                    | nil => rfl
                    | cons x s0 => cases hk2
                rw [done_none (run_none hb hS h2)] <;> rfl
        case hd =>
          rintro Γ' ⟨S, hS, rfl⟩
          rw [List.length_map, List.take_length] at hS
          have hdn := done_some hS
          refine' ro_ifr (k := decide (S.2.2.length < row.length)) (PTD.is ?k1 ?k2) ?k3 ?k4
          case k1 => walk_at "test"
          case k2 =>
            rw [List.length_map, List.length_map]
            exact decide_eq_decide.mpr (by omega)
          case k3 =>
            intro hk
            refine' ro_ret pd_non rfl ?z2
            case z2 => rw [hdn, if_pos (of_decide_eq_true hk)] <;> rfl
          case k4 =>
            intro hk
            refine' ro_ret (d := rowD S.2.2) ?z3 (lf_row _) ?z4
            case z3 => walk_at "ev"
            case z4 => rw [hdn, if_neg (of_decide_eq_false hk)] <;> rfl
        case hlf2 =>
          rintro i Γ' ⟨S, hS, rfl⟩ d hd1 hd2
          match i, hd2 with
          | 0, hd2 => cases hd2; exact lf_row _
          | 1, hd2 => cases hd2; exact lfA_mv _
          | 2, hd2 => exact absurd (by decide) hd1
          | 3, hd2 => exact absurd (by decide) hd1
          | 4, hd2 => exact absurd (by decide) hd1
          | 5, hd2 => cases hd2
          | k + 6, hd2 => cases hd2
abbrev s_greedy : Stmt := topS 13
abbrev p_greedy : List Str := ["row"]
abbrev n_greedy : List Str := ["row", "stack", "moves", "number"]
theorem sc_greedy : FnScope n_greedy p_greedy (defScope s_greedy) := ⟨rfl, rfl, rfl, by decide +kernel, rfl, by decide +kernel, by decide +kernel⟩
local macro_rules | `(tactic| walk_at "slot") => `(tactic| first

  | ((with_reducible refine' pd_var (x := Str.ofString "row") (i := 0) ?hN ?hΓ ?hv ?hd ?hcd); (case hN => rfl); (case hΓ => rfl); (case hv => walk_at "vis"); (case hd => decide); (case hcd => decide))
  | ((with_reducible refine' pd_var (x := Str.ofString "stack") (i := 1) ?hN ?hΓ ?hv ?hd ?hcd); (case hN => rfl); (case hΓ => rfl); (case hv => walk_at "vis"); (case hd => decide); (case hcd => decide))
  | ((with_reducible refine' pd_var (x := Str.ofString "moves") (i := 2) ?hN ?hΓ ?hv ?hd ?hcd); (case hN => rfl); (case hΓ => rfl); (case hv => walk_at "vis"); (case hd => decide); (case hcd => decide))
  | ((with_reducible refine' pd_var (x := Str.ofString "number") (i := 3) ?hN ?hΓ ?hv ?hd ?hcd); (case hN => rfl); (case hΓ => rfl); (case hv => walk_at "vis"); (case hd => decide); (case hcd => decide)))
local macro_rules | `(tactic| walk_at "asg") => `(tactic| first
  | (with_reducible refine' rb_asg (x := Str.ofString "row") (i := 0) ?he ?hr ?hN ?hi ?hx ?hs ?hf)
  | (with_reducible refine' rb_asg (x := Str.ofString "stack") (i := 1) ?he ?hr ?hN ?hi ?hx ?hs ?hf)
  | (with_reducible refine' rb_asg (x := Str.ofString "moves") (i := 2) ?he ?hr ?hN ?hi ?hx ?hs ?hf)
  | (with_reducible refine' rb_asg (x := Str.ofString "number") (i := 3) ?he ?hr ?hN ?hi ?hx ?hs ?hf))
local macro_rules | `(tactic| walk_at "rasg") => `(tactic| first
  | (with_reducible refine' ro_asgS (x := Str.ofString "row") (i := 0) ?he ?hl ?hr ?ho ?hN ?hi ?hx ?hs ?hf)
  | (with_reducible refine' ro_asgS (x := Str.ofString "stack") (i := 1) ?he ?hl ?hr ?ho ?hN ?hi ?hx ?hs ?hf)
  | (with_reducible refine' ro_asgS (x := Str.ofString "moves") (i := 2) ?he ?hl ?hr ?ho ?hN ?hi ?hx ?hs ?hf)
  | (with_reducible refine' ro_asgS (x := Str.ofString "number") (i := 3) ?he ?hl ?hr ?ho ?hN ?hi ?hx ?hs ?hf))
local macro_rules | `(tactic| walk_at "rasgL") => `(tactic| first
  | (with_reducible refine' ro_asgL (x := Str.ofString "row") (i := 0) _ ?he ?hl ?hr ?hlt ?ho ?ho2 ?hio ?hN ?hi ?hx ?hs ?hf)
  | (with_reducible refine' ro_asgL (x := Str.ofString "stack") (i := 1) _ ?he ?hl ?hr ?hlt ?ho ?ho2 ?hio ?hN ?hi ?hx ?hs ?hf)
  | (with_reducible refine' ro_asgL (x := Str.ofString "moves") (i := 2) _ ?he ?hl ?hr ?hlt ?ho ?ho2 ?hio ?hN ?hi ?hx ?hs ?hf)
  | (with_reducible refine' ro_asgL (x := Str.ofString "number") (i := 3) _ ?he ?hl ?hr ?hlt ?ho ?ho2 ?hio ?hN ?hi ?hx ?hs ?hf))
local macro_rules | `(tactic| walk_at "rifasg") => `(tactic| first
  | (with_reducible refine' ro_ifI (x := Str.ofString "row") (i := 0) ?hc ?he ?h0 ?hr ?hio ?hN ?hi ?hx ?hs ?hf)
  | (with_reducible refine' ro_ifI (x := Str.ofString "stack") (i := 1) ?hc ?he ?h0 ?hr ?hio ?hN ?hi ?hx ?hs ?hf)
  | (with_reducible refine' ro_ifI (x := Str.ofString "moves") (i := 2) ?hc ?he ?h0 ?hr ?hio ?hN ?hi ?hx ?hs ?hf)
  | (with_reducible refine' ro_ifI (x := Str.ofString "number") (i := 3) ?hc ?he ?h0 ?hr ?hio ?hN ?hi ?hx ?hs ?hf))
local macro_rules | `(tactic| walk_at "rtidy") => `(tactic| (show RO _ _ _ [_, _, _, _] _ _))
local macro_rules | `(tactic| walk_at "blk") => `(tactic| ((show blkC n_greedy (defScope s_greedy) _ _ = true); decide +kernel))
local macro_rules | `(tactic| walk_at "tidy") => `(tactic| (show RB _ _ [_, _, _, _] _ _))
local macro_rules | `(tactic| walk_at "ifasg") => `(tactic| first
  | (with_reducible refine' rb_ifI (x := Str.ofString "row") (i := 0) ?hc ?he ?h0 ?hr ?hN ?hi ?hx ?hs ?hf)
  | (with_reducible refine' rb_ifI (x := Str.ofString "stack") (i := 1) ?hc ?he ?h0 ?hr ?hN ?hi ?hx ?hs ?hf)
  | (with_reducible refine' rb_ifI (x := Str.ofString "moves") (i := 2) ?hc ?he ?h0 ?hr ?hN ?hi ?hx ?hs ?hf)
  | (with_reducible refine' rb_ifI (x := Str.ofString "number") (i := 3) ?hc ?he ?h0 ?hr ?hN ?hi ?hx ?hs ?hf))
def R_greedy : Rel := fun ds r => ∃ row : List Nat, ds = [rowD row] ∧ row.length ≤ 500 ∧ r = .tuple ((greedyF row).map mvD)
theorem R_greedy_i {row : List Nat} (h : row.length ≤ 500) : R_greedy [.tuple (row.map nD)] (.tuple ((greedyF row).map mvD)) := ⟨row, rfl, h, rfl⟩
local macro_rules | `(tactic| walk_at "R") => `(tactic| exact R_greedy_i (by walk_at "size"))
theorem greedy_take {row : List Nat} {i x : Nat} (h : row[i]? = some x) : greedyS (row.take (i + 1)) = gStep (greedyS (row.take i)) x := by
  unfold greedyS
  rw [List.take_add_one, h, List.foldl_append] <;> rfl
theorem ok_greedy (D : Dn K mg "greedy" s_greedy p_greedy) (B : Bl mg) : Df P w K mg base "greedy" 1 p_greedy R_greedy := by
  refine D.okO sc_greedy (fun ds r ⟨n, e, _⟩ => by rw [e] <;> rfl) fun f cdv A outer s H E hr ds r h => ?_
  obtain ⟨row, rfl, hl, rfl⟩ := h
  have nd := sc_greedy.nd
  walk_at "ropen"
  refine' ro_asgL (x := Str.ofString "stack") (i := 1) (ds := []) [1] ?a1 rfl ?a2 (Nat.le_of_ble_eq_true rfl) (by decide) (by decide) (by decide) nd rfl (by walk_at "loc") rfl (by walk_at "loc")
  case a1 =>
    refine' pdl_lst ?b1 (by decide)
    case b1 => walk_at "args"
  case a2 =>
    walk_at "rtidy"
    refine' ro_asgL (x := Str.ofString "moves") (i := 2) (ds := []) [1, 2] ?a3 rfl ?a4 (Nat.le_of_ble_eq_true rfl) (by decide) (by decide) (by decide) nd rfl (by walk_at "loc") rfl (by walk_at "loc")
    case a3 =>
      refine' pdl_lst ?b1 (by decide)
      case b1 => walk_at "args"
    case a4 =>
      walk_at "rtidy"
      refine' ro_for (j := 3) (ds := row.map nD) (fun i Γ => Γ = [some (rowD row), some (.list ((greedyS (row.take i)).1.reverse.map nD)), some (.list ((greedyS (row.take i)).2.map mvD)), none]) (pit_tup ?i1 (lfA_row _)) (lfA_row _) ?hjo ?h0 ?hs ?hd ?hlf2 ?hp ?hc ?hN ?hj ?hx ?hf ?hsi
      walk_at "rfor1"
      case i1 => walk_at "ev"
      case h0 => exact ⟨_, .cons (.cons (.cons (.drop .nil))), own2 ⟨_, rfl⟩ ⟨_, rfl⟩, rfl⟩
      case hs =>
        rintro i d Γ' hd' rfl
        obtain ⟨x, hx, rfl⟩ := mapG_at hd'
        have hgl := greedyS_len (row.take i)
        have htl : (row.take i).length ≤ 500 := by rw [List.length_take]; omega
        have hst := greedy_take hx
        obtain ⟨S, hS⟩ : ∃ S, greedyS (row.take i) = S := ⟨_, rfl⟩
        rw [hS] at hgl hst ⊢
        obtain ⟨s0, m0⟩ := S
        have hgl' : m0.length + s0.length ≤ 1000 := by
          have : m0.length + s0.length = 2 * (row.take i).length := hgl
          omega
        walk_at "rtidy"
        refine' ro_while (fun n Γ => ∃ (s1 : List Nat) (m1 : List Bool), n = s1.length ∧ Γ = [some (rowD row), some (.list (s1.reverse.map nD)), some (.list (m1.map mvD)), some (nD x)] ∧ m1.length + s1.length ≤ 1000 ∧ s1.dropWhile (fun y => decide (y < x)) = s0.dropWhile (fun y => decide (y < x)) ∧
          m1 ++ List.replicate (s1.takeWhile fun y => decide (y < x)).length false = m0 ++ List.replicate (s0.takeWhile fun y => decide (y < x)).length false) ?w1 ?w2 ?w3
        case w3 => exact PassesOwn.never
        case w1 => exact ⟨s0.length, _, Le.refl _, own2 ⟨_, rfl⟩ ⟨_, rfl⟩, s0, m0, rfl, rfl, hgl', rfl, rfl⟩
        case w2 =>
          rintro n Γ' ⟨s1, m1, rfl, rfl, hz, hdw, htw⟩
          cases s1 with
          | nil =>
            refine ⟨false, ?_, (fun h => by cases h), fun _ => ?_⟩
            · refine' PTD.is (ptd_bool (pwd_and (k := false) (j := false) ?u1 fun h => by cases h)) rfl
              case u1 =>
                refine' PTD.is ?u2 ?u3
                case u2 => walk_at "test"
                case u3 => rfl
            · walk_at "rtidy"
              refine' ro_app (x := Str.ofString "stack") (i := 1) (d := nD x) (ds := []) (by decide) rfl ?v1 rfl (by decide) ?v2 rfl (Or.inl rfl)
              case v1 => walk_at "ev"
              case v2 =>
                walk_at "rtidy"
                refine' ro_app (x := Str.ofString "moves") (i := 2) (d := .str (Str.ofString "in")) (ds := m1.map mvD) (by decide) rfl ?v3 rfl ?v4 ?v5 rfl (Or.inl rfl)
                case v3 => walk_at "ev"
                case v4 => rw [List.length_map]; omega
                case v5 =>
                  walk_at "rtidy"
                  refine ro_nil ⟨rfl, _, .cons (.cons (.cons (.drop .nil))), own2 ⟨_, rfl⟩ ⟨_, rfl⟩, ?_⟩
                  rw [hst]
                  show _ = [_, some (PyData.list ((x :: s0.dropWhile (fun y => decide (y < x))).reverse.map nD)), some (PyData.list ((m0 ++ List.replicate (s0.takeWhile fun y => decide (y < x)).length false ++ [true]).map mvD)), _]
                  rw [← hdw, ← htw, List.map_append, List.map_append, List.dropWhile_nil, List.takeWhile_nil, List.length_nil, List.replicate_zero, List.map_nil, List.append_nil]
                  rfl
          | cons y s1 =>
            refine ⟨decide (y < x), ?_, fun hk => ?_, fun hk => ?_⟩
            · refine' PTD.is (ptd_bool (pwd_and (k := true) (j := decide (y < x)) ?u1 fun _ => pwd_and1 ?u4)) (Bool.true_and _)
              case u1 =>
                refine' PTD.is ?u2 ?u3
                case u2 => walk_at "test"
                case u3 => rw [len_pos]; simp
              case u4 =>
                refine' PTD.is (ptd_cmp (dx := nD y) (dy := nD x) (pd_ix (dx := .list ((y :: s1).reverse.map nD)) (dy := .int (-1)) ?u5 ?u6 (id_list ?u7)) ?u8 od_lt (by walk_at "mark")) ?u9
                case u5 => walk_at "ev"
                case u6 => walk_at "ev"
                case u7 =>
                  rw [List.reverse_cons, List.map_append]
                  exact atI_last _ _
                case u8 => walk_at "ev"
                case u9 => exact decide_eq_decide.mpr (by omega)
            · have hyx := of_decide_eq_true hk
              rw [List.length_cons] at hz
              rw [List.dropWhile_cons, if_pos hk] at hdw
              rw [List.takeWhile_cons, if_pos hk, List.length_cons, List.replicate_succ] at htw
              refine' ro_pop (x := Str.ofString "stack") (i := 1) (d := nD y) (es' := s1.reverse.map nD) (by decide) ?v1 ?v2 rfl (Or.inl rfl)
              case v1 =>
                show some (some (PyData.list ((y :: s1).reverse.map nD))) = _
                rw [List.reverse_cons, List.map_append] <;> rfl
              case v2 =>
                walk_at "rtidy"
                refine' ro_app (x := Str.ofString "moves") (i := 2) (d := .str (Str.ofString "out")) (ds := m1.map mvD) (by decide) rfl ?v3 rfl ?v4 ?v5 rfl (Or.inl rfl)
                case v3 => walk_at "ev"
                case v4 => rw [List.length_map]; omega
                case v5 =>
                  walk_at "rtidy"
                  refine ro_nil ⟨rfl, s1.length, _, Nat.lt_succ_self _, Le.refl _, own2 ⟨_, rfl⟩ ⟨_, rfl⟩, s1, m1 ++ [false], rfl, ?_, ?_, hdw, ?_⟩
                  · rw [List.map_append] <;> rfl
                  · rw [List.length_append, List.length_singleton]; omega
                  · rw [← htw, List.append_assoc] <;> rfl
            · have hyx := of_decide_eq_false hk
              rw [List.dropWhile_cons, if_neg (by simpa using hyx)] at hdw
              rw [List.takeWhile_cons, if_neg (by simpa using hyx)] at htw
              walk_at "rtidy"
              refine' ro_app (x := Str.ofString "stack") (i := 1) (d := nD x) (ds := (y :: s1).reverse.map nD) (by decide) rfl ?v1 rfl ?v7 ?v2 rfl (Or.inl rfl)
              case v1 => walk_at "ev"
              case v7 => rw [List.length_map, List.length_reverse]; omega
              case v2 =>
                walk_at "rtidy"
                refine' ro_app (x := Str.ofString "moves") (i := 2) (d := .str (Str.ofString "in")) (ds := m1.map mvD) (by decide) rfl ?v3 rfl ?v4 ?v5 rfl (Or.inl rfl)
                case v3 => walk_at "ev"
                case v4 => rw [List.length_map]; omega
                case v5 =>
                  walk_at "rtidy"
                  refine ro_nil ⟨rfl, _, .cons (.cons (.cons (.drop .nil))), own2 ⟨_, rfl⟩ ⟨_, rfl⟩, ?_⟩
                  rw [hst]
                  show _ = [_, some (PyData.list ((x :: s0.dropWhile (fun y => decide (y < x))).reverse.map nD)), some (PyData.list ((m0 ++ List.replicate (s0.takeWhile fun y => decide (y < x)).length false ++ [true]).map mvD)), _]
                  have e9 : m0 ++ List.replicate (s0.takeWhile fun y => decide (y < x)).length false = m1 := by rw [← htw]; simp
                  rw [← hdw, e9, List.map_append, List.reverse_cons (a := x), List.map_append] <;> rfl
      case hd =>
        rintro Γ' rfl
        rw [List.length_map, List.take_length]
        have hgl := greedyS_len row
        refine' ro_ret (d := .tuple ((greedyF row).map mvD)) (pd_callT (ds := [.list ((greedyF row).map mvD)]) cd_tupL rfl B.tuple bb_tuple (pad_cons ?z1 pad_nil)) (lfA_mv _) rfl
        case z1 =>
          refine' PD.is (pd_bin (dx := .list ((greedyS row).2.map mvD)) (dy := .list ((List.replicate (((greedyS row).1.reverse.map nD).length : Int).toNat [mvD false]).flatten)) ?z2 ?z3 (odl_cat ?z4).od) ?z5
          case z2 => walk_at "ev"
          case z3 =>
            refine' pd_bin (dx := .list [.str (Str.ofString "out")]) (dy := .int (((greedyS row).1.reverse.map nD).length : Int)) ?y1 ?y2 (odl_rep (by omega) ?y3 (by decide)).od
            case y1 => walk_at "ev"
            case y2 => walk_at "ev"
            case y3 => rw [List.length_map, List.length_reverse]; omega
          case z4 =>
            rw [List.flatten_replicate_singleton, List.length_replicate, List.length_map, List.length_map, List.length_reverse]
            omega
          case z5 =>
            rw [List.flatten_replicate_singleton, List.length_map, List.length_reverse]
            unfold greedyF
            rw [List.map_append, List.map_replicate] <;> rfl
      case hlf2 =>
        rintro i Γ' rfl d hd1 hd2
        match i, hd2 with
        | 0, hd2 => cases hd2; exact lf_row _
        | 1, hd2 => exact absurd (by decide) hd1
        | 2, hd2 => exact absurd (by decide) hd1
        | 3, hd2 => cases hd2
        | k + 4, hd2 => cases hd2
abbrev s_passed : Stmt := topS 14
abbrev p_passed : List Str := ["row"]
abbrev n_passed : List Str := ["row"]
theorem sc_passed : FnScope n_passed p_passed (defScope s_passed) := ⟨rfl, rfl, rfl, by decide +kernel, rfl, by decide +kernel, by decide +kernel⟩
local macro_rules | `(tactic| walk_at "slot") => `(tactic| first

  | ((with_reducible refine' pd_var (x := Str.ofString "row") (i := 0) ?hN ?hΓ ?hv ?hd ?hcd); (case hN => rfl); (case hΓ => rfl); (case hv => walk_at "vis"); (case hd => decide); (case hcd => decide)))
local macro_rules | `(tactic| walk_at "asg") => `(tactic| first
  | (with_reducible refine' rb_asg (x := Str.ofString "row") (i := 0) ?he ?hr ?hN ?hi ?hx ?hs ?hf))
local macro_rules | `(tactic| walk_at "rasg") => `(tactic| first
  | (with_reducible refine' ro_asgS (x := Str.ofString "row") (i := 0) ?he ?hl ?hr ?ho ?hN ?hi ?hx ?hs ?hf))
local macro_rules | `(tactic| walk_at "rasgL") => `(tactic| first
  | (with_reducible refine' ro_asgL (x := Str.ofString "row") (i := 0) _ ?he ?hl ?hr ?hlt ?ho ?ho2 ?hio ?hN ?hi ?hx ?hs ?hf))
local macro_rules | `(tactic| walk_at "rifasg") => `(tactic| first
  | (with_reducible refine' ro_ifI (x := Str.ofString "row") (i := 0) ?hc ?he ?h0 ?hr ?hio ?hN ?hi ?hx ?hs ?hf))
local macro_rules | `(tactic| walk_at "rtidy") => `(tactic| (show RO _ _ _ [_] _ _))
local macro_rules | `(tactic| walk_at "blk") => `(tactic| ((show blkC n_passed (defScope s_passed) _ _ = true); decide +kernel))
local macro_rules | `(tactic| walk_at "tidy") => `(tactic| (show RB _ _ [_] _ _))
local macro_rules | `(tactic| walk_at "ifasg") => `(tactic| first
  | (with_reducible refine' rb_ifI (x := Str.ofString "row") (i := 0) ?hc ?he ?h0 ?hr ?hN ?hi ?hx ?hs ?hf))
def R_passed : Rel := fun ds r => ∃ row : List Nat, ds = [rowD row] ∧ row.length ≤ 500 ∧ r = rowD (passF row)
theorem R_passed_i {row : List Nat} (h : row.length ≤ 500) : R_passed [.tuple (row.map nD)] (rowD (passF row)) := ⟨row, rfl, h, rfl⟩
local macro_rules | `(tactic| walk_at "R") => `(tactic| exact R_passed_i (by walk_at "size"))
theorem ok_passed (D : Dn K mg "passed" s_passed p_passed) (B : Bl mg) (D1 : Df P w K mg base "done_by" 1 p_done_by R_done_by) (D2 : Df P w K mg base "greedy" 1 p_greedy R_greedy) : Df P w K mg base "passed" 2 p_passed R_passed := by
  refine D.ok sc_passed (fun ds r ⟨n, e, _⟩ => by rw [e] <;> rfl) fun f cdv A outer s H E hr ds r h => ?_
  obtain ⟨row, rfl, hl, rfl⟩ := h
  have nd := sc_passed.nd
  walk_at "open"
  refine' rb_ret ?g1 ?g2
  case g1 => walk_at "ev"
  case g2 => rw [done_greedy] <;> rfl
theorem len3 : ∀ {xs : List Nat}, xs.length = 3 → ∃ a b c, xs = [a, b, c]
  | [], h => absurd h (by decide)
  | [_], h => absurd h (by simp)
  | [_, _], h => absurd h (by simp)
  | [a, b, c], _ => ⟨a, b, c, rfl⟩
  | _ :: _ :: _ :: _ :: _, h => absurd h (by simp)
theorem iso_bar {xs : List Nat} : Iso xs [1, 2, 0] ↔ ∃ a b c, xs = [a, b, c] ∧ c < a ∧ a < b := by
  refine ⟨fun ⟨hl, h⟩ => ?_, fun ⟨a, b, c, e, h1, h2⟩ => ?_⟩
  · obtain ⟨a, b, c, rfl⟩ := len3 (show xs.length = 3 from hl)
    exact ⟨a, b, c, rfl, (h 2 0 (by decide) (by decide)).mpr (by decide), (h 0 1 (by decide) (by decide)).mpr (by decide)⟩
  · subst e
    refine ⟨rfl, fun i j hi hj => ?_⟩
    have hi' : i < 3 := hi
    have hj' : j < 3 := hj
    have i3 : i = 0 ∨ i = 1 ∨ i = 2 := by omega
    have j3 : j = 0 ∨ j = 1 ∨ j = 2 := by omega
    rcases i3 with e | e | e <;> rcases j3 with e2 | e2 | e2 <;> subst e <;> subst e2 <;> simp <;> omega
theorem isR_bar : IsR [1, 2, 0] := by unfold IsR; decide
theorem up_range {xs : List Nat} {n : Nat} (h : xs.Perm (List.range n)) : xs.Pairwise (· < ·) ↔ xs = List.range n := by
  refine ⟨fun hu => ?_, fun e => by rw [e]; exact List.pairwise_lt_range⟩
  refine cast_inj.mp (up_one (h.map _) ?_ ?_)
  · rw [List.pairwise_map]
    exact hu.imp fun h => by omega
  · rw [List.pairwise_map]
    exact List.pairwise_lt_range.imp fun h => by omega
theorem dw_gt {x : Nat} : ∀ {s : List Nat}, s.Pairwise (· < ·) → ∀ y ∈ s.dropWhile (fun y => decide (y < x)), x ≤ y
  | [], _, y, hy => nomatch hy
  | z :: s, h, y, hy => by
    have h2 := List.pairwise_cons.mp h
    rw [List.dropWhile_cons] at hy
    by_cases hz : z < x
    · rw [if_pos (decide_eq_true hz)] at hy
      exact dw_gt h2.2 y hy
    · rw [if_neg (by simpa using hz)] at hy
      rcases List.mem_cons.mp hy with e | e
      · omega
      · have := h2.1 y e
        omega
theorem tw_lt {x : Nat} : ∀ {s : List Nat}, ∀ y ∈ s.takeWhile (fun y => decide (y < x)), y < x
  | [], y, hy => nomatch hy
  | z :: s, y, hy => by
    rw [List.takeWhile_cons] at hy
    by_cases hz : z < x
    · rw [if_pos (decide_eq_true hz)] at hy
      rcases List.mem_cons.mp hy with e | e
      · omega
      · exact tw_lt y e
    · rw [if_neg (by simpa using hz)] at hy
      cases hy
theorem step_perm {x : Nat} {s t pre : List Nat} (h : (t ++ s).Perm pre) : (t ++ s.takeWhile (fun y => decide (y < x)) ++ x :: s.dropWhile (fun y => decide (y < x))).Perm (pre ++ [x]) := by
  have e := List.takeWhile_append_dropWhile (p := fun y => decide (y < x)) (l := s)
  have h2 : (s.takeWhile (fun y => decide (y < x)) ++ x :: s.dropWhile (fun y => decide (y < x))).Perm (s ++ [x]) := by
    refine List.perm_middle.trans ?_
    rw [e]
    exact (List.perm_append_singleton x s).symm
  rw [List.append_assoc]
  refine (h2.append_left t).trans ?_
  rw [← List.append_assoc]
  exact h.append_right [x]
theorem pass_up : ∀ (xs pre s t : List Nat), (t ++ s).Pairwise (· < ·) → (∀ y ∈ t, ∃ b, [y, b].Sublist pre ∧ y < b) → (∀ a b c, [a, b, c].Sublist (pre ++ xs) → ¬ (c < a ∧ a < b)) → (pre ++ xs).Nodup → (t ++ s).Perm pre →
    ((xs.foldl pStep (s, t)).2 ++ (xs.foldl pStep (s, t)).1).Pairwise (· < ·)
  | [], pre, s, t, h, _, _, _, _ => h
  | x :: xs, pre, s, t, h, hb, hno, hnd, hp => by
    rw [List.foldl_cons]
    have e : pre ++ x :: xs = (pre ++ [x]) ++ xs := by simp
    rw [e] at hno hnd
    have hxp : x ∉ pre := fun hx => by
      have := (List.nodup_append.mp hnd).1
      exact (List.nodup_append.mp this).2.2 x hx x (List.mem_singleton.mpr rfl) rfl
    have hty : ∀ y ∈ t, y < x := fun y hy => by
      obtain ⟨b, hs, hyb⟩ := hb y hy
      have hne : y ≠ x := fun q => hxp (hp.subset (List.mem_append_left _ (q ▸ hy)))
      refine Nat.lt_of_not_le fun hle => ?_
      refine hno y b x ?_ ⟨by omega, hyb⟩
      have h3 : ([y, b] ++ [x]).Sublist (pre ++ [x]) := hs.append (List.Sublist.refl _)
      exact h3.trans (List.sublist_append_left _ _)
    have hsplit := List.takeWhile_append_dropWhile (p := fun y => decide (y < x)) (l := s)
    obtain ⟨h1, h2, h3⟩ := List.pairwise_append.mp h
    rw [← hsplit] at h3
    have h2' := h2
    rw [← hsplit] at h2'
    obtain ⟨g1, g2, g3⟩ := List.pairwise_append.mp h2'
    refine pass_up xs (pre ++ [x]) _ _ ?_ (fun y hy => ?_) hno hnd (step_perm hp)
    · refine List.pairwise_append.mpr ⟨List.pairwise_append.mpr ⟨h1, g1, fun a ha b hb' => h3 a ha b (List.mem_append_left _ hb')⟩, List.pairwise_cons.mpr ⟨fun y hy => ?_, g2⟩, fun a ha b hb' => ?_⟩
      · have hle := dw_gt h2 y hy
        have hne : y ≠ x := fun q => hxp (hp.subset (List.mem_append_right _ (by rw [← hsplit]; exact List.mem_append_right _ (q ▸ hy))))
        omega
      · rcases List.mem_append.mp ha with q | q
        · rcases List.mem_cons.mp hb' with r | r
          · subst r; exact hty a q
          · exact h3 a q b (List.mem_append_right _ r)
        · rcases List.mem_cons.mp hb' with r | r
          · subst r; exact tw_lt a q
          · exact g3 a q b r
    · rcases List.mem_append.mp hy with q | q
      · obtain ⟨b, hs, hyb⟩ := hb y q
        exact ⟨b, hs.trans (List.sublist_append_left _ _), hyb⟩
      · have hyp : y ∈ pre := hp.subset (List.mem_append_right _ (by rw [← hsplit]; exact List.mem_append_left _ q))
        have h4 : ([y] ++ [x]).Sublist (pre ++ [x]) := (List.singleton_sublist.mpr hyp).append (List.Sublist.refl _)
        exact ⟨x, h4, tw_lt y q⟩
theorem pass_keep : ∀ (xs pre s t : List Nat), s.Pairwise (· < ·) → (∀ y ∈ s, ∀ b, [y, b].Sublist pre → b ≤ y) → (pre ++ xs).Nodup → (t ++ s).Perm pre →
    (∀ y ∈ (xs.foldl pStep (s, t)).1, ∀ b, [y, b].Sublist (pre ++ xs) → b ≤ y) ∧ (xs.foldl pStep (s, t)).1.Pairwise (· < ·)
  | [], pre, s, t, h, hb, _, _ => ⟨by rw [List.append_nil]; exact hb, h⟩
  | x :: xs, pre, s, t, h, hb, hnd, hp => by
    rw [List.foldl_cons]
    have e : pre ++ x :: xs = (pre ++ [x]) ++ xs := by simp
    rw [e] at hnd ⊢
    have hxp : x ∉ pre := fun hx => by
      have := (List.nodup_append.mp hnd).1
      exact (List.nodup_append.mp this).2.2 x hx x (List.mem_singleton.mpr rfl) rfl
    have hsplit := List.takeWhile_append_dropWhile (p := fun y => decide (y < x)) (l := s)
    have h2' := h
    rw [← hsplit] at h2'
    obtain ⟨g1, g2, g3⟩ := List.pairwise_append.mp h2'
    have hdw : ∀ y ∈ s.dropWhile (fun y => decide (y < x)), x < y := fun y hy => by
      have hle := dw_gt h y hy
      have hne : y ≠ x := fun q => hxp (hp.subset (List.mem_append_right _ (by rw [← hsplit]; exact List.mem_append_right _ (q ▸ hy))))
      omega
    refine pass_keep xs (pre ++ [x]) _ _ (List.pairwise_cons.mpr ⟨hdw, g2⟩) (fun y hy b hs => ?_) hnd (step_perm hp)
    obtain ⟨l1, l2, e2, s1, s2⟩ := List.sublist_append_iff.mp hs
    have l2len := s2.length_le
    match l1, e2, s1 with
    | [], e2, s1 =>
      rw [List.nil_append] at e2
      rw [← e2] at l2len
      simp at l2len
    | [u], e2, s1 =>
      have e3 : u = y ∧ l2 = [b] := by
        injection e2 with q1 q2
        exact ⟨q1.symm, q2.symm⟩
      obtain ⟨rfl, rfl⟩ := e3
      have hbx : b = x := by
        have := s2.subset (List.mem_singleton.mpr rfl)
        exact List.mem_singleton.mp this
      subst hbx
      rcases List.mem_cons.mp hy with q | q
      · omega
      · have := hdw u q
        omega
    | u :: v :: l3, e2, s1 =>
      have e3 : u = y ∧ v = b ∧ l3 = [] := by
        injection e2 with q1 q2
        injection q2 with q2 q3
        have q4 : l3 = [] := (List.append_eq_nil_iff.mp q3.symm).1
        exact ⟨q1.symm, q2.symm, q4⟩
      obtain ⟨rfl, rfl, rfl⟩ := e3
      rcases List.mem_cons.mp hy with q | q
      · subst q
        exact absurd (s1.subset (by simp)) hxp
      · refine hb u ?_ v s1
        rw [← hsplit]
        exact List.mem_append_right _ q
theorem pfold_told : ∀ (xs s t : List Nat), ∃ u, (xs.foldl pStep (s, t)).2 = t ++ u
  | [], s, t => ⟨[], by simp⟩
  | x :: xs, s, t => by
    rw [List.foldl_cons]
    obtain ⟨u, hu⟩ := pfold_told xs (x :: s.dropWhile (fun y => decide (y < x))) (t ++ s.takeWhile fun y => decide (y < x))
    exact ⟨s.takeWhile (fun y => decide (y < x)) ++ u, by rw [← List.append_assoc]; exact hu⟩
theorem pass_bar {row : List Nat} (hn : row.Nodup) {a b c : Nat} (hs : [a, b, c].Sublist row) (h1 : c < a) (h2 : a < b) : ¬ (passF row).Pairwise (· < ·) := by
  intro hu
  have hs' : ([a, b] ++ [c]).Sublist row := hs
  obtain ⟨r1, r2, e, s1, s2⟩ := List.append_sublist_iff.mp hs'
  have hc : c ∈ r2 := s2.subset (by simp)
  obtain ⟨u, v, e2⟩ := List.append_of_mem hc
  have e3 : row = (r1 ++ u) ++ c :: v := by rw [e, e2, List.append_assoc]
  obtain ⟨pre, hpre⟩ : ∃ pre, r1 ++ u = pre := ⟨_, rfl⟩
  have sp : [a, b].Sublist pre := by rw [← hpre]; exact s1.trans (List.sublist_append_left _ _)
  rw [hpre] at e3
  subst e3
  have hnp : pre.Nodup := (List.nodup_append.mp hn).1
  have hk := pass_keep pre [] [] [] .nil (fun y hy => nomatch hy) hnp (List.Perm.refl _)
  have hp := pfold_perm pre [] []
  rw [List.nil_append] at hk
  have ha : a ∈ pre := sp.subset (by simp)
  have has : a ∉ (pre.foldl pStep ([], [])).1 := fun q => by
    have := hk.1 a q b sp
    omega
  have hat : a ∈ (pre.foldl pStep ([], [])).2 := (List.mem_append.mp (hp.symm.subset (by simpa using ha))).resolve_right has
  have hct : c ∉ (pre.foldl pStep ([], [])).2 := fun q => by
    have hcp : c ∈ pre := by simpa using hp.subset (List.mem_append_left _ q)
    exact (List.nodup_append.mp hn).2.2 c hcp c (by simp) rfl
  have hf : passS (pre ++ c :: v) = (c :: v).foldl pStep (pre.foldl pStep ([], [])) := by
    unfold passS
    rw [List.foldl_append]
  obtain ⟨S, hS⟩ : ∃ S, pre.foldl pStep ([], []) = S := ⟨_, rfl⟩
  rw [hS] at hat hct hf
  obtain ⟨s0, t0⟩ := S
  obtain ⟨w, hw⟩ := pfold_told (c :: v) s0 t0
  have hcm : c ∈ passF (pre ++ c :: v) := (pass_perm _).symm.subset (by simp)
  unfold passF at hu hcm
  rw [hf, hw, List.append_assoc] at hu hcm
  have hcr := (List.mem_append.mp hcm).resolve_left hct
  have := (List.pairwise_append.mp hu).2.2 a hat c hcr
  omega
/-- one pass puts a row in order just if the bar stands nowhere -/
theorem pass_iff {row : List Nat} (hr : IsR row) : passF row = List.range row.length ↔ standsF row [1, 2, 0] = none := by
  rw [← up_range ((pass_perm row).trans hr), stands_sub hr.nd isR_bar]
  refine ⟨fun hu xs hs hi => ?_, fun h => ?_⟩
  · obtain ⟨a, b, c, rfl, h1, h2⟩ := iso_bar.mp hi
    exact pass_bar hr.nd hs h1 h2 hu
  · refine pass_up row [] [] [] .nil (fun y hy => nomatch hy) (fun a b c hs hh => ?_) hr.nd (List.Perm.refl _)
    exact h _ hs (iso_bar.mpr ⟨a, b, c, rfl, hh.1, hh.2⟩)
theorem srt_row {xs : List Nat} (h : IsR xs) : srt (xs.map fun n : Nat => (n : Int)) = (List.range xs.length).map fun n : Nat => (n : Int) := by
  refine up_one ((srt_perm _).trans (h.map _)) (srt_up _) ?_
  rw [List.pairwise_map]
  exact List.pairwise_lt_range.imp fun h => by omega
abbrev s_stack_moves : Stmt := topS 15
abbrev p_stack_moves : List Str := ["row"]
abbrev n_stack_moves : List Str := ["row"]
theorem sc_stack_moves : FnScope n_stack_moves p_stack_moves (defScope s_stack_moves) := ⟨rfl, rfl, rfl, by decide +kernel, rfl, by decide +kernel, by decide +kernel⟩
local macro_rules | `(tactic| walk_at "slot") => `(tactic| first

  | ((with_reducible refine' pd_var (x := Str.ofString "row") (i := 0) ?hN ?hΓ ?hv ?hd ?hcd); (case hN => rfl); (case hΓ => rfl); (case hv => walk_at "vis"); (case hd => decide); (case hcd => decide)))
local macro_rules | `(tactic| walk_at "asg") => `(tactic| first
  | (with_reducible refine' rb_asg (x := Str.ofString "row") (i := 0) ?he ?hr ?hN ?hi ?hx ?hs ?hf))
local macro_rules | `(tactic| walk_at "rasg") => `(tactic| first
  | (with_reducible refine' ro_asgS (x := Str.ofString "row") (i := 0) ?he ?hl ?hr ?ho ?hN ?hi ?hx ?hs ?hf))
local macro_rules | `(tactic| walk_at "rasgL") => `(tactic| first
  | (with_reducible refine' ro_asgL (x := Str.ofString "row") (i := 0) _ ?he ?hl ?hr ?hlt ?ho ?ho2 ?hio ?hN ?hi ?hx ?hs ?hf))
local macro_rules | `(tactic| walk_at "rifasg") => `(tactic| first
  | (with_reducible refine' ro_ifI (x := Str.ofString "row") (i := 0) ?hc ?he ?h0 ?hr ?hio ?hN ?hi ?hx ?hs ?hf))
local macro_rules | `(tactic| walk_at "rtidy") => `(tactic| (show RO _ _ _ [_] _ _))
local macro_rules | `(tactic| walk_at "blk") => `(tactic| ((show blkC n_stack_moves (defScope s_stack_moves) _ _ = true); decide +kernel))
local macro_rules | `(tactic| walk_at "tidy") => `(tactic| (show RB _ _ [_] _ _))
local macro_rules | `(tactic| walk_at "ifasg") => `(tactic| first
  | (with_reducible refine' rb_ifI (x := Str.ofString "row") (i := 0) ?hc ?he ?h0 ?hr ?hN ?hi ?hx ?hs ?hf))
def smovesF (row : List Nat) : Option (List Bool) := if passF row = List.range row.length then some (greedyF row) else none
def optM : Option (List Bool) → PyData
  | none => .none
  | some ms => .tuple (ms.map mvD)
def R_stack_moves : Rel := fun ds r => ∃ row : List Nat, ds = [rowD row] ∧ IsR row ∧ row.length < 64 ∧ r = optM (smovesF row)
theorem R_stack_moves_i {row : List Nat} (h0 : IsR row) (h : row.length < 64) : R_stack_moves [.tuple (row.map nD)] (optM (smovesF row)) := ⟨row, rfl, h0, h, rfl⟩
local macro_rules | `(tactic| walk_at "R") => `(tactic| exact R_stack_moves_i (by assumption) (by walk_at "size"))
theorem ok_stack_moves (D : Dn K mg "stack_moves" s_stack_moves p_stack_moves) (B : Bl mg) (D1 : Df P w K mg base "passed" 2 p_passed R_passed) (D2 : Df P w K mg base "greedy" 1 p_greedy R_greedy) : Df P w K mg base "stack_moves" 3 p_stack_moves R_stack_moves := by
  refine D.ok sc_stack_moves (fun ds r ⟨n, e, _⟩ => by rw [e] <;> rfl) fun f cdv A outer s H E hr ds r h => ?_
  obtain ⟨row, rfl, h0, hl, rfl⟩ := h
  have nd := sc_stack_moves.nd
  walk_at "open"
  refine' rb_ifr (k := !decide (passF row = List.range row.length)) (PTD.is (ptd_cmp (dx := .list ((passF row).map nD)) (dy := .list ((srt (row.map fun n : Nat => (n : Int))).map PyData.int)) ?g1 ?g2 (od_neLI3 (Room.units hr)) (by walk_at "mark")) ?g3) ?g4 ?g5
  case g1 => walk_at "ev"
  case g2 =>
    refine' pd_callB (ds := [.tuple ((row.map fun n : Nat => (n : Int)).map PyData.int)]) (cdl_sortedT (by rw [List.length_map]; exact hl)).cd rfl B.sorted bb_sorted (pad_cons ?g6 pad_nil)
    case g6 =>
      refine' PD.is ?g7 ?g8
      case g7 => walk_at "ev"
      case g8 => exact congrArg PyData.tuple (nD_ints row)
  case g3 =>
    rw [srt_row h0]
    congr 1
    exact decide_eq_decide.mpr cast_inj
  case g4 =>
    intro hk
    refine' rb_ret pd_non ?z1
    case z1 =>
      unfold smovesF
      rw [if_neg (by simpa using hk)] <;> rfl
  case g5 =>
    intro hk
    refine' rb_ret (d := .tuple ((greedyF row).map mvD)) ?z2 ?z3
    case z2 => walk_at "ev"
    case z3 =>
      unfold smovesF
      rw [if_pos (by simpa using hk)] <;> rfl
abbrev s__law_cell_at : Stmt := topS 17
abbrev p__law_cell_at : List Str := ["_law_script", "_law_k"]
abbrev n__law_cell_at : List Str := ["_law_script", "_law_k"]
theorem sc__law_cell_at : FnScope n__law_cell_at p__law_cell_at (defScope s__law_cell_at) := ⟨rfl, rfl, rfl, by decide +kernel, rfl, by decide +kernel, by decide +kernel⟩
local macro_rules | `(tactic| walk_at "slot") => `(tactic| first

  | ((with_reducible refine' pd_var (x := Str.ofString "_law_script") (i := 0) ?hN ?hΓ ?hv ?hd ?hcd); (case hN => rfl); (case hΓ => rfl); (case hv => walk_at "vis"); (case hd => decide); (case hcd => decide))
  | ((with_reducible refine' pd_var (x := Str.ofString "_law_k") (i := 1) ?hN ?hΓ ?hv ?hd ?hcd); (case hN => rfl); (case hΓ => rfl); (case hv => walk_at "vis"); (case hd => decide); (case hcd => decide)))
local macro_rules | `(tactic| walk_at "asg") => `(tactic| first
  | (with_reducible refine' rb_asg (x := Str.ofString "_law_script") (i := 0) ?he ?hr ?hN ?hi ?hx ?hs ?hf)
  | (with_reducible refine' rb_asg (x := Str.ofString "_law_k") (i := 1) ?he ?hr ?hN ?hi ?hx ?hs ?hf))
local macro_rules | `(tactic| walk_at "rasg") => `(tactic| first
  | (with_reducible refine' ro_asgS (x := Str.ofString "_law_script") (i := 0) ?he ?hl ?hr ?ho ?hN ?hi ?hx ?hs ?hf)
  | (with_reducible refine' ro_asgS (x := Str.ofString "_law_k") (i := 1) ?he ?hl ?hr ?ho ?hN ?hi ?hx ?hs ?hf))
local macro_rules | `(tactic| walk_at "rasgL") => `(tactic| first
  | (with_reducible refine' ro_asgL (x := Str.ofString "_law_script") (i := 0) _ ?he ?hl ?hr ?hlt ?ho ?ho2 ?hio ?hN ?hi ?hx ?hs ?hf)
  | (with_reducible refine' ro_asgL (x := Str.ofString "_law_k") (i := 1) _ ?he ?hl ?hr ?hlt ?ho ?ho2 ?hio ?hN ?hi ?hx ?hs ?hf))
local macro_rules | `(tactic| walk_at "rifasg") => `(tactic| first
  | (with_reducible refine' ro_ifI (x := Str.ofString "_law_script") (i := 0) ?hc ?he ?h0 ?hr ?hio ?hN ?hi ?hx ?hs ?hf)
  | (with_reducible refine' ro_ifI (x := Str.ofString "_law_k") (i := 1) ?hc ?he ?h0 ?hr ?hio ?hN ?hi ?hx ?hs ?hf))
local macro_rules | `(tactic| walk_at "rtidy") => `(tactic| (show RO _ _ _ [_, _] _ _))
local macro_rules | `(tactic| walk_at "blk") => `(tactic| ((show blkC n__law_cell_at (defScope s__law_cell_at) _ _ = true); decide +kernel))
local macro_rules | `(tactic| walk_at "tidy") => `(tactic| (show RB _ _ [_, _] _ _))
local macro_rules | `(tactic| walk_at "ifasg") => `(tactic| first
  | (with_reducible refine' rb_ifI (x := Str.ofString "_law_script") (i := 0) ?hc ?he ?h0 ?hr ?hN ?hi ?hx ?hs ?hf)
  | (with_reducible refine' rb_ifI (x := Str.ofString "_law_k") (i := 1) ?hc ?he ?h0 ?hr ?hN ?hi ?hx ?hs ?hf))
def cellF (ns : List Int) (k : Int) : Int := if k < (ns.length : Int) then ns.getD k.toNat 0 else 0
def R__law_cell_at : Rel := fun ds r => ∃ (ns : List Int) (k : Int), ds = [scD ns, .int k] ∧ 0 ≤ k ∧ r = .int (cellF ns k)
theorem R__law_cell_at_i {ns : List Int} {k : Int} (h : 0 ≤ k) : R__law_cell_at [scD ns, .int k] (.int (cellF ns k)) := ⟨ns, k, rfl, h, rfl⟩
local macro_rules | `(tactic| walk_at "R") => `(tactic| exact R__law_cell_at_i (by walk_at "side"))
theorem ok__law_cell_at (D : Dn K mg "_law_cell_at" s__law_cell_at p__law_cell_at) (B : Bl mg) : Df P w K mg base "_law_cell_at" 1 p__law_cell_at R__law_cell_at := by
  refine D.ok sc__law_cell_at (fun ds r ⟨ns, k, e, _⟩ => by rw [e] <;> rfl) fun f cdv A outer s H E hr ds r h => ?_
  obtain ⟨ns, k, rfl, h0, rfl⟩ := h
  refine rb_ifr (k := decide (k < (ns.length : Int))) ?_ (fun hk => ?_) (fun hk => ?_)
  · walk_at "test"
  · have hk' := of_decide_eq_true hk
    have e : atI ns k = some (cellF ns k) := by
      unfold cellF
      rw [if_pos hk']
      unfold atI ixN
      rw [if_pos h0, if_pos hk']
      show ns[k.toNat]? = _
      rw [List.getD_eq_getElem?_getD, List.getElem?_eq_getElem (by omega)] <;> rfl
    refine rb_ret (pd_ix ?_ ?_ (id_scr e)) rfl
    · walk_at "ev"
    · walk_at "ev"
  · have hk' := of_decide_eq_false hk
    refine rb_ret pd_int ?_
    show PyData.int 0 = PyData.int (cellF ns k)
    unfold cellF
    rw [if_neg hk']
abbrev s__law_mixed : Stmt := topS 18
abbrev p__law_mixed : List Str := ["_law_script", "_law_k"]
abbrev n__law_mixed : List Str := ["_law_script", "_law_k", "_law_drawn_here"]
theorem sc__law_mixed : FnScope n__law_mixed p__law_mixed (defScope s__law_mixed) := ⟨rfl, rfl, rfl, by decide +kernel, rfl, by decide +kernel, by decide +kernel⟩
local macro_rules | `(tactic| walk_at "slot") => `(tactic| first

  | ((with_reducible refine' pd_var (x := Str.ofString "_law_script") (i := 0) ?hN ?hΓ ?hv ?hd ?hcd); (case hN => rfl); (case hΓ => rfl); (case hv => walk_at "vis"); (case hd => decide); (case hcd => decide))
  | ((with_reducible refine' pd_var (x := Str.ofString "_law_k") (i := 1) ?hN ?hΓ ?hv ?hd ?hcd); (case hN => rfl); (case hΓ => rfl); (case hv => walk_at "vis"); (case hd => decide); (case hcd => decide))
  | ((with_reducible refine' pd_var (x := Str.ofString "_law_drawn_here") (i := 2) ?hN ?hΓ ?hv ?hd ?hcd); (case hN => rfl); (case hΓ => rfl); (case hv => walk_at "vis"); (case hd => decide); (case hcd => decide)))
local macro_rules | `(tactic| walk_at "asg") => `(tactic| first
  | (with_reducible refine' rb_asg (x := Str.ofString "_law_script") (i := 0) ?he ?hr ?hN ?hi ?hx ?hs ?hf)
  | (with_reducible refine' rb_asg (x := Str.ofString "_law_k") (i := 1) ?he ?hr ?hN ?hi ?hx ?hs ?hf)
  | (with_reducible refine' rb_asg (x := Str.ofString "_law_drawn_here") (i := 2) ?he ?hr ?hN ?hi ?hx ?hs ?hf))
local macro_rules | `(tactic| walk_at "rasg") => `(tactic| first
  | (with_reducible refine' ro_asgS (x := Str.ofString "_law_script") (i := 0) ?he ?hl ?hr ?ho ?hN ?hi ?hx ?hs ?hf)
  | (with_reducible refine' ro_asgS (x := Str.ofString "_law_k") (i := 1) ?he ?hl ?hr ?ho ?hN ?hi ?hx ?hs ?hf)
  | (with_reducible refine' ro_asgS (x := Str.ofString "_law_drawn_here") (i := 2) ?he ?hl ?hr ?ho ?hN ?hi ?hx ?hs ?hf))
local macro_rules | `(tactic| walk_at "rasgL") => `(tactic| first
  | (with_reducible refine' ro_asgL (x := Str.ofString "_law_script") (i := 0) _ ?he ?hl ?hr ?hlt ?ho ?ho2 ?hio ?hN ?hi ?hx ?hs ?hf)
  | (with_reducible refine' ro_asgL (x := Str.ofString "_law_k") (i := 1) _ ?he ?hl ?hr ?hlt ?ho ?ho2 ?hio ?hN ?hi ?hx ?hs ?hf)
  | (with_reducible refine' ro_asgL (x := Str.ofString "_law_drawn_here") (i := 2) _ ?he ?hl ?hr ?hlt ?ho ?ho2 ?hio ?hN ?hi ?hx ?hs ?hf))
local macro_rules | `(tactic| walk_at "rifasg") => `(tactic| first
  | (with_reducible refine' ro_ifI (x := Str.ofString "_law_script") (i := 0) ?hc ?he ?h0 ?hr ?hio ?hN ?hi ?hx ?hs ?hf)
  | (with_reducible refine' ro_ifI (x := Str.ofString "_law_k") (i := 1) ?hc ?he ?h0 ?hr ?hio ?hN ?hi ?hx ?hs ?hf)
  | (with_reducible refine' ro_ifI (x := Str.ofString "_law_drawn_here") (i := 2) ?hc ?he ?h0 ?hr ?hio ?hN ?hi ?hx ?hs ?hf))
local macro_rules | `(tactic| walk_at "rtidy") => `(tactic| (show RO _ _ _ [_, _, _] _ _))
local macro_rules | `(tactic| walk_at "blk") => `(tactic| ((show blkC n__law_mixed (defScope s__law_mixed) _ _ = true); decide +kernel))
local macro_rules | `(tactic| walk_at "tidy") => `(tactic| (show RB _ _ [_, _, _] _ _))
local macro_rules | `(tactic| walk_at "ifasg") => `(tactic| first
  | (with_reducible refine' rb_ifI (x := Str.ofString "_law_script") (i := 0) ?hc ?he ?h0 ?hr ?hN ?hi ?hx ?hs ?hf)
  | (with_reducible refine' rb_ifI (x := Str.ofString "_law_k") (i := 1) ?hc ?he ?h0 ?hr ?hN ?hi ?hx ?hs ?hf)
  | (with_reducible refine' rb_ifI (x := Str.ofString "_law_drawn_here") (i := 2) ?hc ?he ?h0 ?hr ?hN ?hi ?hx ?hs ?hf))
def mixF (ns : List Int) (k : Int) : Int :=
  let d := (cellF ns k + 7919 * k + 1) * 48271 % 2147483647
  (d * d + 7 * d + k) % 2147483629
theorem mod_bd {x : Int} {m : Int} (h : 0 < m) : 0 ≤ x % m ∧ x % m < m := ⟨Int.emod_nonneg _ (by omega), Int.emod_lt_of_pos _ h⟩
theorem mixF_nn (ns : List Int) (k : Int) : 0 ≤ mixF ns k := (mod_bd (by decide)).1
def R__law_mixed : Rel := fun ds r => ∃ (ns : List Int) (k : Int), ds = [scD ns, .int k] ∧ 0 ≤ k ∧ r = .int (mixF ns k)
theorem R__law_mixed_i {ns : List Int} {k : Int} (h : 0 ≤ k) : R__law_mixed [scD ns, .int k] (.int (mixF ns k)) := ⟨ns, k, rfl, h, rfl⟩
local macro_rules | `(tactic| walk_at "R") => `(tactic| exact R__law_mixed_i (by walk_at "side"))
theorem ok__law_mixed (D : Dn K mg "_law_mixed" s__law_mixed p__law_mixed) (B : Bl mg) (D_cell_at : Df P w K mg base "_law_cell_at" 1 p__law_cell_at R__law_cell_at) : Df P w K mg base "_law_mixed" 2 p__law_mixed R__law_mixed := by
  refine D.ok sc__law_mixed (fun ds r ⟨ns, k, e, _⟩ => by rw [e] <;> rfl) fun f cdv A outer s H E hr ds r h => ?_
  obtain ⟨ns, k, rfl, h0, rfl⟩ := h
  have nd := sc__law_mixed.nd
  walk_at "open"
  walk_at "set"
  have hb := mod_bd (x := (cellF ns k + 7919 * k + 1) * 48271) (m := 2147483647) (by decide)
  walk_at "ret"
  rfl
abbrev s__law_drawn : Stmt := topS 19
abbrev p__law_drawn : List Str := ["_law_number", "_law_k"]
abbrev n__law_drawn : List Str := ["_law_number", "_law_k", "_law_drawn_here"]
theorem sc__law_drawn : FnScope n__law_drawn p__law_drawn (defScope s__law_drawn) := ⟨rfl, rfl, rfl, by decide +kernel, rfl, by decide +kernel, by decide +kernel⟩
local macro_rules | `(tactic| walk_at "slot") => `(tactic| first

  | ((with_reducible refine' pd_var (x := Str.ofString "_law_number") (i := 0) ?hN ?hΓ ?hv ?hd ?hcd); (case hN => rfl); (case hΓ => rfl); (case hv => walk_at "vis"); (case hd => decide); (case hcd => decide))
  | ((with_reducible refine' pd_var (x := Str.ofString "_law_k") (i := 1) ?hN ?hΓ ?hv ?hd ?hcd); (case hN => rfl); (case hΓ => rfl); (case hv => walk_at "vis"); (case hd => decide); (case hcd => decide))
  | ((with_reducible refine' pd_var (x := Str.ofString "_law_drawn_here") (i := 2) ?hN ?hΓ ?hv ?hd ?hcd); (case hN => rfl); (case hΓ => rfl); (case hv => walk_at "vis"); (case hd => decide); (case hcd => decide)))
local macro_rules | `(tactic| walk_at "asg") => `(tactic| first
  | (with_reducible refine' rb_asg (x := Str.ofString "_law_number") (i := 0) ?he ?hr ?hN ?hi ?hx ?hs ?hf)
  | (with_reducible refine' rb_asg (x := Str.ofString "_law_k") (i := 1) ?he ?hr ?hN ?hi ?hx ?hs ?hf)
  | (with_reducible refine' rb_asg (x := Str.ofString "_law_drawn_here") (i := 2) ?he ?hr ?hN ?hi ?hx ?hs ?hf))
local macro_rules | `(tactic| walk_at "rasg") => `(tactic| first
  | (with_reducible refine' ro_asgS (x := Str.ofString "_law_number") (i := 0) ?he ?hl ?hr ?ho ?hN ?hi ?hx ?hs ?hf)
  | (with_reducible refine' ro_asgS (x := Str.ofString "_law_k") (i := 1) ?he ?hl ?hr ?ho ?hN ?hi ?hx ?hs ?hf)
  | (with_reducible refine' ro_asgS (x := Str.ofString "_law_drawn_here") (i := 2) ?he ?hl ?hr ?ho ?hN ?hi ?hx ?hs ?hf))
local macro_rules | `(tactic| walk_at "rasgL") => `(tactic| first
  | (with_reducible refine' ro_asgL (x := Str.ofString "_law_number") (i := 0) _ ?he ?hl ?hr ?hlt ?ho ?ho2 ?hio ?hN ?hi ?hx ?hs ?hf)
  | (with_reducible refine' ro_asgL (x := Str.ofString "_law_k") (i := 1) _ ?he ?hl ?hr ?hlt ?ho ?ho2 ?hio ?hN ?hi ?hx ?hs ?hf)
  | (with_reducible refine' ro_asgL (x := Str.ofString "_law_drawn_here") (i := 2) _ ?he ?hl ?hr ?hlt ?ho ?ho2 ?hio ?hN ?hi ?hx ?hs ?hf))
local macro_rules | `(tactic| walk_at "rifasg") => `(tactic| first
  | (with_reducible refine' ro_ifI (x := Str.ofString "_law_number") (i := 0) ?hc ?he ?h0 ?hr ?hio ?hN ?hi ?hx ?hs ?hf)
  | (with_reducible refine' ro_ifI (x := Str.ofString "_law_k") (i := 1) ?hc ?he ?h0 ?hr ?hio ?hN ?hi ?hx ?hs ?hf)
  | (with_reducible refine' ro_ifI (x := Str.ofString "_law_drawn_here") (i := 2) ?hc ?he ?h0 ?hr ?hio ?hN ?hi ?hx ?hs ?hf))
local macro_rules | `(tactic| walk_at "rtidy") => `(tactic| (show RO _ _ _ [_, _, _] _ _))
local macro_rules | `(tactic| walk_at "blk") => `(tactic| ((show blkC n__law_drawn (defScope s__law_drawn) _ _ = true); decide +kernel))
local macro_rules | `(tactic| walk_at "tidy") => `(tactic| (show RB _ _ [_, _, _] _ _))
local macro_rules | `(tactic| walk_at "ifasg") => `(tactic| first
  | (with_reducible refine' rb_ifI (x := Str.ofString "_law_number") (i := 0) ?hc ?he ?h0 ?hr ?hN ?hi ?hx ?hs ?hf)
  | (with_reducible refine' rb_ifI (x := Str.ofString "_law_k") (i := 1) ?hc ?he ?h0 ?hr ?hN ?hi ?hx ?hs ?hf)
  | (with_reducible refine' rb_ifI (x := Str.ofString "_law_drawn_here") (i := 2) ?hc ?he ?h0 ?hr ?hN ?hi ?hx ?hs ?hf))
def drawF (n : Int) (k : Int) : Int :=
  let d := (n + 104729 * k + 17) * 69621 % 2147483647
  (d * d + 3 * d + k) % 2147483629
theorem drawF_nn (n k : Int) : 0 ≤ drawF n k := (mod_bd (by decide)).1
def R__law_drawn : Rel := fun ds r => ∃ (n k : Int), ds = [.int n, .int k] ∧ r = .int (drawF n k)
theorem R__law_drawn_i {n k : Int} : R__law_drawn [.int n, .int k] (.int (drawF n k)) := ⟨n, k, rfl, rfl⟩
local macro_rules | `(tactic| walk_at "R") => `(tactic| exact R__law_drawn_i)
theorem ok__law_drawn (D : Dn K mg "_law_drawn" s__law_drawn p__law_drawn) (B : Bl mg) : Df P w K mg base "_law_drawn" 1 p__law_drawn R__law_drawn := by
  refine D.ok sc__law_drawn (fun ds r ⟨ns, k, e, _⟩ => by rw [e] <;> rfl) fun f cdv A outer s H E hr ds r h => ?_
  obtain ⟨n, k, rfl, rfl⟩ := h
  have nd := sc__law_drawn.nd
  walk_at "open"
  walk_at "set"
  have hb := mod_bd (x := (n + 104729 * k + 17) * 69621) (m := 2147483647) (by decide)
  walk_at "ret"
  rfl
abbrev s__law_row : Stmt := topS 20
abbrev p__law_row : List Str := ["_law_number", "_law_most"]
abbrev n__law_row : List Str := ["_law_number", "_law_most", "_law_many", "_law_kind", "_law_found", "_law_k", "_law_drawn_here", "_law_at"]
theorem sc__law_row : FnScope n__law_row p__law_row (defScope s__law_row) := ⟨rfl, rfl, rfl, by decide +kernel, rfl, by decide +kernel, by decide +kernel⟩
local macro_rules | `(tactic| walk_at "slot") => `(tactic| first

  | ((with_reducible refine' pd_var (x := Str.ofString "_law_number") (i := 0) ?hN ?hΓ ?hv ?hd ?hcd); (case hN => rfl); (case hΓ => rfl); (case hv => walk_at "vis"); (case hd => decide); (case hcd => decide))
  | ((with_reducible refine' pd_var (x := Str.ofString "_law_most") (i := 1) ?hN ?hΓ ?hv ?hd ?hcd); (case hN => rfl); (case hΓ => rfl); (case hv => walk_at "vis"); (case hd => decide); (case hcd => decide))
  | ((with_reducible refine' pd_var (x := Str.ofString "_law_many") (i := 2) ?hN ?hΓ ?hv ?hd ?hcd); (case hN => rfl); (case hΓ => rfl); (case hv => walk_at "vis"); (case hd => decide); (case hcd => decide))
  | ((with_reducible refine' pd_var (x := Str.ofString "_law_kind") (i := 3) ?hN ?hΓ ?hv ?hd ?hcd); (case hN => rfl); (case hΓ => rfl); (case hv => walk_at "vis"); (case hd => decide); (case hcd => decide))
  | ((with_reducible refine' pd_var (x := Str.ofString "_law_found") (i := 4) ?hN ?hΓ ?hv ?hd ?hcd); (case hN => rfl); (case hΓ => rfl); (case hv => walk_at "vis"); (case hd => decide); (case hcd => decide))
  | ((with_reducible refine' pd_var (x := Str.ofString "_law_k") (i := 5) ?hN ?hΓ ?hv ?hd ?hcd); (case hN => rfl); (case hΓ => rfl); (case hv => walk_at "vis"); (case hd => decide); (case hcd => decide))
  | ((with_reducible refine' pd_var (x := Str.ofString "_law_drawn_here") (i := 6) ?hN ?hΓ ?hv ?hd ?hcd); (case hN => rfl); (case hΓ => rfl); (case hv => walk_at "vis"); (case hd => decide); (case hcd => decide))
  | ((with_reducible refine' pd_var (x := Str.ofString "_law_at") (i := 7) ?hN ?hΓ ?hv ?hd ?hcd); (case hN => rfl); (case hΓ => rfl); (case hv => walk_at "vis"); (case hd => decide); (case hcd => decide)))
local macro_rules | `(tactic| walk_at "asg") => `(tactic| first
  | (with_reducible refine' rb_asg (x := Str.ofString "_law_number") (i := 0) ?he ?hr ?hN ?hi ?hx ?hs ?hf)
  | (with_reducible refine' rb_asg (x := Str.ofString "_law_most") (i := 1) ?he ?hr ?hN ?hi ?hx ?hs ?hf)
  | (with_reducible refine' rb_asg (x := Str.ofString "_law_many") (i := 2) ?he ?hr ?hN ?hi ?hx ?hs ?hf)
  | (with_reducible refine' rb_asg (x := Str.ofString "_law_kind") (i := 3) ?he ?hr ?hN ?hi ?hx ?hs ?hf)
  | (with_reducible refine' rb_asg (x := Str.ofString "_law_found") (i := 4) ?he ?hr ?hN ?hi ?hx ?hs ?hf)
  | (with_reducible refine' rb_asg (x := Str.ofString "_law_k") (i := 5) ?he ?hr ?hN ?hi ?hx ?hs ?hf)
  | (with_reducible refine' rb_asg (x := Str.ofString "_law_drawn_here") (i := 6) ?he ?hr ?hN ?hi ?hx ?hs ?hf)
  | (with_reducible refine' rb_asg (x := Str.ofString "_law_at") (i := 7) ?he ?hr ?hN ?hi ?hx ?hs ?hf))
local macro_rules | `(tactic| walk_at "rasg") => `(tactic| first
  | (with_reducible refine' ro_asgS (x := Str.ofString "_law_number") (i := 0) ?he ?hl ?hr ?ho ?hN ?hi ?hx ?hs ?hf)
  | (with_reducible refine' ro_asgS (x := Str.ofString "_law_most") (i := 1) ?he ?hl ?hr ?ho ?hN ?hi ?hx ?hs ?hf)
  | (with_reducible refine' ro_asgS (x := Str.ofString "_law_many") (i := 2) ?he ?hl ?hr ?ho ?hN ?hi ?hx ?hs ?hf)
  | (with_reducible refine' ro_asgS (x := Str.ofString "_law_kind") (i := 3) ?he ?hl ?hr ?ho ?hN ?hi ?hx ?hs ?hf)
  | (with_reducible refine' ro_asgS (x := Str.ofString "_law_found") (i := 4) ?he ?hl ?hr ?ho ?hN ?hi ?hx ?hs ?hf)
  | (with_reducible refine' ro_asgS (x := Str.ofString "_law_k") (i := 5) ?he ?hl ?hr ?ho ?hN ?hi ?hx ?hs ?hf)
  | (with_reducible refine' ro_asgS (x := Str.ofString "_law_drawn_here") (i := 6) ?he ?hl ?hr ?ho ?hN ?hi ?hx ?hs ?hf)
  | (with_reducible refine' ro_asgS (x := Str.ofString "_law_at") (i := 7) ?he ?hl ?hr ?ho ?hN ?hi ?hx ?hs ?hf))
local macro_rules | `(tactic| walk_at "rasgL") => `(tactic| first
  | (with_reducible refine' ro_asgL (x := Str.ofString "_law_number") (i := 0) _ ?he ?hl ?hr ?hlt ?ho ?ho2 ?hio ?hN ?hi ?hx ?hs ?hf)
  | (with_reducible refine' ro_asgL (x := Str.ofString "_law_most") (i := 1) _ ?he ?hl ?hr ?hlt ?ho ?ho2 ?hio ?hN ?hi ?hx ?hs ?hf)
  | (with_reducible refine' ro_asgL (x := Str.ofString "_law_many") (i := 2) _ ?he ?hl ?hr ?hlt ?ho ?ho2 ?hio ?hN ?hi ?hx ?hs ?hf)
  | (with_reducible refine' ro_asgL (x := Str.ofString "_law_kind") (i := 3) _ ?he ?hl ?hr ?hlt ?ho ?ho2 ?hio ?hN ?hi ?hx ?hs ?hf)
  | (with_reducible refine' ro_asgL (x := Str.ofString "_law_found") (i := 4) _ ?he ?hl ?hr ?hlt ?ho ?ho2 ?hio ?hN ?hi ?hx ?hs ?hf)
  | (with_reducible refine' ro_asgL (x := Str.ofString "_law_k") (i := 5) _ ?he ?hl ?hr ?hlt ?ho ?ho2 ?hio ?hN ?hi ?hx ?hs ?hf)
  | (with_reducible refine' ro_asgL (x := Str.ofString "_law_drawn_here") (i := 6) _ ?he ?hl ?hr ?hlt ?ho ?ho2 ?hio ?hN ?hi ?hx ?hs ?hf)
  | (with_reducible refine' ro_asgL (x := Str.ofString "_law_at") (i := 7) _ ?he ?hl ?hr ?hlt ?ho ?ho2 ?hio ?hN ?hi ?hx ?hs ?hf))
local macro_rules | `(tactic| walk_at "rifasg") => `(tactic| first
  | (with_reducible refine' ro_ifI (x := Str.ofString "_law_number") (i := 0) ?hc ?he ?h0 ?hr ?hio ?hN ?hi ?hx ?hs ?hf)
  | (with_reducible refine' ro_ifI (x := Str.ofString "_law_most") (i := 1) ?hc ?he ?h0 ?hr ?hio ?hN ?hi ?hx ?hs ?hf)
  | (with_reducible refine' ro_ifI (x := Str.ofString "_law_many") (i := 2) ?hc ?he ?h0 ?hr ?hio ?hN ?hi ?hx ?hs ?hf)
  | (with_reducible refine' ro_ifI (x := Str.ofString "_law_kind") (i := 3) ?hc ?he ?h0 ?hr ?hio ?hN ?hi ?hx ?hs ?hf)
  | (with_reducible refine' ro_ifI (x := Str.ofString "_law_found") (i := 4) ?hc ?he ?h0 ?hr ?hio ?hN ?hi ?hx ?hs ?hf)
  | (with_reducible refine' ro_ifI (x := Str.ofString "_law_k") (i := 5) ?hc ?he ?h0 ?hr ?hio ?hN ?hi ?hx ?hs ?hf)
  | (with_reducible refine' ro_ifI (x := Str.ofString "_law_drawn_here") (i := 6) ?hc ?he ?h0 ?hr ?hio ?hN ?hi ?hx ?hs ?hf)
  | (with_reducible refine' ro_ifI (x := Str.ofString "_law_at") (i := 7) ?hc ?he ?h0 ?hr ?hio ?hN ?hi ?hx ?hs ?hf))
local macro_rules | `(tactic| walk_at "rtidy") => `(tactic| (show RO _ _ _ [_, _, _, _, _, _, _, _] _ _))
local macro_rules | `(tactic| walk_at "blk") => `(tactic| ((show blkC n__law_row (defScope s__law_row) _ _ = true); decide +kernel))
local macro_rules | `(tactic| walk_at "tidy") => `(tactic| (show RB _ _ [_, _, _, _, _, _, _, _] _ _))
local macro_rules | `(tactic| walk_at "ifasg") => `(tactic| first
  | (with_reducible refine' rb_ifI (x := Str.ofString "_law_number") (i := 0) ?hc ?he ?h0 ?hr ?hN ?hi ?hx ?hs ?hf)
  | (with_reducible refine' rb_ifI (x := Str.ofString "_law_most") (i := 1) ?hc ?he ?h0 ?hr ?hN ?hi ?hx ?hs ?hf)
  | (with_reducible refine' rb_ifI (x := Str.ofString "_law_many") (i := 2) ?hc ?he ?h0 ?hr ?hN ?hi ?hx ?hs ?hf)
  | (with_reducible refine' rb_ifI (x := Str.ofString "_law_kind") (i := 3) ?hc ?he ?h0 ?hr ?hN ?hi ?hx ?hs ?hf)
  | (with_reducible refine' rb_ifI (x := Str.ofString "_law_found") (i := 4) ?hc ?he ?h0 ?hr ?hN ?hi ?hx ?hs ?hf)
  | (with_reducible refine' rb_ifI (x := Str.ofString "_law_k") (i := 5) ?hc ?he ?h0 ?hr ?hN ?hi ?hx ?hs ?hf)
  | (with_reducible refine' rb_ifI (x := Str.ofString "_law_drawn_here") (i := 6) ?hc ?he ?h0 ?hr ?hN ?hi ?hx ?hs ?hf)
  | (with_reducible refine' rb_ifI (x := Str.ofString "_law_at") (i := 7) ?hc ?he ?h0 ?hr ?hN ?hi ?hx ?hs ?hf))
def atF (n : Int) (k : Nat) : Int :=
  let d := drawF n k / 4
  let a0 := d % ((k : Int) + 1)
  let a1 := if n / 16 % 4 = 1 then (if (k : Int) - d % 3 > 0 then (k : Int) - d % 3 else 0) else a0
  let a2 := if n / 16 % 4 = 2 then (k : Int) * (d % 2) else a1
  if n / 16 % 4 = 3 then (if d % 4 = 0 then (if (k : Int) - 1 > 0 then (k : Int) - 1 else 0) else if d % 4 = 1 then (k : Int) else if d % 4 = 2 then 0 else (if (k : Int) < 1 then (k : Int) else 1)) else a2
theorem atF_bd (n : Int) (k : Nat) : 0 ≤ atF n k ∧ atF n k ≤ k := by
  unfold atF
  dsimp only
  generalize drawF n k / 4 = d
  have h1 := mod_bd (x := d) (m := (k : Int) + 1) (by omega)
  have h2 := mod_bd (x := d) (m := 3) (by decide)
  have h3 := mod_bd (x := d) (m := 2) (by decide)
  have h4 : 0 ≤ (k : Int) * (d % 2) ∧ (k : Int) * (d % 2) ≤ k := by
    have e : d % 2 = 0 ∨ d % 2 = 1 := by omega
    rcases e with e | e <;> rw [e] <;> omega
  generalize (k : Int) * (d % 2) = z at *
  generalize d % ((k : Int) + 1) = y at *
  split <;> (try split) <;> (try split) <;> (try split) <;> (try split) <;> omega
def insF (xs : List Nat) (i k : Nat) : List Nat := xs.take i ++ [k] ++ xs.drop i
def rowN (n : Int) : Nat → List Nat
  | 0 => []
  | k + 1 => insF (rowN n k) (atF n k).toNat k
def rowF (n most : Int) : List Nat := rowN n (n % (most + 1)).toNat
theorem insF_perm (xs : List Nat) (i k : Nat) : (insF xs i k).Perm (xs ++ [k]) := by
  unfold insF
  have h : (xs.take i ++ [k] ++ xs.drop i).Perm (xs.take i ++ xs.drop i ++ [k]) := by
    rw [List.append_assoc, List.append_assoc]
    exact List.Perm.append_left _ List.perm_append_comm
  rw [List.take_append_drop] at h
  exact h
theorem rowN_perm (n : Int) : ∀ k : Nat, (rowN n k).Perm (List.range k)
  | 0 => .nil
  | k + 1 => by
    rw [List.range_succ]
    exact (insF_perm _ _ _).trans ((rowN_perm n k).append_right [k])
theorem rowN_len (n : Int) (k : Nat) : (rowN n k).length = k := by rw [(rowN_perm n k).length_eq, List.length_range]
theorem rowF_len {n most : Int} (h : 0 ≤ most) : (rowF n most).length = (n % (most + 1)).toNat := rowN_len _ _
theorem rowF_le {n most : Int} (h : 0 ≤ most) : ((rowF n most).length : Int) ≤ most := by
  rw [rowF_len h]
  have := mod_bd (x := n) (m := most + 1) (by omega)
  omega
theorem rowF_perm (n : Int) {most : Int} (h : 0 ≤ most) : (rowF n most).Perm (List.range (rowF n most).length) := by
  rw [rowF_len h]
  exact rowN_perm _ _
def R__law_row : Rel := fun ds r => ∃ (n most : Int), ds = [.int n, .int most] ∧ 0 ≤ most ∧ most ≤ 10 ∧ r = rowD (rowF n most)
theorem R__law_row_i {n most : Int} (h : 0 ≤ most) (h2 : most ≤ 10) : R__law_row [.int n, .int most] (rowD (rowF n most)) := ⟨n, most, rfl, h, h2, rfl⟩
local macro_rules | `(tactic| walk_at "R") => `(tactic| exact R__law_row_i (by walk_at "side") (by walk_at "side"))
local macro_rules | `(tactic| walk_at "ix") => `(tactic| exact id_four (by omega) (by omega))
def R__law_rowP : Rel := fun ds r => ∃ (n most : Int), ds = [.int n, .int most] ∧ 0 ≤ most ∧ most ≤ 10 ∧ r = plnR (rowF n most)
theorem ok__law_rowP (D : Dn K mg "_law_row" s__law_row p__law_row) (B : Bl mg) (D_drawn : Df P w K mg base "_law_drawn" 1 p__law_drawn R__law_drawn) : Df P w K mg base "_law_row" 2 p__law_row R__law_rowP := by
  refine D.ok sc__law_row (fun ds r ⟨ns, k, e, _⟩ => by rw [e] <;> rfl) fun f cdv A outer s H E hr ds r h => ?_
  obtain ⟨n, most, rfl, h0, h10, rfl⟩ := h
  have nd := sc__law_row.nd
  walk_at "open"
  have hpos : 0 < most + 1 := by omega
  walk_at "set"
  obtain ⟨m, hm⟩ : ∃ m : Nat, n % (most + 1) = m := ⟨(n % (most + 1)).toNat, by have := mod_bd (x := n) hpos; omega⟩
  have hm10 : m ≤ 10 := by have := mod_bd (x := n) hpos; omega
  have erow : rowF n most = rowN n m := by unfold rowF; rw [hm] <;> rfl
  rw [hm, erow]
  walk_at "set"
  walk_at "set"
  refine' rb_for (j := 5) (ds := (List.range m).map nD) (fun i Γ => Γ = [some (.int n), some (.int most), some (.int m), some (.int (n / 16 % 4)), some (lstD (rowN n i)), none, none, none]) ?hi ?h0 ?hs ?hd ?hp ?hc ?hN ?hj ?hx ?hf ?hsi
  walk_at "for1"
  case hi =>
    refine' pid_range1 ?_ rfl B.range (by omega)
    walk_at "ev"
  case h0 => exact ⟨_, Le.refl _, rfl⟩
  case hs =>
    rintro i d Γ' hd' rfl
    obtain ⟨hi, rfl⟩ := range_at hd'
    walk_at "tidy"
    have hdn := drawF_nn n i
    have hk : (0 : Int) < (i : Int) + 1 := by omega
    have hl := rowN_len n i
    have hb := atF_bd n i
    have h3 := mod_bd (x := drawF n i / 4) (m := 3) (by decide)
    have h2 := mod_bd (x := drawF n i / 4) (m := 2) (by decide)
    have h4 := mod_bd (x := drawF n i / 4) (m := 4) (by decide)
    walk_at "set"
    walk_at "set"
    walk_at "ifset"
    walk_at "ifset"
    walk_at "ifset"
    show RB _ _ [_, _, _, _, _, _, _, some (PyData.int (atF n i))] _ _
    walk_at "set"
    have el : (rowN n i).map nD = (rowN n i).map nD := rfl
    have e : List.take (atF n i).toNat ((rowN n i).map nD) ++ [nD i] ++ List.drop (atF n i).toNat ((rowN n i).map nD) = (rowN n (i + 1)).map nD := by
      show _ = (List.take (atF n i).toNat (rowN n i) ++ [i] ++ List.drop (atF n i).toNat (rowN n i)).map nD
      rw [List.map_append, List.map_append, List.map_take, List.map_drop] <;> rfl
    rw [e]
    exact rb_nil ⟨_, .cons (.cons (.cons (.cons (.cons (.drop (.drop (.drop .nil))))))), rfl⟩
  case hd =>
    rintro Γ' rfl
    rw [List.length_map, List.length_range]
    refine' rb_ret (pd_tupP ?z1 rfl B.tuple rfl) rfl
    case z1 =>
      refine' PD.is ?z2 ?z3
      case z2 => walk_at "ev"
      case z3 =>
        show PyData.list ((rowN n m).map nD) = _
        rw [nD_ints]
theorem ok__law_row (D : Dn K mg "_law_row" s__law_row p__law_row) (B : Bl mg) (D_drawn : Df P w K mg base "_law_drawn" 1 p__law_drawn R__law_drawn) : Df P w K mg base "_law_row" 2 p__law_row R__law_row :=
  (ok__law_rowP D B D_drawn).weak fun ds r' ⟨n, most, e, h1, h2, e2⟩ => ⟨_, ⟨n, most, e, h1, h2, rfl⟩, fun H v hv => by rw [e2]; exact hv.plR⟩
abbrev s_law : Stmt := topS 21
abbrev p_law : List Str := ["_law_script"]
abbrev n_law : List Str := ["_law_script", "_law_one", "_law_other", "_law_high", "_law_low", "_law_number", "_law_good", "_law_both"]
theorem sc_law : FnScope n_law p_law (defScope s_law) := ⟨rfl, rfl, rfl, by decide +kernel, rfl, by decide +kernel, by decide +kernel⟩
local macro_rules | `(tactic| walk_at "slot") => `(tactic| first

  | ((with_reducible refine' pd_var (x := Str.ofString "_law_script") (i := 0) ?hN ?hΓ ?hv ?hd ?hcd); (case hN => rfl); (case hΓ => rfl); (case hv => walk_at "vis"); (case hd => decide); (case hcd => decide))
  | ((with_reducible refine' pd_var (x := Str.ofString "_law_one") (i := 1) ?hN ?hΓ ?hv ?hd ?hcd); (case hN => rfl); (case hΓ => rfl); (case hv => walk_at "vis"); (case hd => decide); (case hcd => decide))
  | ((with_reducible refine' pd_var (x := Str.ofString "_law_other") (i := 2) ?hN ?hΓ ?hv ?hd ?hcd); (case hN => rfl); (case hΓ => rfl); (case hv => walk_at "vis"); (case hd => decide); (case hcd => decide))
  | ((with_reducible refine' pd_var (x := Str.ofString "_law_high") (i := 3) ?hN ?hΓ ?hv ?hd ?hcd); (case hN => rfl); (case hΓ => rfl); (case hv => walk_at "vis"); (case hd => decide); (case hcd => decide))
  | ((with_reducible refine' pd_var (x := Str.ofString "_law_low") (i := 4) ?hN ?hΓ ?hv ?hd ?hcd); (case hN => rfl); (case hΓ => rfl); (case hv => walk_at "vis"); (case hd => decide); (case hcd => decide))
  | ((with_reducible refine' pd_var (x := Str.ofString "_law_number") (i := 5) ?hN ?hΓ ?hv ?hd ?hcd); (case hN => rfl); (case hΓ => rfl); (case hv => walk_at "vis"); (case hd => decide); (case hcd => decide))
  | ((with_reducible refine' pd_var (x := Str.ofString "_law_good") (i := 6) ?hN ?hΓ ?hv ?hd ?hcd); (case hN => rfl); (case hΓ => rfl); (case hv => walk_at "vis"); (case hd => decide); (case hcd => decide))
  | ((with_reducible refine' pd_var (x := Str.ofString "_law_both") (i := 7) ?hN ?hΓ ?hv ?hd ?hcd); (case hN => rfl); (case hΓ => rfl); (case hv => walk_at "vis"); (case hd => decide); (case hcd => decide)))
local macro_rules | `(tactic| walk_at "asg") => `(tactic| first
  | (with_reducible refine' rb_asg (x := Str.ofString "_law_script") (i := 0) ?he ?hr ?hN ?hi ?hx ?hs ?hf)
  | (with_reducible refine' rb_asg (x := Str.ofString "_law_one") (i := 1) ?he ?hr ?hN ?hi ?hx ?hs ?hf)
  | (with_reducible refine' rb_asg (x := Str.ofString "_law_other") (i := 2) ?he ?hr ?hN ?hi ?hx ?hs ?hf)
  | (with_reducible refine' rb_asg (x := Str.ofString "_law_high") (i := 3) ?he ?hr ?hN ?hi ?hx ?hs ?hf)
  | (with_reducible refine' rb_asg (x := Str.ofString "_law_low") (i := 4) ?he ?hr ?hN ?hi ?hx ?hs ?hf)
  | (with_reducible refine' rb_asg (x := Str.ofString "_law_number") (i := 5) ?he ?hr ?hN ?hi ?hx ?hs ?hf)
  | (with_reducible refine' rb_asg (x := Str.ofString "_law_good") (i := 6) ?he ?hr ?hN ?hi ?hx ?hs ?hf)
  | (with_reducible refine' rb_asg (x := Str.ofString "_law_both") (i := 7) ?he ?hr ?hN ?hi ?hx ?hs ?hf))
local macro_rules | `(tactic| walk_at "rasg") => `(tactic| first
  | (with_reducible refine' ro_asgS (x := Str.ofString "_law_script") (i := 0) ?he ?hl ?hr ?ho ?hN ?hi ?hx ?hs ?hf)
  | (with_reducible refine' ro_asgS (x := Str.ofString "_law_one") (i := 1) ?he ?hl ?hr ?ho ?hN ?hi ?hx ?hs ?hf)
  | (with_reducible refine' ro_asgS (x := Str.ofString "_law_other") (i := 2) ?he ?hl ?hr ?ho ?hN ?hi ?hx ?hs ?hf)
  | (with_reducible refine' ro_asgS (x := Str.ofString "_law_high") (i := 3) ?he ?hl ?hr ?ho ?hN ?hi ?hx ?hs ?hf)
  | (with_reducible refine' ro_asgS (x := Str.ofString "_law_low") (i := 4) ?he ?hl ?hr ?ho ?hN ?hi ?hx ?hs ?hf)
  | (with_reducible refine' ro_asgS (x := Str.ofString "_law_number") (i := 5) ?he ?hl ?hr ?ho ?hN ?hi ?hx ?hs ?hf)
  | (with_reducible refine' ro_asgS (x := Str.ofString "_law_good") (i := 6) ?he ?hl ?hr ?ho ?hN ?hi ?hx ?hs ?hf)
  | (with_reducible refine' ro_asgS (x := Str.ofString "_law_both") (i := 7) ?he ?hl ?hr ?ho ?hN ?hi ?hx ?hs ?hf))
local macro_rules | `(tactic| walk_at "rasgL") => `(tactic| first
  | (with_reducible refine' ro_asgL (x := Str.ofString "_law_script") (i := 0) _ ?he ?hl ?hr ?hlt ?ho ?ho2 ?hio ?hN ?hi ?hx ?hs ?hf)
  | (with_reducible refine' ro_asgL (x := Str.ofString "_law_one") (i := 1) _ ?he ?hl ?hr ?hlt ?ho ?ho2 ?hio ?hN ?hi ?hx ?hs ?hf)
  | (with_reducible refine' ro_asgL (x := Str.ofString "_law_other") (i := 2) _ ?he ?hl ?hr ?hlt ?ho ?ho2 ?hio ?hN ?hi ?hx ?hs ?hf)
  | (with_reducible refine' ro_asgL (x := Str.ofString "_law_high") (i := 3) _ ?he ?hl ?hr ?hlt ?ho ?ho2 ?hio ?hN ?hi ?hx ?hs ?hf)
  | (with_reducible refine' ro_asgL (x := Str.ofString "_law_low") (i := 4) _ ?he ?hl ?hr ?hlt ?ho ?ho2 ?hio ?hN ?hi ?hx ?hs ?hf)
  | (with_reducible refine' ro_asgL (x := Str.ofString "_law_number") (i := 5) _ ?he ?hl ?hr ?hlt ?ho ?ho2 ?hio ?hN ?hi ?hx ?hs ?hf)
  | (with_reducible refine' ro_asgL (x := Str.ofString "_law_good") (i := 6) _ ?he ?hl ?hr ?hlt ?ho ?ho2 ?hio ?hN ?hi ?hx ?hs ?hf)
  | (with_reducible refine' ro_asgL (x := Str.ofString "_law_both") (i := 7) _ ?he ?hl ?hr ?hlt ?ho ?ho2 ?hio ?hN ?hi ?hx ?hs ?hf))
local macro_rules | `(tactic| walk_at "rifasg") => `(tactic| first
  | (with_reducible refine' ro_ifI (x := Str.ofString "_law_script") (i := 0) ?hc ?he ?h0 ?hr ?hio ?hN ?hi ?hx ?hs ?hf)
  | (with_reducible refine' ro_ifI (x := Str.ofString "_law_one") (i := 1) ?hc ?he ?h0 ?hr ?hio ?hN ?hi ?hx ?hs ?hf)
  | (with_reducible refine' ro_ifI (x := Str.ofString "_law_other") (i := 2) ?hc ?he ?h0 ?hr ?hio ?hN ?hi ?hx ?hs ?hf)
  | (with_reducible refine' ro_ifI (x := Str.ofString "_law_high") (i := 3) ?hc ?he ?h0 ?hr ?hio ?hN ?hi ?hx ?hs ?hf)
  | (with_reducible refine' ro_ifI (x := Str.ofString "_law_low") (i := 4) ?hc ?he ?h0 ?hr ?hio ?hN ?hi ?hx ?hs ?hf)
  | (with_reducible refine' ro_ifI (x := Str.ofString "_law_number") (i := 5) ?hc ?he ?h0 ?hr ?hio ?hN ?hi ?hx ?hs ?hf)
  | (with_reducible refine' ro_ifI (x := Str.ofString "_law_good") (i := 6) ?hc ?he ?h0 ?hr ?hio ?hN ?hi ?hx ?hs ?hf)
  | (with_reducible refine' ro_ifI (x := Str.ofString "_law_both") (i := 7) ?hc ?he ?h0 ?hr ?hio ?hN ?hi ?hx ?hs ?hf))
local macro_rules | `(tactic| walk_at "rtidy") => `(tactic| (show RO _ _ _ [_, _, _, _, _, _, _, _] _ _))
local macro_rules | `(tactic| walk_at "blk") => `(tactic| ((show blkC n_law (defScope s_law) _ _ = true); decide +kernel))
local macro_rules | `(tactic| walk_at "tidy") => `(tactic| (show RB _ _ [_, _, _, _, _, _, _, _] _ _))
local macro_rules | `(tactic| walk_at "ifasg") => `(tactic| first
  | (with_reducible refine' rb_ifI (x := Str.ofString "_law_script") (i := 0) ?hc ?he ?h0 ?hr ?hN ?hi ?hx ?hs ?hf)
  | (with_reducible refine' rb_ifI (x := Str.ofString "_law_one") (i := 1) ?hc ?he ?h0 ?hr ?hN ?hi ?hx ?hs ?hf)
  | (with_reducible refine' rb_ifI (x := Str.ofString "_law_other") (i := 2) ?hc ?he ?h0 ?hr ?hN ?hi ?hx ?hs ?hf)
  | (with_reducible refine' rb_ifI (x := Str.ofString "_law_high") (i := 3) ?hc ?he ?h0 ?hr ?hN ?hi ?hx ?hs ?hf)
  | (with_reducible refine' rb_ifI (x := Str.ofString "_law_low") (i := 4) ?hc ?he ?h0 ?hr ?hN ?hi ?hx ?hs ?hf)
  | (with_reducible refine' rb_ifI (x := Str.ofString "_law_number") (i := 5) ?hc ?he ?h0 ?hr ?hN ?hi ?hx ?hs ?hf)
  | (with_reducible refine' rb_ifI (x := Str.ofString "_law_good") (i := 6) ?hc ?he ?h0 ?hr ?hN ?hi ?hx ?hs ?hf)
  | (with_reducible refine' rb_ifI (x := Str.ofString "_law_both") (i := 7) ?hc ?he ?h0 ?hr ?hN ?hi ?hx ?hs ?hf))
theorem iso_bar3 {row : List Nat} : Av row [1, 2, 0] ↔ ∀ a b c, [a, b, c].Sublist row → ¬ (c < a ∧ a < b) := by
  refine ⟨fun h a b c hs hh => h _ hs (iso_bar.mpr ⟨a, b, c, rfl, hh.1, hh.2⟩), fun h xs hs hi => ?_⟩
  obtain ⟨a, b, c, rfl, h1, h2⟩ := iso_bar.mp hi
  exact h a b c hs ⟨h1, h2⟩
theorem three_split {a b c : Nat} {l1 l2 : List Nat} (h : [a, b, c] = l1 ++ l2) : (l1 = [] ∧ l2 = [a, b, c]) ∨ (l1 = [a] ∧ l2 = [b, c]) ∨ (l1 = [a, b] ∧ l2 = [c]) ∨ (l1 = [a, b, c] ∧ l2 = []) := by
  match l1, h with
  | [], h => exact .inl ⟨rfl, h.symm⟩
  | [x], h =>
    injection h with h1 h2
    exact .inr (.inl ⟨by rw [h1], h2.symm⟩)
  | [x, y], h =>
    injection h with h1 h2
    injection h2 with h2 h3
    exact .inr (.inr (.inl ⟨by rw [h1, h2], h3.symm⟩))
  | x :: y :: z :: l, h =>
    injection h with h1 h2
    injection h2 with h2 h3
    injection h3 with h3 h4
    have h6 := List.append_eq_nil_iff.mp h4.symm
    exact .inr (.inr (.inr ⟨by rw [h1, h2, h3, h6.1], h6.2⟩))
theorem av_up {a b : List Nat} (ha : IsR a) (hb : IsR b) : Av (upC a b) [1, 2, 0] ↔ Av a [1, 2, 0] ∧ Av b [1, 2, 0] := by
  have hlt := (isR_up2 ha hb).2
  refine ⟨fun n => ⟨av_sub (List.sublist_append_left _ _) n, av_iso (map_iso b a.length) (av_sub (List.sublist_append_right _ _) n)⟩, fun ⟨n1, n2⟩ xs hs hi => ?_⟩
  have n2' := av_iso (iso_symm (map_iso b a.length)) n2
  obtain ⟨p, q, r, rfl, h1, h2⟩ := iso_bar.mp hi
  obtain ⟨l1, l2, e, s1, s2⟩ := List.sublist_append_iff.mp hs
  rcases three_split e with ⟨rfl, rfl⟩ | ⟨rfl, rfl⟩ | ⟨rfl, rfl⟩ | ⟨rfl, rfl⟩
  · exact n2' _ s2 hi
  · have := hlt p (s1.subset (by simp)) r (s2.subset (by simp))
    omega
  · have := hlt p (s1.subset (by simp)) r (s2.subset (by simp))
    omega
  · exact n1 _ s1 hi
theorem sOK {row : List Nat} (hr : IsR row) : (!isNo (optM (smovesF row))) = true ↔ Av row [1, 2, 0] := by
  have h1 := pass_iff hr
  have h2 := stands_sub hr.nd isR_bar
  unfold smovesF
  by_cases hq : passF row = List.range row.length
  · rw [if_pos hq]
    exact ⟨fun _ => h2.mp (h1.mp hq), fun _ => rfl⟩
  · rw [if_neg hq]
    exact ⟨(fun h => by cases h), fun h => absurd (h1.mpr (h2.mpr h)) hq⟩
theorem stack_up {a b : List Nat} (ha : IsR a) (hb : IsR b) : (!isNo (optM (smovesF (upC a b)))) = ((!isNo (optM (smovesF a))) && !isNo (optM (smovesF b))) := by
  rw [Bool.eq_iff_iff, Bool.and_eq_true, sOK (isR_up2 ha hb).1, sOK ha, sOK hb]
  exact av_up ha hb
theorem up_gd1 {a b : List Nat} {p : Nat} (h : p < a.length) : (upC a b).getD p 0 = a.getD p 0 := by
  unfold upC
  rw [List.getD_eq_getElem?_getD, List.getElem?_append_left h, ← List.getD_eq_getElem?_getD]
theorem up_gd2 {a b : List Nat} {q : Nat} (h : q < b.length) : (upC a b).getD (a.length + q) 0 = b.getD q 0 + a.length := by
  unfold upC
  rw [List.getD_eq_getElem?_getD, List.getElem?_append_right (by omega), ← List.getD_eq_getElem?_getD, Nat.add_sub_cancel_left]
  exact gd_map h
theorem dn_gd1 {a b : List Nat} {p : Nat} (h : p < a.length) : (dnC a b).getD p 0 = a.getD p 0 + b.length := by
  unfold dnC
  rw [List.getD_eq_getElem?_getD, List.getElem?_append_left (by rw [List.length_map]; exact h), ← List.getD_eq_getElem?_getD]
  exact gd_map h
theorem dn_gd2 {a b : List Nat} {q : Nat} : (dnC a b).getD (a.length + q) 0 = b.getD q 0 := by
  unfold dnC
  rw [List.getD_eq_getElem?_getD, List.getElem?_append_right (by rw [List.length_map]; omega), ← List.getD_eq_getElem?_getD, List.length_map, Nat.add_sub_cancel_left]
/-- heights are the same where the order ahead is -/
theorem h_same {r1 r2 : List Nat} {p : Nat} (hc : ∀ o q, o < q → q ≤ p → (r1.getD q 0 < r1.getD o 0 ↔ r2.getD q 0 < r2.getD o 0)) : ∀ q, q ≤ p → (hAt r1 q).1 = (hAt r2 q).1 := by
  intro q
  induction q using Nat.strongRecOn with
  | _ q ih =>
    intro hq
    have one : ∀ (s1 s2 : List Nat), (∀ o q, o < q → q ≤ p → (s1.getD q 0 < s1.getD o 0 ↔ s2.getD q 0 < s2.getD o 0)) → (∀ m, m < q → m ≤ p → (hAt s1 m).1 = (hAt s2 m).1) → (hAt s1 q).1 ≤ (hAt s2 q).1 := fun s1 s2 h1 h2 => by
      rcases (h_spec s1 q).2.1 with ⟨_, e⟩ | ⟨o, o1, o2, _, o4⟩
      · rw [e]
        exact (h_spec s2 q).1
      · have e := h2 o o1 (by omega)
        have := (h_spec s2 q).2.2 o o1 ((h1 o q o1 hq).mp o2)
        omega
    exact Nat.le_antisymm (one r1 r2 hc ih) (one r2 r1 (fun o q h1 h2 => (hc o q h1 h2).symm) fun m h1 h2 => (ih m h1 h2).symm)
theorem up_h1 {a b : List Nat} {p : Nat} (h : p < a.length) : (hAt (upC a b) p).1 = (hAt a p).1 :=
  h_same (p := p) (fun o q h1 h2 => by rw [up_gd1 (by omega), up_gd1 (by omega)]) p (Nat.le_refl _)
theorem dn_h1 {a b : List Nat} {p : Nat} (h : p < a.length) : (hAt (dnC a b) p).1 = (hAt a p).1 :=
  h_same (p := p) (fun o q h1 h2 => by rw [dn_gd1 (by omega), dn_gd1 (by omega)]; omega) p (Nat.le_refl _)
theorem up_h2 {a b : List Nat} (ha : IsR a) : ∀ q, q < b.length → (hAt (upC a b) (a.length + q)).1 = (hAt b q).1 := by
  intro q
  induction q using Nat.strongRecOn with
  | _ q ih =>
    intro hq
    have g := up_gd2 (a := a) hq
    refine Nat.le_antisymm ?_ ?_
    · rcases (h_spec (upC a b) (a.length + q)).2.1 with ⟨_, e⟩ | ⟨o, o1, o2, _, o4⟩
      · rw [e]
        exact (h_spec b q).1
      · rcases Nat.lt_or_ge o a.length with z | z
        · rw [g, up_gd1 z] at o2
          have := ha.lt (gd_mem z)
          omega
        · obtain ⟨q', rfl⟩ : ∃ q', o = a.length + q' := ⟨o - a.length, by omega⟩
          have hq' : q' < q := by omega
          rw [g, up_gd2 (by omega)] at o2
          have e := ih q' hq' (by omega)
          have := (h_spec b q).2.2 q' hq' (by omega)
          omega
    · rcases (h_spec b q).2.1 with ⟨_, e⟩ | ⟨o, o1, o2, _, o4⟩
      · rw [e]
        exact (h_spec (upC a b) (a.length + q)).1
      · have e := ih o o1 (by omega)
        have := (h_spec (upC a b) (a.length + q)).2.2 (a.length + o) (by omega) (by rw [g, up_gd2 (by omega)]; omega)
        omega
theorem dn_h2 {a b : List Nat} (hb : IsR b) : ∀ q, q < b.length → (hAt (dnC a b) (a.length + q)).1 = mostF a + (hAt b q).1 := by
  intro q
  induction q using Nat.strongRecOn with
  | _ q ih =>
    intro hq
    have hbl := hb.lt (gd_mem hq)
    have s1 := (h_spec b q).1
    refine Nat.le_antisymm ?_ ?_
    · rcases (h_spec (dnC a b) (a.length + q)).2.1 with ⟨_, e⟩ | ⟨o, o1, o2, _, o4⟩
      · omega
      · rcases Nat.lt_or_ge o a.length with z | z
        · have e := dn_h1 (b := b) z
          have := h_le z
          omega
        · obtain ⟨q', rfl⟩ : ∃ q', o = a.length + q' := ⟨o - a.length, by omega⟩
          have hq' : q' < q := by omega
          rw [dn_gd2, dn_gd2] at o2
          have e := ih q' hq' (by omega)
          have := (h_spec b q).2.2 q' hq' o2
          omega
    · rcases (h_spec b q).2.1 with ⟨_, e⟩ | ⟨o, o1, o2, _, o4⟩
      · rcases Nat.eq_zero_or_pos (mostF a) with z | z
        · have := (h_spec (dnC a b) (a.length + q)).1
          omega
        · obtain ⟨p, hp, e2⟩ := h_most z
          have e3 := dn_h1 (b := b) hp
          have := (h_spec (dnC a b) (a.length + q)).2.2 p (by omega) (by rw [dn_gd2, dn_gd1 hp]; omega)
          omega
      · have e2 := ih o o1 (by omega)
        have := (h_spec (dnC a b) (a.length + q)).2.2 (a.length + o) (by omega) (by rw [dn_gd2, dn_gd2]; exact o2)
        omega
theorem up_len (a b : List Nat) : (upC a b).length = a.length + b.length := by
  unfold upC
  rw [List.length_append, List.length_map]
theorem dn_len (a b : List Nat) : (dnC a b).length = a.length + b.length := by
  unfold dnC
  rw [List.length_append, List.length_map]
theorem most_up {a b : List Nat} (ha : IsR a) : mostF (upC a b) = max (mostF a) (mostF b) := by
  have hl := up_len a b
  refine Nat.le_antisymm ?_ ?_
  · rcases Nat.eq_zero_or_pos (mostF (upC a b)) with z | z
    · omega
    · obtain ⟨p, hp, e⟩ := h_most z
      rcases Nat.lt_or_ge p a.length with q | q
      · have := up_h1 (b := b) q
        have := h_le q
        omega
      · obtain ⟨k, rfl⟩ : ∃ k, p = a.length + k := ⟨p - a.length, by omega⟩
        have := up_h2 (b := b) ha k (by omega)
        have := h_le (row := b) (p := k) (by omega)
        omega
  · refine Nat.max_le.mpr ⟨?_, ?_⟩
    · rcases Nat.eq_zero_or_pos (mostF a) with z | z
      · omega
      · obtain ⟨p, hp, e⟩ := h_most z
        have := up_h1 (b := b) hp
        have := h_le (row := upC a b) (p := p) (by omega)
        omega
    · rcases Nat.eq_zero_or_pos (mostF b) with z | z
      · omega
      · obtain ⟨p, hp, e⟩ := h_most z
        have := up_h2 (b := b) ha p hp
        have := h_le (row := upC a b) (p := a.length + p) (by omega)
        omega
theorem most_dn {a b : List Nat} (hb : IsR b) : mostF (dnC a b) = mostF a + mostF b := by
  have hl := dn_len a b
  refine Nat.le_antisymm ?_ ?_
  · rcases Nat.eq_zero_or_pos (mostF (dnC a b)) with z | z
    · omega
    · obtain ⟨p, hp, e⟩ := h_most z
      rcases Nat.lt_or_ge p a.length with q | q
      · have := dn_h1 (b := b) q
        have := h_le q
        omega
      · obtain ⟨k, rfl⟩ : ∃ k, p = a.length + k := ⟨p - a.length, by omega⟩
        have := dn_h2 (a := a) hb k (by omega)
        have := h_le (row := b) (p := k) (by omega)
        omega
  · rcases Nat.eq_zero_or_pos (mostF b) with z | z
    · rcases Nat.eq_zero_or_pos (mostF a) with y | y
      · omega
      · obtain ⟨p, hp, e⟩ := h_most y
        have := dn_h1 (b := b) hp
        have := h_le (row := dnC a b) (p := p) (by omega)
        omega
    · obtain ⟨p, hp, e⟩ := h_most z
      have := dn_h2 (a := a) hb p hp
      have := h_le (row := dnC a b) (p := a.length + p) (by omega)
      omega
theorem tOK {row : List Nat} (hr : IsR row) (h1 : 1 ≤ row.length) (h2 : row.length ≤ 10) : (!isNo (optT (treeF 10 row))) = true ↔ NoB row := by
  rw [← tree_iff (f := 10) hr h1 h2, isNo_optT]
  cases treeF 10 row with
  | none => exact ⟨(fun h => by cases h), fun ⟨t, h⟩ => by cases h⟩
  | some t => exact ⟨fun _ => ⟨t, rfl⟩, fun _ => rfl⟩
theorem parts_len (row : List Nat) : (partsF row).length = mostF row := by
  unfold partsF
  rw [List.length_map, List.length_range]
theorem k41_ne {a b : List Nat} (h : a = b) : (!decide (a = b)) = false := by rw [decide_eq_true h] <;> rfl
theorem ok_law (D : Dn K mg "law" s_law p_law) (B : Bl mg) (D2 : Df P w K mg base "_law_mixed" 2 p__law_mixed R__law_mixed) (D3 : Df P w K mg base "_law_row" 2 p__law_row R__law_row)
    (D4 : Df P w K mg base "up" 1 p_up R_up) (D5 : Df P w K mg base "down" 1 p_down R_down) (D6 : Df P w K mg base "stack_moves" 3 p_stack_moves R_stack_moves) (D7 : Df P w K mg base "rising_parts" 2 p_rising_parts R_rising_parts)
    (D8 : Df P w K mg base "longest_falling" 2 p_longest_falling R_longest_falling) (D9 : ∀ M, Df P w K mg base "tree_of" (M + 2) p_tree_of (R_tree_of M)) :
    Df P w K mg base "law" 13 p_law R_law := by
  refine D.ok sc_law (fun ds r ⟨n, e, _⟩ => by rw [e] <;> rfl) fun f cdv A outer s H E hr ds r h => ?_
  obtain ⟨sc, rfl, rfl⟩ := h
  have nd := sc_law.nd
  walk_at "open"
  walk_at "set"
  walk_at "set"
  have ha5 : ((rowF (mixF sc 0) 5).length : Int) ≤ 5 := rowF_le (by decide)
  have hb5 : ((rowF (mixF sc 1) 5).length : Int) ≤ 5 := rowF_le (by decide)
  have ha : IsR (rowF (mixF sc 0) 5) := rowF_perm (mixF sc 0) (most := 5) (by decide)
  have hb : IsR (rowF (mixF sc 1) 5) := rowF_perm (mixF sc 1) (most := 5) (by decide)
  obtain ⟨a, hea⟩ : ∃ a, rowF (mixF sc 0) 5 = a := ⟨_, rfl⟩
  obtain ⟨b, heb⟩ : ∃ b, rowF (mixF sc 1) 5 = b := ⟨_, rfl⟩
  rw [hea] at ha5 ha ⊢
  rw [heb] at hb5 hb ⊢
  have hal : a.length ≤ 5 := by omega
  have hbl : b.length ≤ 5 := by omega
  have hup := (isR_up2 ha hb).1
  have hdn := (isR_dn2 ha hb).1
  have hul := up_len a b
  have hdl := dn_len a b
  have hul10 : (upC a b).length ≤ 10 := by omega
  have hdl10 : (dnC a b).length ≤ 10 := by omega
  walk_at "set"
  walk_at "set"
  refine' rb_ifr (k := false) (PTD.is (ptd_cmp (dx := rowD (upC a b)) (dy := rowD (upC a b)) ?a1 ?a2 (od_neR (Room.units hr)) (by walk_at "mark")) (k41_ne rfl)) (fun h => by cases h) (fun _ => ?a3)
  case a1 => walk_at "ev"
  case a2 =>
    refine' PD.is (pd_bin (dx := rowD a) (dy := rowD (b.map fun x => x + a.length)) ?g1 ?g2 (od_catT ?g3)) ?g4
    case g1 => walk_at "ev"
    case g2 =>
      walk_at "tup"
      case hl =>
        rw [← addD]
        refine' pdl_lc (j := 5) nD (fun x : Nat => PyData.int ((x : Int) + (a.length : Int))) b ?hi ?hz ?hlf ?he ?hc ?hN ?ok ?hg ?hs
        walk_at "lc"
        case hi => exact pid_tup (by walk_at "ev")
        case hz => omega
        case hlf => intro x hx; rfl
        case he =>
          intro s H C cl fp x hx
          refine' PD.is ?h1 ?h2
          case h1 => walk_at "ev"
          case h2 => rw [List.length_map]
    case g3 => rw [List.length_map, List.length_map, List.length_map]; omega
    case g4 =>
      show PyData.tuple _ = PyData.tuple ((a ++ b.map fun x => x + a.length).map nD)
      rw [List.map_append]
  case a3 =>
    refine' rb_ifr (k := false) (PTD.is (ptd_cmp (dx := rowD (dnC a b)) (dy := rowD (dnC a b)) ?b1 ?b2 (od_neR (Room.units hr)) (by walk_at "mark")) (k41_ne rfl)) (fun h => by cases h) (fun _ => ?b3)
    case b1 => walk_at "ev"
    case b2 =>
      refine' PD.is (pd_bin (dx := rowD (a.map fun x => x + b.length)) (dy := rowD b) ?g1 ?g2 (od_catT ?g3)) ?g4
      case g2 => walk_at "ev"
      case g1 =>
        walk_at "tup"
        case hl =>
          rw [← addD]
          refine' pdl_lc (j := 5) nD (fun x : Nat => PyData.int ((x : Int) + (b.length : Int))) a ?hi ?hz ?hlf ?he ?hc ?hN ?ok ?hg ?hs
          walk_at "lc"
          case hi => exact pid_tup (by walk_at "ev")
          case hz => omega
          case hlf => intro x hx; rfl
          case he =>
            intro s H C cl fp x hx
            refine' PD.is ?h1 ?h2
            case h1 => walk_at "ev"
            case h2 => rw [List.length_map]
      case g3 => rw [List.length_map, List.length_map, List.length_map]; omega
      case g4 =>
        show PyData.tuple _ = PyData.tuple (((a.map fun x => x + b.length) ++ b).map nD)
        rw [List.map_append]
    case b3 =>
      refine' rb_asg (x := Str.ofString "_law_good") (i := 6) (d := .bool ((!isNo (optM (smovesF a))) && !isNo (optM (smovesF b)))) (pd_and ?c1 fun _ => pd_one ?c2) ?c3 nd rfl (by walk_at "loc") rfl (by walk_at "loc")
      case c1 => walk_at "ev"
      case c2 => walk_at "ev"
      case c3 =>
        walk_at "tidy"
        refine' rb_ifr (k := false) (PTD.is ?d1 ?d2) (fun h => by cases h) (fun _ => ?d3)
        case d1 => walk_at "test"
        case d2 => rw [stack_up ha hb, beq_self_eq_true] <;> rfl
        case d3 =>
          refine' rb_ifr (k := false) (PTD.is ?e1 ?e2) (fun h => by cases h) (fun _ => ?e3)
          case e1 => walk_at "test"
          case e2 =>
            rw [List.length_map, List.length_map, List.length_map, parts_len, parts_len, parts_len, most_up ha]
            have e : ((max (mostF a) (mostF b) : Nat) : Int) = if (mostF b : Int) > (mostF a : Int) then (mostF b : Int) else (mostF a : Int) := by
              by_cases q : (mostF b : Int) > (mostF a : Int)
              · rw [if_pos q]; omega
              · rw [if_neg q]; omega
            rw [e, decide_eq_true rfl] <;> rfl
          case e3 =>
            refine' rb_ifr (k := false) (PTD.is ?f1 ?f2) (fun h => by cases h) (fun _ => ?f3)
            case f1 => walk_at "test"
            case f2 =>
              rw [List.length_map, List.length_map, List.length_map, (long_ok _).2.2.2, (long_ok _).2.2.2, (long_ok _).2.2.2, most_dn hb]
              rw [decide_eq_true (by omega)] <;> rfl
            case f3 =>
              by_cases hem : a = [] ∨ b = []
              · refine' rb_ifr (k := true) (PTD.is (ptd_bool (pwd_or (k := a.isEmpty) (j := b.isEmpty) ?i1 fun _ => pwd_or1 ?i2)) ?i3) (fun _ => ?i4) (fun h => by cases h)
                case i1 =>
                  refine' PTD.is ?j1 ?j2
                  case j1 => walk_at "test"
                  case j2 => cases a <;> rfl
                case i2 =>
                  refine' PTD.is ?j1 ?j2
                  case j1 => walk_at "test"
                  case j2 => cases b <;> rfl
                case i3 =>
                  rcases hem with e | e
                  · rw [e] <;> rfl
                  · rw [e]
                    cases a <;> rfl
                case i4 =>
                  walk_at "ret"
                  rfl
              · have hane : a ≠ [] := fun e => hem (.inl e)
                have hbne : b ≠ [] := fun e => hem (.inr e)
                have ha1 := List.length_pos_iff.mpr hane
                have hb1 := List.length_pos_iff.mpr hbne
                refine' rb_ifr (k := false) (PTD.is (ptd_bool (pwd_or (k := false) (j := false) ?i1 fun _ => pwd_or1 ?i2)) rfl) (fun h => by cases h) (fun _ => ?i4)
                case i1 =>
                  refine' PTD.is ?j1 ?j2
                  case j1 => walk_at "test"
                  case j2 => cases a with
                    | nil => exact absurd rfl hane
                    | cons x y => rfl
                case i2 =>
                  refine' PTD.is ?j1 ?j2
                  case j1 => walk_at "test"
                  case j2 => cases b with
                    | nil => exact absurd rfl hbne
                    | cons x y => rfl
                case i4 =>
                  have hD := D9 10
                  have t1 : ((!isNo (optT (treeF 10 (upC a b)))) == ((!isNo (optT (treeF 10 a))) && !isNo (optT (treeF 10 b)))) = true := by
                    rw [beq_iff_eq, Bool.eq_iff_iff, Bool.and_eq_true, tOK hup (by omega) (by omega), tOK ha ha1 (by omega), tOK hb hb1 (by omega)]
                    exact nob_up ha hb
                  have t2 : ((!isNo (optT (treeF 10 (dnC a b)))) == ((!isNo (optT (treeF 10 a))) && !isNo (optT (treeF 10 b)))) = true := by
                    rw [beq_iff_eq, Bool.eq_iff_iff, Bool.and_eq_true, tOK hdn (by omega) (by omega), tOK ha ha1 (by omega), tOK hb hb1 (by omega)]
                    exact nob_dn ha hb
                  refine' rb_asg (x := Str.ofString "_law_both") (i := 7) (d := .bool ((!isNo (optT (treeF 10 a))) && !isNo (optT (treeF 10 b)))) (pd_and (pd_cmp (dx := optT (treeF 10 a)) (pd_call (ds := [rowD a]) hD hr rfl ?k1 ⟨a, rfl, ha.nd, by omega, by omega, rfl⟩) pd_non od_notN (by walk_at "mark")) fun _ => pd_one (pd_cmp (dx := optT (treeF 10 b)) (pd_call (ds := [rowD b]) hD hr rfl ?k2 ⟨b, rfl, hb.nd, by omega, by omega, rfl⟩) pd_non od_notN (by walk_at "mark"))) ?k3 nd rfl (by walk_at "loc") rfl (by walk_at "loc")
                  case k1 => walk_at "args"
                  case k2 => walk_at "args"
                  case k3 =>
                    walk_at "tidy"
                    refine' rb_ret (pd_and (k := true) (j := true) (PD.is (pd_cmp (pd_cmp (dx := optT (treeF 10 (upC a b))) (pd_call (ds := [rowD (upC a b)]) hD hr rfl ?l1 ⟨upC a b, rfl, hup.nd, hul10, by omega, rfl⟩) pd_non od_notN (by walk_at "mark")) ?l2 od_eqB (by walk_at "mark")) (congrArg PyData.bool t1)) fun _ => pd_one (PD.is (pd_cmp (pd_cmp (dx := optT (treeF 10 (dnC a b))) (pd_call (ds := [rowD (dnC a b)]) hD hr rfl ?l3 ⟨dnC a b, rfl, hdn.nd, hdl10, by omega, rfl⟩) pd_non od_notN (by walk_at "mark")) ?l4 od_eqB (by walk_at "mark")) (congrArg PyData.bool t2))) rfl
                    case l1 => walk_at "args"
                    case l2 => walk_at "ev"
                    case l3 => walk_at "args"
                    case l4 => walk_at "ev"
end
theorem all_mk {l : PySem.W.OpenLaw} {w : World} {K : PySem.W.Frag} {h : Heap} {mg : Str → Option Value} {fa : Addr} (X : K.In h) (G : h.Ns mainGlobals mg) (hfa : mg "law" = some (.ref fa))
    {f_flat : Addr} {od_flat an_flat : Option Addr} {sl_flat : Array (Option Value)} {oc_flat kV_flat dc_flat pm_flat cd_flat ct_flat : Value}
    (a_flat : PySem.W.nsIn K mainGlobals "flat" = some (some (.ref f_flat))) (l_flat : K.lookup f_flat = some ⟨oc_flat, od_flat, .func (PySem.W.fnOf "flat" "flat" (defArgs s_flat) (defBody s_flat) (defScope s_flat) .none kV_flat dc_flat pm_flat an_flat cd_flat ct_flat), sl_flat⟩) (c_flat : PySem.W.codeIn K cd_flat "flat" = true) (k_flat : PySem.W.keepIn K (.ref f_flat) = true)
    {f_up : Addr} {od_up an_up : Option Addr} {sl_up : Array (Option Value)} {oc_up kV_up dc_up pm_up cd_up ct_up : Value}
    (a_up : PySem.W.nsIn K mainGlobals "up" = some (some (.ref f_up))) (l_up : K.lookup f_up = some ⟨oc_up, od_up, .func (PySem.W.fnOf "up" "up" (defArgs s_up) (defBody s_up) (defScope s_up) .none kV_up dc_up pm_up an_up cd_up ct_up), sl_up⟩) (c_up : PySem.W.codeIn K cd_up "up" = true) (k_up : PySem.W.keepIn K (.ref f_up) = true)
    {f_down : Addr} {od_down an_down : Option Addr} {sl_down : Array (Option Value)} {oc_down kV_down dc_down pm_down cd_down ct_down : Value}
    (a_down : PySem.W.nsIn K mainGlobals "down" = some (some (.ref f_down))) (l_down : K.lookup f_down = some ⟨oc_down, od_down, .func (PySem.W.fnOf "down" "down" (defArgs s_down) (defBody s_down) (defScope s_down) .none kV_down dc_down pm_down an_down cd_down ct_down), sl_down⟩) (c_down : PySem.W.codeIn K cd_down "down" = true) (k_down : PySem.W.keepIn K (.ref f_down) = true)
    {f_word_at : Addr} {od_word_at an_word_at : Option Addr} {sl_word_at : Array (Option Value)} {oc_word_at kV_word_at dc_word_at pm_word_at cd_word_at ct_word_at : Value}
    (a_word_at : PySem.W.nsIn K mainGlobals "word_at" = some (some (.ref f_word_at))) (l_word_at : K.lookup f_word_at = some ⟨oc_word_at, od_word_at, .func (PySem.W.fnOf "word_at" "word_at" (defArgs s_word_at) (defBody s_word_at) (defScope s_word_at) .none kV_word_at dc_word_at pm_word_at an_word_at cd_word_at ct_word_at), sl_word_at⟩) (c_word_at : PySem.W.codeIn K cd_word_at "word_at" = true) (k_word_at : PySem.W.keepIn K (.ref f_word_at) = true)
    {f_tree_of : Addr} {od_tree_of an_tree_of : Option Addr} {sl_tree_of : Array (Option Value)} {oc_tree_of kV_tree_of dc_tree_of pm_tree_of cd_tree_of ct_tree_of : Value}
    (a_tree_of : PySem.W.nsIn K mainGlobals "tree_of" = some (some (.ref f_tree_of))) (l_tree_of : K.lookup f_tree_of = some ⟨oc_tree_of, od_tree_of, .func (PySem.W.fnOf "tree_of" "tree_of" (defArgs s_tree_of) (defBody s_tree_of) (defScope s_tree_of) .none kV_tree_of dc_tree_of pm_tree_of an_tree_of cd_tree_of ct_tree_of), sl_tree_of⟩) (c_tree_of : PySem.W.codeIn K cd_tree_of "tree_of" = true) (k_tree_of : PySem.W.keepIn K (.ref f_tree_of) = true)
    {f_heights : Addr} {od_heights an_heights : Option Addr} {sl_heights : Array (Option Value)} {oc_heights kV_heights dc_heights pm_heights cd_heights ct_heights : Value}
    (a_heights : PySem.W.nsIn K mainGlobals "heights" = some (some (.ref f_heights))) (l_heights : K.lookup f_heights = some ⟨oc_heights, od_heights, .func (PySem.W.fnOf "heights" "heights" (defArgs s_heights) (defBody s_heights) (defScope s_heights) .none kV_heights dc_heights pm_heights an_heights cd_heights ct_heights), sl_heights⟩) (c_heights : PySem.W.codeIn K cd_heights "heights" = true) (k_heights : PySem.W.keepIn K (.ref f_heights) = true)
    {f_rising_parts : Addr} {od_rising_parts an_rising_parts : Option Addr} {sl_rising_parts : Array (Option Value)} {oc_rising_parts kV_rising_parts dc_rising_parts pm_rising_parts cd_rising_parts ct_rising_parts : Value}
    (a_rising_parts : PySem.W.nsIn K mainGlobals "rising_parts" = some (some (.ref f_rising_parts))) (l_rising_parts : K.lookup f_rising_parts = some ⟨oc_rising_parts, od_rising_parts, .func (PySem.W.fnOf "rising_parts" "rising_parts" (defArgs s_rising_parts) (defBody s_rising_parts) (defScope s_rising_parts) .none kV_rising_parts dc_rising_parts pm_rising_parts an_rising_parts cd_rising_parts ct_rising_parts), sl_rising_parts⟩) (c_rising_parts : PySem.W.codeIn K cd_rising_parts "rising_parts" = true) (k_rising_parts : PySem.W.keepIn K (.ref f_rising_parts) = true)
    {f_longest_falling : Addr} {od_longest_falling an_longest_falling : Option Addr} {sl_longest_falling : Array (Option Value)} {oc_longest_falling kV_longest_falling dc_longest_falling pm_longest_falling cd_longest_falling ct_longest_falling : Value}
    (a_longest_falling : PySem.W.nsIn K mainGlobals "longest_falling" = some (some (.ref f_longest_falling))) (l_longest_falling : K.lookup f_longest_falling = some ⟨oc_longest_falling, od_longest_falling, .func (PySem.W.fnOf "longest_falling" "longest_falling" (defArgs s_longest_falling) (defBody s_longest_falling) (defScope s_longest_falling) .none kV_longest_falling dc_longest_falling pm_longest_falling an_longest_falling cd_longest_falling ct_longest_falling), sl_longest_falling⟩) (c_longest_falling : PySem.W.codeIn K cd_longest_falling "longest_falling" = true) (k_longest_falling : PySem.W.keepIn K (.ref f_longest_falling) = true)
    {f_done_by : Addr} {od_done_by an_done_by : Option Addr} {sl_done_by : Array (Option Value)} {oc_done_by kV_done_by dc_done_by pm_done_by cd_done_by ct_done_by : Value}
    (a_done_by : PySem.W.nsIn K mainGlobals "done_by" = some (some (.ref f_done_by))) (l_done_by : K.lookup f_done_by = some ⟨oc_done_by, od_done_by, .func (PySem.W.fnOf "done_by" "done_by" (defArgs s_done_by) (defBody s_done_by) (defScope s_done_by) .none kV_done_by dc_done_by pm_done_by an_done_by cd_done_by ct_done_by), sl_done_by⟩) (c_done_by : PySem.W.codeIn K cd_done_by "done_by" = true) (k_done_by : PySem.W.keepIn K (.ref f_done_by) = true)
    {f_greedy : Addr} {od_greedy an_greedy : Option Addr} {sl_greedy : Array (Option Value)} {oc_greedy kV_greedy dc_greedy pm_greedy cd_greedy ct_greedy : Value}
    (a_greedy : PySem.W.nsIn K mainGlobals "greedy" = some (some (.ref f_greedy))) (l_greedy : K.lookup f_greedy = some ⟨oc_greedy, od_greedy, .func (PySem.W.fnOf "greedy" "greedy" (defArgs s_greedy) (defBody s_greedy) (defScope s_greedy) .none kV_greedy dc_greedy pm_greedy an_greedy cd_greedy ct_greedy), sl_greedy⟩) (c_greedy : PySem.W.codeIn K cd_greedy "greedy" = true) (k_greedy : PySem.W.keepIn K (.ref f_greedy) = true)
    {f_passed : Addr} {od_passed an_passed : Option Addr} {sl_passed : Array (Option Value)} {oc_passed kV_passed dc_passed pm_passed cd_passed ct_passed : Value}
    (a_passed : PySem.W.nsIn K mainGlobals "passed" = some (some (.ref f_passed))) (l_passed : K.lookup f_passed = some ⟨oc_passed, od_passed, .func (PySem.W.fnOf "passed" "passed" (defArgs s_passed) (defBody s_passed) (defScope s_passed) .none kV_passed dc_passed pm_passed an_passed cd_passed ct_passed), sl_passed⟩) (c_passed : PySem.W.codeIn K cd_passed "passed" = true) (k_passed : PySem.W.keepIn K (.ref f_passed) = true)
    {f_stack_moves : Addr} {od_stack_moves an_stack_moves : Option Addr} {sl_stack_moves : Array (Option Value)} {oc_stack_moves kV_stack_moves dc_stack_moves pm_stack_moves cd_stack_moves ct_stack_moves : Value}
    (a_stack_moves : PySem.W.nsIn K mainGlobals "stack_moves" = some (some (.ref f_stack_moves))) (l_stack_moves : K.lookup f_stack_moves = some ⟨oc_stack_moves, od_stack_moves, .func (PySem.W.fnOf "stack_moves" "stack_moves" (defArgs s_stack_moves) (defBody s_stack_moves) (defScope s_stack_moves) .none kV_stack_moves dc_stack_moves pm_stack_moves an_stack_moves cd_stack_moves ct_stack_moves), sl_stack_moves⟩) (c_stack_moves : PySem.W.codeIn K cd_stack_moves "stack_moves" = true) (k_stack_moves : PySem.W.keepIn K (.ref f_stack_moves) = true)
    {f__law_cell_at : Addr} {od__law_cell_at an__law_cell_at : Option Addr} {sl__law_cell_at : Array (Option Value)} {oc__law_cell_at kV__law_cell_at dc__law_cell_at pm__law_cell_at cd__law_cell_at ct__law_cell_at : Value}
    (a__law_cell_at : PySem.W.nsIn K mainGlobals "_law_cell_at" = some (some (.ref f__law_cell_at))) (l__law_cell_at : K.lookup f__law_cell_at = some ⟨oc__law_cell_at, od__law_cell_at, .func (PySem.W.fnOf "_law_cell_at" "_law_cell_at" (defArgs s__law_cell_at) (defBody s__law_cell_at) (defScope s__law_cell_at) .none kV__law_cell_at dc__law_cell_at pm__law_cell_at an__law_cell_at cd__law_cell_at ct__law_cell_at), sl__law_cell_at⟩) (c__law_cell_at : PySem.W.codeIn K cd__law_cell_at "_law_cell_at" = true) (k__law_cell_at : PySem.W.keepIn K (.ref f__law_cell_at) = true)
    {f__law_mixed : Addr} {od__law_mixed an__law_mixed : Option Addr} {sl__law_mixed : Array (Option Value)} {oc__law_mixed kV__law_mixed dc__law_mixed pm__law_mixed cd__law_mixed ct__law_mixed : Value}
    (a__law_mixed : PySem.W.nsIn K mainGlobals "_law_mixed" = some (some (.ref f__law_mixed))) (l__law_mixed : K.lookup f__law_mixed = some ⟨oc__law_mixed, od__law_mixed, .func (PySem.W.fnOf "_law_mixed" "_law_mixed" (defArgs s__law_mixed) (defBody s__law_mixed) (defScope s__law_mixed) .none kV__law_mixed dc__law_mixed pm__law_mixed an__law_mixed cd__law_mixed ct__law_mixed), sl__law_mixed⟩) (c__law_mixed : PySem.W.codeIn K cd__law_mixed "_law_mixed" = true) (k__law_mixed : PySem.W.keepIn K (.ref f__law_mixed) = true)
    {f__law_drawn : Addr} {od__law_drawn an__law_drawn : Option Addr} {sl__law_drawn : Array (Option Value)} {oc__law_drawn kV__law_drawn dc__law_drawn pm__law_drawn cd__law_drawn ct__law_drawn : Value}
    (a__law_drawn : PySem.W.nsIn K mainGlobals "_law_drawn" = some (some (.ref f__law_drawn))) (l__law_drawn : K.lookup f__law_drawn = some ⟨oc__law_drawn, od__law_drawn, .func (PySem.W.fnOf "_law_drawn" "_law_drawn" (defArgs s__law_drawn) (defBody s__law_drawn) (defScope s__law_drawn) .none kV__law_drawn dc__law_drawn pm__law_drawn an__law_drawn cd__law_drawn ct__law_drawn), sl__law_drawn⟩) (c__law_drawn : PySem.W.codeIn K cd__law_drawn "_law_drawn" = true) (k__law_drawn : PySem.W.keepIn K (.ref f__law_drawn) = true)
    {f__law_row : Addr} {od__law_row an__law_row : Option Addr} {sl__law_row : Array (Option Value)} {oc__law_row kV__law_row dc__law_row pm__law_row cd__law_row ct__law_row : Value}
    (a__law_row : PySem.W.nsIn K mainGlobals "_law_row" = some (some (.ref f__law_row))) (l__law_row : K.lookup f__law_row = some ⟨oc__law_row, od__law_row, .func (PySem.W.fnOf "_law_row" "_law_row" (defArgs s__law_row) (defBody s__law_row) (defScope s__law_row) .none kV__law_row dc__law_row pm__law_row an__law_row cd__law_row ct__law_row), sl__law_row⟩) (c__law_row : PySem.W.codeIn K cd__law_row "_law_row" = true) (k__law_row : PySem.W.keepIn K (.ref f__law_row) = true)
    {f_law : Addr} {od_law an_law : Option Addr} {sl_law : Array (Option Value)} {oc_law kV_law dc_law pm_law cd_law ct_law : Value}
    (a_law : PySem.W.nsIn K mainGlobals "law" = some (some (.ref f_law))) (l_law : K.lookup f_law = some ⟨oc_law, od_law, .func (PySem.W.fnOf "law" "law" (defArgs s_law) (defBody s_law) (defScope s_law) .none kV_law dc_law pm_law an_law cd_law ct_law), sl_law⟩) (c_law : PySem.W.codeIn K cd_law "law" = true) (k_law : PySem.W.keepIn K (.ref f_law) = true)
    (z_len : PySem.W.nsIn K mainGlobals "len" = some none)
    (z_range : PySem.W.nsIn K mainGlobals "range" = some none)
    (z_tuple : PySem.W.nsIn K mainGlobals "tuple" = some none)
    (z_list : PySem.W.nsIn K mainGlobals "list" = some none)
    (z_sorted : PySem.W.nsIn K mainGlobals "sorted" = some none)
    (z_max : PySem.W.nsIn K mainGlobals "max" = some none)
    (z_min : PySem.W.nsIn K mainGlobals "min" = some none)
    (z_isinstance : PySem.W.nsIn K mainGlobals "isinstance" = some none)
    (z_int : PySem.W.nsIn K mainGlobals "int" = some none)
    (z_bool : PySem.W.nsIn K mainGlobals "bool" = some none)
    (z_enumerate : PySem.W.nsIn K mainGlobals "enumerate" = some none)
    (z_all : PySem.W.nsIn K mainGlobals "all" = some none)
    (z_sum : PySem.W.nsIn K mainGlobals "sum" = some none) :
    ∃ fd : FuncData, (∀ (s : Shared) (v : Value), BindsTo s fd ⟨[v], []⟩ [("_law_script", v)]) ∧ ∀ base : Heap, K.In base → base.Ns mainGlobals mg → FnOk l.prog w K mg base CX0 13 fa fd ["_law_script"] (spLaw K) := by
  have e := hfa.symm.trans (PySem.W.mg_of X G a_law)
  cases e
  have B : Bl mg := ⟨PySem.W.mg_none_of X G z_len, PySem.W.mg_none_of X G z_range, PySem.W.mg_none_of X G z_tuple, PySem.W.mg_none_of X G z_list, PySem.W.mg_none_of X G z_sorted, PySem.W.mg_none_of X G z_max, PySem.W.mg_none_of X G z_min, PySem.W.mg_none_of X G z_isinstance, PySem.W.mg_none_of X G z_int, PySem.W.mg_none_of X G z_bool, PySem.W.mg_none_of X G z_enumerate, PySem.W.mg_none_of X G z_all, PySem.W.mg_none_of X G z_sum⟩
  have dn_flat : Dn K mg "flat" s_flat p_flat := ⟨_, _, fun_mk l_flat c_flat k_flat, (fun_mk (st := s_flat) l_flat c_flat k_flat).binds (ps := p_flat) fun _ _ _ _ _ _ us hl => (match us, hl with | [_], _ => rfl), PySem.W.mg_of X G a_flat⟩
  have dn_up : Dn K mg "up" s_up p_up := ⟨_, _, fun_mk l_up c_up k_up, (fun_mk (st := s_up) l_up c_up k_up).binds (ps := p_up) fun _ _ _ _ _ _ us hl => (match us, hl with | [_, _], _ => rfl), PySem.W.mg_of X G a_up⟩
  have dn_down : Dn K mg "down" s_down p_down := ⟨_, _, fun_mk l_down c_down k_down, (fun_mk (st := s_down) l_down c_down k_down).binds (ps := p_down) fun _ _ _ _ _ _ us hl => (match us, hl with | [_, _], _ => rfl), PySem.W.mg_of X G a_down⟩
  have dn_word_at : Dn K mg "word_at" s_word_at p_word_at := ⟨_, _, fun_mk l_word_at c_word_at k_word_at, (fun_mk (st := s_word_at) l_word_at c_word_at k_word_at).binds (ps := p_word_at) fun _ _ _ _ _ _ us hl => (match us, hl with | [_, _], _ => rfl), PySem.W.mg_of X G a_word_at⟩
  have dn_tree_of : Dn K mg "tree_of" s_tree_of p_tree_of := ⟨_, _, fun_mk l_tree_of c_tree_of k_tree_of, (fun_mk (st := s_tree_of) l_tree_of c_tree_of k_tree_of).binds (ps := p_tree_of) fun _ _ _ _ _ _ us hl => (match us, hl with | [_], _ => rfl), PySem.W.mg_of X G a_tree_of⟩
  have dn_heights : Dn K mg "heights" s_heights p_heights := ⟨_, _, fun_mk l_heights c_heights k_heights, (fun_mk (st := s_heights) l_heights c_heights k_heights).binds (ps := p_heights) fun _ _ _ _ _ _ us hl => (match us, hl with | [_], _ => rfl), PySem.W.mg_of X G a_heights⟩
  have dn_rising_parts : Dn K mg "rising_parts" s_rising_parts p_rising_parts := ⟨_, _, fun_mk l_rising_parts c_rising_parts k_rising_parts, (fun_mk (st := s_rising_parts) l_rising_parts c_rising_parts k_rising_parts).binds (ps := p_rising_parts) fun _ _ _ _ _ _ us hl => (match us, hl with | [_], _ => rfl), PySem.W.mg_of X G a_rising_parts⟩
  have dn_longest_falling : Dn K mg "longest_falling" s_longest_falling p_longest_falling := ⟨_, _, fun_mk l_longest_falling c_longest_falling k_longest_falling, (fun_mk (st := s_longest_falling) l_longest_falling c_longest_falling k_longest_falling).binds (ps := p_longest_falling) fun _ _ _ _ _ _ us hl => (match us, hl with | [_], _ => rfl), PySem.W.mg_of X G a_longest_falling⟩
  have dn_done_by : Dn K mg "done_by" s_done_by p_done_by := ⟨_, _, fun_mk l_done_by c_done_by k_done_by, (fun_mk (st := s_done_by) l_done_by c_done_by k_done_by).binds (ps := p_done_by) fun _ _ _ _ _ _ us hl => (match us, hl with | [_, _], _ => rfl), PySem.W.mg_of X G a_done_by⟩
  have dn_greedy : Dn K mg "greedy" s_greedy p_greedy := ⟨_, _, fun_mk l_greedy c_greedy k_greedy, (fun_mk (st := s_greedy) l_greedy c_greedy k_greedy).binds (ps := p_greedy) fun _ _ _ _ _ _ us hl => (match us, hl with | [_], _ => rfl), PySem.W.mg_of X G a_greedy⟩
  have dn_passed : Dn K mg "passed" s_passed p_passed := ⟨_, _, fun_mk l_passed c_passed k_passed, (fun_mk (st := s_passed) l_passed c_passed k_passed).binds (ps := p_passed) fun _ _ _ _ _ _ us hl => (match us, hl with | [_], _ => rfl), PySem.W.mg_of X G a_passed⟩
  have dn_stack_moves : Dn K mg "stack_moves" s_stack_moves p_stack_moves := ⟨_, _, fun_mk l_stack_moves c_stack_moves k_stack_moves, (fun_mk (st := s_stack_moves) l_stack_moves c_stack_moves k_stack_moves).binds (ps := p_stack_moves) fun _ _ _ _ _ _ us hl => (match us, hl with | [_], _ => rfl), PySem.W.mg_of X G a_stack_moves⟩
  have dn__law_cell_at : Dn K mg "_law_cell_at" s__law_cell_at p__law_cell_at := ⟨_, _, fun_mk l__law_cell_at c__law_cell_at k__law_cell_at, (fun_mk (st := s__law_cell_at) l__law_cell_at c__law_cell_at k__law_cell_at).binds (ps := p__law_cell_at) fun _ _ _ _ _ _ us hl => (match us, hl with | [_, _], _ => rfl), PySem.W.mg_of X G a__law_cell_at⟩
  have dn__law_mixed : Dn K mg "_law_mixed" s__law_mixed p__law_mixed := ⟨_, _, fun_mk l__law_mixed c__law_mixed k__law_mixed, (fun_mk (st := s__law_mixed) l__law_mixed c__law_mixed k__law_mixed).binds (ps := p__law_mixed) fun _ _ _ _ _ _ us hl => (match us, hl with | [_, _], _ => rfl), PySem.W.mg_of X G a__law_mixed⟩
  have dn__law_drawn : Dn K mg "_law_drawn" s__law_drawn p__law_drawn := ⟨_, _, fun_mk l__law_drawn c__law_drawn k__law_drawn, (fun_mk (st := s__law_drawn) l__law_drawn c__law_drawn k__law_drawn).binds (ps := p__law_drawn) fun _ _ _ _ _ _ us hl => (match us, hl with | [_, _], _ => rfl), PySem.W.mg_of X G a__law_drawn⟩
  have dn__law_row : Dn K mg "_law_row" s__law_row p__law_row := ⟨_, _, fun_mk l__law_row c__law_row k__law_row, (fun_mk (st := s__law_row) l__law_row c__law_row k__law_row).binds (ps := p__law_row) fun _ _ _ _ _ _ us hl => (match us, hl with | [_, _], _ => rfl), PySem.W.mg_of X G a__law_row⟩
  have dn_law : Dn K mg "law" s_law p_law := ⟨_, _, fun_mk l_law c_law k_law, (fun_mk (st := s_law) l_law c_law k_law).binds (ps := p_law) fun _ _ _ _ _ _ us hl => (match us, hl with | [_], _ => rfl), PySem.W.mg_of X G a_law⟩
  refine ⟨PySem.W.fnOf "law" "law" (defArgs s_law) (defBody s_law) (defScope s_law) .none kV_law dc_law pm_law an_law cd_law ct_law, fun s v => .of_eq rfl, fun base _ _ => ?_⟩
  have df_flat : Df l.prog w K mg base "flat" 1 p_flat R_flat := by
    apply ok_flat <;> assumption
  have df_up : Df l.prog w K mg base "up" 1 p_up R_up := by
    apply ok_up <;> assumption
  have df_down : Df l.prog w K mg base "down" 1 p_down R_down := by
    apply ok_down <;> assumption
  have df_word_at : Df l.prog w K mg base "word_at" 1 p_word_at R_word_at := by
    apply ok_word_at <;> assumption
  have df_tree_of : ∀ M, Df l.prog w K mg base "tree_of" (M + 2) p_tree_of (R_tree_of M) := ok_tree_of dn_tree_of B df_word_at df_flat
  have df_heights : DfL l.prog w K mg base "heights" 1 p_heights R_heights := by
    apply ok_heights <;> assumption
  have df_rising_parts : Df l.prog w K mg base "rising_parts" 2 p_rising_parts R_rising_parts := by
    apply ok_rising_parts <;> assumption
  have df_longest_falling : Df l.prog w K mg base "longest_falling" 2 p_longest_falling R_longest_falling := by
    apply ok_longest_falling <;> assumption
  have df_done_by : Df l.prog w K mg base "done_by" 1 p_done_by R_done_by := by
    apply ok_done_by <;> assumption
  have df_greedy : Df l.prog w K mg base "greedy" 1 p_greedy R_greedy := by
    apply ok_greedy <;> assumption
  have df_passed : Df l.prog w K mg base "passed" 2 p_passed R_passed := by
    apply ok_passed <;> assumption
  have df_stack_moves : Df l.prog w K mg base "stack_moves" 3 p_stack_moves R_stack_moves := by
    apply ok_stack_moves <;> assumption
  have df__law_cell_at : Df l.prog w K mg base "_law_cell_at" 1 p__law_cell_at R__law_cell_at := by
    apply ok__law_cell_at <;> assumption
  have df__law_mixed : Df l.prog w K mg base "_law_mixed" 2 p__law_mixed R__law_mixed := by
    apply ok__law_mixed <;> assumption
  have df__law_drawn : Df l.prog w K mg base "_law_drawn" 1 p__law_drawn R__law_drawn := by
    apply ok__law_drawn <;> assumption
  have df__law_row : Df l.prog w K mg base "_law_row" 2 p__law_row R__law_row := by
    apply ok__law_row <;> assumption
  have df_law : Df l.prog w K mg base "law" 13 p_law R_law := by
    apply ok_law <;> assumption
  exact law_fn df_law hfa l_law
end Tw
open PySem PySem.W PyProof.Rows
set_option maxRecDepth 100000 in
set_option maxHeartbeats 0 in
theorem PySem.Challenge.cw_twistyard_k41_whole_put_together_holds : PySem.Challenge.rw_twistyard_k41_whole_put_together.Holds := by
  w_on; o_law; k_head; (case hw => w_witness2)
  k_fill
  refine L2.walk_of (l := PySem.Challenge.rw_twistyard_k41_whole_put_together) (n := 63) (k := 13) (x := "_law_script") (CX := fun _ => L2.CX0) (sp := fun w => Tw.spLaw _) rfl (by decide) rfl ⟨rfl, by decide, by decide⟩ (fun w h Y => PySem.W.kIn_of Y) ?F (fun _ _ a ns hl _ hS => ⟨a, ns, rfl, hS, hl, fun _ => rfl⟩) (fun _ _ _ _ _ h => h)
  case F =>
    intro w mg fa h KX G hmg
    refine' Tw.all_mk KX G hmg ?a_flat ?l_flat ?c_flat ?k_flat ?a_up ?l_up ?c_up ?k_up ?a_down ?l_down ?c_down ?k_down ?a_word_at ?l_word_at ?c_word_at ?k_word_at ?a_tree_of ?l_tree_of ?c_tree_of ?k_tree_of ?a_heights ?l_heights ?c_heights ?k_heights ?a_rising_parts ?l_rising_parts ?c_rising_parts ?k_rising_parts ?a_longest_falling ?l_longest_falling ?c_longest_falling ?k_longest_falling ?a_done_by ?l_done_by ?c_done_by ?k_done_by ?a_greedy ?l_greedy ?c_greedy ?k_greedy ?a_passed ?l_passed ?c_passed ?k_passed ?a_stack_moves ?l_stack_moves ?c_stack_moves ?k_stack_moves ?a__law_cell_at ?l__law_cell_at ?c__law_cell_at ?k__law_cell_at ?a__law_mixed ?l__law_mixed ?c__law_mixed ?k__law_mixed ?a__law_drawn ?l__law_drawn ?c__law_drawn ?k__law_drawn ?a__law_row ?l__law_row ?c__law_row ?k__law_row ?a_law ?l_law ?c_law ?k_law ?z_len ?z_range ?z_tuple ?z_list ?z_sorted ?z_max ?z_min ?z_isinstance ?z_int ?z_bool ?z_enumerate ?z_all ?z_sum
    (case a_flat => k_is)
    (case l_flat => k_is)
    (case c_flat => k_is)
    (case k_flat => k_is)
    (case a_up => k_is)
    (case l_up => k_is)
    (case c_up => k_is)
    (case k_up => k_is)
    (case a_down => k_is)
    (case l_down => k_is)
    (case c_down => k_is)
    (case k_down => k_is)
    (case a_word_at => k_is)
    (case l_word_at => k_is)
    (case c_word_at => k_is)
    (case k_word_at => k_is)
    (case a_tree_of => k_is)
    (case l_tree_of => k_is)
    (case c_tree_of => k_is)
    (case k_tree_of => k_is)
    (case a_heights => k_is)
    (case l_heights => k_is)
    (case c_heights => k_is)
    (case k_heights => k_is)
    (case a_rising_parts => k_is)
    (case l_rising_parts => k_is)
    (case c_rising_parts => k_is)
    (case k_rising_parts => k_is)
    (case a_longest_falling => k_is)
    (case l_longest_falling => k_is)
    (case c_longest_falling => k_is)
    (case k_longest_falling => k_is)
    (case a_done_by => k_is)
    (case l_done_by => k_is)
    (case c_done_by => k_is)
    (case k_done_by => k_is)
    (case a_greedy => k_is)
    (case l_greedy => k_is)
    (case c_greedy => k_is)
    (case k_greedy => k_is)
    (case a_passed => k_is)
    (case l_passed => k_is)
    (case c_passed => k_is)
    (case k_passed => k_is)
    (case a_stack_moves => k_is)
    (case l_stack_moves => k_is)
    (case c_stack_moves => k_is)
    (case k_stack_moves => k_is)
    (case a__law_cell_at => k_is)
    (case l__law_cell_at => k_is)
    (case c__law_cell_at => k_is)
    (case k__law_cell_at => k_is)
    (case a__law_mixed => k_is)
    (case l__law_mixed => k_is)
    (case c__law_mixed => k_is)
    (case k__law_mixed => k_is)
    (case a__law_drawn => k_is)
    (case l__law_drawn => k_is)
    (case c__law_drawn => k_is)
    (case k__law_drawn => k_is)
    (case a__law_row => k_is)
    (case l__law_row => k_is)
    (case c__law_row => k_is)
    (case k__law_row => k_is)
    (case a_law => k_is)
    (case l_law => k_is)
    (case c_law => k_is)
    (case k_law => k_is)
    (case z_len => k_is)
    (case z_range => k_is)
    (case z_tuple => k_is)
    (case z_list => k_is)
    (case z_sorted => k_is)
    (case z_max => k_is)
    (case z_min => k_is)
    (case z_isinstance => k_is)
    (case z_int => k_is)
    (case z_bool => k_is)
    (case z_enumerate => k_is)
    (case z_all => k_is)
    (case z_sum => k_is)
#print axioms PySem.Challenge.cw_twistyard_k41_whole_put_together_holds
