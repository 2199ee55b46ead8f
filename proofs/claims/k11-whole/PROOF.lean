import PyProof.Rows.All
import Wide.All
import OpenK.AllK
import Wide.FinOn
import HandS.ForMost
import HandS.Evl
import HandS.Deep
import HandS.TupAny
import HandS.IsInst
import HandS.Steps
import KE.KDictKeyed
import KE.KeyNested
import KE.KDictDisplayH
import HandS.Defaults
import HandS.WordsExc
import HandS.HeadHook2
import HandS.Zip
import HandS.SetFor
import HandS.Style
import PyProof.ReprReads
import KE.SortData
import KE.DataMinMax
import HandS.Sort
import PyProof.EqLayable
import HandS.NoneIn
import KE.KExcSuper
import HandS.ExcSuper
import HandS.ExcField
import HandS.TryMany
import HandS.Words
import KE.GoesEnum
import KE.GoesZip
import KE.KDictZip
import HandS.ExcOwn
import PyProof.ReprRoads
import PyProof.ReprLen
import HandS.Ends
import KE.KStateDown
import Lean
import HandS.Head0
import HandS.Head1
import HandS.Head2
import HandS.HeadEnd
import HandS.HeadHook1
import PySem.Challenge.RW_leavescalm_k11_whole_pairs_that_are_calm
set_option Elab.async false
set_option linter.all false
set_option maxRecDepth 100000
set_option maxHeartbeats 0
/-! Readings that evaluate to data (Dp), over HandS. -/
namespace L2
open PySem PySem.Spec PyProof.Rows Evl
section
variable {K : PySem.W.Frag} {H H' H1 H2 : Hp}
/-! ### data stays -/
mutual
theorem dp_ex (e : Ex H H') : ∀ (d : PyData) (v : V), Dp K H v d → Dp K H' v d
  | .none, _, h => by cases h; exact .non
  | .bool b, _, h => by cases h; exact .bl b
  | .int i, _, h => by cases h; exact .int i
  | .str x, _, h => by cases h; exact .str x
  | .list ds, _, h => by
    cases h with
    | lst hs ha => exact .lst (ex_l e hs) (dpa_ex e ds _ ha)
  | .tuple ds, _, h => by
    cases h with
    | tup hs ha => exact .tup (ex_t e hs) (dpa_ex e ds _ ha)
  | .dict _, _, h => by cases h
theorem dpa_ex (e : Ex H H') : ∀ (ds : List PyData) (vs : List V), DpAll K H vs ds → DpAll K H' vs ds
  | [], _, h => by cases h; exact .nil
  | d :: ds, _, h => by
    cases h with
    | cons h1 h2 => exact .cons (dp_ex e d _ h1) (dpa_ex e ds _ h2)
end
theorem Dp.ex {v : V} {d : PyData} (h : Dp K H v d) (e : Ex H H') : Dp K H' v d := dp_ex e d v h
theorem DpAll.ex {vs : List V} {ds : List PyData} (h : DpAll K H vs ds) (e : Ex H H') : DpAll K H' vs ds := dpa_ex e ds vs h
/-- tuples that are read stay -/
def Tx (K : PySem.W.Frag) (H H' : Hp) : Prop := ∀ a xs, SqT K H a xs → SqT K H' a xs
theorem Tx.refl : Tx K H H := fun _ _ h => h
theorem Tx.trans (a : Tx K H H1) (b : Tx K H1 H2) : Tx K H H2 := fun x xs h => b x xs (a x xs h)
theorem Ex.tx (e : Ex H H') : Tx K H H' := fun _ _ h => ex_t e h
/-- a list changes: tuples stay -/
theorem Tx.lst {p : Addr} {xs : List V} {o : HO} (h : H p = some (.lst xs)) : Tx K H (upd H p o) := fun a ys q => by
  rcases q with (q | ⟨ob, q⟩) | q
  · exact .inl (.inl (by rw [upd_ne (ne_of q h (by intro z; cases z))]; exact q))
  · exact .inl (.inr ⟨ob, by rw [upd_ne (ne_of q h (by intro z; cases z))]; exact q⟩)
  · exact .inr q
theorem Tx.extn {p : Addr} {φ : Heap → Prop} {o : HO} (h : H p = some (.ext φ)) : Tx K H (upd H p o) := fun a ys q => by
  rcases q with (q | ⟨ob, q⟩) | q
  · exact .inl (.inl (by rw [upd_ne (ne_of q h (by intro z; cases z))]; exact q))
  · exact .inl (.inr ⟨ob, by rw [upd_ne (ne_of q h (by intro z; cases z))]; exact q⟩)
  · exact .inr q
/-! data without lists -/
mutual
def flat : PyData → Bool
  | .none => true
  | .bool _ => true
  | .int _ => true
  | .str _ => true
  | .list _ => false
  | .tuple ds => flatAll ds
  | .dict _ => false
def flatAll : List PyData → Bool
  | [] => true
  | d :: ds => flat d && flatAll ds
end
mutual
theorem dp_tx (t : Tx K H H') : ∀ (d : PyData) (v : V), flat d = true → Dp K H v d → Dp K H' v d
  | .none, _, _, h => by cases h; exact .non
  | .bool b, _, _, h => by cases h; exact .bl b
  | .int i, _, _, h => by cases h; exact .int i
  | .str x, _, _, h => by cases h; exact .str x
  | .list ds, _, f, _ => by simp [flat] at f
  | .tuple ds, _, f, h => by
    cases h with
    | tup hs ha => exact .tup (t _ _ hs) (dpa_tx t ds _ (by simpa [flat] using f) ha)
  | .dict _, _, _, h => by cases h
theorem dpa_tx (t : Tx K H H') : ∀ (ds : List PyData) (vs : List V), flatAll ds = true → DpAll K H vs ds → DpAll K H' vs ds
  | [], _, _, h => by cases h; exact .nil
  | d :: ds, _, f, h => by
    have f' : flat d = true ∧ flatAll ds = true := by simpa [flatAll] using f
    cases h with
    | cons h1 h2 => exact .cons (dp_tx t d _ f'.1 h1) (dpa_tx t ds _ f'.2 h2)
end
theorem Dp.tx {v : V} {d : PyData} (h : Dp K H v d) (t : Tx K H H') (f : flat d = true) : Dp K H' v d := dp_tx t d v f h
theorem DpAll.tx {vs : List V} {ds : List PyData} (h : DpAll K H vs ds) (t : Tx K H H') (f : flatAll ds = true) : DpAll K H' vs ds := dpa_tx t ds vs f h
theorem flatAll_app : ∀ (a b : List PyData), flatAll (a ++ b) = (flatAll a && flatAll b)
  | [], b => by simp [flatAll]
  | x :: a, b => by rw [List.cons_append, flatAll, flatAll, flatAll_app a b, Bool.and_assoc]
/-! ### lists of data -/
theorem DpAll.len : ∀ {vs : List V} {ds : List PyData}, DpAll K H vs ds → vs.length = ds.length
  | [], [], _ => rfl
  | [], _ :: _, h => by cases h
  | _ :: _, [], h => by cases h
  | _ :: vs, _ :: ds, h => by
    cases h with
    | cons _ h2 => rw [List.length_cons, List.length_cons, DpAll.len h2]
theorem DpAll.app : ∀ {vs : List V} {ds : List PyData} {ws : List V} {es : List PyData}, DpAll K H vs ds → DpAll K H ws es → DpAll K H (vs ++ ws) (ds ++ es)
  | [], [], _, _, _, k => k
  | [], _ :: _, _, _, h, _ => by cases h
  | _ :: _, [], _, _, h, _ => by cases h
  | _ :: _, _ :: _, _, _, h, k => by
    cases h with
    | cons h1 h2 => exact .cons h1 (DpAll.app h2 k)
theorem DpAll.get : ∀ {vs : List V} {ds : List PyData}, DpAll K H vs ds → ∀ {i : Nat} {v : V}, vs[i]? = some v → ∃ d, ds[i]? = some d ∧ Dp K H v d
  | [], _, _, i, v, e => by simp at e
  | _ :: _, [], h, _, _, _ => by cases h
  | w :: vs, d :: ds, h, i, v, e => by
    cases h with
    | cons h1 h2 =>
      cases i with
      | zero =>
        have e' : w = v := Option.some.inj e
        subst e'
        exact ⟨d, rfl, h1⟩
      | succ i => exact DpAll.get h2 (i := i) e
theorem DpAll.get' : ∀ {vs : List V} {ds : List PyData}, DpAll K H vs ds → ∀ {i : Nat} {d : PyData}, ds[i]? = some d → ∃ v, vs[i]? = some v ∧ Dp K H v d
  | _, [], _, i, d, e => by simp at e
  | [], _ :: _, h, _, _, _ => by cases h
  | w :: vs, d' :: ds, h, i, d, e => by
    cases h with
    | cons h1 h2 =>
      cases i with
      | zero =>
        have e' : d' = d := Option.some.inj e
        subst e'
        exact ⟨w, rfl, h1⟩
      | succ i => exact DpAll.get' h2 (i := i) e
theorem DpAll.take : ∀ {vs : List V} {ds : List PyData} (n : Nat), DpAll K H vs ds → DpAll K H (vs.take n) (ds.take n)
  | _, _, 0, _ => by simp only [List.take_zero]; exact .nil
  | [], [], _ + 1, h => h
  | [], _ :: _, _ + 1, h => by cases h
  | _ :: _, [], _ + 1, h => by cases h
  | _ :: _, _ :: _, n + 1, h => by
    cases h with
    | cons h1 h2 => exact .cons h1 (DpAll.take n h2)
theorem DpAll.drop : ∀ {vs : List V} {ds : List PyData} (n : Nat), DpAll K H vs ds → DpAll K H (vs.drop n) (ds.drop n)
  | _, _, 0, h => h
  | [], [], _ + 1, h => h
  | [], _ :: _, _ + 1, h => by cases h
  | _ :: _, [], _ + 1, h => by cases h
  | _ :: _, _ :: _, n + 1, h => by
    cases h with
    | cons h1 h2 => exact DpAll.drop n h2
theorem DpAll.ints : ∀ {ns : List Int} {vs : List V}, DpAll K H vs (ns.map PyData.int) → vs = ns.map V.int
  | [], [], _ => rfl
  | [], _ :: _, h => by cases h
  | _ :: _, [], h => by cases h
  | n :: ns, v :: vs, h => by
    cases h with
    | cons h1 h2 =>
      cases h1
      rw [List.map_cons, ← DpAll.ints h2]
theorem DpAll.of_ints : ∀ (ns : List Int), DpAll K H (ns.map V.int) (ns.map PyData.int)
  | [] => .nil
  | n :: ns => .cons (.int n) (DpAll.of_ints ns)
theorem DpAll.bls : ∀ {ns : List Bool} {vs : List V}, DpAll K H vs (ns.map PyData.bool) → vs = ns.map V.bl
  | [], [], _ => rfl
  | [], _ :: _, h => by cases h
  | _ :: _, [], h => by cases h
  | n :: ns, v :: vs, h => by
    cases h with
    | cons h1 h2 =>
      cases h1
      rw [List.map_cons, ← DpAll.bls h2]
theorem DpAll.one {v : V} {d : PyData} (h : Dp K H v d) : DpAll K H [v] [d] := .cons h .nil
theorem Dp.list_of {v : V} {ds : List PyData} (h : Dp K H v (.list ds)) : ∃ a xs, v = .ref a ∧ SqL K H a xs ∧ DpAll K H xs ds := by
  cases h with
  | lst hs ha => exact ⟨_, _, rfl, hs, ha⟩
theorem Dp.tup_of {v : V} {ds : List PyData} (h : Dp K H v (.tuple ds)) : ∃ a xs, v = .ref a ∧ SqT K H a xs ∧ DpAll K H xs ds := by
  cases h with
  | tup hs ha => exact ⟨_, _, rfl, hs, ha⟩
theorem Dp.int_of {v : V} {i : Int} (h : Dp K H v (.int i)) : v = .int i := by cases h; rfl
theorem Dp.bl_of {v : V} {b : Bool} (h : Dp K H v (.bool b)) : v = .bl b := by cases h; rfl
theorem Dp.non_of {v : V} (h : Dp K H v .none) : v = .non := by cases h; rfl
theorem Dp.str_of {v : V} {x : Str} (h : Dp K H v (.str x)) : v = .str x := by cases h; rfl

end
end L2
namespace K11
open PySem PySem.Spec PyProof.Rows L2 Evl
section
variable {K : PySem.W.Frag} {H H' H1 H2 : Hp}
/-! ### what evaluates to data -/
def EvD (K : PySem.W.Frag) (te : TE) (σ : L2.St) (H : Hp) (d : PyData) : Prop := ∀ H1, Ex H H1 → ∀ Q : VK, (∀ v H2, Ex H1 H2 → Dp K H2 v d → Q v H2) → te σ H1 Q
/-- a new list -/
def EvN (K : PySem.W.Frag) (te : TE) (σ : L2.St) (H : Hp) (ds : List PyData) : Prop :=
  ∀ H1, Ex H H1 → ∀ Q : VK, (∀ p xs H2, H1 p = none → Ex H1 H2 → H2 p = some (.lst xs) → DpAll K H2 xs ds → Q (.ref p) H2) → te σ H1 Q
def EvDA (K : PySem.W.Frag) (ta : TA) (σ : L2.St) (H : Hp) (ds : List PyData) : Prop := ∀ H1, Ex H H1 → ∀ Q : List V → Hp → Prop, (∀ vs H2, Ex H1 H2 → DpAll K H2 vs ds → Q vs H2) → ta σ H1 Q
/-- two-place operations, calls, by data -/
def RD (K : PySem.W.Frag) (r : R2) (d e : PyData) (z : PyData) : Prop := ∀ x y H1, Dp K H1 x d → Dp K H1 y e → ∀ Q : VK, (∀ v H2, Ex H1 H2 → Dp K H2 v z → Q v H2) → r x y H1 Q
def CD (K : PySem.W.Frag) (r : List V → Hp → VK → Prop) (ds : List PyData) (z : PyData) : Prop := ∀ vs H1, DpAll K H1 vs ds → ∀ Q : VK, (∀ v H2, Ex H1 H2 → Dp K H2 v z → Q v H2) → r vs H1 Q
def CN (K : PySem.W.Frag) (r : List V → Hp → VK → Prop) (ds : List PyData) (zs : List PyData) : Prop :=
  ∀ vs H1, DpAll K H1 vs ds → ∀ Q : VK, (∀ p xs H2, H1 p = none → Ex H1 H2 → H2 p = some (.lst xs) → DpAll K H2 xs zs → Q (.ref p) H2) → r vs H1 Q
end
section
variable {K : PySem.W.Frag} {H H' H1 H2 : Hp} {σ : L2.St} {ta tb te tx : TE} {t u : TT} {d e z : PyData} {r : R2} {ds es : List PyData} {tA : TA}
theorem EvD.mono (h : EvD K te σ H d) (e : Ex H H') : EvD K te σ H' d := fun H1 a Q q => h H1 (e.trans a) Q q
theorem EvN.mono (h : EvN K te σ H ds) (e : Ex H H') : EvN K te σ H' ds := fun H1 a Q q => h H1 (e.trans a) Q q
theorem EvDA.mono (h : EvDA K tA σ H ds) (e : Ex H H') : EvDA K tA σ H' ds := fun H1 a Q q => h H1 (e.trans a) Q q
theorem EvN.toD (h : EvN K te σ H ds) : EvD K te σ H (.list ds) := fun H1 a Q q => h H1 a Q fun p xs H2 _ e hp hd => q _ H2 e (.lst (sq_of hp) hd)
theorem d_of {v : V} (h : Ev te σ H v) (hd : Dp K H v d) : EvD K te σ H d := fun H1 a Q q => h H1 a Q fun H2 e => q v H2 e (hd.ex (a.trans e))
theorem EvD.int {i : Int} (h : EvD K te σ H (.int i)) : Ev te σ H (.int i) := fun H1 a Q q => h H1 a Q fun v H2 e hd => by rw [hd.int_of]; exact q H2 e
theorem EvD.bl {b : Bool} (h : EvD K te σ H (.bool b)) : Ev te σ H (.bl b) := fun H1 a Q q => h H1 a Q fun v H2 e hd => by rw [hd.bl_of]; exact q H2 e
theorem EvD.non (h : EvD K te σ H .none) : Ev te σ H .non := fun H1 a Q q => h H1 a Q fun v H2 e hd => by rw [hd.non_of]; exact q H2 e
theorem d_int {i : Int} (h : Ev te σ H (.int i)) : EvD K te σ H (.int i) := d_of h (.int i)
theorem d_bl {b : Bool} (h : Ev te σ H (.bl b)) : EvD K te σ H (.bool b) := d_of h (.bl b)
theorem d_ci {i : Int} : EvD K (tC (.int i)) σ H (.int i) := d_of ev_c (.int i)
theorem d_cb {b : Bool} : EvD K (tC (.bl b)) σ H (.bool b) := d_of ev_c (.bl b)
theorem d_cn : EvD K (tC .non) σ H .none := d_of ev_c .non
theorem d_cs {x : Str} : EvD K (tC (.str x)) σ H (.str x) := d_of ev_c (.str x)
theorem d_var {i : Nat} {v : V} (h : σ[i]? = some (some v)) (hd : Dp K H v d) : EvD K (tVar i) σ H d := d_of (ev_var h) hd
theorem d_is (h : EvD K te σ H d) (q : d = e) : EvD K te σ H e := q ▸ h
theorem da_nil : EvDA K tNil σ H [] := fun H1 _ _ q => q [] H1 (Ex.refl H1) .nil
theorem da_cons (h : EvD K te σ H d) (hr : EvDA K tA σ H ds) : EvDA K (tCons te tA) σ H (d :: ds) := fun H1 a _ q =>
  h H1 a _ fun v H2 e hd => hr H2 (a.trans e) _ fun vs H3 e2 hs => q _ H3 (e.trans e2) (.cons (hd.ex e2) hs)
theorem da_one (h : EvD K te σ H d) : EvDA K (tCons te tNil) σ H [d] := da_cons h da_nil
theorem da_two (h : EvD K ta σ H d) (h2 : EvD K tb σ H e) : EvDA K (tCons ta (tCons tb tNil)) σ H [d, e] := da_cons h (da_one h2)
theorem d_tup (h : EvDA K tA σ H ds) (hz : ds.length ≤ 100000) : EvD K (tTup tA) σ H (.tuple ds) := fun H1 a _ q =>
  h H1 a _ fun vs H2 e hd => ⟨sz_of (by rw [hd.len]; exact hz), fun p hp => q _ _ (e.trans (Ex.new hp)) (.tup (st_of upd_same) (hd.ex (Ex.new hp)))⟩
theorem n_lst (h : EvDA K tA σ H ds) (hz : ds.length ≤ 100000) : EvN K (tLst tA) σ H ds := fun H1 a _ q =>
  h H1 a _ fun vs H2 e hd => ⟨sz_of (by rw [hd.len]; exact hz), fun p hp => q p vs _ (fresh_back e hp) (e.trans (Ex.new hp)) upd_same (hd.ex (Ex.new hp))⟩
theorem d_op (ha : EvD K ta σ H d) (hb : EvD K tb σ H e) (hr : RD K r d e z) : EvD K (tOp r ta tb) σ H z := fun H1 a Q q =>
  ha H1 a _ fun x H2 e2 hx => hb H2 (a.trans e2) _ fun y H3 e3 hy => hr x y H3 (hx.ex e3) hy Q fun v H4 e4 hv => q v H4 ((e2.trans e3).trans e4) hv
theorem d_cb1 {r : List V → Hp → VK → Prop} (h : EvDA K tA σ H ds) (hr : CD K r ds z) : EvD K (tCB r tA) σ H z := fun H1 a Q q =>
  h H1 a _ fun vs H2 e hd => hr vs H2 hd Q fun v H3 e3 hv => q v H3 (e.trans e3) hv
theorem n_cb1 {r : List V → Hp → VK → Prop} (h : EvDA K tA σ H ds) (hr : CN K r ds es) : EvN K (tCB r tA) σ H es := fun H1 a Q q =>
  h H1 a _ fun vs H2 e hd => hr vs H2 hd Q fun p xs H3 np e3 hp hv => q p xs H3 (fresh_back e np) (e.trans e3) hp hv
/-! ### tests -/
theorem t_d {b : Bool} (h : EvD K te σ H (.bool b)) : EvT (tTest te) σ H b := et_test h.bl
theorem t_B {b : Bool} (h : EvD K te σ H (.bool b)) : EvT (tB te) σ H b := et_B h.bl
theorem d_if {b : Bool} (h : EvT t σ H b) (h1 : b = true → EvD K ta σ H d) (h2 : b = false → EvD K tb σ H d) : EvD K (tIf t ta tb) σ H d := fun H1 a Q q => h H1 a _ fun H2 e2 => by
  cases b with
  | true => exact h1 rfl H2 (a.trans e2) Q fun v H3 e3 hv => q v H3 (e2.trans e3) hv
  | false => exact h2 rfl H2 (a.trans e2) Q fun v H3 e3 hv => q v H3 (e2.trans e3) hv
/-! ### operations on ints -/
theorem rd_I0 {g : Int → Int → V} {i j : Int} (hz : ∀ H1, Dp K H1 (g i j) z) : RD K (rI0 g) (.int i) (.int j) z := fun x y H1 hx hy Q q => by
  cases hx; cases hy
  exact ⟨i, j, rfl, rfl, q _ H1 (Ex.refl H1) (hz H1)⟩
theorem rd_I {C : Int → Int → Prop} {g : Int → Int → V} {i j : Int} (hc : C i j) (hz : ∀ H1, Dp K H1 (g i j) z) : RD K (rI C g) (.int i) (.int j) z := fun x y H1 hx hy Q q => by
  cases hx; cases hy
  exact ⟨i, j, rfl, rfl, hc, q _ H1 (Ex.refl H1) (hz H1)⟩
theorem rd_add {i j : Int} : RD K (rI0 fun i j => .int (i + j)) (.int i) (.int j) (.int (i + j)) := rd_I0 fun _ => .int _
theorem rd_sub {i j : Int} : RD K (rI0 fun i j => .int (i - j)) (.int i) (.int j) (.int (i - j)) := rd_I0 fun _ => .int _
theorem rd_lt {i j : Int} : RD K (rI0 fun i j => .bl (decide (i < j))) (.int i) (.int j) (.bool (decide (i < j))) := rd_I0 fun _ => .bl _
theorem rd_le {i j : Int} : RD K (rI0 fun i j => .bl (decide (i ≤ j))) (.int i) (.int j) (.bool (decide (i ≤ j))) := rd_I0 fun _ => .bl _
theorem rd_gt {i j : Int} : RD K (rI0 fun i j => .bl (decide (j < i))) (.int i) (.int j) (.bool (decide (j < i))) := rd_I0 fun _ => .bl _
theorem rd_ge {i j : Int} : RD K (rI0 fun i j => .bl (decide (j ≤ i))) (.int i) (.int j) (.bool (decide (j ≤ i))) := rd_I0 fun _ => .bl _
theorem rd_eqI {i j : Int} : RD K rEq (.int i) (.int j) (.bool (decide (i = j))) := fun x y H1 hx hy Q q => by
  cases hx; cases hy
  refine ⟨rfl, ?_⟩
  have e : decide ((V.int i) = V.int j) = decide (i = j) := decide_eq_decide.mpr ⟨fun h => V.int.inj h, fun h => by rw [h]⟩
  rw [e]
  exact q _ H1 (Ex.refl H1) (.bl _)
theorem rd_neI {i j : Int} : RD K rNe (.int i) (.int j) (.bool (!decide (i = j))) := fun x y H1 hx hy Q q => by
  cases hx; cases hy
  refine ⟨rfl, ?_⟩
  have e : decide ((V.int i) = V.int j) = decide (i = j) := decide_eq_decide.mpr ⟨fun h => V.int.inj h, fun h => by rw [h]⟩
  rw [e]
  exact q _ H1 (Ex.refl H1) (.bl _)
theorem rd_neS {x y : Str} : RD K rNe (.str x) (.str y) (.bool (!decide (x = y))) := fun a b H1 hx hy Q q => by
  cases hx; cases hy
  refine ⟨rfl, ?_⟩
  have e : decide ((V.str x) = V.str y) = decide (x = y) := decide_eq_decide.mpr ⟨fun h => V.str.inj h, fun h => by rw [h]⟩
  rw [e]
  exact q _ H1 (Ex.refl H1) (.bl _)
theorem rd_eqS {x y : Str} : RD K rEq (.str x) (.str y) (.bool (decide (x = y))) := fun a b H1 hx hy Q q => by
  cases hx; cases hy
  refine ⟨rfl, ?_⟩
  have e : decide ((V.str x) = V.str y) = decide (x = y) := decide_eq_decide.mpr ⟨fun h => V.str.inj h, fun h => by rw [h]⟩
  rw [e]
  exact q _ H1 (Ex.refl H1) (.bl _)
/-- x is None -/
theorem oisN {X : Cx} : OpR X (compareOp .Is) rIsN := op_isN
theorem onotN {X : Cx} : OpR X (compareOp .IsNot) rNotN := op_notN
def isNon : PyData → Bool
  | .none => true
  | _ => false
theorem dec_non {v : V} (h : Dp K H v d) : decide (v = .non) = isNon d := by
  cases h <;> simp [isNon]
theorem rd_isN : RD K rIsN d .none (.bool (isNon d)) := fun x y H1 hx hy Q q => by
  cases hy
  refine ⟨rfl, ?_⟩
  rw [dec_non hx]
  exact q _ H1 (Ex.refl H1) (.bl _)
theorem rd_notN : RD K rNotN d .none (.bool (!isNon d)) := fun x y H1 hx hy Q q => by
  cases hy
  refine ⟨rfl, ?_⟩
  rw [dec_non hx]
  exact q _ H1 (Ex.refl H1) (.bl _)
/-! ### == and != of data -/
theorem rd_eqD (hd : SeqAt.shaped d = true) (he : SeqAt.shaped e = true) : RD K (rEqD K) d e (.bool (PyData.eqv d e)) := fun x y H1 hx hy Q q =>
  ⟨d, e, hx, hy, hd, he, q _ H1 (Ex.refl H1) (.bl _)⟩
theorem rd_neD (hd : SeqAt.shaped d = true) (he : SeqAt.shaped e = true) : RD K (rNeD K) d e (.bool (!PyData.eqv d e)) := fun x y H1 hx hy Q q =>
  ⟨d, e, hx, hy, hd, he, q _ H1 (Ex.refl H1) (.bl _)⟩
/-! ### tuples, lists -/
theorem rd_cat (hz : ds.length + es.length ≤ 100000) : RD K (rCatA K) (.tuple ds) (.tuple es) (.tuple (ds ++ es)) := fun x y H1 hx hy Q q => by
  obtain ⟨a, xs, rfl, sa, da⟩ := hx.tup_of
  obtain ⟨b, ys, rfl, sb, db⟩ := hy.tup_of
  refine ⟨a, b, xs, ys, rfl, rfl, sa, sb, sz_of (by rw [da.len, db.len]; exact hz), fun e => ?_, fun _ e => ?_, fun _ _ p hp => ?_⟩
  · subst e
    cases da
    exact q _ H1 (Ex.refl H1) (.tup sb db)
  · subst e
    cases db
    have q' := q
    simp only [List.append_nil] at q'
    exact q' _ H1 (Ex.refl H1) (.tup sa da)
  · exact q _ _ (Ex.new hp) (.tup (st_of upd_same) ((da.app db).ex (Ex.new hp)))
theorem atI_of {α : Type} {xs : List α} {i : Int} {v : α} (h0 : 0 ≤ i) (h : xs[i.toNat]? = some v) : atI xs i = some v := by
  obtain ⟨n, rfl⟩ := Int.eq_ofNat_of_zero_le h0
  exact atI_nat (by simpa using h)
theorem atI_neg {α : Type} {xs : List α} {v : α} (h : xs[xs.length - 1]? = some v) : atI xs (-1) = some v := by
  have hl : 0 < xs.length := by
    cases xs with
    | nil => simp at h
    | cons _ _ => simp
  unfold atI ixN
  rw [if_neg (by omega), if_pos (by omega)]
  have : ((-1 : Int) + xs.length).toNat = xs.length - 1 := by omega
  simpa [this] using h
theorem rd_ixL {i : Int} (h : atI ds i = some z) : RD K (rIxL K) (.list ds) (.int i) z := fun x y H1 hx hy Q q => by
  obtain ⟨a, xs, rfl, sa, da⟩ := hx.list_of
  cases hy
  obtain ⟨j, hj⟩ : ∃ j, ixN ds.length i = some j ∧ ds[j]? = some z := by
    unfold atI at h
    cases e : ixN ds.length i with
    | none => rw [e] at h; cases h
    | some j => rw [e] at h; exact ⟨j, rfl, h⟩
  obtain ⟨v, hv, dv⟩ := da.get' hj.2
  refine ⟨a, xs, i, v, rfl, rfl, sa, ?_, q v H1 (Ex.refl H1) dv⟩
  unfold atI
  rw [da.len, hj.1]
  exact hv
theorem rd_ixT {i : Int} (h : atI ds i = some z) : RD K (rIxT K) (.tuple ds) (.int i) z := fun x y H1 hx hy Q q => by
  obtain ⟨a, xs, rfl, sa, da⟩ := hx.tup_of
  cases hy
  obtain ⟨j, hj⟩ : ∃ j, ixN ds.length i = some j ∧ ds[j]? = some z := by
    unfold atI at h
    cases e : ixN ds.length i with
    | none => rw [e] at h; cases h
    | some j => rw [e] at h; exact ⟨j, rfl, h⟩
  obtain ⟨v, hv, dv⟩ := da.get' hj.2
  refine ⟨a, xs, i, v, rfl, rfl, sa, ?_, q v H1 (Ex.refl H1) dv⟩
  unfold atI
  rw [da.len, hj.1]
  exact hv
end
end K11
namespace K11
open PySem PySem.Spec PyProof.Rows L2 Evl
section
variable {K : PySem.W.Frag} {H H' H1 H2 : Hp} {σ : L2.St} {ta tb te tx : TE} {t u : TT} {d e z : PyData} {r : R2} {ds es : List PyData} {tA : TA} {tl th : TO}
/-! ### in -/
theorem inV_int (i : Int) : ∀ ns : List Int, inV (.int i) (ns.map V.int) = decide (i ∈ ns)
  | [] => by simp [inV]
  | n :: ns => by
    have ih := inV_int i ns
    unfold inV at ih ⊢
    rw [List.map_cons, List.any_cons, ih]
    have e : eqV (.int n) (.int i) = (n == i) := rfl
    rw [e]
    by_cases h : i = n
    · subst h
      rw [beq_self_eq_true, Bool.true_or, decide_eq_true List.mem_cons_self]
    · rw [beq_eq_false_iff_ne.mpr (Ne.symm h), Bool.false_or]
      exact decide_eq_decide.mpr ⟨List.mem_cons_of_mem _, fun q => (List.mem_cons.mp q).resolve_left h⟩
theorem inV_bl (b : Bool) : ∀ bs : List Bool, inV (.bl b) (bs.map V.bl) = decide (b ∈ bs)
  | [] => by simp [inV]
  | n :: ns => by
    have ih := inV_bl b ns
    unfold inV at ih ⊢
    rw [List.map_cons, List.any_cons, ih]
    have e : eqV (.bl n) (.bl b) = (n == b) := rfl
    rw [e]
    by_cases h : b = n
    · subst h
      rw [beq_self_eq_true, Bool.true_or, decide_eq_true List.mem_cons_self]
    · rw [beq_eq_false_iff_ne.mpr (Ne.symm h), Bool.false_or]
      exact decide_eq_decide.mpr ⟨List.mem_cons_of_mem _, fun q => (List.mem_cons.mp q).resolve_left h⟩
theorem flat_ints : ∀ ns : List Int, (ns.map V.int).all flatV = true
  | [] => rfl
  | _ :: ns => by rw [List.map_cons, List.all_cons, flat_ints ns]; rfl
theorem flat_bls : ∀ ns : List Bool, (ns.map V.bl).all flatV = true
  | [] => rfl
  | _ :: ns => by rw [List.map_cons, List.all_cons, flat_bls ns]; rfl
theorem rd_niT {i : Int} {ns : List Int} : RD K (rIn K true) (.int i) (.tuple (ns.map PyData.int)) (.bool (!decide (i ∈ ns))) := fun x y H1 hx hy Q q => by
  obtain ⟨a, xs, rfl, sa, da⟩ := hy.tup_of
  cases hx
  have e := da.ints
  subst e
  refine ⟨a, _, rfl, .inr sa, rfl, flat_ints ns, ?_⟩
  rw [inV_int]
  exact q _ H1 (Ex.refl H1) (.bl _)
theorem rd_isT {i : Int} {ns : List Int} : RD K (rIn K false) (.int i) (.tuple (ns.map PyData.int)) (.bool (decide (i ∈ ns))) := fun x y H1 hx hy Q q => by
  obtain ⟨a, xs, rfl, sa, da⟩ := hy.tup_of
  cases hx
  have e := da.ints
  subst e
  refine ⟨a, _, rfl, .inr sa, rfl, flat_ints ns, ?_⟩
  rw [inV_int]
  exact q _ H1 (Ex.refl H1) (.bl _)
theorem rd_isLB {b : Bool} {bs : List Bool} : RD K (rIn K false) (.bool b) (.list (bs.map PyData.bool)) (.bool (decide (b ∈ bs))) := fun x y H1 hx hy Q q => by
  obtain ⟨a, xs, rfl, sa, da⟩ := hy.list_of
  cases hx
  have e := da.bls
  subst e
  refine ⟨a, _, rfl, .inl sa, rfl, flat_bls bs, ?_⟩
  rw [inV_bl]
  exact q _ H1 (Ex.refl H1) (.bl _)
theorem rd_niD (hd : SeqAt.shaped d = true) (hl : SeqAt.shaped (.list ds) = true) : RD K (rNotInD K) d (.list ds) (.bool (!ds.any fun z => PyData.eqv z d)) := fun x y H1 hx hy Q q =>
  ⟨d, ds, hx, hy, hd, hl, q _ H1 (Ex.refl H1) (.bl _)⟩
/-! ### slices -/
theorem o_none : EvO tNoPart σ H none := fun H1 _ Q q => q H1 (Ex.refl H1)
theorem o_some {i : Int} (h : EvD K te σ H (.int i)) : EvO (tPart te) σ H (some i) := fun H1 a Q q => h H1 a _ fun v H2 e hv => ⟨i, hv.int_of, q H2 e⟩
def cutD (xs : List PyData) (lo hi : Option Int) : List PyData := (xs.drop (HT.sIx xs.length 0 lo)).take (HT.sIx xs.length xs.length hi - HT.sIx xs.length 0 lo)
theorem cut_d {vs : List V} (h : DpAll K H vs ds) (lo hi : Option Int) : DpAll K H (cutV vs lo hi) (cutD ds lo hi) := by
  unfold cutV cutD
  rw [h.len]
  exact (h.drop _).take _
theorem cutD_take (n : Nat) (h : n ≤ ds.length) : cutD ds none (some (n : Int)) = ds.take n := by
  unfold cutD
  rw [HT.sIx_nat, HT.sIx_none, Nat.min_eq_left h, Nat.sub_zero, List.drop_zero]
theorem cutD_drop (n : Nat) (h : n ≤ ds.length) : cutD ds (some (n : Int)) none = ds.drop n := by
  unfold cutD
  rw [HT.sIx_nat, HT.sIx_none, Nat.min_eq_left h, ← List.length_drop, List.take_length]
theorem cutD_init : cutD ds none (some (-1)) = ds.dropLast := by
  unfold cutD
  have e : HT.sIx ds.length ds.length (some (-1)) = ds.length - 1 := by
    show (if (-1 : Int) < 0 then ((-1 : Int) + (ds.length : Int)).toNat else min (-1 : Int).toNat ds.length) = _
    rw [if_pos (by decide)]
    omega
  rw [e, HT.sIx_none, Nat.sub_zero, List.drop_zero, List.dropLast_eq_take]
theorem d_slT {lo hi : Option Int} (h : EvD K te σ H (.tuple ds)) (hl : EvO tl σ H lo) (hh : EvO th σ H hi) (hz : cutD ds lo hi = es) (hw : HT.sIx ds.length 0 lo = 0 ∧ HT.sIx ds.length ds.length hi = ds.length → es = ds) : EvD K (tSl (rSlA K) te tl th) σ H (.tuple es) := fun H1 a Q q =>
  h H1 a _ fun v H2 e2 hv => hl H2 (a.trans e2) _ fun H3 e3 => hh H3 ((a.trans e2).trans e3) _ fun H4 e4 => by
    obtain ⟨p, xs, rfl, sp, dp⟩ := (hv.ex (e3.trans e4)).tup_of
    refine ⟨p, xs, rfl, sp, fun w => ?_, fun _ b hb => ?_⟩
    · rw [dp.len] at w
      rw [hw w] at q
      exact q _ H4 ((e2.trans e3).trans e4) (.tup sp dp)
    · rw [← hz] at q
      exact q _ _ (((e2.trans e3).trans e4).trans (Ex.new hb)) (.tup (st_of upd_same) ((cut_d dp lo hi).ex (Ex.new hb)))
theorem d_take {n : Nat} (h : EvD K te σ H (.tuple ds)) (hh : EvD K tx σ H (.int (n : Int))) (hn : n ≤ ds.length) : EvD K (tSl (rSlA K) te tNoPart (tPart tx)) σ H (.tuple (ds.take n)) :=
  d_slT h o_none (o_some hh) (cutD_take n hn) fun w => by
    rw [HT.sIx_nat, Nat.min_eq_left hn] at w
    rw [w.2, List.take_length]
theorem d_drop {n : Nat} (h : EvD K te σ H (.tuple ds)) (hh : EvD K tx σ H (.int (n : Int))) (hn : n ≤ ds.length) : EvD K (tSl (rSlA K) te (tPart tx) tNoPart) σ H (.tuple (ds.drop n)) :=
  d_slT h (o_some hh) o_none (cutD_drop n hn) fun w => by
    rw [HT.sIx_nat, Nat.min_eq_left hn] at w
    rw [w.1, List.drop_zero]
theorem n_slL {lo hi : Option Int} (h : EvD K te σ H (.list ds)) (hl : EvO tl σ H lo) (hh : EvO th σ H hi) (hz : cutD ds lo hi = es) : EvN K (tSl (rSlL K) te tl th) σ H es := fun H1 a Q q =>
  h H1 a _ fun v H2 e2 hv => hl H2 (a.trans e2) _ fun H3 e3 => hh H3 ((a.trans e2).trans e3) _ fun H4 e4 => by
    obtain ⟨p, xs, rfl, sp, dp⟩ := (hv.ex (e3.trans e4)).list_of
    refine ⟨p, xs, rfl, sp, fun b hb => ?_⟩
    rw [← hz] at q
    exact q b _ _ (fresh_back ((e2.trans e3).trans e4) hb) (((e2.trans e3).trans e4).trans (Ex.new hb)) upd_same ((cut_d dp lo hi).ex (Ex.new hb))
/-! ### built-in calls -/
section
variable {X : Cx}
def rTupS (K : PySem.W.Frag) : List V → Hp → VK → Prop := fun xs H Q => ∃ p ys, xs = [.ref p] ∧ ((SqL K H p ys ∧ ∀ l, H l = none → Q (.ref l) (upd H l (.tup ys))) ∨ (SqT K H p ys ∧ Q (.ref p) H))
def rInt1 : List V → Hp → VK → Prop := fun xs H Q => (∃ i, xs = [.int i] ∧ Q (.int i) H) ∨ ∃ k, xs = [.bl k] ∧ Q (.int (if k then 1 else 0)) H
def rAbs1 : List V → Hp → VK → Prop := fun xs H Q => ∃ i, xs = [.int i] ∧ Q (.int (if i < 0 then -i else i)) H
def rMin2 : List V → Hp → VK → Prop := fun xs H Q => ∃ i j, xs = [.int i, .int j] ∧ Q (.int (if j < i then j else i)) H
theorem cLen : CallR X (.builtin "len") (rLenS X.K) := call_len_seq
theorem cList : CallR X (.type "list") (rListS X.K) := call_list_of
theorem cTup : CallR X (.type "tuple") (rTupS X.K) := call_tuple_of
theorem cInt : CallR X (.type "int") rInt1 := call_int1
theorem cAbs : CallR X (.builtin "abs") rAbs1 := call_abs
theorem cMin2 (hc : X.calm = true) : CallR X (.builtin "min") rMin2 := call_min2 hc
theorem cMax2 (hc : X.calm = true) : CallR X (.builtin "max") rMax2 := call_max2 hc
end
theorem cd_lenL : CD K (rLenS K) [.list ds] (.int (ds.length : Int)) := fun vs H1 h Q q => by
  cases h with
  | cons h1 h2 =>
    cases h2
    obtain ⟨a, xs, rfl, sa, da⟩ := h1.list_of
    refine ⟨a, xs, rfl, .inl sa, ?_⟩
    rw [da.len]
    exact q _ H1 (Ex.refl H1) (.int _)
theorem cd_lenT : CD K (rLenS K) [.tuple ds] (.int (ds.length : Int)) := fun vs H1 h Q q => by
  cases h with
  | cons h1 h2 =>
    cases h2
    obtain ⟨a, xs, rfl, sa, da⟩ := h1.tup_of
    refine ⟨a, xs, rfl, .inr sa, ?_⟩
    rw [da.len]
    exact q _ H1 (Ex.refl H1) (.int _)
theorem cn_listL : CN K (rListS K) [.list ds] ds := fun vs H1 h Q q => by
  cases h with
  | cons h1 h2 =>
    cases h2
    obtain ⟨a, xs, rfl, sa, da⟩ := h1.list_of
    exact ⟨a, xs, rfl, .inl sa, fun l hl => q l xs _ hl (Ex.new hl) upd_same (da.ex (Ex.new hl))⟩
theorem cn_listT : CN K (rListS K) [.tuple ds] ds := fun vs H1 h Q q => by
  cases h with
  | cons h1 h2 =>
    cases h2
    obtain ⟨a, xs, rfl, sa, da⟩ := h1.tup_of
    exact ⟨a, xs, rfl, .inr sa, fun l hl => q l xs _ hl (Ex.new hl) upd_same (da.ex (Ex.new hl))⟩
theorem cd_tupL : CD K (rTupS K) [.list ds] (.tuple ds) := fun vs H1 h Q q => by
  cases h with
  | cons h1 h2 =>
    cases h2
    obtain ⟨a, xs, rfl, sa, da⟩ := h1.list_of
    exact ⟨a, xs, rfl, .inl ⟨sa, fun l hl => q _ _ (Ex.new hl) (.tup (st_of upd_same) (da.ex (Ex.new hl)))⟩⟩
theorem cd_tupT : CD K (rTupS K) [.tuple ds] (.tuple ds) := fun vs H1 h Q q => by
  cases h with
  | cons h1 h2 =>
    cases h2
    obtain ⟨a, xs, rfl, sa, da⟩ := h1.tup_of
    exact ⟨a, xs, rfl, .inr ⟨sa, q _ H1 (Ex.refl H1) (.tup sa da)⟩⟩
theorem cd_int {i : Int} : CD K rInt1 [.int i] (.int i) := fun vs H1 h Q q => by
  cases h with
  | cons h1 h2 =>
    cases h2
    cases h1
    exact .inl ⟨i, rfl, q _ H1 (Ex.refl H1) (.int _)⟩
theorem cd_intB {b : Bool} : CD K rInt1 [.bool b] (.int (if b then 1 else 0)) := fun vs H1 h Q q => by
  cases h with
  | cons h1 h2 =>
    cases h2
    cases h1
    exact .inr ⟨b, rfl, q _ H1 (Ex.refl H1) (.int _)⟩
theorem cd_abs {i : Int} : CD K rAbs1 [.int i] (.int (if i < 0 then -i else i)) := fun vs H1 h Q q => by
  cases h with
  | cons h1 h2 =>
    cases h2
    cases h1
    exact ⟨i, rfl, q _ H1 (Ex.refl H1) (.int _)⟩
theorem cd_min2 {i j : Int} : CD K rMin2 [.int i, .int j] (.int (if j < i then j else i)) := fun vs H1 h Q q => by
  cases h with
  | cons h1 h2 =>
    cases h2 with
    | cons h3 h4 =>
      cases h4; cases h1; cases h3
      exact ⟨i, j, rfl, q _ H1 (Ex.refl H1) (.int _)⟩
theorem cd_max2 {i j : Int} : CD K rMax2 [.int i, .int j] (.int (if j > i then j else i)) := fun vs H1 h Q q => by
  cases h with
  | cons h1 h2 =>
    cases h2 with
    | cons h3 h4 =>
      cases h4; cases h1; cases h3
      exact ⟨i, j, rfl, q _ H1 (Ex.refl H1) (.int _)⟩
theorem cd_sum {ns : List Int} : CD K (rSum K) [.list (ns.map PyData.int)] (.int ns.sum) := fun vs H1 h Q q => by
  cases h with
  | cons h1 h2 =>
    cases h2
    obtain ⟨a, xs, rfl, sa, da⟩ := h1.list_of
    have e := da.ints
    subst e
    exact ⟨a, ns, rfl, sa, q _ H1 (Ex.refl H1) (.int _)⟩
theorem cd_all {bs : List Bool} : CD K (rAll K) [.list (bs.map PyData.bool)] (.bool (bs.all id)) := fun vs H1 h Q q => by
  cases h with
  | cons h1 h2 =>
    cases h2
    obtain ⟨a, xs, rfl, sa, da⟩ := h1.list_of
    have e := da.bls
    subst e
    exact ⟨a, bs, rfl, sa, q _ H1 (Ex.refl H1) (.bl _)⟩
/-! ### what is walked -/
/-- without what H1 tracks and B does not know -/
def cut (B H1 H2 : Hp) : Hp := fun b => if ((B b).isNone && (H1 b).isSome) = true then none else H2 b
theorem cut_keep {B H1 H2 : Hp} (h : Ex H1 H2) (hb : Ex B H1) : Ex B (cut B H1 H2) := fun a o e => by
  unfold cut
  rw [e]
  exact h a o (hb a o e)
theorem cut_ex {B H1 H2 : Hp} : Ex (cut B H1 H2) H2 := fun a o e => by
  unfold cut at e
  split at e
  · cases e
  · exact e
theorem cut_off {B H1 H2 : Hp} {b : Addr} {o : HO} (h : B b = none) (h1 : H1 b = some o) : cut B H1 H2 b = none := by
  unfold cut
  rw [h, h1]
  rfl
theorem cut_new {B H1 H2 : Hp} {b : Addr} (h1 : H1 b = none) : cut B H1 H2 b = H2 b := by
  unfold cut
  rw [h1, Option.isSome_none, Bool.and_false]
  rfl
def WkD (K : PySem.W.Frag) (J : It) (ds : List PyData) (B : Hp) : Prop :=
  (∀ i H', i < ds.length → Ex B H' → J.go i H' ∧ ∀ x H'', J.yld i H' x H'' → Ex H' H'' ∧ ∃ d, ds[i]? = some d ∧ Dp K (cut B H' H'') x d) ∧ ∀ H', Ex B H' → J.stop ds.length H'
def EvI (K : PySem.W.Frag) (wi : TI) (σ : L2.St) (H : Hp) (ds : List PyData) : Prop := ∀ H1, Ex H H1 → ∀ R : It → Hp → Prop, (∀ J H2, Ex H1 H2 → WkD K J ds H2 → R J H2) → wi σ H1 R
/-- the source is known to B -/
def EvIB (K : PySem.W.Frag) (wi : TI) (σ : L2.St) (B : Hp) (ds : List PyData) : Prop := ∀ H1, Ex B H1 → ∀ R : It → Hp → Prop, (∀ J H2, Ex H1 H2 → WkD K J ds B → R J H2) → wi σ H1 R
theorem EvI.mono {wi : TI} (h : EvI K wi σ H ds) (e : Ex H H') : EvI K wi σ H' ds := fun H1 a Q q => h H1 (e.trans a) Q q
theorem wk_list {p : Addr} {xs : List V} (sp : SqL K H p xs) (dp : DpAll K H xs ds) : WkD K (Itl K p) ds H := by
  refine ⟨fun i H' hi e' => ?_, fun H' e' => ⟨xs, ex_l e' sp, by rw [dp.len]; exact Nat.le_refl _⟩⟩
  have hx : i < xs.length := by rw [dp.len]; exact hi
  refine ⟨⟨xs, xs[i], ex_l e' sp, by simp [hx]⟩, fun x H'' y => ?_⟩
  obtain ⟨rfl, y⟩ := y
  obtain ⟨d, hd, dd⟩ := dp.get (y xs (ex_l e' sp))
  exact ⟨Ex.refl _, d, hd, dd.ex (cut_keep (Ex.refl _) e')⟩
theorem wk_tup {p : Addr} {xs : List V} (sp : SqT K H p xs) (dp : DpAll K H xs ds) : WkD K (Itt K p) ds H := by
  refine ⟨fun i H' hi e' => ?_, fun H' e' => ⟨xs, ex_t e' sp, by rw [dp.len]; exact Nat.le_refl _⟩⟩
  have hx : i < xs.length := by rw [dp.len]; exact hi
  refine ⟨⟨xs, xs[i], ex_t e' sp, by simp [hx]⟩, fun x H'' y => ?_⟩
  obtain ⟨rfl, y⟩ := y
  obtain ⟨d, hd, dd⟩ := dp.get (y xs (ex_t e' sp))
  exact ⟨Ex.refl _, d, hd, dd.ex (cut_keep (Ex.refl _) e')⟩
theorem i_list (h : EvD K te σ H (.list ds)) : EvI K (iList K te) σ H ds := fun H1 a R q => h H1 a _ fun v H2 e hv => by
  obtain ⟨p, xs, rfl, sp, dp⟩ := hv.list_of
  exact ⟨p, rfl, ⟨xs, sp⟩, q _ H2 e (wk_list sp dp)⟩
theorem i_tup (h : EvD K te σ H (.tuple ds)) : EvI K (iTup K te) σ H ds := fun H1 a R q => h H1 a _ fun v H2 e hv => by
  obtain ⟨p, xs, rfl, sp, dp⟩ := hv.tup_of
  exact ⟨p, rfl, ⟨xs, sp⟩, q _ H2 e (wk_tup sp dp)⟩
theorem ib_list {i : Nat} {v : V} (h : σ[i]? = some (some v)) (hv : Dp K H v (.list ds)) : EvIB K (iList K (tVar i)) σ H ds := fun H1 a R q => by
  obtain ⟨p, xs, rfl, sp, dp⟩ := hv.list_of
  exact ⟨_, h, p, rfl, ⟨xs, ex_l a sp⟩, q _ H1 (Ex.refl _) (wk_list sp dp)⟩
def rangeD (lo : Int) (n : Nat) : List PyData := (List.range n).map fun (i : Nat) => PyData.int (lo + (i : Int))
theorem rangeD_len {lo : Int} {n : Nat} : (rangeD lo n).length = n := by simp [rangeD]
theorem wk_range {lo : Int} {n : Nat} : WkD K (Itr lo n) (rangeD lo n) H := by
  have hl : (rangeD lo n).length = n := rangeD_len
  refine ⟨fun i H' hi e' => ⟨by rw [hl] at hi; exact hi, fun x H'' y => ?_⟩, fun H' e' => by rw [hl]; exact Nat.le_refl _⟩
  obtain ⟨rfl, rfl⟩ := y
  rw [hl] at hi
  exact ⟨Ex.refl _, _, by simp [rangeD, hi], .int _⟩
theorem i_rng1 {n : Int} (h : EvDA K tA σ H [.int n]) (hn : -100000 ≤ n ∧ n ≤ 100000) : EvI K (iRng1 tA) σ H (rangeD 0 n.toNat) := fun H1 a R q => h H1 a _ fun vs H2 e hv => by
  cases hv with
  | cons h1 h2 =>
    cases h2; cases h1
    exact ⟨n, rfl, by omega, by omega, q _ H2 e wk_range⟩
theorem ib_rng2 {lo n : Int} (h : EvDA K tA σ H [.int lo, .int n]) (hl : -100000 ≤ lo ∧ lo ≤ 100000) (hn : -100000 ≤ n ∧ n ≤ 100000) : EvIB K (iRng2 tA) σ H (rangeD lo (n - lo).toNat) := fun H1 a R q => h H1 a _ fun vs H2 e hv => by
  cases hv with
  | cons h1 h2 =>
    cases h2 with
    | cons h3 h4 =>
      cases h4; cases h1; cases h3
      exact ⟨lo, n, rfl, ⟨by omega, by omega, by omega, by omega⟩, q _ H2 e wk_range⟩
def enumD : Nat → List PyData → List PyData
  | _, [] => []
  | n, d :: ds => .tuple [.int (n : Int), d] :: enumD (n + 1) ds
theorem enumD_len : ∀ (n : Nat) (ds : List PyData), (enumD n ds).length = ds.length
  | _, [] => rfl
  | n, d :: ds => by rw [enumD, List.length_cons, List.length_cons, enumD_len]
theorem enumD_get : ∀ (n : Nat) (ds : List PyData) (i : Nat) (d : PyData), ds[i]? = some d → (enumD n ds)[i]? = some (.tuple [.int ((n + i : Nat) : Int), d])
  | _, [], i, d, h => by simp at h
  | n, c :: ds, 0, d, h => by
    have e : c = d := Option.some.inj h
    subst e
    rfl
  | n, c :: ds, i + 1, d, h => by
    rw [enumD, List.getElem?_cons_succ, enumD_get (n + 1) ds i d h]
    have e : n + 1 + i = n + (i + 1) := by omega
    rw [e]
theorem wk_enumL {p : Addr} {xs : List V} (sp : SqL K H p xs) (dp : DpAll K H xs ds) : WkD K (Ite K p) (enumD 0 ds) H := by
  have hl := enumD_len 0 ds
  refine ⟨fun i H' hi e' => ?_, fun H' e' => ⟨xs, ex_l e' sp, by rw [dp.len, hl]; exact Nat.le_refl _⟩⟩
  have hx : i < xs.length := by rw [dp.len, ← hl]; exact hi
  refine ⟨⟨xs, xs[i], ex_l e' sp, by simp [hx]⟩, fun x H'' y => ?_⟩
  obtain ⟨T, y, rfl, nT, rfl, fy⟩ := y
  obtain ⟨d, hd, dd⟩ := dp.get (fy xs (ex_l e' sp))
  refine ⟨Ex.new nT, _, enumD_get 0 ds i d hd, .tup (st_of (by rw [cut_new nT, upd_same])) ?_⟩
  have e0 : ((0 + i : Nat) : Int) = (i : Int) := by omega
  rw [e0]
  exact .cons (.int _) (.cons (dd.ex (cut_keep (Ex.new nT) e')) .nil)
theorem i_enumL (h : EvDA K tA σ H [.list ds]) : EvI K (iEnum K tA) σ H (enumD 0 ds) := fun H1 a R q => h H1 a _ fun vs H2 e hv => by
  cases hv with
  | cons h1 h2 =>
    cases h2
    obtain ⟨p, xs, rfl, sp, dp⟩ := h1.list_of
    exact ⟨p, xs, rfl, sp, q _ H2 e (wk_enumL sp dp)⟩
theorem ib_enumL {i : Nat} {v : V} (h : σ[i]? = some (some v)) (hv : Dp K H v (.list ds)) : EvIB K (iEnum K (tCons (tVar i) tNil)) σ H (enumD 0 ds) := fun H1 a R q => by
  obtain ⟨p, xs, rfl, sp, dp⟩ := hv.list_of
  exact ⟨_, h, p, xs, rfl, ex_l a sp, q _ H1 (Ex.refl _) (wk_enumL sp dp)⟩
/-! ### comprehensions -/
theorem flatAll_map {f : PyData → Bool} {v : PyData → PyData} : ∀ {l : List PyData}, (∀ d ∈ l, f d = true → flat (v d) = true) → flatAll ((l.filter f).map v) = true
  | [], _ => rfl
  | d :: l, h => by
    have ih := flatAll_map (f := f) (v := v) (l := l) fun c hc => h c (List.mem_cons_of_mem _ hc)
    rw [List.filter_cons]
    cases hf : f d with
    | false => simpa using ih
    | true =>
      rw [if_pos rfl, List.map_cons, flatAll, h d List.mem_cons_self hf, ih]
      rfl
theorem take_succ_of {α : Type} {l : List α} {i : Nat} {x : α} (h : l[i]? = some x) : l.take (i + 1) = l.take i ++ [x] := by
  rw [List.take_add_one, h]
  rfl
theorem filt_yes {α : Type} {f : α → Bool} {d : α} (h : f d = true) : List.filter f [d] = [d] := by simp [List.filter_cons, h]
theorem filt_no {α : Type} {f : α → Bool} {d : α} (h : f d = false) : List.filter f [d] = [] := by simp [List.filter_cons, h]
theorem n_lc {wi : TI} {g : TG} {vs : List Nat} (hi : EvI K wi σ H ds) (f : PyData → Bool) (v : PyData → PyData) (hz : ds.length ≤ 40000) (hfl : ∀ d ∈ ds, f d = true → flat (v d) = true)
    (hg : ∀ d ∈ ds, ∀ x B H1, Ex H B → Ex B H1 → Dp K B x d → ∀ Q : L2.St → Hp → Prop, (∀ σ2, wipe σ2 vs = wipe σ vs → EvT t σ2 B (f d) → (f d = true → EvD K te σ2 B (v d)) → Q σ2 H1) → g x (wipe σ vs) H1 Q) :
    EvN K (tLc wi g t te vs) σ H ((ds.filter f).map v) := fun H1 e Q q => hi H1 e _ fun J H2 e2 wk Dl hD => by
  have key : ∀ i, flatAll (((ds.take i).filter f).map v) = true := fun i => flatAll_map fun d hd => hfl d (List.mem_of_mem_take hd)
  refine ⟨fun i m H' => m = ds.length - i ∧ i ≤ ds.length ∧ Ex H2 H' ∧ ∃ acc, H' Dl = some (.lst acc) ∧ DpAll K H' acc (((ds.take i).filter f).map v), ⟨ds.length, by simp, Nat.zero_le _, Ex.new hD, [], upd_same, .nil⟩, ?_⟩
  rintro i m H' ⟨rfl, hil, ex, acc, hacc, da⟩
  by_cases hlt : i < ds.length
  · refine .inr ⟨(wk.1 i H' hlt ex).1, fun H'' => i + 1 ≤ ds.length ∧ Ex H2 H'' ∧ ∃ acc, H'' Dl = some (.lst acc) ∧ DpAll K H'' acc (((ds.take (i + 1)).filter f).map v), fun H'' p => ⟨ds.length - (i + 1), by omega, rfl, p⟩, fun x H'' y => ?_⟩
    obtain ⟨e4, d, hd, dx⟩ := (wk.1 i H' hlt ex).2 x H'' y
    have hm : d ∈ ds := List.mem_of_getElem? hd
    have exB : Ex H (cut H2 H' H'') := (e.trans e2).trans (cut_keep e4 ex)
    have tk := take_succ_of hd
    refine hg d hm x _ H'' exB cut_ex dx _ fun σ2 hw ht he => ⟨hw, ht H'' cut_ex _ fun H3 e5 => ?_⟩
    cases hf : f d with
    | true =>
      show te σ2 H3 fun y H4 => ∃ acc, H4 Dl = some (.lst acc) ∧ acc.length < sizeLine ∧ _
      refine he hf H3 (cut_ex.trans e5) _ fun y H4 e6 dy => ?_
      have exD : H4 Dl = some (.lst acc) := e6 _ _ (e5 _ _ (e4 _ _ hacc))
      have tx : Tx K H4 (upd H4 Dl (.lst (acc ++ [y]))) := Tx.lst exD
      refine ⟨acc, exD, ?_, hlt, Ex.mut ((ex.trans e4).trans (e5.trans e6)) hD, acc ++ [y], upd_same, ?_⟩
      · have h1 := da.len
        have h2 : (((ds.take i).filter f).map v).length ≤ (ds.take i).length := by rw [List.length_map]; exact List.length_filter_le _ _
        rw [List.length_take] at h2
        exact sz_lt (by omega)
      · rw [tk, List.filter_append, List.map_append, filt_yes hf]
        exact ((da.ex ((e4.trans e5).trans e6)).tx tx (key i)).app (.one (dy.tx tx (hfl d hm hf)))
    | false =>
      refine ⟨hlt, (ex.trans e4).trans e5, acc, e5 _ _ (e4 _ _ hacc), ?_⟩
      rw [tk, List.filter_append, List.map_append, filt_no hf, List.map_nil, List.append_nil]
      exact da.ex (e4.trans e5)
  · have e3 : i = ds.length := by omega
    subst e3
    rw [List.take_length] at da
    exact .inl ⟨wk.2 H' ex, q Dl acc H' (fresh_back e2 hD) (e2.trans ex) hacc da⟩
theorem flatAll_flatMap {f : PyData → List PyData} : ∀ {l : List PyData}, (∀ d ∈ l, flatAll (f d) = true) → flatAll (l.flatMap f) = true
  | [], _ => rfl
  | d :: l, h => by
    rw [List.flatMap_cons, flatAll_app, h d List.mem_cons_self, flatAll_flatMap fun c hc => h c (List.mem_cons_of_mem _ hc)]
    rfl
def lc2D (ds : List PyData) (inn : PyData → List PyData) (f : PyData → PyData → Bool) (v : PyData → PyData → PyData) : List PyData := ds.flatMap fun d => ((inn d).filter (f d)).map (v d)
theorem lc2D_app (a b : List PyData) {inn f v} : lc2D (a ++ b) inn f v = lc2D a inn f v ++ lc2D b inn f v := List.flatMap_append
theorem lc2D_one (d : PyData) {inn f v} : lc2D [d] inn f v = ((inn d).filter (f d)).map (v d) := by simp [lc2D]
theorem n_lc2 {wi wi1 : TI} {g g1 : TG} {vs vs1 : List Nat} {t1 : TT} (hi : EvI K wi σ H ds) (inn : PyData → List PyData) (f : PyData → PyData → Bool) (v : PyData → PyData → PyData) (hz : (lc2D ds inn f v).length ≤ 40000)
    (hfl : ∀ d ∈ ds, ∀ c ∈ inn d, f d c = true → flat (v d c) = true)
    (hg : ∀ d ∈ ds, ∀ x B H1, Ex H B → Ex B H1 → Dp K B x d → ∀ Q : L2.St → Hp → Prop, (∀ σ2, wipe σ2 vs = wipe σ vs → EvIB K wi1 σ2 B (inn d) →
      (∀ c ∈ inn d, ∀ y B2 H3, Ex B B2 → Ex B2 H3 → Dp K B2 y c → ∀ Q1 : L2.St → Hp → Prop, (∀ σ3, wipe σ3 vs1 = wipe σ2 vs1 → EvT t1 σ3 B2 (f d c) → (f d c = true → EvD K te σ3 B2 (v d c)) → Q1 σ3 H3) → g1 y (wipe σ2 vs1) H3 Q1) → Q σ2 H1) → g x (wipe σ vs) H1 Q) :
    EvN K (tLc2 wi g tYes wi1 g1 t1 te vs vs1) σ H (lc2D ds inn f v) := fun H1 e Q q => hi H1 e _ fun J H2 e2 wk Dl hD => by
  have key : ∀ i, flatAll (lc2D (ds.take i) inn f v) = true := fun i =>
    flatAll_flatMap fun d hd => flatAll_map fun c hc => hfl d (List.mem_of_mem_take hd) c hc
  refine ⟨fun i m H' => m = ds.length - i ∧ i ≤ ds.length ∧ Ex H2 H' ∧ ∃ acc, H' Dl = some (.lst acc) ∧ DpAll K H' acc (lc2D (ds.take i) inn f v), ⟨ds.length, by simp, Nat.zero_le _, Ex.new hD, [], upd_same, .nil⟩, ?_⟩
  rintro i m H' ⟨rfl, hil, ex, acc, hacc, da⟩
  by_cases hlt : i < ds.length
  · refine .inr ⟨(wk.1 i H' hlt ex).1, fun H'' => i + 1 ≤ ds.length ∧ Ex H2 H'' ∧ ∃ acc, H'' Dl = some (.lst acc) ∧ DpAll K H'' acc (lc2D (ds.take (i + 1)) inn f v), fun H'' p => ⟨ds.length - (i + 1), by omega, rfl, p⟩, fun x H'' y => ?_⟩
    obtain ⟨e4, d, hd, dx⟩ := (wk.1 i H' hlt ex).2 x H'' y
    have hm : d ∈ ds := List.mem_of_getElem? hd
    have exB : Ex H (cut H2 H' H'') := (e.trans e2).trans (cut_keep e4 ex)
    have exB2 : Ex H2 (cut H2 H' H'') := cut_keep e4 ex
    have offB : cut H2 H' H'' Dl = none := cut_off hD hacc
    have tk : lc2D (ds.take (i + 1)) inn f v = lc2D (ds.take i) inn f v ++ ((inn d).filter (f d)).map (v d) := by
      rw [take_succ_of hd, lc2D_app, lc2D_one]
    have whole : (lc2D (ds.take (i + 1)) inn f v).length ≤ 40000 := by
      have e9 : lc2D ds inn f v = lc2D (ds.take (i + 1)) inn f v ++ lc2D (ds.drop (i + 1)) inn f v := by rw [← lc2D_app, List.take_append_drop]
      rw [e9, List.length_append] at hz
      omega
    refine hg d hm x _ H'' exB cut_ex dx _ fun σ2 hw hin h1 => ⟨hw, ?_⟩
    show wi1 σ2 H'' _
    refine hin H'' cut_ex _ fun J1 H3 e5 wk1 => ?_
    refine ⟨fun j k H4 => k = (inn d).length - j ∧ j ≤ (inn d).length ∧ Ex (cut H2 H' H'') H4 ∧ ∃ acc2, H4 Dl = some (.lst acc2) ∧ DpAll K H4 acc2 (lc2D (ds.take i) inn f v ++ (((inn d).take j).filter (f d)).map (v d)),
      ⟨(inn d).length, by simp, Nat.zero_le _, cut_ex.trans e5, acc, e5 _ _ (e4 _ _ hacc), by simpa using da.ex (e4.trans e5)⟩, ?_⟩
    rintro j k H4 ⟨rfl, hjl, exj, acc2, hacc2, da2⟩
    have key2 : flatAll (lc2D (ds.take i) inn f v ++ (((inn d).take j).filter (f d)).map (v d)) = true := by
      rw [flatAll_app, key i, flatAll_map fun c hc => hfl d hm c (List.mem_of_mem_take hc)]
      rfl
    by_cases hjt : j < (inn d).length
    · refine .inr ⟨(wk1.1 j H4 hjt exj).1, fun H5 => j + 1 ≤ (inn d).length ∧ Ex (cut H2 H' H'') H5 ∧ ∃ acc2, H5 Dl = some (.lst acc2) ∧ DpAll K H5 acc2 (lc2D (ds.take i) inn f v ++ (((inn d).take (j + 1)).filter (f d)).map (v d)),
        fun H5 p => ⟨(inn d).length - (j + 1), by omega, rfl, p⟩, fun y H5 yy => ?_⟩
      obtain ⟨e6, c, hc, dc⟩ := (wk1.1 j H4 hjt exj).2 y H5 yy
      have hcm : c ∈ inn d := List.mem_of_getElem? hc
      have tk2 := take_succ_of hc
      refine h1 c hcm y _ H5 (cut_keep e6 exj) cut_ex dc _ fun σ3 hw3 ht3 he3 => ⟨hw3, ht3 H5 cut_ex _ fun H6 e7 => ?_⟩
      cases hf : f d c with
      | true =>
        show te σ3 H6 fun y H7 => ∃ acc, H7 Dl = some (.lst acc) ∧ acc.length < sizeLine ∧ _
        refine he3 hf H6 (cut_ex.trans e7) _ fun y7 H7 e8 dy => ?_
        have exD : H7 Dl = some (.lst acc2) := e8 _ _ (e7 _ _ (e6 _ _ hacc2))
        have tx : Tx K H7 (upd H7 Dl (.lst (acc2 ++ [y7]))) := Tx.lst exD
        refine ⟨acc2, exD, ?_, hjt, Ex.mut ((exj.trans e6).trans (e7.trans e8)) offB, acc2 ++ [y7], upd_same, ?_⟩
        · have h9 := da2.len
          rw [List.length_append] at h9
          rw [tk, List.length_append] at whole
          have h10 : ((((inn d).take j).filter (f d)).map (v d)).length ≤ (((inn d).filter (f d)).map (v d)).length := by
            rw [List.length_map, List.length_map]
            exact (List.Sublist.filter _ (List.take_sublist _ _)).length_le
          exact sz_lt (by omega)
        · rw [tk2, List.filter_append, List.map_append, filt_yes hf, ← List.append_assoc]
          exact ((da2.ex ((e6.trans e7).trans e8)).tx tx key2).app (.one (dy.tx tx (hfl d hm c hcm hf)))
      | false =>
        refine ⟨hjt, (exj.trans e6).trans e7, acc2, e7 _ _ (e6 _ _ hacc2), ?_⟩
        rw [tk2, List.filter_append, List.map_append, filt_no hf, List.map_nil, List.append_nil]
        exact da2.ex (e6.trans e7)
    · have e3 : j = (inn d).length := by omega
      subst e3
      rw [List.take_length, ← tk] at da2
      exact .inl ⟨wk1.2 H4 exj, hlt, exB2.trans exj, acc2, hacc2, da2⟩
  · have e3 : i = ds.length := by omega
    subst e3
    rw [List.take_length] at da
    exact .inl ⟨wk.2 H' ex, q Dl acc H' (fresh_back e2 hD) (e2.trans ex) hacc da⟩
/-! ### targets -/
theorem tg_pair {i j : Nat} {x : V} {Q : L2.St → Hp → Prop} (h : Dp K H x (.tuple [d, e])) (hx : Ex H H1) (k : ∀ a b, Dp K H a d → Dp K H b e → Q ((σ.set i (some a)).set j (some b)) H1) : gTup K 2 (gCons (gName i) (gCons (gName j) gNil)) x σ H1 Q := by
  obtain ⟨p, xs, rfl, sp, dp⟩ := h.tup_of
  cases dp with
  | cons h1 h2 =>
    cases h2 with
    | cons h3 h4 =>
      cases h4
      exact ⟨p, _, rfl, ex_t hx sp, rfl, _, _, rfl, _, _, rfl, rfl, k _ _ h1 h3⟩
/-! ### statements -/
section
variable {D : Ends} {tu tw tz : TS} {g : TG}
theorem q_setD {i : Nat} (h : EvD K te σ H d) (k : ∀ v H1, Ex H H1 → Dp K H1 v d → tz D (σ.set i (some v)) H1) : tSeq (tAsg te (gName i)) tz D σ H := h H (Ex.refl H) _ fun v H1 e hv => k v H1 e hv
theorem q_setN {i : Nat} (h : EvN K te σ H ds) (k : ∀ p xs H1, H p = none → Ex H H1 → H1 p = some (.lst xs) → DpAll K H1 xs ds → tz D (σ.set i (some (.ref p))) H1) : tSeq (tAsg te (gName i)) tz D σ H := h H (Ex.refl H) _ k
theorem s_setD {i : Nat} (h : EvD K te σ H d) (k : ∀ v H1, Ex H H1 → Dp K H1 v d → D.nx (σ.set i (some v)) H1) : tAsg te (gName i) D σ H := h H (Ex.refl H) _ fun v H1 e hv => k v H1 e hv
theorem s_setN {i : Nat} (h : EvN K te σ H ds) (k : ∀ p xs H1, H p = none → Ex H H1 → H1 p = some (.lst xs) → DpAll K H1 xs ds → D.nx (σ.set i (some (.ref p))) H1) : tAsg te (gName i) D σ H := h H (Ex.refl H) _ k
theorem s_retD (h : EvD K te σ H d) (k : ∀ v H1, Ex H H1 → Dp K H1 v d → D.rt v H1) : tRet te D σ H := h H (Ex.refl H) _ fun v H1 e hv => k v H1 e hv
theorem s_retN (h : EvN K te σ H ds) (k : ∀ p xs H1, H p = none → Ex H H1 → H1 p = some (.lst xs) → DpAll K H1 xs ds → D.rt (.ref p) H1) : tRet te D σ H := h H (Ex.refl H) _ k
/-- two names at once -/
theorem q_par {i j : Nat} (h : EvDA K tA σ H [d, e]) (k : ∀ v w H1, Ex H H1 → Dp K H1 v d → Dp K H1 w e → tz D ((σ.set i (some v)).set j (some w)) H1) : tSeq (tPar i j tA) tz D σ H := h H (Ex.refl H) _ fun vs H1 a hv => by
  cases hv with
  | cons h1 h2 =>
    cases h2 with
    | cons h3 h4 =>
      cases h4
      exact ⟨_, _, rfl, k _ _ H1 a h1 h3⟩
/-- over a new list -/
theorem q_forN {tl : TE} (h : EvN K tl σ H ds) (Pv : Addr → List V → Nat → L2.St → Hp → Prop) (h0 : ∀ p xs H1, H p = none → Ex H H1 → H1 p = some (.lst xs) → DpAll K H1 xs ds → Pv p xs 0 σ H1) (hl : ∀ p xs i σ' H', xs.length = ds.length → i ≤ xs.length → Pv p xs i σ' H' → SqL K H' p xs)
    (hs : ∀ p xs i x d σ' H', xs.length = ds.length → xs[i]? = some x → ds[i]? = some d → Pv p xs i σ' H' → g x σ' H' fun σ2 H2 => tu { D with nx := Pv p xs (i + 1), ct := Pv p xs (i + 1), bk := tz D } σ2 H2) (hd : ∀ p xs σ' H', xs.length = ds.length → Pv p xs ds.length σ' H' → tz D σ' H') : tSeq (tFor (iList K tl) g tu) tz D σ H :=
  h H (Ex.refl H) _ fun p xs H1 hp e h1 hd1 => ⟨p, rfl, ⟨xs, sq_of h1⟩, for_list (D := { D with nx := tz D }) (Pv p xs) (h0 p xs H1 hp e h1 hd1) (fun i σ' H' hi pv => hl p xs i σ' H' hd1.len hi pv) (fun i x σ' H' hx pv => by
    have hi : i < ds.length := by rw [← hd1.len]; exact (List.getElem?_eq_some_iff.mp hx).1
    exact hs p xs i x ds[i] σ' H' hd1.len hx (List.getElem?_eq_getElem hi) pv) (fun σ' H' pv => hd p xs σ' H' hd1.len (by rw [← hd1.len]; exact pv))⟩
end
end
end K11
/-! dicts whose keys are nested tuples -/
namespace K11
open PySem PySem.Spec PyProof.Rows L2 Evl
mutual
def keyD : PyData → NestedKey
  | .none => .none
  | .bool b => .num (if b = true then 1 else 0)
  | .int i => .num i
  | .str x => .text x
  | .list _ => .none
  | .tuple ds => .tup (keyDs ds)
  | .dict _ => .none
def keyDs : List PyData → List NestedKey
  | [] => []
  | d :: ds => keyD d :: keyDs ds
end
section
variable {X : Cx} {pins : List (Addr × Obj)} {σ : L2.St} {H : Hp} {s : Shared}
mutual
theorem dp_nested (I : Inv X pins σ H s) : ∀ (d : PyData) (v : V) (u : Value), flat d = true → Dp X.K H v d → RelV v u → NestedIs s.heap (keyD d) u
  | .none, _, _, _, h, r => by cases h; cases r; exact .none
  | .bool b, _, _, _, h, r => by cases h; cases r; exact .bool rfl
  | .int i, _, _, _, h, r => by cases h; obtain ⟨t, rfl⟩ := r; exact .int _ _
  | .str x, _, _, _, h, r => by cases h; obtain ⟨t, rfl⟩ := r; exact .text _ _
  | .list ds, _, _, f, _, _ => by simp [flat] at f
  | .tuple ds, _, _, f, h, r => by
    cases h with
    | tup hs ha =>
      cases r
      obtain ⟨its, rv, ⟨o, ho, hc, n, hd⟩, _⟩ := I.tuple hs
      exact .tup ho hc hd (by simpa using dp_nesteds I ds _ its (by simpa [flat] using f) ha rv)
  | .dict _, _, _, _, h, _ => by cases h
theorem dp_nesteds (I : Inv X pins σ H s) : ∀ (ds : List PyData) (vs : List V) (us : List Value), flatAll ds = true → DpAll X.K H vs ds → Vals vs us → NestedAll s.heap (keyDs ds) us
  | [], _, _, _, h, r => by cases h; cases r; exact .nil
  | d :: ds, _, _, f, h, r => by
    have f' : flat d = true ∧ flatAll ds = true := by simpa [flatAll] using f
    cases h with
    | cons h1 h2 =>
      cases r with
      | cons r1 r2 => exact .cons (dp_nested I d _ _ f'.1 h1 r1) (dp_nesteds I ds _ _ f'.2 h2 r2)
end
end
abbrev NE := NestedKey × Addr × V
/-- the tuple at b is the key k -/
def NK (K : PySem.W.Frag) (H : Hp) (k : NestedKey) (b : Addr) : Prop := ∃ d, Dp K H (.ref b) d ∧ flat d = true ∧ keyD d = k ∧ k.depth ≤ 8
theorem NK.tx {K : PySem.W.Frag} {H H' : Hp} {k : NestedKey} {b : Addr} (h : NK K H k b) (t : Tx K H H') : NK K H' k b := by
  obtain ⟨d, h1, h2, h3, h4⟩ := h
  exact ⟨d, h1.tx t h2, h2, h3, h4⟩
theorem NK.is {X : Cx} {pins : List (Addr × Obj)} {σ : L2.St} {H : Hp} {s : Shared} {k : NestedKey} {b : Addr} (I : Inv X pins σ H s) (h : NK X.K H k b) : (nestedKind X.prog X.w).is s.heap k b := by
  obtain ⟨d, h1, h2, rfl, h4⟩ := h
  exact ⟨dp_nested I d _ _ h2 h1 rfl, h4⟩
def valN (ks : List NE) (k : NestedKey) : Option V := (ks.find? fun x => decide (x.1 = k)).map (·.2.2)
def putN (ks : List NE) (k : NestedKey) (b : Addr) (v : V) : List NE := if (valN ks k).isSome = true then ks.map (fun x => if x.1 = k then (x.1, x.2.1, v) else x) else ks ++ [(k, b, v)]
theorem valN_nil {k : NestedKey} : valN [] k = none := rfl
theorem valN_pos {p : NE} {r : List NE} {k : NestedKey} (e : p.1 = k) : valN (p :: r) k = some p.2.2 := by simp [valN, List.find?_cons, e]
theorem valN_neg {p : NE} {r : List NE} {k : NestedKey} (e : ¬ p.1 = k) : valN (p :: r) k = valN r k := by simp [valN, List.find?_cons, e]
theorem valN_map (k j : NestedKey) (y : V) : ∀ ks : List NE, valN (ks.map fun x => if x.1 = k then (x.1, x.2.1, y) else x) j = (valN ks j).map fun x => if j = k then y else x
  | [] => rfl
  | p :: r => by
    have ih := valN_map k j y r
    rw [List.map_cons]
    by_cases h : p.1 = k
    · rw [if_pos h]
      by_cases e : p.1 = j
      · rw [valN_pos (p := (p.1, p.2.1, y)) e, valN_pos e, Option.map_some, if_pos (e.symm.trans h)]
      · rw [valN_neg (p := (p.1, p.2.1, y)) e, valN_neg e, ih]
    · rw [if_neg h]
      by_cases e : p.1 = j
      · rw [valN_pos (p := p) e, valN_pos e, Option.map_some, if_neg (fun z => h (e.trans z))]
      · rw [valN_neg (p := p) e, valN_neg e, ih]
theorem valN_snoc (k j : NestedKey) (b : Addr) (y : V) : ∀ ks : List NE, valN ks k = none → valN (ks ++ [(k, b, y)]) j = if j = k then some y else valN ks j
  | [], _ => by
    by_cases e : k = j
    · rw [if_pos e.symm]; exact valN_pos (p := (k, b, y)) e
    · rw [if_neg (fun z => e z.symm)]; exact valN_neg (p := (k, b, y)) e
  | p :: r, hn => by
    rw [List.cons_append]
    have hk : ¬ p.1 = k := fun z => by rw [valN_pos z] at hn; cases hn
    rw [valN_neg hk] at hn
    have ih := valN_snoc k j b y r hn
    by_cases e : p.1 = j
    · rw [valN_pos e, valN_pos e, if_neg (fun z => hk (e.trans z))]
    · rw [valN_neg e, valN_neg e, ih]
theorem valN_put (ks : List NE) (k j : NestedKey) (b : Addr) (y : V) : valN (putN ks k b y) j = if j = k then some y else valN ks j := by
  unfold putN
  by_cases a : (valN ks k).isSome = true
  · rw [if_pos a, valN_map]
    by_cases e : j = k
    · obtain ⟨x, hx⟩ := Option.isSome_iff_exists.mp a
      rw [if_pos e, e, hx, Option.map_some, if_pos rfl]
    · rw [if_neg e]
      cases valN ks j with
      | none => rfl
      | some x => rw [Option.map_some, if_neg e]
  · rw [if_neg a]
    refine valN_snoc k j b y ks ?_
    cases q : valN ks k with
    | none => rfl
    | some x => rw [q] at a; exact (a rfl).elim
theorem length_putN (ks : List NE) (k : NestedKey) (b : Addr) (v : V) : (putN ks k b v).length ≤ ks.length + 1 := by
  unfold putN
  split
  · rw [List.length_map]; omega
  · rw [List.length_append, List.length_cons, List.length_nil]; omega
theorem mem_putN {ks : List NE} {k : NestedKey} {b : Addr} {v : V} {x : NE} (h : x ∈ putN ks k b v) : (x.1 = k ∧ x.2.1 = b) ∨ ∃ y ∈ ks, y.1 = x.1 ∧ y.2.1 = x.2.1 := by
  unfold putN at h
  split at h
  · obtain ⟨y, hy, e⟩ := List.mem_map.mp h
    refine .inr ⟨y, hy, ?_⟩
    subst e
    split <;> exact ⟨rfl, rfl⟩
  · rcases List.mem_append.mp h with h | h
    · exact .inr ⟨x, h, rfl, rfl⟩
    · have e : x = (k, b, v) := by simpa using h
      subst e
      exact .inl ⟨rfl, rfl⟩
abbrev NP : List NE → List (NestedKey × Addr × Value) → Prop := Paired fun p q => p.1 = q.1 ∧ p.2.1 = q.2.1 ∧ RelV p.2.2 q.2.2
theorem NP.val {ks : List NE} {xs : List (NestedKey × Addr × Value)} (r : NP ks xs) (k : NestedKey) : RelO (valN ks k) ((atKey xs k).map (·.2)) := by
  induction r with
  | nil => trivial
  | cons h tl ih =>
    rename_i x y xs ys
    have same : x.1 = y.1 := h.1
    by_cases z : x.1 = k
    · have look : atKey (y :: ys) k = some y.2 := by simp [atKey, List.find?_cons, same.symm.trans z]
      rw [look, valN_pos z]
      exact h.2.2
    · have off : ¬ y.1 = k := by rw [← same]; exact z
      have look : atKey (y :: ys) k = atKey ys k := by simp [atKey, List.find?_cons, off]
      rw [look, valN_neg z]
      exact ih
theorem NP.repl {ks : List NE} {xs : List (NestedKey × Addr × Value)} (r : NP ks xs) (k : NestedKey) {y : V} {u : Value} (ry : RelV y u) :
    NP (ks.map fun x => if x.1 = k then (x.1, x.2.1, y) else x) (xs.map (putAt k u)) := by
  induction r with
  | nil => exact .nil
  | cons h tl ih =>
    rename_i x z xs zs
    have same : x.1 = z.1 := h.1
    refine Paired.cons (show _ ∧ _ ∧ _ from ?_) ih
    by_cases c : x.1 = k
    · have c2 : z.1 = k := same.symm.trans c
      simp only [putAt, c, c2, if_true]
      exact ⟨trivial, h.2.1, ry⟩
    · have c2 : ¬ z.1 = k := by rw [← same]; exact c
      simp only [putAt, c, c2, if_false]
      exact h
theorem NP.put {ks : List NE} {xs : List (NestedKey × Addr × Value)} (r : NP ks xs) (k : NestedKey) {b : Addr} {y : V} {u : Value} (ry : RelV y u) : NP (putN ks k b y) (storedH xs k b u) := by
  have e : (valN ks k).isSome = (atKey xs k).isSome := by rw [(r.val k).isSome_eq, Option.isSome_map]
  unfold putN storedH
  rw [e]
  by_cases q : (atKey xs k).isSome = true
  · rw [if_pos q, if_pos q]; exact r.repl k ry
  · rw [if_neg q, if_neg q]; exact Paired.snoc r ⟨rfl, rfl, ry⟩
/-- the object of the dict at a -/
def nRaw (P : Program) (w : World) (a : Addr) (ks : List NE) (h : Heap) : Prop :=
  ∃ o es ep xs, h.get? a = some o ∧ o.ExactDict ∧ o.data = .dict es ep ∧ es.toList = xs.map (entryOfKey (nestedKind P w)) ∧ (xs.map (·.1)).Nodup ∧ NP ks xs
theorem nRaw_ok {P : Program} {w : World} {H : Hp} {h : Heap} {a : Addr} {ks : List NE} (r : nRaw P w a ks h) : ObjOk P w H h a (.ext (nRaw P w a ks)) := by
  refine ⟨r, ?_, fun h1 h2 q k => ?_⟩
  · obtain ⟨o, _, _, _, e, _⟩ := r
    exact ⟨o, e⟩
  · obtain ⟨o, es, ep, xs, e, c⟩ := q
    exact ⟨o, es, ep, xs, k _ e, c⟩
def RG (K : PySem.W.Frag) (H : Hp) : Option V → Option PyData → Prop
  | none, none => True
  | some v, some d => Dp K H v d ∧ flat d = true
  | none, some _ => False
  | some _, none => False
theorem RG.tx {K : PySem.W.Frag} {H H' : Hp} {o : Option V} {g : Option PyData} (h : RG K H o g) (t : Tx K H H') : RG K H' o g := by
  cases o with
  | none => cases g with
    | none => exact True.intro
    | some _ => exact h
  | some v => cases g with
    | none => exact h
    | some d => exact ⟨h.1.tx t h.2, h.2⟩
theorem RG.isSome {K : PySem.W.Frag} {H : Hp} {o : Option V} {g : Option PyData} (h : RG K H o g) : o.isSome = g.isSome := by
  cases o with
  | none => cases g with
    | none => rfl
    | some _ => exact (show False from h).elim
  | some v => cases g with
    | none => exact (show False from h).elim
    | some d => rfl
/-- a dict of at most n entries with the table G -/
def DN (P : Program) (w : World) (K : PySem.W.Frag) (H : Hp) (a : Addr) (n : Nat) (G : NestedKey → Option PyData) : Prop :=
  ∃ ks, H a = some (.ext (nRaw P w a ks)) ∧ (a == sysModules) = false ∧ ks.length ≤ n ∧ (∀ x ∈ ks, NK K H x.1 x.2.1) ∧ ∀ k, RG K H (valN ks k) (G k)
section
variable {P : Program} {w : World} {K : PySem.W.Frag} {H H' H1 : Hp} {a : Addr} {n : Nat} {G : NestedKey → Option PyData}
theorem DN.keep (h : DN P w K H a n G) (t : Tx K H H') (e : H' a = H a) : DN P w K H' a n G := by
  obtain ⟨ks, h1, h2, h3, h4, h5⟩ := h
  exact ⟨ks, e.trans h1, h2, h3, fun x hx => (h4 x hx).tx t, fun k => (h5 k).tx t⟩
theorem DN.ex (h : DN P w K H a n G) (e : Ex H H') : DN P w K H' a n G := by
  obtain ⟨ks, h1, _⟩ := id h
  exact h.keep (L2.Ex.tx e) ((e _ _ h1).trans h1.symm)
theorem DN.up {m : Nat} (h : DN P w K H a n G) (e : n ≤ m) : DN P w K H a m G := by
  obtain ⟨ks, h1, h2, h3, h4, h5⟩ := h
  exact ⟨ks, h1, h2, Nat.le_trans h3 e, h4, h5⟩
theorem DN.cg {G' : NestedKey → Option PyData} (h : DN P w K H a n G) (e : ∀ k, G k = G' k) : DN P w K H a n G' := by
  have : G = G' := funext e
  exact this ▸ h
theorem DN.some (h : DN P w K H a n G) : ∃ φ, H a = Option.some (.ext φ) := by
  obtain ⟨ks, h1, _⟩ := h
  exact ⟨_, h1⟩
end
section
variable {X : Cx} {pins : List (Addr × Obj)} {σ : L2.St} {H : Hp} {s : Shared} {a b : Addr} {ks : List NE} {k : NestedKey} {v : V} {r : Value} {A : Around} {E : Value → Shared → Prop}
theorem n_dict (I : Inv X pins σ H s) (e : H a = some (.ext (nRaw X.prog X.w a ks))) (hk : ∀ x ∈ ks, NK X.K H x.1 x.2.1) : ∃ xs, NP ks xs ∧ s.heap.DictOfH (nestedKind X.prog X.w) a xs := by
  obtain ⟨⟨o, es, ep, xs, h1, h2, h3, h4, h5, h6⟩, _⟩ := (show ObjOk X.prog X.w H s.heap a (.ext _) from I.hok a _ e)
  refine ⟨xs, h6, o, es, ep, h1, h2, h3, h4, ?_, h5⟩
  have all : ∀ {l : List NE} {m : List (NestedKey × Addr × Value)}, NP l m → (∀ x ∈ l, NK X.K H x.1 x.2.1) → ∀ x ∈ m, (nestedKind X.prog X.w).is s.heap x.1 x.2.1 := by
    intro l m q
    induction q with
    | nil => intro _ x hx; exact nomatch hx
    | @cons p q ps qs hq t ih =>
      intro hp x hx
      rcases List.mem_cons.mp hx with e | hx
      · subst e
        rw [← hq.1, ← hq.2.1]
        exact (hp _ List.mem_cons_self).is I
      · exact ih (fun y hy => hp y (List.mem_cons_of_mem _ hy)) x hx
  exact all h6 hk
end
/-- d[y], y in d, d[y] = v, {} -/
def tNGet (P : Program) (w : World) (K : PySem.W.Frag) (td ty : TE) : TE := fun σ H Q => td σ H fun x H1 => ty σ H1 fun y H2 => ∃ a b n G k d, x = .ref a ∧ y = .ref b ∧ DN P w K H2 a n G ∧ NK K H2 k b ∧ G k = some d ∧ ∀ v, Dp K H2 v d → flat d = true → Q v H2
def tNIn (P : Program) (w : World) (K : PySem.W.Frag) (ty td : TE) : TE := fun σ H Q => ty σ H fun y H1 => td σ H1 fun x H2 => ∃ a b n G k, x = .ref a ∧ y = .ref b ∧ DN P w K H2 a n G ∧ NK K H2 k b ∧ Q (.bl (G k).isSome) H2
def sNPut (P : Program) (w : World) (K : PySem.W.Frag) (td ty tv : TE) : TS := fun D σ H => tv σ H fun v H1 => td σ H1 fun x H2 => ty σ H2 fun y H3 => ∃ a b n G k d, x = .ref a ∧ y = .ref b ∧ DN P w K H3 a n G ∧ n ≤ 50000 ∧ NK K H3 k b ∧ Dp K H3 v d ∧ flat d = true ∧
  ∀ H4, DN P w K H4 a (n + 1) (fun k' => if k' = k then some d else G k') → Tx K H3 H4 → (∀ c, c ≠ a → H4 c = H3 c) → D.nx σ H4
def tNNew (P : Program) (w : World) (K : PySem.W.Frag) : TE := fun _ H Q => ∀ p H1, H p = none → Ex H H1 → DN P w K H1 p 0 (fun _ => none) → Q (.ref p) H1
section
variable {X : Cx} {o i e value : Expr} {pos pos' tpos : Pos} {td ty tv : TE} {j : Nat}
theorem n_room {A : Around} (hu : A.units + 9 < cLine) : (nestedKind X.prog X.w).room A.in1 := by
  show A.in1.units + 8 < cLine
  have e : A.in1.units = A.units + 1 := Around.in1_units A
  omega
theorem n_type {pins : List (Addr × Obj)} {σ : L2.St} {H : Hp} {s : Shared} {a : Addr} {n : Nat} {G : NestedKey → Option PyData} (I : Inv X pins σ H s) (h : DN X.prog X.w X.K H a n G) : s.TypeIs (.ref a) "dict" := by
  obtain ⟨ks, h1, h2, h3, h4, h5⟩ := h
  obtain ⟨xs, _, dd⟩ := n_dict I h1 h4
  exact dd.typeIs
theorem pe_nget (hu : X.A.units + 9 < cLine) (ho : PE X o td) (hi : PE X i ty) (hs : NoSl i) : PE X (.Subscript o i pos) (tNGet X.prog X.w X.K td ty) := by
  refine ⟨fun pins s σ H Q I h => ?_⟩
  refine subD_of PySem.F.slot_dict_getitem.lookup hs (thn (ho.run pins s σ H _ I h) fun u s1 ⟨x, H1, I1, rx, q1⟩ => thn (hi.run pins s1 σ H1 _ I1 q1) fun iv s2 ⟨y, H2, I2, ry, a, b, n, G, k, d, ex, ey, g, kb, gk, q2⟩ => ?_)
  subst ex ey
  obtain rfl : u = Value.ref a := rx
  obtain rfl : iv = Value.ref b := ry
  refine ⟨n_type I2 g, ?_⟩
  obtain ⟨ks, h1, h2, h3, h4, h5⟩ := g
  obtain ⟨xs, np, dd⟩ := n_dict I2 h1 h4
  have r := h5 k
  rw [gk] at r
  cases hv : valN ks k with
  | none => rw [hv] at r; exact (show False from r).elim
  | some v =>
    rw [hv] at r
    obtain ⟨w', hw, rw'⟩ := RelO.some_of (v := v) (o := (atKey xs k).map (·.2)) (by rw [← hv]; exact np.val k)
    obtain ⟨p, hp, hp2⟩ := Option.map_eq_some_iff.mp hw
    refine wpAny_getItem_heap (n_room hu) (kb.is I2) dd hp ?_
    rw [hp2]
    exact ⟨v, H2, I2.tok _, rw', q2 v r.1 r.2⟩
theorem pc_nin (hu : X.A.units + 9 < cLine) (hi : PE X i ty) (ho : PE X o td) : PC X .In i o (tNIn X.prog X.w X.K ty td) := by
  refine ⟨fun pins s σ H Q I h => ?_⟩
  refine thn (hi.run pins s σ H _ I h) fun iv s1 ⟨y, H1, I1, ry, q1⟩ => thn (ho.run pins s1 σ H1 _ I1 q1) fun u s2 ⟨x, H2, I2, rx, a, b, n, G, k, ex, ey, g, kb, q2⟩ => ?_
  subst ex ey
  obtain rfl : u = Value.ref a := rx
  obtain rfl : iv = Value.ref b := ry
  obtain ⟨ks, h1, h2, h3, h4, h5⟩ := g
  obtain ⟨xs, np, dd⟩ := n_dict I2 h1 h4
  refine wpAny_in_heap (n_room hu) (kb.is I2) h2 dd ?_
  have q := (np.val k).isSome_eq
  rw [Option.isSome_map] at q
  rw [← q, (h5 k).isSome]
  exact ⟨.bl _, H2, I2.tok _, rfl, q2⟩
theorem ps_nput (hu : X.A.units + 9 < cLine) (ho : PE X o td) (hi : PE X i ty) (hv : PE X value tv) (hs : swapsWith value (some (.Subscript o i pos')) pos.line X.env = pure false) :
    PS X (.Assign [.Subscript o i pos'] value pos) (sNPut X.prog X.w X.K td ty tv) := by
  refine ⟨fun pins s σ H D I h => ?_⟩
  refine wpAny_Assign_Subscript (thn (hv.run pins s σ H _ I h) fun r s1 ⟨v, H1, I1, rv, q1⟩ => thn (ho.run pins s1 σ H1 _ I1 q1) fun u s2 ⟨x, H2, I2, rx, q2⟩ => thn (hi.run pins s2 σ H2 _ I2 q2) fun iv s3 ⟨y, H3, I3, ry, a, b, n, G, k, d, ex, ey, g, hn, kb, dv, fv, q3⟩ => ?_) hs
  subst ex ey
  obtain rfl : u = Value.ref a := rx
  obtain rfl : iv = Value.ref b := ry
  obtain ⟨ks, h1, h2, h3, h4, h5⟩ := g
  obtain ⟨xs, np, dd⟩ := n_dict I3 h1 h4
  have hz : xs.length ≤ sizeLine := by rw [← Paired.length np, sizeLine_eq]; omega
  refine wpAny_setItem_heap (hsz := hz) (n_room hu) (kb.is I3) dd fun h' dd' hs => ?_
  obtain ⟨q, es, ep, hq, e2, e3, e4, _, e5⟩ := dd'
  have tx : Tx X.K H3 (upd H3 a (.ext (nRaw X.prog X.w a (putN ks k b v)))) := Tx.extn h1
  refine ⟨σ, _, d_write I3 (by rw [h1]; exact True.intro) hs ⟨q, hq⟩ (nRaw_ok ⟨q, es, ep, _, hq, e2, e3, e4, e5, np.put k rv⟩), q3 _ ?_ tx fun c hc => upd_ne hc⟩
  refine ⟨putN ks k b v, upd_same, h2, ?_, fun x hx => ?_, fun k' => ?_⟩
  · have := length_putN ks k b v
    omega
  · rcases mem_putN hx with ⟨e, e'⟩ | ⟨y, hy, e, e'⟩
    · rw [e, e']; exact kb.tx tx
    · rw [← e, ← e']; exact (h4 y hy).tx tx
  · rw [valN_put]
    by_cases c : k' = k
    · rw [if_pos c]
      simp only [if_pos c]
      exact ⟨dv.tx tx fv, fv⟩
    · rw [if_neg c]
      simp only [if_neg c]
      exact (h5 k').tx tx
theorem pe_nnew : PE X (.Dict [] [] pos) (tNNew X.prog X.w X.K) := ⟨fun pins s σ H Q I h => by
  have hb := I.big
  have hf := I.hok.fresh (Nat.le_refl s.heap.objs.size)
  refine wpAny_Dict_empty ⟨.ref s.heap.objs.size, _, I.laid (a := s.heap.objs.size) (o := .ext (nRaw X.prog X.w s.heap.objs.size [])) (t' := s.toks) (fun _ _ q => Heap.get?_push_of_some _ q) (Nat.le_refl _) (nRaw_ok ⟨_, #[], 0, [], Heap.get?_push_size _ rfl, ⟨rfl, rfl, rfl⟩, rfl, rfl, List.nodup_nil, .nil⟩), rfl, h _ _ hf (Ex.new hf) ?_⟩
  exact ⟨[], upd_same, beq_eq_false_iff_ne.mpr (Ne.symm (Nat.ne_of_lt hb)), Nat.le_refl _, (fun _ hx => nomatch hx), fun _ => True.intro⟩⟩
/-- {k: v} -/
def tNOne (P : Program) (w : World) (K : PySem.W.Frag) (tk tv : TE) : TE := fun σ H Q => ∀ p H0, H p = none → Ex H H0 → DN P w K H0 p 0 (fun _ => none) → tk σ H0 fun y H1 => tv σ H1 fun v H2 => ∃ b k d, y = .ref b ∧ Ex H0 H2 ∧ NK K H2 k b ∧ Dp K H2 v d ∧ flat d = true ∧
  ∀ H4, DN P w K H4 p 1 (fun k' => if k' = k then some d else none) → Tx K H2 H4 → (∀ c, c ≠ p → H4 c = H2 c) → Q (.ref p) H4
theorem dict_one {knd : HeapKind X.prog X.w NestedKey} {A : Around} {E : Value → Shared → Prop} {s : Shared} {env : Env} {keys : List (Option Expr)} {values : List Expr} {pos : Pos} {pairs : List (Sem Value × Sem Value)} {Q : Value → Shared → Prop} (hu : knd.room A)
    (hshape : (evalEachOpt keys env).zip ((evalEach values env).map fun v => do let x ← v; standAt pos; pure x) = pairs.map fun p => (some p.1, p.2)) (h0 : pairs ≠ []) (hlen : pairs.length ≤ 15)
    (h : wpAny (model X.prog X.w) A (evalPairs pairs) (fun vs s₁ => ∃ ps, CarriesH knd s₁.heap vs ps ∧ s₁.heap.DictOfH knd s.heap.objs.size [] ∧
      ∀ h' tk, h'.DictOfH knd s.heap.objs.size (storedAllH [] ps) → Heap.SameBut s.heap.objs.size s₁.heap h' → Q (.ref s.heap.objs.size) { s₁ with heap := h', toks := tk }) E
      { s with heap := s.heap.push { cls := .type "dict", data := .dict #[] } }) : wpAny (model X.prog X.w) A (eval (.Dict keys values pos) env) Q E s := by
  rw [arm_eval_Dict, hshape, dictDisplay_pairs pairs h0 (by omega)]
  exact wpAny_bind (wpAny_standAt (wpAny_bind (wpAny_subDictH (knd := knd) (Q := fun d s' => wpAny (model X.prog X.w) A (pure (Value.ref d)) Q E s') hu hlen
    (wpAny_mono h (fun vs s₁ ⟨ps, hc, hm, hq⟩ => ⟨ps, hc, hm, fun h' tk a b => wpAny_pure (hq h' tk a b)⟩) fun _ _ e => e))))
theorem pe_none {ke ve : Expr} {tk tv : TE} (hu : X.A.units + 9 < cLine) (hk : PE X ke tk) (hv : PE X ve tv) : PE X (.Dict [some ke] [ve] pos) (tNOne X.prog X.w X.K tk tv) := ⟨fun pins s σ H Q I h => by
  have hb := I.big
  have hf := I.hok.fresh (Nat.le_refl s.heap.objs.size)
  have I1 := I.laid (a := s.heap.objs.size) (o := .ext (nRaw X.prog X.w s.heap.objs.size [])) (h' := s.heap.push { cls := .type "dict", data := .dict #[] }) (t' := s.toks) (fun _ _ q => Heap.get?_push_of_some _ q) (Nat.le_refl _) (nRaw_ok ⟨_, #[], 0, [], Heap.get?_push_size _ rfl, ⟨rfl, rfl, rfl⟩, rfl, rfl, List.nodup_nil, .nil⟩)
  have d0 : DN X.prog X.w X.K (upd H s.heap.objs.size (.ext (nRaw X.prog X.w s.heap.objs.size []))) s.heap.objs.size 0 (fun _ => none) := ⟨[], upd_same, beq_eq_false_iff_ne.mpr (Ne.symm (Nat.ne_of_lt hb)), Nat.le_refl _, (fun _ hx => nomatch hx), fun _ => True.intro⟩
  refine dict_one (knd := nestedKind X.prog X.w) (pairs := pairTrees [some ke] [ve] X.env pos) (by show X.A.units + 8 < cLine; omega) rfl (by simp [pairTrees]) (by simp [pairTrees]) ?_
  refine pairTrees_cons_walk (thn (hk.run pins _ σ _ _ I1 (h _ _ hf (Ex.new hf) d0)) fun u s1 ⟨y, H1, I2, ry, q1⟩ => thn (hv.run pins s1 σ H1 _ I2 q1) fun w2 s2 ⟨v, H2, I3, rv, b, k, d, ey, ex, kb, dv, fv, q2⟩ => ?_)
  refine pairTrees_nil_walk ?_
  subst ey
  obtain rfl : u = Value.ref b := ry
  obtain ⟨ks, h1, h2, h3, h4, h5⟩ := d0.ex ex
  have hks : ks = [] := by
    cases ks with
    | nil => rfl
    | cons _ _ => simp at h3
  subst hks
  obtain ⟨xs, np, dd⟩ := n_dict I3 h1 h4
  cases np
  refine ⟨[(k, b, w2)], ⟨rfl, rfl, kb.is I3, True.intro⟩, dd, fun h' tk dd' hs => ?_⟩
  obtain ⟨q, es, ep, hq, e2, e3, e4, _, e5⟩ := dd'
  have tx : Tx X.K H2 (upd H2 s.heap.objs.size (.ext (nRaw X.prog X.w s.heap.objs.size [(k, b, v)]))) := Tx.extn h1
  have np1 : NP [(k, b, v)] (storedAllH [] [(k, b, w2)]) := .cons ⟨rfl, rfl, rv⟩ .nil
  refine ⟨.ref s.heap.objs.size, _, d_write (t' := tk) I3 (by rw [h1]; exact True.intro) hs ⟨q, hq⟩ (nRaw_ok ⟨q, es, ep, _, hq, e2, e3, e4, e5, np1⟩), (show Value.ref _ = Value.ref _ from rfl), q2 _ ⟨[(k, b, v)], upd_same, h2, Nat.le_refl _, fun x hx => ?_, fun k' => ?_⟩ tx fun c hc => upd_ne hc⟩
  · have e : x = (k, b, v) := by simpa using hx
    subst e
    exact kb.tx tx
  · by_cases c : k' = k
    · simp only [if_pos c]
      rw [valN_pos (p := (k, b, v)) c.symm]
      exact ⟨dv.tx tx fv, fv⟩
    · simp only [if_neg c]
      rw [valN_neg (p := (k, b, v)) (fun z => c z.symm)]
      exact True.intro⟩
end
/-! ### by data -/
section
variable {P : Program} {w : World} {K : PySem.W.Frag} {H H' H1 H2 : Hp} {σ : L2.St} {td ty tv : TE} {d e z : PyData} {a : Addr} {n : Nat} {G : NestedKey → Option PyData}
theorem NK.of {v : V} (h : Dp K H v d) (f : flat d = true) (hd : (keyD d).depth ≤ 8) (r : ∃ ds, d = .tuple ds) : ∃ b, v = .ref b ∧ NK K H (keyD d) b := by
  obtain ⟨ds, rfl⟩ := r
  obtain ⟨b, xs, rfl, _, _⟩ := id h.tup_of
  exact ⟨b, rfl, _, h, f, rfl, hd⟩
theorem d_nget (ha : Ev td σ H (.ref a)) (hn : DN P w K H a n G) (hk : EvD K ty σ H (.tuple ds)) (f : flatAll ds = true) (hd : (keyD (.tuple ds)).depth ≤ 8) (g : G (keyD (.tuple ds)) = some e) : EvD K (tNGet P w K td ty) σ H e := fun H1 a1 Q q =>
  ha H1 a1 _ fun H2 e2 => hk H2 (a1.trans e2) _ fun y H3 e3 hy => by
    obtain ⟨b, rfl, kb⟩ := NK.of hy (by simpa [flat] using f) hd ⟨_, rfl⟩
    exact ⟨a, b, n, G, _, e, rfl, rfl, hn.ex (a1.trans (e2.trans e3)), kb, g, fun v hv _ => q v H3 (e2.trans e3) hv⟩
theorem d_nin (ha : Ev td σ H (.ref a)) (hn : DN P w K H a n G) (hk : EvD K ty σ H (.tuple ds)) (f : flatAll ds = true) (hd : (keyD (.tuple ds)).depth ≤ 8) : EvD K (tNIn P w K ty td) σ H (.bool (G (keyD (.tuple ds))).isSome) := fun H1 a1 Q q =>
  hk H1 a1 _ fun y H2 e2 hy => ha H2 (a1.trans e2) _ fun H3 e3 => by
    obtain ⟨b, rfl, kb⟩ := NK.of (hy.ex e3) (by simpa [flat] using f) hd ⟨_, rfl⟩
    exact ⟨a, b, n, G, _, rfl, rfl, hn.ex (a1.trans (e2.trans e3)), kb, q _ H3 (e2.trans e3) (.bl _)⟩
/-- the heap behind a[k] = d -/
def Wr (K : PySem.W.Frag) (a : Addr) (H H' : Hp) : Prop := ∃ H1, Ex H H1 ∧ Tx K H1 H' ∧ ∀ c, c ≠ a → H' c = H1 c
theorem Wr.tx (h : Wr K a H H') : Tx K H H' := let ⟨_, e, t, _⟩ := h; (L2.Ex.tx e).trans t
theorem Wr.at {c : Addr} {o : HO} (h : Wr K a H H') (hc : H c = some o) (n : c ≠ a) : H' c = some o := let ⟨_, e, _, k⟩ := h; (k c n).trans (e _ _ hc)
theorem q_nput {D : Ends} {tz : TS} (hv : EvD K tv σ H d) (fv : flat d = true) (ha : Ev td σ H (.ref a)) (hn : DN P w K H a n G) (hz : n ≤ 50000) (hk : EvD K ty σ H (.tuple ds)) (f : flatAll ds = true) (hd : (keyD (.tuple ds)).depth ≤ 8)
    (k : ∀ H', Wr K a H H' → DN P w K H' a (n + 1) (fun k' => if k' = keyD (.tuple ds) then some d else G k') → tz D σ H') : tSeq (sNPut P w K td ty tv) tz D σ H :=
  hv H (Ex.refl H) _ fun v H1 e1 dv => ha H1 e1 _ fun H2 e2 => hk H2 (e1.trans e2) _ fun y H3 e3 hy => by
    obtain ⟨b, rfl, kb⟩ := NK.of hy (by simpa [flat] using f) hd ⟨_, rfl⟩
    exact ⟨a, b, n, G, _, d, rfl, rfl, hn.ex ((e1.trans e2).trans e3), hz, kb, dv.ex (e2.trans e3), fv, fun H4 d4 t4 k4 => k H4 ⟨H3, (e1.trans e2).trans e3, t4, k4⟩ d4⟩
theorem s_nput {D : Ends} (hv : EvD K tv σ H d) (fv : flat d = true) (ha : Ev td σ H (.ref a)) (hn : DN P w K H a n G) (hz : n ≤ 50000) (hk : EvD K ty σ H (.tuple ds)) (f : flatAll ds = true) (hd : (keyD (.tuple ds)).depth ≤ 8)
    (k : ∀ H', Wr K a H H' → DN P w K H' a (n + 1) (fun k' => if k' = keyD (.tuple ds) then some d else G k') → D.nx σ H') : sNPut P w K td ty tv D σ H :=
  hv H (Ex.refl H) _ fun v H1 e1 dv => ha H1 e1 _ fun H2 e2 => hk H2 (e1.trans e2) _ fun y H3 e3 hy => by
    obtain ⟨b, rfl, kb⟩ := NK.of hy (by simpa [flat] using f) hd ⟨_, rfl⟩
    exact ⟨a, b, n, G, _, d, rfl, rfl, hn.ex ((e1.trans e2).trans e3), hz, kb, dv.ex (e2.trans e3), fv, fun H4 d4 t4 k4 => k H4 ⟨H3, (e1.trans e2).trans e3, t4, k4⟩ d4⟩
end
end K11
/-! the text by places; promises; own calls -/
namespace K11
open PySem PySem.Spec PyProof.Rows L2 Evl
def top (i : Nat) : Stmt := PySem.Challenge.pw_leavescalm_k11_whole_pairs_that_are_calm.main.body.getD i (.Pass ⟨0, 0, 0, 0⟩)
abbrev FnP (K : PySem.W.Frag) (x : Str) (st : Stmt) (f : Addr) (fd : FuncData) : Prop := FunD K x x (defArgs st) (defBody st) (defScope st) [] [] f fd
/-- a def of the text, by its name -/
def Nm (K : PySem.W.Frag) (mg : Str → Option Value) (x : Str) (st : Stmt) : Prop := ∃ f fd, mg x = some (.ref f) ∧ FnP K x st f fd
/-- a def that keeps its promise -/
def OkF (CX : CXT) (P : Program) (w : World) (K : PySem.W.Frag) (mg : Str → Option Value) (base : Heap) (k : Nat) (x : Str) (ps : List Str) (sp : Sp) : Prop :=
  ∃ f fd, mg x = some (.ref f) ∧ PySem.W.keepIn K (.ref f) = true ∧ Binds K fd ps [] ∧ FnOk P w K mg base CX k f fd ps sp
section
variable {P : Program} {w : World} {K : PySem.W.Frag} {mg : Str → Option Value} {base : Heap} {x : Str} {st : Stmt} {N ps : List Str} {sp : Sp} {k : Nat} {CX : CXT}
def BindsP (x : Str) (st : Stmt) (ps : List Str) : Prop := ∀ (kV doc pm : Value) (an : Option Addr) (cdv ct : Value) (us : List Value), us.length = ps.length → bindArgs (PySem.W.fnOf x x (defArgs st) (defBody st) (defScope st) .none kV doc pm an cdv ct) ⟨us, []⟩ = pure (ps.zip us)
theorem ok_of (n : Nm K mg x st) (S : FnScope N ps (defScope st)) (hb : BindsP x st ps) (len : ∀ vs H Q E, sp vs H Q E → vs.length = ps.length)
    (hbody : ∀ (f : Addr) (cdv : Value) (A : Around) (outer : List Env) (s : Shared) (H : Hp) (vs : List V) (Q : VK) (E : XK), Room k (A.deeper (envOfC x (defScope st) s.heap.objs.size f cdv)) → sp vs H Q E →
      ∃ t, PSs (cxOf CX P w K mg base N x (defScope st) f cdv A outer s H E) (defBody st) t ∧ t { nx := fun _ H' => Q .non H', rt := Q } (start N vs) H) : OkF CX P w K mg base (k + 1) x ps sp := by
  obtain ⟨f, fd, hm, F⟩ := n
  exact ⟨f, fd, hm, F.kp, F.bindsN hb, F.ok S len (hbody f)⟩
theorem OkF.mono {j : Nat} (o : OkF CX P w K mg base j x ps sp) (h : j ≤ k) : OkF CX P w K mg base k x ps sp := by
  obtain ⟨f, fd, h1, h2, h3, h4⟩ := o
  exact ⟨f, fd, h1, h2, h3, h4.mono h⟩
theorem OkF.imp {sp' : Sp} (o : OkF CX P w K mg base k x ps sp) (h : ∀ vs H Q E, sp' vs H Q E → sp vs H Q E) : OkF CX P w K mg base k x ps sp' := by
  obtain ⟨f, fd, h1, h2, h3, h4⟩ := o
  exact ⟨f, fd, h1, h2, h3, h4.imp h⟩
end
section
variable {X : Cx} {x : Str} {ps : List Str} {sp : Sp} {k : Nat} {CX : CXT} {E : XK} {e : Expr} {es : List Expr} {t : TA} {p pos : Pos}
theorem pe_own (o : OkF CX X.prog X.w X.K X.mg X.base k x ps sp) (hr : Room k X.A) (hx : Passes CX X E) (hg : Gl X x) (ha : PA X (e :: es) t) (hdb : (x == ("__debug__" : Str)) = false := by decide)
    (he : starEach (e :: es) X.env = (false, eval e X.env) :: starEach es X.env := by rfl) (hpl : (backTo pos (starEach es X.env)).any (·.1) = false := by rfl) : PE X (.Call (.Name x p) (e :: es) [] pos) (tCall sp [] E t) := by
  obtain ⟨f, fd, h1, h2, h3, h4⟩ := o
  exact pe_call h4 hr hg h1 h2 h3 .nil hx ha hdb he hpl
end
/-! ### promises by data -/
def spD (K : PySem.W.Frag) (n : Nat) (R : List PyData → PyData → Prop) : Sp := fun vs H Q _ => ∃ ds d, ds.length = n ∧ DpAll K H vs ds ∧ R ds d ∧ ∀ v H', Ex H H' → Dp K H' v d → Q v H'
/-- a new list -/
def spN (K : PySem.W.Frag) (n : Nat) (R : List PyData → List PyData → Prop) : Sp := fun vs H Q _ => ∃ ds es, ds.length = n ∧ DpAll K H vs ds ∧ R ds es ∧ ∀ p xs H', H p = none → Ex H H' → H' p = some (.lst xs) → DpAll K H' xs es → Q (.ref p) H'
section
variable {K : PySem.W.Frag} {H : Hp} {σ : L2.St} {vs : List V} {n : Nat} {R : List PyData → PyData → Prop} {R' : List PyData → List PyData → Prop} {ds es : List PyData} {d : PyData} {Q : VK} {E : XK} {ta : TA} {te : TE}
theorem spD_len (h : spD K n R vs H Q E) : vs.length = n := by
  obtain ⟨ds, d, rfl, h, _⟩ := h
  exact h.len
theorem spN_len (h : spN K n R' vs H Q E) : vs.length = n := by
  obtain ⟨ds, d, rfl, h, _⟩ := h
  exact h.len
theorem d_own (h : EvDA K ta σ H ds) (r : R ds d) (hn : ds.length = n := by rfl) : EvD K (tCall (spD K n R) [] E ta) σ H d := fun H1 a Q q =>
  h H1 a _ fun vs H2 e hd => by
    rw [List.append_nil]
    exact ⟨ds, d, hn, hd, r, fun v H3 e3 hv => q v H3 (e.trans e3) hv⟩
theorem n_own (h : EvDA K ta σ H ds) (r : R' ds es) (hn : ds.length = n := by rfl) : EvN K (tCall (spN K n R') [] E ta) σ H es := fun H1 a Q q =>
  h H1 a _ fun vs H2 e hd => by
    rw [List.append_nil]
    exact ⟨ds, es, hn, hd, r, fun p xs H3 np e3 hp hv => q p xs H3 (fresh_back e np) (e.trans e3) hp hv⟩
theorem dp1 (h : DpAll K H vs [d]) : ∃ v, vs = [v] ∧ Dp K H v d := by
  cases h with
  | cons h1 h2 => cases h2; exact ⟨_, rfl, h1⟩
theorem dp2 {e : PyData} (h : DpAll K H vs [d, e]) : ∃ v w, vs = [v, w] ∧ Dp K H v d ∧ Dp K H w e := by
  cases h with
  | cons h1 h2 =>
    obtain ⟨w, rfl, h3⟩ := dp1 h2
    exact ⟨_, _, rfl, h1, h3⟩
theorem dp3 {e f : PyData} (h : DpAll K H vs [d, e, f]) : ∃ v w x, vs = [v, w, x] ∧ Dp K H v d ∧ Dp K H w e ∧ Dp K H x f := by
  cases h with
  | cons h1 h2 =>
    obtain ⟨w, x, rfl, h3, h4⟩ := dp2 h2
    exact ⟨_, _, _, rfl, h1, h3, h4⟩
/-! ### isinstance -/
def tyN : PyData → String
  | .none => "NoneType"
  | .bool _ => "bool"
  | .int _ => "int"
  | .str _ => "str"
  | .list _ => "list"
  | .tuple _ => "tuple"
  | .dict _ => "dict"
theorem tyx_of {v : V} (h : Dp K H v d) : TyX K H v (.type (tyN d)) := by
  cases h with
  | non => exact .base .non
  | bl b => exact .base (.bl b)
  | int i => exact .base (.int i)
  | str x => exact .base (.str x)
  | lst hs _ =>
    rcases hs with (hs | ⟨o, hs⟩) | ⟨o, its, n, hk, hc, _⟩
    · exact .base (.lst hs)
    · exact .base (.frz hs)
    · exact .kList hk hc
  | tup hs _ =>
    rcases hs with (hs | ⟨o, hs⟩) | ⟨o, its, n, hk, hc, _⟩
    · exact .base (.tup hs)
    · exact .fTuple hs
    · exact .kTuple hk hc
theorem d_isi {T : String} {b : Bool} (h : EvD K te σ H d) (hk : kitB (tyN d) T = some b) : EvD K (tCB (rIsi K) (tCons te (tCons (tC (.ty T)) tNil))) σ H (.bool b) := fun H1 a Q q =>
  h H1 a _ fun v H2 e hv => ⟨v, .ty T, .type (tyN d), .type T, b, rfl, .ty T, tyx_of hv, kit_ty hk, q _ H2 e (.bl b)⟩
theorem d_isiT {T1 T2 : String} {b1 b2 : Bool} (h : EvD K te σ H d) (hk1 : kitB (tyN d) T1 = some b1) (hk2 : kitB (tyN d) T2 = some b2) : EvD K (tCB (rIsiT K) (tCons te (tCons (tTup (tCons (tC (.ty T1)) (tCons (tC (.ty T2)) tNil))) tNil))) σ H (.bool (b1 || b2)) := fun H1 a Q q =>
  h H1 a _ fun v H2 e hv => ⟨sz_of (show 2 ≤ 100000 by decide), fun p hp => ⟨v, p, [.ty T1, .ty T2], .type (tyN d), [.type T1, .type T2], b1 || b2, rfl, upd_same, .cons (.ty T1) (.cons (.ty T2) .nil), tyx_of (hv.ex (Ex.new hp)),
    kitAny_cons (kit_ty hk1) (fun e1 => kitAny_cons (kit_ty hk2) (fun e2 => by rw [e1, e2]; rfl) (fun e2 => by rw [e2, Bool.or_true])) (fun e1 => by rw [e1, Bool.true_or]), q _ _ (e.trans (Ex.new hp)) (.bl _)⟩⟩
/-! ### values: and, or, not -/
theorem d_and {a b : Bool} {t1 t2 : TE} (h1 : EvD K t1 σ H (.bool a)) (h2 : a = true → EvD K t2 σ H (.bool b)) : EvD K (tAndV t1 t2) σ H (.bool (a && b)) := d_bl (ev_andV h1.bl fun e => (h2 e).bl)
theorem d_or {a b : Bool} {t1 t2 : TE} (h1 : EvD K t1 σ H (.bool a)) (h2 : a = false → EvD K t2 σ H (.bool b)) : EvD K (tOrV t1 t2) σ H (.bool (a || b)) := d_bl (ev_orV h1.bl fun e => (h2 e).bl)
theorem d_not {a : Bool} {t1 : TE} (h1 : EvD K t1 σ H (.bool a)) : EvD K (tNotV t1) σ H (.bool (!a)) := d_bl (ev_notV h1.bl)
end
end K11
/-! frames; tracked lists of data; typed comprehensions and loops -/
namespace K11
open PySem PySem.Spec PyProof.Rows L2 Evl
section
variable {K : PySem.W.Frag} {H H' H1 H2 B : Hp} {S S' : List Addr} {l a p : Addr} {ds es : List PyData} {d : PyData} {xs : List V}
/-! ### frames -/
/-- what may change: the objects of S; tuples stay -/
def Fr (K : PySem.W.Frag) (S : List Addr) (H H' : Hp) : Prop := Tx K H H' ∧ ∀ c o, c ∉ S → H c = some o → H' c = some o
theorem Fr.refl : Fr K S H H := ⟨Tx.refl, fun _ _ _ h => h⟩
theorem Fr.ex (e : Ex H H') : Fr K S H H' := ⟨L2.Ex.tx e, fun c o _ h => e c o h⟩
theorem Fr.trans (f : Fr K S H H1) (g : Fr K S H1 H2) : Fr K S H H2 := ⟨f.1.trans g.1, fun c o n h => g.2 c o n (f.2 c o n h)⟩
theorem Fr.sub (f : Fr K S H H') (h : ∀ c ∈ S, c ∈ S') : Fr K S' H H' := ⟨f.1, fun c o n q => f.2 c o (fun z => n (h c z)) q⟩
theorem Fr.wr (h : Wr K a H H') (m : a ∈ S) : Fr K S H H' := ⟨h.tx, fun c o n q => h.at q fun z => n (z ▸ m)⟩
theorem Fr.at {c : Addr} {o : HO} (f : Fr K S H H') (h : H c = some o) (n : c ∉ S) : H' c = some o := f.2 c o n h
/-- against an elder heap that knows none of S -/
theorem Fr.exB (f : Fr K S H H') (e : Ex B H) (n : ∀ c ∈ S, B c = none) : Ex B H' := fun c o h => f.2 c o (fun z => by rw [n c z] at h; cases h) (e c o h)
theorem Wr.exB (f : Wr K a H H') (e : Ex B H) (n : B a = none) : Ex B H' := (Fr.wr (S := [a]) f (by simp)).exB e fun c hc => by
  have : c = a := by simpa using hc
  rw [this]
  exact n
theorem Wr.of (e : Ex H H1) {o : HO} (hl : ∃ xs, H1 a = some (.lst xs)) : Wr K a H (upd H1 a o) := let ⟨xs, h⟩ := hl; ⟨H1, e, Tx.lst h, fun c n => upd_ne n⟩
/-- a tracked list of data -/
def Ls (K : PySem.W.Frag) (H : Hp) (l : Addr) (ds : List PyData) : Prop := ∃ xs, H l = some (.lst xs) ∧ DpAll K H xs ds
theorem Ls.ex (h : Ls K H l ds) (e : Ex H H') : Ls K H' l ds := let ⟨xs, h1, h2⟩ := h; ⟨xs, e _ _ h1, h2.ex e⟩
theorem Ls.fr (h : Ls K H l ds) (f : Fr K S H H') (n : l ∉ S) (fl : flatAll ds = true) : Ls K H' l ds := let ⟨xs, h1, h2⟩ := h; ⟨xs, f.at h1 n, h2.tx f.1 fl⟩
theorem Ls.toD (h : Ls K H l ds) : Dp K H (.ref l) (.list ds) := let ⟨xs, h1, h2⟩ := h; .lst (sq_of h1) h2
theorem Ls.isl (h : Ls K H l ds) : ∃ xs, H l = some (.lst xs) := let ⟨xs, h1, _⟩ := h; ⟨xs, h1⟩
theorem Ls.off (h : Ls K H l ds) (n : H p = none) : l ≠ p := fun z => by
  obtain ⟨xs, h1, _⟩ := h
  rw [z, n] at h1
  cases h1
theorem Ls.cg (h : Ls K H l ds) (e : ds = es) : Ls K H l es := e ▸ h
theorem DN.fr {P : Program} {w : World} {n : Nat} {G : NestedKey → Option PyData} (h : DN P w K H a n G) (f : Fr K S H H') (m : a ∉ S) : DN P w K H' a n G := by
  obtain ⟨ks, h1, _⟩ := id h
  exact h.keep f.1 ((f.at h1 m).trans h1.symm)
theorem DN.off {P : Program} {w : World} {n : Nat} {G : NestedKey → Option PyData} (h : DN P w K H a n G) (m : H p = none) : a ≠ p := fun z => by
  obtain ⟨ks, h1, _⟩ := h
  rw [z, m] at h1
  cases h1
theorem DN.offL {P : Program} {w : World} {n : Nat} {G : NestedKey → Option PyData} (h : DN P w K H a n G) (m : Ls K H l ds) : a ≠ l := fun z => by
  obtain ⟨ks, h1, _⟩ := h
  obtain ⟨xs, h2, _⟩ := m
  rw [z, h2] at h1
  cases h1
/-- a list of data where the list itself may stand anywhere -/
theorem sql_fr (h : SqL K H p xs) (f : Fr K S H H') (n : ∀ o, H p = some o → p ∉ S) : SqL K H' p xs := by
  rcases h with (h | ⟨o, h⟩) | h
  · exact .inl (.inl (f.at h (n _ h)))
  · exact .inl (.inr ⟨o, f.at h (n _ h)⟩)
  · exact .inr h
/-- an elder list is none of the new ones -/
theorem old_ne {o : HO} (e : Ex B H) (h : B p = some o) (n : B a = none) : p ≠ a := fun z => by rw [z, n] at h; cases h
end
/-! ### typed comprehensions -/
section
variable {K : PySem.W.Frag} {H H' H1 H2 : Hp} {σ : L2.St} {ta tb te tx : TE} {t u : TT} {α β : Type}
theorem flatAll_mapT {f : α → Bool} {v : α → PyData} : ∀ {l : List α}, (∀ d ∈ l, f d = true → flat (v d) = true) → flatAll ((l.filter f).map v) = true
  | [], _ => rfl
  | d :: l, h => by
    have ih := flatAll_mapT (f := f) (v := v) (l := l) fun c hc => h c (List.mem_cons_of_mem _ hc)
    rw [List.filter_cons]
    cases hf : f d with
    | false => simpa using ih
    | true =>
      rw [if_pos rfl, List.map_cons, flatAll, h d List.mem_cons_self hf, ih]
      rfl
theorem flatAll_map0 {v : α → PyData} : ∀ {l : List α}, (∀ d ∈ l, flat (v d) = true) → flatAll (l.map v) = true
  | [], _ => rfl
  | d :: l, h => by
    rw [List.map_cons, flatAll, h d List.mem_cons_self, flatAll_map0 fun c hc => h c (List.mem_cons_of_mem _ hc)]
    rfl
theorem get_map {en : α → PyData} {as : List α} {i : Nat} {d : PyData} (h : (as.map en)[i]? = some d) : ∃ a, as[i]? = some a ∧ d = en a := by
  rw [List.getElem?_map] at h
  cases e : as[i]? with
  | none => rw [e] at h; cases h
  | some a => rw [e] at h; exact ⟨a, rfl, (Option.some.inj h).symm⟩
/-- [v for a in as if f], typed; the elements flat -/
theorem n_lcT {wi : TI} {g : TG} {vs : List Nat} (en : α → PyData) (as : List α) (hi : EvI K wi σ H (as.map en)) (f : α → Bool) (v : α → PyData) (hz : as.length ≤ 90000) (hfl : ∀ a ∈ as, f a = true → flat (v a) = true)
    (hg : ∀ a ∈ as, ∀ x B H1, Ex H B → Ex B H1 → Dp K B x (en a) → ∀ Q : L2.St → Hp → Prop, (∀ σ2, wipe σ2 vs = wipe σ vs → EvT t σ2 B (f a) → (f a = true → EvD K te σ2 B (v a)) → Q σ2 H1) → g x (wipe σ vs) H1 Q) :
    EvN K (tLc wi g t te vs) σ H ((as.filter f).map v) := fun H1 e Q q => hi H1 e _ fun J H2 e2 wk Dl hD => by
  have key : ∀ i, flatAll (((as.take i).filter f).map v) = true := fun i => flatAll_mapT fun d hd => hfl d (List.mem_of_mem_take hd)
  have lm : (as.map en).length = as.length := List.length_map en
  refine ⟨fun i m H' => m = as.length - i ∧ i ≤ as.length ∧ Ex H2 H' ∧ ∃ acc, H' Dl = some (.lst acc) ∧ DpAll K H' acc (((as.take i).filter f).map v), ⟨as.length, by simp, Nat.zero_le _, Ex.new hD, [], upd_same, .nil⟩, ?_⟩
  rintro i m H' ⟨rfl, hil, ex, acc, hacc, da⟩
  by_cases hlt : i < as.length
  · have hlt' : i < (as.map en).length := by rw [lm]; exact hlt
    refine .inr ⟨(wk.1 i H' hlt' ex).1, fun H'' => i + 1 ≤ as.length ∧ Ex H2 H'' ∧ ∃ acc, H'' Dl = some (.lst acc) ∧ DpAll K H'' acc (((as.take (i + 1)).filter f).map v), fun H'' p => ⟨as.length - (i + 1), by omega, rfl, p⟩, fun x H'' y => ?_⟩
    obtain ⟨e4, d, hd, dx⟩ := (wk.1 i H' hlt' ex).2 x H'' y
    obtain ⟨a, ha, rfl⟩ := get_map hd
    have hm : a ∈ as := List.mem_of_getElem? ha
    have exB : Ex H (cut H2 H' H'') := (e.trans e2).trans (cut_keep e4 ex)
    have tk := take_succ_of ha
    refine hg a hm x _ H'' exB cut_ex dx _ fun σ2 hw ht he => ⟨hw, ht H'' cut_ex _ fun H3 e5 => ?_⟩
    cases hf : f a with
    | true =>
      show te σ2 H3 fun y H4 => ∃ acc, H4 Dl = some (.lst acc) ∧ acc.length < sizeLine ∧ _
      refine he hf H3 (cut_ex.trans e5) _ fun y H4 e6 dy => ?_
      have exD : H4 Dl = some (.lst acc) := e6 _ _ (e5 _ _ (e4 _ _ hacc))
      have tx : Tx K H4 (upd H4 Dl (.lst (acc ++ [y]))) := Tx.lst exD
      refine ⟨acc, exD, ?_, hlt, Ex.mut ((ex.trans e4).trans (e5.trans e6)) hD, acc ++ [y], upd_same, ?_⟩
      · have h1 := da.len
        have h2 : (((as.take i).filter f).map v).length ≤ (as.take i).length := by rw [List.length_map]; exact List.length_filter_le _ _
        rw [List.length_take] at h2
        exact sz_lt (by omega)
      · rw [tk, List.filter_append, List.map_append, filt_yes hf]
        exact ((da.ex ((e4.trans e5).trans e6)).tx tx (key i)).app (.one (dy.tx tx (hfl a hm hf)))
    | false =>
      refine ⟨hlt, (ex.trans e4).trans e5, acc, e5 _ _ (e4 _ _ hacc), ?_⟩
      rw [tk, List.filter_append, List.map_append, filt_no hf, List.map_nil, List.append_nil]
      exact da.ex (e4.trans e5)
  · have e3 : i = as.length := by omega
    subst e3
    rw [List.take_length] at da
    have st := wk.2 H' ex
    rw [lm] at st
    exact .inl ⟨st, q Dl acc H' (fresh_back e2 hD) (e2.trans ex) hacc da⟩
def lcT (as : List α) (inn : α → List β) (f : α → β → Bool) (v : α → β → PyData) : List PyData := as.flatMap fun a => ((inn a).filter (f a)).map (v a)
theorem lcT_app (a b : List α) {inn : α → List β} {f : α → β → Bool} {v : α → β → PyData} : lcT (a ++ b) inn f v = lcT a inn f v ++ lcT b inn f v := List.flatMap_append
theorem lcT_one (d : α) {inn : α → List β} {f : α → β → Bool} {v : α → β → PyData} : lcT [d] inn f v = ((inn d).filter (f d)).map (v d) := by simp [lcT]
theorem flatAll_fmT {f : α → List PyData} : ∀ {l : List α}, (∀ d ∈ l, flatAll (f d) = true) → flatAll (l.flatMap f) = true
  | [], _ => rfl
  | d :: l, h => by
    rw [List.flatMap_cons, flatAll_app, h d List.mem_cons_self, flatAll_fmT fun c hc => h c (List.mem_cons_of_mem _ hc)]
    rfl
theorem n_lc2T {wi wi1 : TI} {g g1 : TG} {vs vs1 : List Nat} {t1 : TT} (en : α → PyData) (enb : β → PyData) (as : List α) (hi : EvI K wi σ H (as.map en)) (inn : α → List β) (f : α → β → Bool) (v : α → β → PyData) (hz : (lcT as inn f v).length ≤ 40000)
    (hfl : ∀ a ∈ as, ∀ c ∈ inn a, f a c = true → flat (v a c) = true)
    (hg : ∀ a ∈ as, ∀ x B H1, Ex H B → Ex B H1 → Dp K B x (en a) → ∀ Q : L2.St → Hp → Prop, (∀ σ2, wipe σ2 vs = wipe σ vs → EvIB K wi1 σ2 B ((inn a).map enb) →
      (∀ c ∈ inn a, ∀ y B2 H3, Ex B B2 → Ex B2 H3 → Dp K B2 y (enb c) → ∀ Q1 : L2.St → Hp → Prop, (∀ σ3, wipe σ3 vs1 = wipe σ2 vs1 → EvT t1 σ3 B2 (f a c) → (f a c = true → EvD K te σ3 B2 (v a c)) → Q1 σ3 H3) → g1 y (wipe σ2 vs1) H3 Q1) → Q σ2 H1) → g x (wipe σ vs) H1 Q) :
    EvN K (tLc2 wi g tYes wi1 g1 t1 te vs vs1) σ H (lcT as inn f v) := fun H1 e Q q => hi H1 e _ fun J H2 e2 wk Dl hD => by
  have key : ∀ i, flatAll (lcT (as.take i) inn f v) = true := fun i =>
    flatAll_fmT fun d hd => flatAll_mapT fun c hc => hfl d (List.mem_of_mem_take hd) c hc
  have lm : (as.map en).length = as.length := List.length_map en
  refine ⟨fun i m H' => m = as.length - i ∧ i ≤ as.length ∧ Ex H2 H' ∧ ∃ acc, H' Dl = some (.lst acc) ∧ DpAll K H' acc (lcT (as.take i) inn f v), ⟨as.length, by simp, Nat.zero_le _, Ex.new hD, [], upd_same, .nil⟩, ?_⟩
  rintro i m H' ⟨rfl, hil, ex, acc, hacc, da⟩
  by_cases hlt : i < as.length
  · have hlt' : i < (as.map en).length := by rw [lm]; exact hlt
    refine .inr ⟨(wk.1 i H' hlt' ex).1, fun H'' => i + 1 ≤ as.length ∧ Ex H2 H'' ∧ ∃ acc, H'' Dl = some (.lst acc) ∧ DpAll K H'' acc (lcT (as.take (i + 1)) inn f v), fun H'' p => ⟨as.length - (i + 1), by omega, rfl, p⟩, fun x H'' y => ?_⟩
    obtain ⟨e4, d0, hd, dx⟩ := (wk.1 i H' hlt' ex).2 x H'' y
    obtain ⟨a, ha, rfl⟩ := get_map hd
    have hm : a ∈ as := List.mem_of_getElem? ha
    have exB : Ex H (cut H2 H' H'') := (e.trans e2).trans (cut_keep e4 ex)
    have exB2 : Ex H2 (cut H2 H' H'') := cut_keep e4 ex
    have offB : cut H2 H' H'' Dl = none := cut_off hD hacc
    have tk : lcT (as.take (i + 1)) inn f v = lcT (as.take i) inn f v ++ ((inn a).filter (f a)).map (v a) := by
      rw [take_succ_of ha, lcT_app, lcT_one]
    have whole : (lcT (as.take (i + 1)) inn f v).length ≤ 40000 := by
      have e9 : lcT as inn f v = lcT (as.take (i + 1)) inn f v ++ lcT (as.drop (i + 1)) inn f v := by rw [← lcT_app, List.take_append_drop]
      rw [e9, List.length_append] at hz
      omega
    refine hg a hm x _ H'' exB cut_ex dx _ fun σ2 hw hin h1 => ⟨hw, ?_⟩
    show wi1 σ2 H'' _
    refine hin H'' cut_ex _ fun J1 H3 e5 wk1 => ?_
    have lb : ((inn a).map enb).length = (inn a).length := List.length_map enb
    refine ⟨fun j k H4 => k = (inn a).length - j ∧ j ≤ (inn a).length ∧ Ex (cut H2 H' H'') H4 ∧ ∃ acc2, H4 Dl = some (.lst acc2) ∧ DpAll K H4 acc2 (lcT (as.take i) inn f v ++ (((inn a).take j).filter (f a)).map (v a)),
      ⟨(inn a).length, by simp, Nat.zero_le _, cut_ex.trans e5, acc, e5 _ _ (e4 _ _ hacc), by simpa using da.ex (e4.trans e5)⟩, ?_⟩
    rintro j k H4 ⟨rfl, hjl, exj, acc2, hacc2, da2⟩
    have key2 : flatAll (lcT (as.take i) inn f v ++ (((inn a).take j).filter (f a)).map (v a)) = true := by
      rw [flatAll_app, key i, flatAll_mapT fun c hc => hfl a hm c (List.mem_of_mem_take hc)]
      rfl
    by_cases hjt : j < (inn a).length
    · have hjt' : j < ((inn a).map enb).length := by rw [lb]; exact hjt
      refine .inr ⟨(wk1.1 j H4 hjt' exj).1, fun H5 => j + 1 ≤ (inn a).length ∧ Ex (cut H2 H' H'') H5 ∧ ∃ acc2, H5 Dl = some (.lst acc2) ∧ DpAll K H5 acc2 (lcT (as.take i) inn f v ++ (((inn a).take (j + 1)).filter (f a)).map (v a)),
        fun H5 p => ⟨(inn a).length - (j + 1), by omega, rfl, p⟩, fun y H5 yy => ?_⟩
      obtain ⟨e6, c0, hc, dc⟩ := (wk1.1 j H4 hjt' exj).2 y H5 yy
      obtain ⟨c, hc', rfl⟩ := get_map hc
      have hcm : c ∈ inn a := List.mem_of_getElem? hc'
      have tk2 := take_succ_of hc'
      refine h1 c hcm y _ H5 (cut_keep e6 exj) cut_ex dc _ fun σ3 hw3 ht3 he3 => ⟨hw3, ht3 H5 cut_ex _ fun H6 e7 => ?_⟩
      cases hf : f a c with
      | true =>
        show te σ3 H6 fun y H7 => ∃ acc, H7 Dl = some (.lst acc) ∧ acc.length < sizeLine ∧ _
        refine he3 hf H6 (cut_ex.trans e7) _ fun y7 H7 e8 dy => ?_
        have exD : H7 Dl = some (.lst acc2) := e8 _ _ (e7 _ _ (e6 _ _ hacc2))
        have tx : Tx K H7 (upd H7 Dl (.lst (acc2 ++ [y7]))) := Tx.lst exD
        refine ⟨acc2, exD, ?_, hjt, Ex.mut ((exj.trans e6).trans (e7.trans e8)) offB, acc2 ++ [y7], upd_same, ?_⟩
        · have h9 := da2.len
          rw [List.length_append] at h9
          rw [tk, List.length_append] at whole
          have h10 : ((((inn a).take j).filter (f a)).map (v a)).length ≤ (((inn a).filter (f a)).map (v a)).length := by
            rw [List.length_map, List.length_map]
            exact (List.Sublist.filter _ (List.take_sublist _ _)).length_le
          exact sz_lt (by omega)
        · rw [tk2, List.filter_append, List.map_append, filt_yes hf, ← List.append_assoc]
          exact ((da2.ex ((e6.trans e7).trans e8)).tx tx key2).app (.one (dy.tx tx (hfl a hm c hcm hf)))
      | false =>
        refine ⟨hjt, (exj.trans e6).trans e7, acc2, e7 _ _ (e6 _ _ hacc2), ?_⟩
        rw [tk2, List.filter_append, List.map_append, filt_no hf, List.map_nil, List.append_nil]
        exact da2.ex (e6.trans e7)
    · have e3 : j = (inn a).length := by omega
      subst e3
      rw [List.take_length, ← tk] at da2
      have st := wk1.2 H4 exj
      rw [lb] at st
      exact .inl ⟨st, hlt, exB2.trans exj, acc2, hacc2, da2⟩
  · have e3 : i = as.length := by omega
    subst e3
    rw [List.take_length] at da
    have st := wk.2 H' ex
    rw [lm] at st
    exact .inl ⟨st, q Dl acc H' (fresh_back e2 hD) (e2.trans ex) hacc da⟩
end
/-! ### statements on tracked lists -/
section
variable {K : PySem.W.Frag} {H H' H1 H2 : Hp} {σ : L2.St} {ta tb te tx tl : TE} {t u : TT} {α : Type} {D : Ends} {tu tw tz : TS} {g : TG} {l : Addr} {ds es : List PyData} {d : PyData}
theorem s_appD (hl : Ls K H l ds) (fl : flatAll ds = true) (fd : flat d = true) (ha : Ev ta σ H (.ref l)) (h : EvD K te σ H d) (hz : ds.length < 100000) (k : ∀ H', Wr K l H H' → Ls K H' l (ds ++ [d]) → D.nx σ H') :
    tDrop (tBM K "list" rAppend ta (tCons te tNil)) D σ H := by
  obtain ⟨xs, h1, h2⟩ := hl
  exact ha H (Ex.refl H) _ fun H1 e1 => ⟨Or.inl ⟨rfl, xs, sq_of (e1 l _ h1)⟩, h H1 e1 _ fun v H2 e2 hv => by
    have e3 := e1.trans e2
    have t := Tx.lst (K := K) (o := .lst (xs ++ [v])) (e3 _ _ h1)
    exact ⟨l, xs, v, rfl, rfl, e3 _ _ h1, sz_lt (by rw [h2.len]; exact hz), k _ (Wr.of e3 ⟨xs, e3 _ _ h1⟩) ⟨_, upd_same, ((h2.ex e3).tx t fl).app (.one (hv.tx t fd))⟩⟩⟩
theorem q_appD (hl : Ls K H l ds) (fl : flatAll ds = true) (fd : flat d = true) (ha : Ev ta σ H (.ref l)) (h : EvD K te σ H d) (hz : ds.length < 100000) (k : ∀ H', Wr K l H H' → Ls K H' l (ds ++ [d]) → tz D σ H') :
    tSeq (tDrop (tBM K "list" rAppend ta (tCons te tNil))) tz D σ H := s_appD (D := { D with nx := tz D }) hl fl fd ha h hz k
theorem s_extN (hl : Ls K H l ds) (fl : flatAll ds = true) (fe : flatAll es = true) (ha : Ev ta σ H (.ref l)) (h : EvN K te σ H es) (hz : ds.length + es.length ≤ 100000) (k : ∀ H', Wr K l H H' → Ls K H' l (ds ++ es) → D.nx σ H') :
    tDrop (tBM K "list" rExtend ta (tCons te tNil)) D σ H := by
  obtain ⟨xs, h1, h2⟩ := hl
  exact ha H (Ex.refl H) _ fun H1 e1 => ⟨Or.inl ⟨rfl, xs, sq_of (e1 l _ h1)⟩, h H1 e1 _ fun p ys H2 np e2 hp hv => by
    have e3 := e1.trans e2
    have t := Tx.lst (K := K) (o := .lst (xs ++ ys)) (e3 _ _ h1)
    exact ⟨l, p, xs, ys, rfl, rfl, e3 _ _ h1, hp, sz_of (by rw [h2.len, hv.len]; exact hz), k _ (Wr.of e3 ⟨xs, e3 _ _ h1⟩) ⟨_, upd_same, ((h2.ex e3).tx t fl).app (hv.tx t fe)⟩⟩⟩
theorem q_extN (hl : Ls K H l ds) (fl : flatAll ds = true) (fe : flatAll es = true) (ha : Ev ta σ H (.ref l)) (h : EvN K te σ H es) (hz : ds.length + es.length ≤ 100000) (k : ∀ H', Wr K l H H' → Ls K H' l (ds ++ es) → tz D σ H') :
    tSeq (tDrop (tBM K "list" rExtend ta (tCons te tNil))) tz D σ H := s_extN (D := { D with nx := tz D }) hl fl fe ha h hz k
/-! ### loops over lists, tuples of flat data -/
theorem flatAll_get {ds : List PyData} {i : Nat} {d : PyData} (h : flatAll ds = true) (e : ds[i]? = some d) : flat d = true := by
  induction ds generalizing i with
  | nil => simp at e
  | cons c ds ih =>
    have h' : flat c = true ∧ flatAll ds = true := by simpa [flatAll] using h
    cases i with
    | zero => have e' : c = d := Option.some.inj e; rw [← e']; exact h'.1
    | succ i => exact ih h'.2 (by simpa using e)
theorem s_forLD (en : α → PyData) (as : List α) (h : EvD K tl σ H (.list (as.map en))) (hf : flatAll (as.map en) = true)
    (k : ∀ p xs H1, Ex H H1 → SqL K H1 p xs → DpAll K H1 xs (as.map en) → ∃ Pv : Nat → L2.St → Hp → Prop, Pv 0 σ H1 ∧ (∀ i σ' H', Pv i σ' H' → SqL K H' p xs ∧ Tx K H1 H') ∧
      (∀ i a x σ' H', as[i]? = some a → Pv i σ' H' → Dp K H' x (en a) → g x σ' H' fun σ2 H2 => tu { D with nx := Pv (i + 1), ct := Pv (i + 1), bk := D.nx } σ2 H2) ∧ ∀ σ' H', Pv as.length σ' H' → D.nx σ' H') : tFor (iList K tl) g tu D σ H :=
  h H (Ex.refl H) _ fun v H1 e hv => by
    obtain ⟨p, xs, rfl, sp, dp⟩ := hv.list_of
    obtain ⟨Pv, h0, h1, h2, h3⟩ := k p xs H1 e sp dp
    have ln : xs.length = as.length := by rw [dp.len, List.length_map]
    refine ⟨p, rfl, ⟨xs, sp⟩, for_list Pv h0 (fun i σ' H' _ pv => (h1 i σ' H' pv).1) (fun i x σ' H' hx pv => ?_) fun σ' H' pv => h3 σ' H' (by rw [← ln]; exact pv)⟩
    obtain ⟨d, hd, dd⟩ := dp.get hx
    obtain ⟨a, ha, rfl⟩ := get_map hd
    exact h2 i a x σ' H' ha pv (dd.tx (h1 i σ' H' pv).2 (flatAll_get hf hd))
theorem q_forLD (en : α → PyData) (as : List α) (h : EvD K tl σ H (.list (as.map en))) (hf : flatAll (as.map en) = true)
    (k : ∀ p xs H1, Ex H H1 → SqL K H1 p xs → DpAll K H1 xs (as.map en) → ∃ Pv : Nat → L2.St → Hp → Prop, Pv 0 σ H1 ∧ (∀ i σ' H', Pv i σ' H' → SqL K H' p xs ∧ Tx K H1 H') ∧
      (∀ i a x σ' H', as[i]? = some a → Pv i σ' H' → Dp K H' x (en a) → g x σ' H' fun σ2 H2 => tu { D with nx := Pv (i + 1), ct := Pv (i + 1), bk := tz D } σ2 H2) ∧ ∀ σ' H', Pv as.length σ' H' → tz D σ' H') : tSeq (tFor (iList K tl) g tu) tz D σ H :=
  s_forLD (D := { D with nx := tz D }) en as h hf k
/-- over a new list -/
theorem s_forND (en : α → PyData) (as : List α) (h : EvN K tl σ H (as.map en)) (hf : flatAll (as.map en) = true)
    (k : ∀ p xs H1, H p = none → Ex H H1 → H1 p = some (.lst xs) → DpAll K H1 xs (as.map en) → ∃ Pv : Nat → L2.St → Hp → Prop, Pv 0 σ H1 ∧ (∀ i σ' H', Pv i σ' H' → H' p = some (.lst xs) ∧ Tx K H1 H') ∧
      (∀ i a x σ' H', as[i]? = some a → Pv i σ' H' → Dp K H' x (en a) → g x σ' H' fun σ2 H2 => tu { D with nx := Pv (i + 1), ct := Pv (i + 1), bk := D.nx } σ2 H2) ∧ ∀ σ' H', Pv as.length σ' H' → D.nx σ' H') : tFor (iList K tl) g tu D σ H :=
  h H (Ex.refl H) _ fun p xs H1 np e hp dp => by
    obtain ⟨Pv, h0, h1, h2, h3⟩ := k p xs H1 np e hp dp
    have ln : xs.length = as.length := by rw [dp.len, List.length_map]
    refine ⟨p, rfl, ⟨xs, sq_of hp⟩, for_list Pv h0 (fun i σ' H' _ pv => sq_of (h1 i σ' H' pv).1) (fun i x σ' H' hx pv => ?_) fun σ' H' pv => h3 σ' H' (by rw [← ln]; exact pv)⟩
    obtain ⟨d, hd, dd⟩ := dp.get hx
    obtain ⟨a, ha, rfl⟩ := get_map hd
    exact h2 i a x σ' H' ha pv (dd.tx (h1 i σ' H' pv).2 (flatAll_get hf hd))
theorem q_forND (en : α → PyData) (as : List α) (h : EvN K tl σ H (as.map en)) (hf : flatAll (as.map en) = true)
    (k : ∀ p xs H1, H p = none → Ex H H1 → H1 p = some (.lst xs) → DpAll K H1 xs (as.map en) → ∃ Pv : Nat → L2.St → Hp → Prop, Pv 0 σ H1 ∧ (∀ i σ' H', Pv i σ' H' → H' p = some (.lst xs) ∧ Tx K H1 H') ∧
      (∀ i a x σ' H', as[i]? = some a → Pv i σ' H' → Dp K H' x (en a) → g x σ' H' fun σ2 H2 => tu { D with nx := Pv (i + 1), ct := Pv (i + 1), bk := tz D } σ2 H2) ∧ ∀ σ' H', Pv as.length σ' H' → tz D σ' H') : tSeq (tFor (iList K tl) g tu) tz D σ H :=
  s_forND (D := { D with nx := tz D }) en as h hf k
theorem s_forTD (en : α → PyData) (as : List α) (h : EvD K tl σ H (.tuple (as.map en))) (hf : flatAll (as.map en) = true)
    (k : ∀ H1, Ex H H1 → ∃ Pv : Nat → L2.St → Hp → Prop, Pv 0 σ H1 ∧ (∀ i σ' H', Pv i σ' H' → Tx K H1 H') ∧
      (∀ i a x σ' H', as[i]? = some a → Pv i σ' H' → Dp K H' x (en a) → g x σ' H' fun σ2 H2 => tu { D with nx := Pv (i + 1), ct := Pv (i + 1), bk := D.nx } σ2 H2) ∧ ∀ σ' H', Pv as.length σ' H' → D.nx σ' H') : tFor (iTup K tl) g tu D σ H :=
  h H (Ex.refl H) _ fun v H1 e hv => by
    obtain ⟨p, xs, rfl, sp, dp⟩ := hv.tup_of
    obtain ⟨Pv, h0, h1, h2, h3⟩ := k H1 e
    have ln : xs.length = as.length := by rw [dp.len, List.length_map]
    refine ⟨p, rfl, ⟨xs, sp⟩, for_tup Pv h0 (fun i σ' H' _ pv => (h1 i σ' H' pv) _ _ sp) (fun i x σ' H' hx pv => ?_) fun σ' H' pv => h3 σ' H' (by rw [← ln]; exact pv)⟩
    obtain ⟨d, hd, dd⟩ := dp.get hx
    obtain ⟨a, ha, rfl⟩ := get_map hd
    exact h2 i a x σ' H' ha pv (dd.tx (h1 i σ' H' pv) (flatAll_get hf hd))
theorem q_forTD (en : α → PyData) (as : List α) (h : EvD K tl σ H (.tuple (as.map en))) (hf : flatAll (as.map en) = true)
    (k : ∀ H1, Ex H H1 → ∃ Pv : Nat → L2.St → Hp → Prop, Pv 0 σ H1 ∧ (∀ i σ' H', Pv i σ' H' → Tx K H1 H') ∧
      (∀ i a x σ' H', as[i]? = some a → Pv i σ' H' → Dp K H' x (en a) → g x σ' H' fun σ2 H2 => tu { D with nx := Pv (i + 1), ct := Pv (i + 1), bk := tz D } σ2 H2) ∧ ∀ σ' H', Pv as.length σ' H' → tz D σ' H') : tSeq (tFor (iTup K tl) g tu) tz D σ H :=
  s_forTD (D := { D with nx := tz D }) en as h hf k
theorem ev_of_int {i : Int} (h : EvD K te σ H (.int i)) : EvA (tCons te tNil) σ H [.int i] := ea_cons h.int ea_nil
theorem ev_of_int2 {i j : Int} (h : EvD K te σ H (.int i)) (h2 : EvD K tx σ H (.int j)) : EvA (tCons te (tCons tx tNil)) σ H [.int i, .int j] := ea_cons h.int (ea_cons h2.int ea_nil)
theorem atI_last {β : Type} {l : List β} {x : β} : atI (l ++ [x]) (-1) = some x := atI_neg (by simp)
theorem atI_z {β : Type} {l : List β} {x : β} : atI (x :: l) 0 = some x := atI_of (i := 0) (Int.le_refl 0) rfl
theorem atI_one {β : Type} {l : List β} {x y : β} : atI (x :: y :: l) 1 = some y := atI_of (i := 1) (by decide) rfl
end
end K11
/-! rules with the written part said (for blocks) -/
namespace K11
open PySem PySem.Spec PyProof.Rows L2 Evl
theorem k_own {P : Program} {w : World} {K : PySem.W.Frag} {mg : Str → Option Value} {base : Heap} {X : Cx} {x : Str} {ps : List Str} {sp : Sp} {k : Nat} {CX : CXT} {E : XK} {e : Expr} {es : List Expr} {t : TA} {p pos : Pos} (o : OkF CX P w K mg base k x ps sp) (hr : Room k X.A) (hx : Passes CX X E) (hg : Gl X x) (ha : PA X (e :: es) t)
    (hP : X.prog = P := by rfl) (hw : X.w = w := by rfl) (hK : X.K = K := by rfl) (hm : X.mg = mg := by rfl) (hb : X.base = base := by rfl) (hdb : (x == ("__debug__" : Str)) = false := by decide)
    (he : starEach (e :: es) X.env = (false, eval e X.env) :: starEach es X.env := by rfl) (hpl : (backTo pos (starEach es X.env)).any (·.1) = false := by rfl) : PE X (.Call (.Name x p) (e :: es) [] pos) (tCall sp [] E t) := by
  subst hP hw hK hm hb
  exact pe_own o hr hx hg ha hdb he hpl
section
variable (K : PySem.W.Frag) {X : Cx}
theorem k_catA (h : X.K = K := by rfl) : OpR X (binaryOp .Add) (rCatA K) := by subst h; exact op_catA
theorem k_in (h : X.K = K := by rfl) : OpR X (compareOp .In) (rIn K false) := by subst h; exact op_in_seq
theorem k_nin (h : X.K = K := by rfl) : OpR X (compareOp .NotIn) (rIn K true) := by subst h; exact op_notIn_seq
theorem k_ninD (hu : X.A.units + 65 < cLine) (h : X.K = K := by rfl) : OpR X (compareOp .NotIn) (rNotInD K) := by subst h; exact op_notInD hu
theorem k_eqD (hu : X.A.units + 64 < cLine) (h : X.K = K := by rfl) : OpR X (compareOp .Eq) (rEqD K) := by subst h; exact op_eqD hu
theorem k_neD (hu : X.A.units + 64 < cLine) (h : X.K = K := by rfl) : OpR X (compareOp .NotEq) (rNeD K) := by subst h; exact op_neD hu
theorem k_ixL (h : X.K = K := by rfl) : IxR X (rIxL K) := by subst h; exact ix_list
theorem k_ixT (h : X.K = K := by rfl) : IxR X (rIxT K) := by subst h; exact ix_tup
theorem k_slT (h : X.K = K := by rfl) : SlR X (rSlA K) := by subst h; exact sl_tupA
theorem k_slL (h : X.K = K := by rfl) : SlR X (rSlL K) := by subst h; exact sl_list
theorem k_len (h : X.K = K := by rfl) : CallR X (.builtin "len") (rLenS K) := by subst h; exact cLen
theorem k_list (h : X.K = K := by rfl) : CallR X (.type "list") (rListS K) := by subst h; exact cList
theorem k_tup (h : X.K = K := by rfl) : CallR X (.type "tuple") (rTupS K) := by subst h; exact cTup
theorem k_isi (h : X.K = K := by rfl) : CallR X (.builtin "isinstance") (rIsi K) := by subst h; exact call_isi
theorem k_isiT (h : X.K = K := by rfl) : CallR X (.builtin "isinstance") (rIsiT K) := by subst h; exact call_isiT
theorem k_sum (hc : X.calm = true) (h : X.K = K := by rfl) : CallR X (.builtin "sum") (rSum K) := by subst h; exact cr_sum hc
theorem k_all (hc : X.calm = true) (h : X.K = K := by rfl) : CallR X (.builtin "all") (rAll K) := by subst h; exact cr_all hc
theorem k_sorted (h : X.K = K := by rfl) : CallR X (.builtin "sorted") (rSorted K) := by subst h; exact cr_sorted
theorem k_lcount (h : X.K = K := by rfl) : MtR X "list.count" (rCntI K) := by subst h; exact mt_lcount
variable {tg e : Expr} {te : TE} {p pos tpos : Pos} {elts es : List Expr} {kk n : Nat} {ta : TA} {t : TGs}
theorem k_pilist (he : PE X e te) (h : X.K = K := by rfl) : PI X tg e (iList K te) := by subst h; exact pi_list he
theorem k_pitup (he : PE X e te) (h : X.K = K := by rfl) : PI X tg e (iTup K te) := by subst h; exact pi_tup he
theorem k_pgtup (hc : X.calm = true) (hs : PGs X es t) (hn : (assignEach es X.env).length = n := by rfl) (hst : (assignEach es X.env).findIdx? (·.1) = none := by rfl) (h : X.K = K := by rfl) : PG X (.Tuple es kk pos) (gTup K n t) := by subst h; exact pg_tup hc hs hn hst
theorem k_pienum (hg : Gl X "enumerate") (hm : X.mg "enumerate" = none) (ha : PA X [e] ta) (hs : starEach [e] X.env = [(false, eval e X.env)] := by rfl) (h : X.K = K := by rfl) : PI X (.Tuple elts kk tpos) (.Call (.Name "enumerate" p) [e] [] pos) (iEnum K ta) := by subst h; exact pi_enum hg hm ha hs
theorem k_pizip {e2 : Expr} (hg : Gl X "zip") (hm : X.mg "zip" = none) (ha : PA X [e, e2] ta) (hs : starEach [e, e2] X.env = (false, eval e X.env) :: starEach [e2] X.env := by rfl) (hpl : (backTo pos (starEach [e2] X.env)).any (·.1) = false := by rfl) (h : X.K = K := by rfl) :
    PI X (.Tuple elts kk tpos) (.Call (.Name "zip" p) [e, e2] [] pos) (RZ.iZipA K ta) := by subst h; exact RZ.pi_zipA hg hm ha hs hpl
variable (P : Program) (w : World)
theorem k_nget {o i : Expr} {td ty : TE} (hu : X.A.units + 9 < cLine) (ho : PE X o td) (hi : PE X i ty) (hs : NoSl i) (h : X.K = K := by rfl) (hP : X.prog = P := by rfl) (hw : X.w = w := by rfl) : PE X (.Subscript o i pos) (tNGet P w K td ty) := by
  subst h hP hw
  exact pe_nget hu ho hi hs
theorem k_nin_d {o i : Expr} {td ty : TE} (hu : X.A.units + 9 < cLine) (hi : PE X i ty) (ho : PE X o td) (h : X.K = K := by rfl) (hP : X.prog = P := by rfl) (hw : X.w = w := by rfl) : PC X .In i o (tNIn P w K ty td) := by
  subst h hP hw
  exact pc_nin hu hi ho
theorem k_nput {o i value : Expr} {td ty tv : TE} {pos' : Pos} (hu : X.A.units + 9 < cLine) (ho : PE X o td) (hi : PE X i ty) (hv : PE X value tv) (hs : swapsWith value (some (.Subscript o i pos')) pos.line X.env = pure false) (h : X.K = K := by rfl) (hP : X.prog = P := by rfl) (hw : X.w = w := by rfl) :
    PS X (.Assign [.Subscript o i pos'] value pos) (sNPut P w K td ty tv) := by
  subst h hP hw
  exact ps_nput hu ho hi hv hs
theorem k_nnew (h : X.K = K := by rfl) (hP : X.prog = P := by rfl) (hw : X.w = w := by rfl) : PE X (.Dict [] [] pos) (tNNew P w K) := by
  subst h hP hw
  exact pe_nnew
theorem k_none {ke ve : Expr} {tk tv : TE} (hu : X.A.units + 9 < cLine) (hk : PE X ke tk) (hv : PE X ve tv) (h : X.K = K := by rfl) (hP : X.prog = P := by rfl) (hw : X.w = w := by rfl) : PE X (.Dict [some ke] [ve] pos) (tNOne P w K tk tv) := by
  subst h hP hw
  exact pe_none hu hk hv
end
end K11
/-! the words: is_integer .. rising_rows -/
namespace K11
open PySem PySem.Spec PyProof.Rows L2 Evl
structure Gs (K : PySem.W.Frag) (mg : Str → Option Value) : Prop where
  f_isinstance : mg "isinstance" = none
  f_int : mg "int" = none
  f_bool : mg "bool" = none
  f_list : mg "list" = none
  f_tuple : mg "tuple" = none
  f_all : mg "all" = none
  f_sorted : mg "sorted" = none
  f_range : mg "range" = none
  f_len : mg "len" = none
  f_min : mg "min" = none
  f_max : mg "max" = none
  f_sum : mg "sum" = none
  f_zip : mg "zip" = none
  f_enumerate : mg "enumerate" = none
  f_repr : mg "repr" = none
  f_abs : mg "abs" = none
  f_super : mg "super" = none
  f_Exception : mg "Exception" = none
  n_is_integer : Nm K mg "is_integer" (top 7)
  n_is_number : Nm K mg "is_number" (top 8)
  n_is_below : Nm K mg "is_below" (top 9)
  n_is_sequence : Nm K mg "is_sequence" (top 10)
  n_is_permutation : Nm K mg "is_permutation" (top 11)
  n_rising_rows : Nm K mg "rising_rows" (top 12)
  n_need_sizes : Nm K mg "need_sizes" (top 15)
  n_list_lots : Nm K mg "list_lots" (top 16)
  n_small_lots : Nm K mg "small_lots" (top 17)
  n_without_pair : Nm K mg "without_pair" (top 18)
  n_fits_parts : Nm K mg "fits_parts" (top 19)
  n_put_pairings : Nm K mg "put_pairings" (top 20)
  n_need_book : Nm K mg "need_book" (top 22)
  n_deal_pairs : Nm K mg "deal_pairs" (top 24)
  n_need_pairs : Nm K mg "need_pairs" (top 25)
  n_longer_pairings : Nm K mg "longer_pairings" (top 26)
  n_untold_lot : Nm K mg "untold_lot" (top 27)
  n_is_calm : Nm K mg "is_calm" (top 28)
  n_law_box : Nm K mg "_law_box" (top 30)
  n_law_take : Nm K mg "_law_take" (top 31)
  n_law_pick : Nm K mg "_law_pick" (top 32)
  n_law_rows : Nm K mg "_law_rows" (top 33)
  n_law_orders : Nm K mg "_law_orders" (top 34)
  n_law_lots : Nm K mg "_law_lots" (top 35)
  n_law_ones : Nm K mg "_law_ones" (top 36)
  n_law_fits : Nm K mg "_law_fits" (top 37)
  n_law_prices : Nm K mg "_law_prices" (top 38)
  n_law_best : Nm K mg "_law_best" (top 39)
  n_law_priced : Nm K mg "_law_priced" (top 40)
  n_law_drawn : Nm K mg "_law_drawn" (top 41)
  n_law_turned : Nm K mg "_law_turned" (top 42)
  n_law_list : Nm K mg "_law_list" (top 43)
  n_law_within : Nm K mg "_law_within" (top 44)
  n_law_some : Nm K mg "_law_some" (top 45)
  n_law_every : Nm K mg "_law_every" (top 46)
  n_law_untold : Nm K mg "_law_untold" (top 47)
  n_law_no_ring : Nm K mg "_law_no_ring" (top 48)
  n_law_refused : Nm K mg "_law_refused" (top 49)
  n_law_refused_right : Nm K mg "_law_refused_right" (top 50)
  n_law : Nm K mg "law" (top 51)
  m_MOST_SIDE : ∃ u, mg "MOST_SIDE" = some u ∧ RelV (.int 5) u

theorem room_u {k : Nat} {A : Around} (hr : Room k A) : A.units + 64 < cLine := by
  have := hr.un
  omega
theorem room_v {k : Nat} {A : Around} (hr : Room k A) : A.units + 65 < cLine := by
  have := hr.un
  omega
theorem room_n {k : Nat} {A : Around} (hr : Room k A) : A.units + 9 < cLine := by
  have := hr.un
  omega
def Rone (f : PyData → PyData) (ok : PyData → Prop) : List PyData → PyData → Prop := fun ds d => ∃ x, ds = [x] ∧ ok x ∧ d = f x
def Rtwo (f : PyData → PyData → PyData) (ok : PyData → PyData → Prop) : List PyData → PyData → Prop := fun ds d => ∃ x y, ds = [x, y] ∧ ok x y ∧ d = f x y
def noD : PyData → Prop
  | .dict _ => False
  | _ => True
def isIntD : PyData → Bool
  | .int _ => true
  | _ => false
def isNumD : PyData → Bool
  | .int i => decide (0 ≤ i)
  | _ => false
def isBelowD (m : Int) : PyData → Bool
  | .int i => decide (0 ≤ i) && decide (i < m)
  | _ => false
def isSeqD : PyData → Bool
  | .list _ => true
  | .tuple _ => true
  | _ => false
def isBolD : PyData → Bool
  | .bool _ => true
  | _ => false
def isLstD : PyData → Bool
  | .list _ => true
  | _ => false
def isTupD : PyData → Bool
  | .tuple _ => true
  | _ => false
theorem kit_int : ∀ {d : PyData}, noD d → kitB (tyN d) "int" = some (isBolD d || isIntD d)
  | .none, _ => (show kitB "NoneType" "int" = some false by decide +kernel)
  | .bool _, _ => (show kitB "bool" "int" = some true by decide +kernel)
  | .int _, _ => (show kitB "int" "int" = some true by decide +kernel)
  | .str _, _ => (show kitB "str" "int" = some false by decide +kernel)
  | .list _, _ => (show kitB "list" "int" = some false by decide +kernel)
  | .tuple _, _ => (show kitB "tuple" "int" = some false by decide +kernel)
  | .dict _, h => h.elim
theorem kit_bool : ∀ {d : PyData}, noD d → kitB (tyN d) "bool" = some (isBolD d)
  | .none, _ => (show kitB "NoneType" "bool" = some false by decide +kernel)
  | .bool _, _ => (show kitB "bool" "bool" = some true by decide +kernel)
  | .int _, _ => (show kitB "int" "bool" = some false by decide +kernel)
  | .str _, _ => (show kitB "str" "bool" = some false by decide +kernel)
  | .list _, _ => (show kitB "list" "bool" = some false by decide +kernel)
  | .tuple _, _ => (show kitB "tuple" "bool" = some false by decide +kernel)
  | .dict _, h => h.elim
theorem kit_list : ∀ {d : PyData}, noD d → kitB (tyN d) "list" = some (isLstD d)
  | .none, _ => (show kitB "NoneType" "list" = some false by decide +kernel)
  | .bool _, _ => (show kitB "bool" "list" = some false by decide +kernel)
  | .int _, _ => (show kitB "int" "list" = some false by decide +kernel)
  | .str _, _ => (show kitB "str" "list" = some false by decide +kernel)
  | .list _, _ => (show kitB "list" "list" = some true by decide +kernel)
  | .tuple _, _ => (show kitB "tuple" "list" = some false by decide +kernel)
  | .dict _, h => h.elim
theorem kit_tuple : ∀ {d : PyData}, noD d → kitB (tyN d) "tuple" = some (isTupD d)
  | .none, _ => (show kitB "NoneType" "tuple" = some false by decide +kernel)
  | .bool _, _ => (show kitB "bool" "tuple" = some false by decide +kernel)
  | .int _, _ => (show kitB "int" "tuple" = some false by decide +kernel)
  | .str _, _ => (show kitB "str" "tuple" = some false by decide +kernel)
  | .list _, _ => (show kitB "list" "tuple" = some false by decide +kernel)
  | .tuple _, _ => (show kitB "tuple" "tuple" = some true by decide +kernel)
  | .dict _, h => h.elim
theorem pe_globE {X : Cx} {x : Str} {v : V} {pos : Pos} (hg : Gl X x) (hm : ∃ u, X.mg x = some u ∧ RelV v u) (hd : (x == ("__debug__" : Str)) = false := by decide) : PE X (.Name x pos) (tC v) := by
  obtain ⟨u, h1, h2⟩ := hm
  exact pe_glob hg h1 h2 hd
theorem t_tt {K : PySem.W.Frag} {H : Hp} {σ : L2.St} {te : TE} {b : Bool} (h : EvD K te σ H (.bool b)) : EvT (tTest te) σ H b := t_d h
theorem d_chain {K : PySem.W.Frag} {H : Hp} {σ : L2.St} {r r' : R2} {ta tb tc : TE} {x y z : PyData} {a b : Bool} (h1 : EvD K ta σ H x) (h2 : EvD K tb σ H y) (h3 : EvD K tc σ H z) (r1 : RD K r x y (.bool a)) (r2 : RD K r' y z (.bool b)) : EvD K (tChain r r' ta tb tc) σ H (.bool (a && b)) := fun H1 e Q q =>
  h1 H1 e _ fun v H2 e2 hv => h2 H2 (e.trans e2) _ fun u H3 e3 hu => r1 v u H3 (hv.ex e3) hu _ fun z' H4 e4 hz => by
    cases hz
    refine ⟨a, rfl, ?_⟩
    cases a with
    | false => exact q _ H4 ((e2.trans e3).trans e4) (.bl _)
    | true => exact h3 H4 (((e.trans e2).trans e3).trans e4) _ fun w' H5 e5 hw => r2 u w' H5 (hu.ex (e4.trans e5)) hw _ fun v6 H6 e6 h6 => q v6 H6 ((((e2.trans e3).trans e4).trans e5).trans e6) h6
section
variable {P : Program} {w : World} {K : PySem.W.Frag} {mg : Str → Option Value} {base : Heap}
theorem sc_is_integer : FnScope ["value"] ["value"] (defScope (top 7)) := ⟨rfl, rfl, rfl, by decide +kernel, rfl, by decide +kernel, by decide +kernel⟩
theorem bp_is_integer : BindsP "is_integer" (top 7) ["value"] := fun _ _ _ _ _ _ us hl => match us, hl with | [_], _ => rfl
theorem o_is_integer (W : Gs K mg) : OkF CX0 P w K mg base 1 "is_integer" ["value"] (spD K 1 (Rone (fun x => .bool (isIntD x)) noD)) := by
  refine ok_of W.n_is_integer sc_is_integer bp_is_integer (fun vs H Q E h => spD_len h) (fun f cdv A outer s H vs Q E hr h => ?_)
  refine ⟨_, (PSs.nox
  (pss_one (ps_ret (pe_and (pe_callB (k_isi K) (by rfl) W.f_isinstance boot_isinstance (pa_cons (pv 0) (pa_cons (pe_bltn (v := .ty "int") (by rfl) W.f_int boot_int rfl) pa_nil))) (pe_one (pe_not (pe_callB (k_isi K) (by rfl) W.f_isinstance boot_isinstance (pa_cons (pv 0) (pa_cons (pe_bltn (v := .ty "bool") (by rfl) W.f_bool boot_bool rfl) pa_nil))))))))), ?_⟩
  obtain ⟨ds, d, hn, hd, ⟨x, rfl, hx, rfl⟩, q⟩ := h
  obtain ⟨v, rfl, dv⟩ := dp1 hd
  refine s_retD (d_is (d_and (d_isi (d_var rfl dv) (kit_int hx)) fun _ => d_not (d_isi (d_var rfl dv) (kit_bool hx))) ?_) q
  cases x <;> rfl
theorem sc_is_number : FnScope ["value"] ["value"] (defScope (top 8)) := ⟨rfl, rfl, rfl, by decide +kernel, rfl, by decide +kernel, by decide +kernel⟩
theorem bp_is_number : BindsP "is_number" (top 8) ["value"] := fun _ _ _ _ _ _ us hl => match us, hl with | [_], _ => rfl
theorem o_is_number (W : Gs K mg) : OkF CX0 P w K mg base 2 "is_number" ["value"] (spD K 1 (Rone (fun x => .bool (isNumD x)) noD)) := by
  refine ok_of W.n_is_number sc_is_number bp_is_number (fun vs H Q E h => spD_len h) (fun f cdv A outer s H vs Q E hr h => ?_)
  refine ⟨_, (PSs.nox
  (pss_one (ps_ret (pe_and (k_own (P := P) (w := w) (base := base) (o_is_integer W) (hr.mono (by decide)) pass0 (by rfl) (pa_cons (pv 0) pa_nil)) (pe_one (pe_cmpR op_ge (pv 0) pe_int (nomark _))))))), ?_⟩
  obtain ⟨ds, d, hn, hd, ⟨x, rfl, hx, rfl⟩, q⟩ := h
  obtain ⟨v, rfl, dv⟩ := dp1 hd
  have h1 : EvD K (tCall (spD K 1 (Rone (fun x => .bool (isIntD x)) noD)) [] E0 (tCons (tVar 0) tNil)) (L2.start ["value"] [v]) H (.bool (isIntD x)) := d_own (da_one (d_var rfl dv)) ⟨x, rfl, hx, rfl⟩
  refine s_retD (d_is (d_and (b := isNumD x) h1 fun z => ?_) ?_) q
  · cases x with
    | int i => exact d_op (d_var rfl dv) d_ci rd_ge
    | _ => exact Bool.noConfusion z
  · cases x <;> rfl
theorem sc_is_below : FnScope ["value", "many"] ["value", "many"] (defScope (top 9)) := ⟨rfl, rfl, rfl, by decide +kernel, rfl, by decide +kernel, by decide +kernel⟩
theorem bp_is_below : BindsP "is_below" (top 9) ["value", "many"] := fun _ _ _ _ _ _ us hl => match us, hl with | [_, _], _ => rfl
theorem o_is_below (W : Gs K mg) : OkF CX0 P w K mg base 3 "is_below" ["value", "many"] (spD K 2 fun ds d => ∃ x m, ds = [x, .int m] ∧ noD x ∧ d = .bool (isBelowD m x)) := by
  refine ok_of W.n_is_below sc_is_below bp_is_below (fun vs H Q E h => spD_len h) (fun f cdv A outer s H vs Q E hr h => ?_)
  refine ⟨_, (PSs.nox
  (pss_one (ps_ret (pe_and (k_own (P := P) (w := w) (base := base) (o_is_number W) (hr.mono (by decide)) pass0 (by rfl) (pa_cons (pv 0) pa_nil)) (pe_one (pe_cmpR op_lt (pv 0) (pv 1) (nomark _))))))), ?_⟩
  obtain ⟨ds, d, hn, hd, ⟨x, m, rfl, hx, rfl⟩, q⟩ := h
  obtain ⟨v, v2, rfl, dv, dm⟩ := dp2 hd
  have h1 : EvD K (tCall (spD K 1 (Rone (fun x => .bool (isNumD x)) noD)) [] E0 (tCons (tVar 0) tNil)) (L2.start ["value", "many"] [v, v2]) H (.bool (isNumD x)) := d_own (da_one (d_var rfl dv)) ⟨x, rfl, hx, rfl⟩
  refine s_retD (d_is (d_and (b := match x with | .int i => decide (i < m) | _ => false) h1 fun z => ?_) ?_) q
  · cases x with
    | int i => exact d_op (d_var rfl dv) (d_var rfl dm) rd_lt
    | _ => exact Bool.noConfusion z
  · cases x <;> rfl
theorem sc_is_sequence : FnScope ["value"] ["value"] (defScope (top 10)) := ⟨rfl, rfl, rfl, by decide +kernel, rfl, by decide +kernel, by decide +kernel⟩
theorem bp_is_sequence : BindsP "is_sequence" (top 10) ["value"] := fun _ _ _ _ _ _ us hl => match us, hl with | [_], _ => rfl
theorem o_is_sequence (W : Gs K mg) : OkF CX0 P w K mg base 1 "is_sequence" ["value"] (spD K 1 (Rone (fun x => .bool (isSeqD x)) noD)) := by
  refine ok_of W.n_is_sequence sc_is_sequence bp_is_sequence (fun vs H Q E h => spD_len h) (fun f cdv A outer s H vs Q E hr h => ?_)
  refine ⟨_, (PSs.nox
  (pss_one (ps_ret (pe_callB (k_isiT K) (by rfl) W.f_isinstance boot_isinstance (pa_cons (pv 0) (pa_cons (pe_tup (pa_cons (pe_bltn (v := .ty "list") (by rfl) W.f_list boot_list rfl) (pa_cons (pe_bltn (v := .ty "tuple") (by rfl) W.f_tuple boot_tuple rfl) pa_nil))) pa_nil)))))), ?_⟩
  obtain ⟨ds, d, hn, hd, ⟨x, rfl, hx, rfl⟩, q⟩ := h
  obtain ⟨v, rfl, dv⟩ := dp1 hd
  refine s_retD (d_is (d_isiT (d_var rfl dv) (kit_list hx) (kit_tuple hx)) ?_) q
  cases x <;> rfl
theorem sc_need_sizes : FnScope ["sorts", "kinds"] ["sorts", "kinds"] (defScope (top 15)) := ⟨rfl, rfl, rfl, by decide +kernel, rfl, by decide +kernel, by decide +kernel⟩
theorem bp_need_sizes : BindsP "need_sizes" (top 15) ["sorts", "kinds"] := fun _ _ _ _ _ _ us hl => match us, hl with | [_, _], _ => rfl
theorem o_need_sizes (W : Gs K mg) : OkF CX0 P w K mg base 3 "need_sizes" ["sorts", "kinds"] (spD K 2 fun ds d => ∃ x y : Int, ds = [.int x, .int y] ∧ (1 ≤ x ∧ x ≤ 5) ∧ (1 ≤ y ∧ y ≤ 5) ∧ d = .none) := by
  refine ok_of W.n_need_sizes sc_need_sizes bp_need_sizes (fun vs H Q E h => spD_len h) (fun f cdv A outer s H vs Q E hr h => ?_)
  refine ⟨_, (PSs.nox
  (pss_cons (ps_if (PW.pt (pw_or (pt_not (pt_val (k_own (P := P) (w := w) (base := base) (o_is_number W) (hr.mono (by decide)) pass0 (by rfl) (pa_cons (pv 0) pa_nil)))) (pw_or1 (pt_not (pt_chain op_le op_le pe_int (pv 0) (pe_globE (by rfl) W.m_MOST_SIDE)))))) (pss_one ps_never) pss_nil)
  (pss_one (ps_if (PW.pt (pw_or (pt_not (pt_val (k_own (P := P) (w := w) (base := base) (o_is_number W) (hr.mono (by decide)) pass0 (by rfl) (pa_cons (pv 1) pa_nil)))) (pw_or1 (pt_not (pt_chain op_le op_le pe_int (pv 1) (pe_globE (by rfl) W.m_MOST_SIDE)))))) (pss_one ps_never) pss_nil)))), ?_⟩
  obtain ⟨ds, d, hn, hd, ⟨x, y, rfl, hx, hy, rfl⟩, q⟩ := h
  obtain ⟨v, v2, rfl, dv, dm⟩ := dp2 hd
  have one : ∀ {z : Int} {i : Nat} {H1 : Hp} {u : V}, (L2.start ["sorts", "kinds"] [v, v2])[i]? = some (some u) → Dp K H1 u (.int z) → (1 ≤ z ∧ z ≤ 5) →
      EvT (tOr (tNot (tB (tCall (spD K 1 (Rone (fun x => .bool (isNumD x)) noD)) [] E0 (tCons (tVar i) tNil)))) (tNot (tTest (tChain (rI0 fun i j => .bl (decide (i ≤ j))) (rI0 fun i j => .bl (decide (i ≤ j))) (tC (.int 1)) (tVar i) (tC (.int 5)))))) (L2.start ["sorts", "kinds"] [v, v2]) H1 false := fun {z i H1 u} hs hu hz => by
    refine et_is (et_or (et_not (t_B (d_own (da_one (d_var hs hu)) ⟨.int z, rfl, True.intro, rfl⟩))) fun _ => et_not (t_d (d_chain d_ci (d_var hs hu) d_ci rd_le rd_le))) ?_
    have e1 : isNumD (.int z) = true := decide_eq_true (show (0 : Int) ≤ z by omega)
    have e2 : decide ((1 : Int) ≤ z) = true := decide_eq_true hz.1
    have e3 : decide (z ≤ (5 : Int)) = true := decide_eq_true hz.2
    rw [e1, e2, e3]
    rfl
  refine q_if (one (i := 0) rfl dv hx) (fun z => Bool.noConfusion z) fun _ H1 e1 => ?_
  refine s_if (one (i := 1) rfl (dm.ex e1) hy) (fun z => Bool.noConfusion z) fun _ H2 e2 => ?_
  exact q .non H2 (e1.trans e2) .non
end
end K11
/-! the mathematics: what the defs compute -/
namespace K11
open PySem
abbrev Row := List Int
abbrev Lot := Row × Row
def tI (r : Row) : PyData := .tuple (r.map .int)
def tL (l : Lot) : PyData := .tuple [tI l.1, tI l.2]
def lenI (r : Row) : Int := (r.length : Int)
/-! ### rows, orders, lots -/
def loR (r : Row) : Int := match r.getLast? with
  | some x => x + 1
  | none => 0
def upR (lo m : Int) : List Int := (List.range (m - lo).toNat).map fun (i : Nat) => lo + (i : Int)
def rowsUp (m : Int) (rows : List Row) : List Row := rows.flatMap fun r => (upR (loR r) m).map fun x => r ++ [x]
def rowsN (m : Int) : Nat → List Row
  | 0 => [[]]
  | n + 1 => rowsUp m (rowsN m n)
def goesUp (r : Row) (x : Int) : Bool := match r.getLast? with
  | some y => decide (y < x)
  | none => true
def rowsUpL (m : Int) (rows : List Row) : List Row := rows.flatMap fun r => ((upR 0 m).filter (goesUp r)).map fun x => r ++ [x]
def rowsL (m : Int) : Nat → List Row
  | 0 => [[]]
  | n + 1 => rowsUpL m (rowsL m n)
def ordUp (row : Row) (os : List Row) : List Row := os.flatMap fun o => (row.filter fun x => !decide (x ∈ o)).map fun x => o ++ [x]
def ordN (row : Row) : Nat → List Row
  | 0 => [[]]
  | n + 1 => ordUp row (ordN row n)
def orders (row : Row) : List Row := ordN row row.length
def lotsOf (S K : Int) (n : Nat) : List Lot := (rowsN S n).flatMap fun j => (rowsN K n).map fun s => (j, s)
/-- from 2 on -/
def lotsUp (S K : Int) : Nat → List Lot
  | 0 => []
  | n + 1 => lotsUp S K n ++ lotsOf S K (n + 2)
def minI (a b : Int) : Int := if b < a then b else a
def lots (S K : Int) : List Lot := lotsUp S K (minI S K - 1).toNat
def small (m : Int) : Prop := 1 ≤ m ∧ m ≤ 4
theorem small_cases {m : Int} (h : small m) : m = 1 ∨ m = 2 ∨ m = 3 ∨ m = 4 := by
  obtain ⟨h1, h2⟩ := h
  omega
/-! ### parts -/
def dropAt (r : Row) (i : Nat) : Row := r.take i ++ r.drop (i + 1)
def kindAt (p : Row) (i : Nat) : Int := p.getD i 0
def partL (l : Lot) (p : Row) (i : Nat) : Lot := (dropAt l.1 i, l.2.filter fun x => !decide (x = kindAt p i))
def fitsB (T : Lot → Option Row) (l : Lot) (p : Row) : Bool := (List.range p.length).all fun i => decide (T (partL l p i) = some (dropAt p i))
/-! ### the lots of one and of none -/
def onesP (K i j : Int) : Lot → Option Row := fun l => if l = ([], []) then some [] else match l with
  | ([s], [k]) => if 0 ≤ s ∧ 0 ≤ k ∧ k < K ∧ (s < i ∨ (s = i ∧ k < j)) then some [k] else none
  | _ => none
def ones (S K : Int) : Lot → Option Row := onesP K S 0
theorem onesP_0 (K : Int) : onesP K 0 0 = fun l => if l = ([], []) then some [] else none := by
  funext l
  unfold onesP
  by_cases h : l = ([], [])
  · rw [if_pos h, if_pos h]
  · rw [if_neg h, if_neg h]
    split
    · rw [if_neg]
      omega
    · rfl
theorem onesP_next {K i : Int} (hi : 0 ≤ i) : onesP K i K = onesP K (i + 1) 0 := by
  funext l
  unfold onesP
  by_cases h : l = ([], [])
  · rw [if_pos h, if_pos h]
  · rw [if_neg h, if_neg h]
    split
    · rename_i s k
      by_cases c : 0 ≤ s ∧ 0 ≤ k ∧ k < K ∧ (s < i ∨ (s = i ∧ k < K))
      · rw [if_pos c, if_pos (by omega)]
      · rw [if_neg c, if_neg (by omega)]
    · rfl
theorem onesP_set {K i j : Int} (hi : 0 ≤ i) (hj : 0 ≤ j ∧ j < K) : (fun l' : Lot => if l' = ([i], [j]) then some [j] else onesP K i j l') = onesP K i (j + 1) := by
  funext l
  by_cases h : l = ([i], [j])
  · rw [if_pos h, h]
    unfold onesP
    rw [if_neg (by simp)]
    show _ = if _ then _ else _
    rw [if_pos (by omega)]
  · rw [if_neg h]
    unfold onesP
    by_cases h2 : l = ([], [])
    · rw [if_pos h2, if_pos h2]
    · rw [if_neg h2, if_neg h2]
      split
      · rename_i s k
        have hne : ¬ (s = i ∧ k = j) := fun z => h (by rw [z.1, z.2])
        by_cases c : 0 ≤ s ∧ 0 ≤ k ∧ k < K ∧ (s < i ∨ (s = i ∧ k < j))
        · rw [if_pos c, if_pos (by omega)]
        · rw [if_neg c, if_neg (by omega)]
      · rfl
/-! ### pairings within pairs -/
abbrev Pair := Int × Int
def tP (p : Pair) : PyData := .tuple [.int p.1, .int p.2]
def goes (js : Lot) (p : Pair) : Bool := !decide (p.2 ∈ js.2) && goesUp js.1 p.1
def grow1 (js : Lot) (ps : List Pair) : List Lot := (ps.filter (goes js)).map fun p => (js.1 ++ [p.1], js.2 ++ [p.2])
def growAll (L : List Lot) (ps : List Pair) : List Lot := L.flatMap fun js => grow1 js ps
/-! ### all pairs -/
def everyP (S U : Int) : List Pair := (upR 0 S).flatMap fun s => (upR 0 U).map fun k => (s, k)
theorem upR_succ (i : Nat) : upR 0 ((i + 1 : Nat) : Int) = upR 0 (i : Int) ++ [(i : Int)] := by
  unfold upR
  have e1 : (((i + 1 : Nat) : Int) - 0).toNat = i + 1 := by omega
  have e2 : ((i : Int) - 0).toNat = i := by omega
  rw [e1, e2, List.range_succ, List.map_append, List.map_cons, List.map_nil, Int.zero_add]
theorem everyP_succ (i : Nat) (U : Int) : everyP ((i + 1 : Nat) : Int) U = everyP (i : Int) U ++ (upR 0 U).map fun k => ((i : Int), k) := by
  unfold everyP
  rw [upR_succ, List.flatMap_append, List.flatMap_cons, List.flatMap_nil, List.append_nil]
theorem mem_upR {lo m x : Int} : x ∈ upR lo m ↔ lo ≤ x ∧ x < m := by
  unfold upR
  rw [List.mem_map]
  constructor
  · rintro ⟨i, hi, rfl⟩
    have := List.mem_range.mp hi
    omega
  · rintro ⟨h1, h2⟩
    exact ⟨(x - lo).toNat, List.mem_range.mpr (by omega), by omega⟩
theorem mem_everyP {S U : Int} {p : Pair} : p ∈ everyP S U ↔ (0 ≤ p.1 ∧ p.1 < S) ∧ 0 ≤ p.2 ∧ p.2 < U := by
  unfold everyP
  rw [List.mem_flatMap]
  constructor
  · rintro ⟨s, hs, h⟩
    obtain ⟨k, hk, rfl⟩ := List.mem_map.mp h
    exact ⟨mem_upR.mp hs, mem_upR.mp hk⟩
  · rintro ⟨h1, h2⟩
    exact ⟨p.1, mem_upR.mpr h1, List.mem_map.mpr ⟨p.2, mem_upR.mpr h2, rfl⟩⟩
theorem everyP_len {S U : Int} (h : S ≤ 4) (h2 : U ≤ 4) : (everyP S U).length ≤ 16 := by
  unfold everyP
  have h3 : ∀ l : List Int, (l.flatMap fun s => (upR 0 U).map fun k => (s, k)).length ≤ l.length * 4 := by
    intro l
    induction l with
    | nil => simp
    | cons a l ih =>
      rw [List.flatMap_cons, List.length_append, List.length_cons, List.length_map]
      have : (upR 0 U).length ≤ 4 := by
        unfold upR
        rw [List.length_map, List.length_range]
        omega
      omega
  have h4 : (upR 0 S).length ≤ 4 := by
    unfold upR
    rw [List.length_map, List.length_range]
    omega
  have := h3 (upR 0 S)
  omega
/-! ### prices, best -/
def pows (N : Nat) : List Int := (List.range N).map fun i => (2 : Int) ^ i
theorem pows_succ (N : Nat) : pows (N + 1) = pows N ++ [(2 : Int) ^ N] := by
  unfold pows
  rw [List.range_succ, List.map_append, List.map_cons, List.map_nil]
theorem pows_len (N : Nat) : (pows N).length = N := by simp [pows]
def lI (ns : List Int) : PyData := .list (ns.map .int)
def cellM (M : List Row) (s k : Int) : Int := (M.getD s.toNat []).getD k.toNat 0
def worth (M : List Row) (js p : Row) : Int := ((js.zip p).map fun sk => cellM M sk.1 sk.2).sum
def bstep (wt : Row → Int) : Option Int × List Row → Row → Option Int × List Row
  | (none, _), p => (some (wt p), [p])
  | (some b, f), p => if b < wt p then (some (wt p), [p]) else if wt p = b then (some b, f ++ [p]) else (some b, f)
def bestF (wt : Row → Int) (ps : List Row) : Option Int × List Row := ps.foldl (bstep wt) (none, [])
def bestOf (M : List Row) (l : Lot) : List Row := (bestF (worth M l.1) (orders l.2)).2
/-- xs are 2^N r + p, the p used -/
def Priced (N : Nat) (xs used : List Int) : Prop := ∃ rs : List Int, rs.length = used.length ∧ (∀ r ∈ rs, 0 ≤ r) ∧ xs = List.zipWith (fun r p => 2 ^ N * r + p) rs used
theorem Priced.nil {N : Nat} : Priced N [] [] := ⟨[], rfl, by simp, rfl⟩
theorem Priced.snoc {N : Nat} {xs used : List Int} {r p : Int} (h : Priced N xs used) (hr : 0 ≤ r) : Priced N (xs ++ [2 ^ N * r + p]) (used ++ [p]) := by
  obtain ⟨rs, h1, h2, h3⟩ := h
  refine ⟨rs ++ [r], by simp [h1], ?_, ?_⟩
  · intro x hx
    rcases List.mem_append.mp hx with hx | hx
    · exact h2 x hx
    · rw [List.mem_singleton.mp hx]
      exact hr
  · rw [List.zipWith_append h1, ← h3]
    rfl
def PrM (S U : Nat) (M : List Row) : Prop := M.length = S ∧ (∀ row ∈ M, row.length = U) ∧ ∃ used, Priced (S * U) M.flatten used ∧ used.Perm (pows (S * U))
theorem bestF_snoc (wt : Row → Int) (ps : List Row) (p : Row) : bestF wt (ps ++ [p]) = bstep wt (bestF wt ps) p := by
  unfold bestF
  rw [List.foldl_append]
  rfl
theorem rev_ind {α : Type} {P : List α → Prop} (h0 : P []) (h1 : ∀ l a, P l → P (l ++ [a])) (l : List α) : P l := by
  have key : ∀ m : List α, P m.reverse := fun m => by
    induction m with
    | nil => exact h0
    | cons a m ih =>
      rw [List.reverse_cons]
      exact h1 _ _ ih
  have := key l.reverse
  rw [List.reverse_reverse] at this
  exact this
theorem bestF_none {wt : Row → Int} {ps : List Row} (h : (bestF wt ps).1 = none) : ps = [] := by
  revert h
  refine rev_ind (P := fun ps => (bestF wt ps).1 = none → ps = []) (fun _ => rfl) (fun ps p ih h => ?_) ps
  · rw [bestF_snoc] at h
    cases e : bestF wt ps with
    | mk b f =>
      rw [e] at h
      cases b with
      | none => simp [bstep] at h
      | some b =>
        unfold bstep at h
        simp only at h
        split at h
        · simp at h
        · split at h <;> simp at h
/-- the table of the best pairings -/
def setTs (T : Lot → Option Row) (l : Lot) (r : Row) : Lot → Option Row := fun l' => if l' = l then some r else T l'
def pricedT (M : List Row) (T : Lot → Option Row) (ls : List Lot) : Lot → Option Row := ls.foldl (fun T l => setTs T l ((bestOf M l).headD [])) T
theorem pricedT_snoc (M : List Row) (T : Lot → Option Row) (ls : List Lot) (l : Lot) : pricedT M T (ls ++ [l]) = setTs (pricedT M T ls) l ((bestOf M l).headD []) := by
  unfold pricedT
  rw [List.foldl_append]
  rfl
/-! ### finite facts -/
theorem rowsL_fin : ∀ m ∈ [(1 : Int), 2, 3, 4], ∀ n ∈ [0, 1, 2, 3, 4], rowsL m n = rowsN m n ∧ (rowsN m n).length ≤ 6 := by decide +kernel
theorem lots_fin : ∀ m ∈ [(1 : Int), 2, 3, 4], ∀ k ∈ [(1 : Int), 2, 3, 4], ∀ n ∈ [0, 1, 2, 3], (lotsUp m k n).length ≤ 53 := by decide +kernel
theorem mem4 {m : Int} (h : small m) : m ∈ [(1 : Int), 2, 3, 4] := by
  rcases small_cases h with h | h | h | h <;> subst h <;> decide
theorem mem5 {n : Nat} (h : n ≤ 4) : n ∈ [0, 1, 2, 3, 4] := by
  have : n = 0 ∨ n = 1 ∨ n = 2 ∨ n = 3 ∨ n = 4 := by omega
  rcases this with h | h | h | h | h <;> subst h <;> decide
theorem mem3 {n : Nat} (h : n ≤ 3) : n ∈ [0, 1, 2, 3] := by
  have : n = 0 ∨ n = 1 ∨ n = 2 ∨ n = 3 := by omega
  rcases this with h | h | h | h <;> subst h <;> decide
theorem rowsL_eq {m : Int} {n : Nat} (h : small m) (hn : n ≤ 4) : rowsL m n = rowsN m n := (rowsL_fin m (mem4 h) n (mem5 hn)).1
theorem rowsN_len {m : Int} {n : Nat} (h : small m) (hn : n ≤ 4) : (rowsN m n).length ≤ 6 := (rowsL_fin m (mem4 h) n (mem5 hn)).2
theorem lotsUp_len {m k : Int} {n : Nat} (h : small m) (h2 : small k) (hn : n ≤ 3) : (lotsUp m k n).length ≤ 53 := lots_fin m (mem4 h) k (mem4 h2) n (mem3 hn)
theorem minI_le {S K : Int} (h : small S) (h2 : small K) : 1 ≤ minI S K ∧ minI S K ≤ 4 := by
  unfold minI small at *
  split <;> omega
theorem lots_len {S U : Int} (h : small S) (h2 : small U) : (lots S U).length ≤ 53 := by
  have hm := minI_le h h2
  exact lotsUp_len h h2 (by omega)
end K11
/-! sorted(tuple), min of tuples -/
namespace K11
open PySem PySem.Spec PyProof.Rows L2 Evl
section
variable {prog : Program} {w : World} {A : Around} {E : Value → Shared → Prop} {s : Shared}
theorem gather_tup {l : Addr} {its : List Value} {Q : List Value → Shared → Prop} (ht : IsTup s.heap l its.toArray) (hz : its.length ≤ sizeLine)
    (k : Q its { s with heap := (s.heap.push (seqObj "list" #[] 0)).update s.heap.objs.size (Obj.mapSeq (· ++ its.toArray)) }) : wpAny (model prog w) A (collect (.ref l)) Q E s := by
  obtain ⟨ob, hob, hcl, m, hdat⟩ := id ht
  have hq : (Code.builtin "list.__iadd__" ⟨[.ref s.heap.objs.size, .ref l], []⟩).quiet = true := Code.quiet_builtin _ (by decide +kernel)
  have hob2 : (s.heap.push (seqObj "list" #[] 0)).get? l = some ob := Heap.get?_push_of_some _ hob
  have h0 : (s.heap.push (seqObj "list" #[] 0)).get? s.heap.objs.size = some (seqObj "list" #[] 0) := Heap.get?_push_size _ rfl
  unfold collect
  refine wpAny_bind (wpAny_runValue (codeAny_builtin entry_proto_collect' ?_))
  refine (show wpAny _ _ (do again (.builtin "list.__iadd__" ⟨[← newList [], .ref l], []⟩)) _ _ s from ?_)
  refine wpAny_bind (wpAny_newList (wpAny_pure ⟨hq, codeAny_builtin entry_list_iadd' ?_⟩))
  refine (show wpAny _ _ (Builtin.List.listExtendWith (.ref s.heap.objs.size) (.ref l) (.ref s.heap.objs.size)) _ _ _ from ?_)
  unfold Builtin.List.listExtendWith
  refine wpAny_bind (wpAny_typeOf (T := "tuple") ⟨ob, hob2, hcl⟩ ?_)
  have eT : (Value.type "tuple" == Value.type "tuple") = true := rfl
  rw [if_pos (by rw [eT, Bool.or_true])]
  refine wpAny_bind (listItems_at hob2 hdat (wpAny_bind (listItems_at (xs := #[]) (n := 0) h0 rfl ?_)))
  rw [if_neg (by simp)]
  have hz2 : ((#[] : Array Value) ++ its.toArray).size ≤ sizeLine + 1 := by
    rw [Array.size_append, List.size_toArray]
    show 0 + its.length ≤ _
    omega
  refine wpAny_bind (listUpdate_at (xs := #[]) (n := 0) h0 rfl (wpAny_pure ?_) (Nat.zero_le _) hz2)
  refine (show wpAny (model prog w) A (do
    let o ← load s.heap.objs.size
    match o.data with | .seq xs _ => pure xs.toList | _ => unsupported "internal:collect") Q E _ from ?_)
  refine wpAny_bind (wpAny_load (get?_update_seq h0 _) ?_)
  refine (show wpAny _ _ (pure ((#[] : Array Value) ++ its.toArray).toList) Q E _ from ?_)
  have eL : ((#[] : Array Value) ++ its.toArray).toList = its := by simp
  rw [eL]
  exact wpAny_pure k
theorem tup_sorted {l : Addr} {its : List Value} {ns : List Int} {Q : Value → Shared → Prop} (ht : IsTup s.heap l its.toArray) (hi : IntsAre its ns) (h64 : its.length < 64)
    (k : ∀ (out : Array Value) (ms : List Int), IntsAre out.toList ms → ms.Perm ns → ms.Pairwise (· ≤ ·) → Q (.ref (s.heap.objs.size + 1)) { s with heap := sortedAll s.heap its out }) : wpAny (model prog w) A (call (.builtin "sorted") [.ref l]) Q E s := by
  have hz : its.length ≤ sizeLine := by rw [sizeLine_eq]; omega
  refine Calls.call_function_entry kind_sorted plain_sorted entry_sorted (args_sorted1 _) ?_
  unfold Builtin.«sorted»
  refine wpAny_bind (m := checkCount "sorted" 1 1 _) (wpAny_pure (wpAny_bind (gather_tup ht hz (wpAny_bind (wpAny_newList ?_)))))
  have e1 : ((s.heap.push (seqObj "list" #[] 0)).update s.heap.objs.size (Obj.mapSeq (· ++ its.toArray))).objs.size = s.heap.objs.size + 1 := by rw [Heap.size_update, size_push']
  have e2 : (((s.heap.push (seqObj "list" #[] 0)).update s.heap.objs.size (Obj.mapSeq (· ++ its.toArray))).push (seqObj "list" its.toArray 0)).get? (s.heap.objs.size + 1) = some (seqObj "list" its.toArray 0) :=
    e1 ▸ Heap.get?_push_size _ rfl
  refine (show wpAny _ _ _ _ _ { s with heap := ((s.heap.push (seqObj "list" #[] 0)).update s.heap.objs.size (Obj.mapSeq (· ++ its.toArray))).push (seqObj "list" its.toArray 0) } from ?_)
  rw [e1]
  refine wpAny_bind (wpAny_holding (wpAny_call_entry slot_list_sort ⟨_, e2, rfl⟩ entry_list_sort (list_sort_tree e2 hi h64 ?_) (args_list_sort _)))
  exact fun out ms a1 a2 a3 => ⟨_, rfl, wpAny_pure ⟨_, rfl, k out ms a1 a2 a3⟩⟩
end
/-- sorted(t), a tuple of ints -/
def rSortedT (K : PySem.W.Frag) : List V → Hp → VK → Prop := fun vs H Q => ∃ (a : Addr) (ns : List Int), vs = [V.ref a] ∧ SqT K H a (ns.map V.int) ∧ ns.length < 64 ∧
  ∀ (ms : List Int) (p : Addr), ms.Perm ns → ms.Pairwise (· ≤ ·) → H p = none → Q (.ref p) (upd H p (.lst (ms.map V.int)))
theorem k_sortedT (K : PySem.W.Frag) {X : Cx} (h : X.K = K := by rfl) : CallR X (.builtin "sorted") (rSortedT K) := by
  subst h
  rintro pins s σ H vs us Q I r ⟨a, ns, rfl, hs, h64, q⟩
  obtain ⟨its, rv, hl, _⟩ := I.tuple hs
  rw [Vals.ref1 r]
  have hi := rv.ints
  have hz := hi.length
  refine tup_sorted hl hi (by rw [hz]; exact h64) fun out ms h1 h2 h3 => ?_
  obtain ⟨ep, he⟩ := sortedAll_at s.heap its out
  have hlen : (ms.map V.int).length ≤ sizeLine := by rw [List.length_map, h2.length_eq]; exact small64 h64
  have np := I.hok.fresh (Nat.le_succ s.heap.objs.size)
  exact ⟨.ref _, upd H (s.heap.objs.size + 1) (.lst (ms.map V.int)), I.laid (t' := s.toks) (fun _ _ => sortedAll_old) (Nat.le_succ _) ⟨hlen, out.toList, ep, vals_of_ints h1, he⟩, (show Value.ref _ = Value.ref _ from rfl), q ms _ h2 h3 np⟩
/-! the sorted list of ints -/
def sortI (ns : List Int) : List Int := ns.mergeSort fun a b => decide (a ≤ b)
theorem sortI_perm (ns : List Int) : (sortI ns).Perm ns := List.mergeSort_perm _ _
theorem sortI_sorted (ns : List Int) : (sortI ns).Pairwise (· ≤ ·) := by
  have h := List.pairwise_mergeSort (le := fun a b : Int => decide (a ≤ b)) (fun a b c h1 h2 => by simp only [decide_eq_true_eq] at *; omega) (fun a b => by simp only [Bool.or_eq_true, decide_eq_true_eq]; omega) ns
  exact h.imp fun h => of_decide_eq_true h
theorem sortI_uniq {ms ns : List Int} (h : ms.Perm ns) (hs : ms.Pairwise (· ≤ ·)) : ms = sortI ns :=
  (h.trans (sortI_perm ns).symm).eq_of_pairwise (fun _ _ _ _ h1 h2 => Int.le_antisymm h1 h2) hs (sortI_sorted ns)
section
variable {K : PySem.W.Frag} {H : Hp} {σ : L2.St} {ta : TE} {r : Row}
theorem cn_sortedT (h64 : r.length < 64) : CN K (rSortedT K) [tI r] ((sortI r).map .int) := fun vs H1 h Q q => by
  cases h with
  | cons h1 h2 =>
    cases h2
    obtain ⟨a, xs, rfl, sa, da⟩ := h1.tup_of
    have e := da.ints
    subst e
    refine ⟨a, r, rfl, sa, h64, fun ms p hp hs np => ?_⟩
    have e2 := sortI_uniq hp hs
    subst e2
    exact q p _ _ np (Ex.new np) upd_same (.of_ints _)
end
end K11
/-! rows, lots -/
namespace K11
open PySem PySem.Spec PyProof.Rows L2 Evl
theorem flat_tI (r : Row) : flat (tI r) = true := by
  show flatAll (r.map PyData.int) = true
  exact flatAll_map0 fun _ _ => rfl
theorem flat_tL (l : Lot) : flat (tL l) = true := by
  show flatAll [tI l.1, tI l.2] = true
  rw [flatAll, flatAll, flat_tI, flat_tI]
  rfl
theorem flat_tIs (rs : List Row) : flatAll (rs.map tI) = true := flatAll_map0 fun r _ => flat_tI r
theorem flat_tLs (rs : List Lot) : flatAll (rs.map tL) = true := flatAll_map0 fun r _ => flat_tL r
section
variable {K : PySem.W.Frag} {H : Hp} {σ : L2.St} {ta tb te : TE} {r s : Row} {x : Int}
theorem d_tI_lit (h : EvD K te σ H (.int x)) : EvD K (tTup (tCons te tNil)) σ H (tI [x]) := d_tup (da_one h) (show 1 ≤ 100000 by decide)
theorem d_tI_nil : EvD K (tTup tNil) σ H (tI []) := d_tup da_nil (Nat.zero_le _)
theorem rd_catI (hz : r.length + s.length ≤ 100000) : RD K (rCatA K) (tI r) (tI s) (tI (r ++ s)) := by
  have h := rd_cat (K := K) (ds := r.map .int) (es := s.map .int) (by rw [List.length_map, List.length_map]; exact hz)
  rw [← List.map_append] at h
  exact h
theorem d_snoc (ha : EvD K ta σ H (tI r)) (hb : EvD K tb σ H (.int x)) (hz : r.length ≤ 10000) : EvD K (tOp (rCatA K) ta (tTup (tCons tb tNil))) σ H (tI (r ++ [x])) := d_op ha (d_tI_lit hb) (rd_catI (by simp only [List.length_cons, List.length_nil]; omega))
theorem d_lenI (ha : EvD K ta σ H (tI r)) : EvD K (tCB (rLenS K) (tCons ta tNil)) σ H (.int (r.length : Int)) := by
  have h := d_cb1 (da_one ha) (cd_lenT (K := K) (ds := r.map PyData.int))
  rw [List.length_map] at h
  exact h
theorem d_lenL {ds : List PyData} (ha : EvD K ta σ H (.list ds)) : EvD K (tCB (rLenS K) (tCons ta tNil)) σ H (.int (ds.length : Int)) := d_cb1 (da_one ha) cd_lenL
theorem d_lenT {ds : List PyData} (ha : EvD K ta σ H (.tuple ds)) : EvD K (tCB (rLenS K) (tCons ta tNil)) σ H (.int (ds.length : Int)) := d_cb1 (da_one ha) cd_lenT
theorem d_neg1 : EvD K (tUn (rU fun i => .int (-i)) (tC (.int 1))) σ H (.int (-1)) := d_int (ev_un ev_c ru_neg)
theorem atI_map {f : Int → PyData} {i : Int} (h : atI r i = some x) : atI (r.map f) i = some (f x) := by
  unfold atI at h ⊢
  rw [List.length_map]
  cases e : ixN r.length i with
  | none => rw [e] at h; cases h
  | some j =>
    rw [e] at h
    have h' : r[j]? = some x := h
    show (r.map f)[j]? = some (f x)
    rw [List.getElem?_map, h']
    rfl
theorem d_atI {i : Int} (ha : EvD K ta σ H (tI r)) (hb : EvD K tb σ H (.int i)) (h : atI r i = some x) : EvD K (tOp (rIxT K) ta tb) σ H (.int x) := d_op ha hb (rd_ixT (atI_map (f := .int) h))
theorem last_at {y : Int} (h : r.getLast? = some y) : atI r (-1) = some y := atI_neg (by rw [List.getLast?_eq_getElem?] at h; exact h)
theorem d_lst0 : EvN K (tLst tNil) σ H [] := n_lst da_nil (Nat.zero_le _)
end
theorem ib_up {K : PySem.W.Frag} {H : Hp} {σ : L2.St} {tA : TA} {lo n : Int} (h : EvDA K tA σ H [.int lo, .int n]) (hl : -100000 ≤ lo ∧ lo ≤ 100000) (hn : -100000 ≤ n ∧ n ≤ 100000) : EvIB K (iRng2 tA) σ H ((upR lo n).map PyData.int) := by
  have h3 := ib_rng2 h hl hn
  have e4 : rangeD lo (n - lo).toNat = (upR lo n).map PyData.int := by
    unfold rangeD upR
    rw [List.map_map]
    rfl
  rw [e4] at h3
  exact h3
theorem i_up1 {K : PySem.W.Frag} {H : Hp} {σ : L2.St} {tA : TA} {n : Int} (h : EvDA K tA σ H [.int n]) (hn : -100000 ≤ n ∧ n ≤ 100000) : EvI K (iRng1 tA) σ H ((upR 0 n).map PyData.int) := by
  have h3 := i_rng1 h hn
  have e4 : rangeD 0 n.toNat = (upR 0 n).map PyData.int := by
    unfold rangeD upR
    rw [List.map_map, Int.sub_zero]
    rfl
  rw [e4] at h3
  exact h3
theorem lens_up {m : Int} {n : Nat} : ∀ r ∈ rowsN m n, r.length = n := by
  induction n with
  | zero => intro r hr; have : r = [] := by simpa [rowsN] using hr
            subst this; rfl
  | succ n ih =>
    intro r hr
    obtain ⟨r0, h0, h1⟩ := List.mem_flatMap.mp hr
    obtain ⟨x, _, rfl⟩ := List.mem_map.mp h1
    rw [List.length_append, ih r0 h0]
    rfl
theorem filt_all {α : Type} (l : List α) : l.filter (fun _ => true) = l := by simp
theorem lo_rng {m : Int} (h : small m) : ∀ {n : Nat}, n ≤ 4 → ∀ r ∈ rowsN m n, 0 ≤ loR r ∧ loR r ≤ m := by
  intro n
  induction n with
  | zero => intro _ r hr; have : r = [] := by simpa [rowsN] using hr
            subst this; exact ⟨Int.le_refl 0, by have := h.1; show (0 : Int) ≤ m; omega⟩
  | succ n ih =>
    intro hn r hr
    obtain ⟨r0, h0, h1⟩ := List.mem_flatMap.mp hr
    obtain ⟨x, hx, rfl⟩ := List.mem_map.mp h1
    obtain ⟨i, hi, rfl⟩ := List.mem_map.mp hx
    have b := ih (by omega) r0 h0
    have hi' := List.mem_range.mp hi
    have e : loR (r0 ++ [loR r0 + (i : Int)]) = loR r0 + (i : Int) + 1 := by simp [loR]
    rw [e]
    omega
section
variable {P : Program} {w : World} {K : PySem.W.Frag} {mg : Str → Option Value} {base : Heap}
theorem sc_rising_rows : FnScope ["many", "size", "rows", "turn", "row", "one"] ["many", "size"] (defScope (top 12)) := ⟨rfl, rfl, rfl, by decide +kernel, rfl, by decide +kernel, by decide +kernel⟩
theorem bp_rising_rows : BindsP "rising_rows" (top 12) ["many", "size"] := fun _ _ _ _ _ _ us hl => match us, hl with | [_, _], _ => rfl
theorem o_rising_rows (W : Gs K mg) : OkF CX0 P w K mg base 1 "rising_rows" ["many", "size"] (spN K 2 fun ds es => ∃ (m : Int) (n : Nat), ds = [.int m, .int (n : Int)] ∧ small m ∧ n ≤ 4 ∧ es = (rowsN m n).map tI) := by
  refine ok_of W.n_rising_rows sc_rising_rows bp_rising_rows (fun vs H Q E h => spN_len h) (fun f cdv A outer s H vs Q E hr h => ?_)
  refine ⟨_, (PSs.nox
  (pss_cons (ps_set (i := 2) sc_rising_rows.nd rfl (.inl rfl) (pe_lst (pa_cons (pe_tup pa_nil) pa_nil)))
  (pss_cons (ps_for PassesOwn.never rfl (pi_range1 (by rfl) W.f_range (pa_cons (pv 1) pa_nil)) (pg_name (i := 3) sc_rising_rows.nd rfl (.inl rfl))
  (pss_one (ps_setLc2 (i := 2) (own := [("row", 4), ("one", 5)]) (vs1 := [5]) rfl sc_rising_rows.nd rfl rfl (by rfl) (k_pilist K (pv 2)) (blkOk_by (N := ["many", "size", "rows", "turn", "row", "one"]) (sc := defScope (top 12)) (by decide +kernel)) (by decide) (fun _ _ _ _ _ => (pg_name (i := 4) sc_rising_rows.nd rfl (.inl rfl))) (fun _ _ _ _ _ => pts_nil) (fun _ _ _ _ _ => (pi_range2 (by rfl) W.f_range (pa_cons (pe_ifExp (pt_cmpR op_gt (pe_callB (k_len K) (by rfl) W.f_len boot_len (pa_cons (pv 4) pa_nil)) pe_int (nomark _)) (pe_op op_add (pe_ix (k_ixT K) (pv 4) (pe_un un_neg pe_int) (fun _ _ => rfl)) pe_int) pe_int) (pa_cons (pv 0) pa_nil)))) (fun _ _ _ _ _ => (pg_name (i := 5) sc_rising_rows.nd rfl (.inl rfl))) (fun _ _ _ _ _ => pts_nil) (fun _ _ _ _ _ => (pe_op (k_catA K) (pv 4) (pe_tup (pa_cons (pv 5) pa_nil)))))))
  (pss_one (ps_ret (pv 2)))))), ?_⟩
  obtain ⟨ds, es, hn, hd, ⟨m, n, rfl, hm, hn4, rfl⟩, q⟩ := h
  obtain ⟨a, b, rfl, da, db⟩ := dp2 hd
  cases da; cases db
  refine q_setN (K := K) (n_lst (da_one d_tI_nil) (show 1 ≤ 100000 by decide)) fun p0 xs0 H1 np0 e1 hp0 dp0 => ?_
  refine q_forR1 (ev_of_int (K := K) (d_var rfl (.int _))) (by omega) (fun i σ' H' => ∃ p xs t, σ' = [some (.int m), some (.int (n : Int)), some (.ref p), t, none, none] ∧ H p = none ∧ Ex H H' ∧ H' p = some (.lst xs) ∧ DpAll K H' xs ((rowsN m i).map tI)) (fun H2 e2 => ⟨p0, xs0, none, rfl, np0, e1.trans e2, e2 _ _ hp0, dp0.ex e2⟩) ?_ ?_
  · rintro i σ' H' hi ⟨p, xs, t, rfl, np, e, hp, dp⟩
    have hi4 : i ≤ 3 := by omega
    refine s_setN (K := K) (n_lc2T tI .int (rowsN m i) (i_list (d_var rfl (.lst (sq_of hp) dp))) (fun r => upR (loR r) m) (fun _ _ => true) (fun r x => tI (r ++ [x])) ?_ (fun r _ x _ _ => flat_tI _) ?_) fun p2 xs2 H2 np2 e2 hp2 dp2 => ⟨p2, xs2, _, rfl, fresh_back e np2, e.trans e2, hp2, ?_⟩
    · have h1 := rowsN_len hm (show i + 1 ≤ 4 by omega)
      have h2 : (lcT (rowsN m i) (fun r => upR (loR r) m) (fun _ _ => true) (fun r x => tI (r ++ [x]))).length = (rowsN m (i + 1)).length := by
        show _ = (rowsUp m (rowsN m i)).length
        unfold lcT rowsUp
        simp only [filt_all, List.length_flatMap, List.length_map]
      rw [h2]
      omega
    · intro r hr x B H1 eB eB1 dx Q1 k
      have lr := lo_rng hm (show i ≤ 4 by omega) r hr
      have ln := lens_up r hr
      have hm4 := hm.2
      refine k _ rfl (ib_up (da_two (d_if (t_d (d_op (d_lenI (d_var rfl dx)) d_ci rd_gt)) (fun z => ?_) fun z => ?_) (d_var rfl (.int m))) (by omega) (by omega)) ?_
      · have hne : r ≠ [] := fun z2 => by subst z2; simp at z
        obtain ⟨y, hy⟩ : ∃ y, r.getLast? = some y := ⟨_, List.getLast?_eq_getLast hne⟩
        have e5 : loR r = y + 1 := by unfold loR; rw [hy]
        rw [e5]
        exact d_op (d_atI (d_var rfl dx) d_neg1 (last_at hy)) d_ci rd_add
      · have he : r = [] := by
          cases r with
          | nil => rfl
          | cons y r =>
            simp only [List.length_cons, decide_eq_false_iff_not] at z
            omega
        subst he
        exact d_ci
      · intro c hc y B2 H3 eB2 eB3 dy Q2 k2
        exact k2 _ rfl (fun H5 e5 Q5 q5 => q5 H5 (Ex.refl H5)) fun _ => d_snoc (d_var rfl (dx.ex eB2)) (d_var rfl dy) (by omega)
    · have e7 : lcT (rowsN m i) (fun r => upR (loR r) m) (fun _ _ => true) (fun r x => tI (r ++ [x])) = (rowsN m (i + 1)).map tI := by
        show _ = (rowsUp m (rowsN m i)).map tI
        unfold lcT rowsUp
        simp only [filt_all, List.map_flatMap, List.map_map]
        rfl
      rw [e7] at dp2
      exact dp2
  · rintro σ' H' ⟨p, xs, t, rfl, np, e, hp, dp⟩
    rw [Int.toNat_natCast] at dp
    exact s_ret (ev_var rfl) fun H2 e2 => q p xs H2 np (e.trans e2) (e2 _ _ hp) (dp.ex e2)
end
end K11
/-! tables of lots; equality of rows, lots -/
namespace K11
open PySem PySem.Spec PyProof.Rows L2 Evl
/-! ### equality -/
theorem eqvAll_ints : ∀ r s : Row, PyData.eqvAll (r.map .int) (s.map .int) = decide (r = s)
  | [], [] => by simp [PyData.eqvAll]
  | [], _ :: _ => by simp [PyData.eqvAll]
  | _ :: _, [] => by simp [PyData.eqvAll]
  | x :: r, y :: s => by
    rw [List.map_cons, List.map_cons, PyData.eqvAll, eqvAll_ints r s, PyData.eqv]
    by_cases h : x = y
    · subst h
      simp
    · simp [h]
theorem eqv_tI (r s : Row) : PyData.eqv (tI r) (tI s) = decide (r = s) := by
  rw [tI, tI, PyData.eqv, eqvAll_ints]
theorem eqv_tL (a b : Lot) : PyData.eqv (tL a) (tL b) = decide (a = b) := by
  rw [tL, tL, PyData.eqv, PyData.eqvAll, PyData.eqvAll, PyData.eqvAll, eqv_tI, eqv_tI]
  obtain ⟨a1, a2⟩ := a
  obtain ⟨b1, b2⟩ := b
  by_cases h : a1 = b1
  · by_cases h2 : a2 = b2
    · simp [h, h2]
    · simp [h, h2]
  · simp [h]
theorem lay_ints : ∀ r : Row, PyData.canLayAll0 (r.map .int) = true
  | [] => rfl
  | x :: r => by rw [List.map_cons, PyData.canLayAll0, lay_ints r]; rfl
theorem dep_ints : ∀ r : Row, PyData.depthAll (r.map .int) = 0
  | [] => rfl
  | x :: r => by
    rw [List.map_cons, PyData.depthAll, dep_ints r]
    rfl
theorem lay_tI (r : Row) : PyData.canLay0 (tI r) = true := by rw [tI, PyData.canLay0, lay_ints]
theorem dep_tI (r : Row) : PyData.depth (tI r) = 1 := by rw [tI, PyData.depth, dep_ints]
theorem lay_tL (l : Lot) : PyData.canLay0 (tL l) = true := by
  rw [tL, PyData.canLay0, PyData.canLayAll0, PyData.canLayAll0, lay_tI, lay_tI]
  rfl
theorem dep_tL (l : Lot) : PyData.depth (tL l) = 2 := by
  rw [tL, PyData.depth, PyData.depthAll, PyData.depthAll, dep_tI, dep_tI]
  rfl
theorem shp_tI (r : Row) : SeqAt.shaped (tI r) = true := by
  unfold SeqAt.shaped
  rw [lay_tI, dep_tI]
  rfl
theorem shp_tL (l : Lot) : SeqAt.shaped (tL l) = true := by
  unfold SeqAt.shaped
  rw [lay_tL, dep_tL]
  rfl
/-! ### keys -/
theorem keyDs_ints (r : Row) : keyDs (r.map .int) = r.map .num := by
  induction r with
  | nil => rfl
  | cons x r ih => rw [List.map_cons, List.map_cons, keyDs, ih]; rfl
theorem key_tI (r : Row) : keyD (tI r) = .tup (r.map .num) := by rw [tI, keyD, keyDs_ints]
theorem nums_inj : ∀ {r s : Row}, r.map NestedKey.num = s.map .num → r = s
  | [], [], _ => rfl
  | [], _ :: _, h => by simp at h
  | _ :: _, [], h => by simp at h
  | x :: r, y :: s, h => by
    rw [List.map_cons, List.map_cons] at h
    injection h with h1 h2
    injection h1 with h1
    rw [h1, nums_inj h2]
theorem key_tI_inj {r s : Row} (h : keyD (tI r) = keyD (tI s)) : r = s := by
  rw [key_tI, key_tI] at h
  injection h with h
  exact nums_inj h
theorem key_tL (l : Lot) : keyD (tL l) = .tup [.tup (l.1.map .num), .tup (l.2.map .num)] := by
  rw [tL, keyD, keyDs, keyDs, keyDs, key_tI, key_tI]
theorem key_tL_inj {a b : Lot} (h : keyD (tL a) = keyD (tL b)) : a = b := by
  rw [key_tL, key_tL] at h
  injection h with h
  injection h with h1 h2
  injection h2 with h2
  injection h1 with h1
  injection h2 with h2
  exact Prod.ext (nums_inj h1) (nums_inj h2)
theorem depAll_nums : ∀ r : Row, NestedKey.depthAll (r.map .num) = 0
  | [] => rfl
  | x :: r => by rw [List.map_cons, NestedKey.depthAll, depAll_nums r]; rfl
theorem kdep_tI (r : Row) : (keyD (tI r)).depth ≤ 8 := by rw [key_tI, NestedKey.depth, depAll_nums]; decide
theorem kdep_tL (l : Lot) : (keyD (tL l)).depth ≤ 8 := by
  rw [key_tL, NestedKey.depth, NestedKey.depthAll, NestedKey.depthAll, NestedKey.depthAll, NestedKey.depth, NestedKey.depth, depAll_nums, depAll_nums]
  decide
/-! ### tables -/
def setT (T : Lot → Option Row) (l : Lot) (r : Row) : Lot → Option Row := fun l' => if l' = l then some r else T l'
/-- a dict of at most n lots with the table T -/
def DT (P : Program) (w : World) (K : PySem.W.Frag) (H : Hp) (a : Addr) (n : Nat) (T : Lot → Option Row) : Prop := ∃ G, DN P w K H a n G ∧ ∀ l, G (keyD (tL l)) = (T l).map tI
section
variable {P : Program} {w : World} {K : PySem.W.Frag} {H H' : Hp} {σ : L2.St} {td ty tv : TE} {a : Addr} {n : Nat} {T : Lot → Option Row} {l : Lot} {r : Row} {S : List Addr}
theorem DT.ex (h : DT P w K H a n T) (e : Ex H H') : DT P w K H' a n T := let ⟨G, h1, h2⟩ := h; ⟨G, h1.ex e, h2⟩
theorem DT.fr (h : DT P w K H a n T) (f : Fr K S H H') (m : a ∉ S) : DT P w K H' a n T := let ⟨G, h1, h2⟩ := h; ⟨G, h1.fr f m, h2⟩
theorem DT.up {m : Nat} (h : DT P w K H a n T) (e : n ≤ m) : DT P w K H a m T := let ⟨G, h1, h2⟩ := h; ⟨G, h1.up e, h2⟩
theorem DT.off {p : Addr} (h : DT P w K H a n T) (m : H p = none) : a ≠ p := let ⟨_, h1, _⟩ := h; h1.off m
theorem DT.offL {p : Addr} {ds : List PyData} (h : DT P w K H a n T) (m : Ls K H p ds) : a ≠ p := let ⟨_, h1, _⟩ := h; h1.offL m
theorem DT.some (h : DT P w K H a n T) : ∃ φ, H a = Option.some (.ext φ) := let ⟨_, h1, _⟩ := h; h1.some
theorem flat_of_tL (l : Lot) : flatAll [tI l.1, tI l.2] = true := flat_tL l
theorem d_tget (ha : Ev td σ H (.ref a)) (hn : DT P w K H a n T) (hk : EvD K ty σ H (tL l)) (g : T l = Option.some r) : EvD K (tNGet P w K td ty) σ H (tI r) := by
  obtain ⟨G, h1, h2⟩ := hn
  refine d_nget ha h1 (ds := [tI l.1, tI l.2]) hk (flat_of_tL l) (kdep_tL l) ?_
  have h3 := h2 l
  rw [g] at h3
  exact h3
theorem setT_G {G : NestedKey → Option PyData} (h2 : ∀ l, G (keyD (tL l)) = (T l).map tI) (l : Lot) (r : Row) : ∀ l', (fun k' => if k' = keyD (PyData.tuple [tI l.1, tI l.2]) then Option.some (tI r) else G k') (keyD (tL l')) = (setT T l r l').map tI := fun l' => by
  unfold setT
  by_cases c : l' = l
  · subst c
    rw [if_pos rfl]
    exact if_pos rfl
  · rw [if_neg c, ← h2 l']
    exact if_neg fun z => c (key_tL_inj z)
theorem q_tput {D : Ends} {tz : TS} (hv : EvD K tv σ H (tI r)) (ha : Ev td σ H (.ref a)) (hn : DT P w K H a n T) (hz : n ≤ 50000) (hk : EvD K ty σ H (tL l)) (k : ∀ H', Wr K a H H' → DT P w K H' a (n + 1) (setT T l r) → tz D σ H') : tSeq (sNPut P w K td ty tv) tz D σ H := by
  obtain ⟨G, h1, h2⟩ := hn
  exact q_nput hv (flat_tI r) ha h1 hz (ds := [tI l.1, tI l.2]) hk (flat_of_tL l) (kdep_tL l) fun H' w d => k H' w ⟨_, d, setT_G h2 l r⟩
theorem s_tput {D : Ends} (hv : EvD K tv σ H (tI r)) (ha : Ev td σ H (.ref a)) (hn : DT P w K H a n T) (hz : n ≤ 50000) (hk : EvD K ty σ H (tL l)) (k : ∀ H', Wr K a H H' → DT P w K H' a (n + 1) (setT T l r) → D.nx σ H') : sNPut P w K td ty tv D σ H := by
  obtain ⟨G, h1, h2⟩ := hn
  exact s_nput hv (flat_tI r) ha h1 hz (ds := [tI l.1, tI l.2]) hk (flat_of_tL l) (kdep_tL l) fun H' w d => k H' w ⟨_, d, setT_G h2 l r⟩
theorem d_tL (h1 : EvD K td σ H (tI l.1)) (h2 : EvD K ty σ H (tI l.2)) : EvD K (tTup (tCons td (tCons ty tNil))) σ H (tL l) := d_tup (da_two h1 h2) (show 2 ≤ 100000 by decide)
theorem d_lot0 (h : EvD K td σ H (tL l)) : EvD K (tOp (rIxT K) td (tC (.int 0))) σ H (tI l.1) := d_op h d_ci (rd_ixT atI_z)
theorem d_lot1 (h : EvD K td σ H (tL l)) : EvD K (tOp (rIxT K) td (tC (.int 1))) σ H (tI l.2) := d_op h d_ci (rd_ixT atI_one)
theorem rd_eqI' {x y : Row} : RD K (rEqD K) (tI x) (tI y) (.bool (decide (x = y))) := by
  have h := rd_eqD (K := K) (shp_tI x) (shp_tI y)
  rw [eqv_tI] at h
  exact h
theorem rd_neI' {x y : Row} : RD K (rNeD K) (tI x) (tI y) (.bool (!decide (x = y))) := by
  have h := rd_neD (K := K) (shp_tI x) (shp_tI y)
  rw [eqv_tI] at h
  exact h
end
end K11
/-! further words: loops over a known list, new tables -/
namespace K11
open PySem PySem.Spec PyProof.Rows L2 Evl
section
variable {P : Program} {w : World} {K : PySem.W.Frag} {H H' H1 H2 : Hp} {σ : L2.St} {ta tb te tx tl tk tv : TE} {t u : TT} {α β : Type} {D : Ends} {tu tw tz : TS} {g : TG} {l p : Addr} {ds es : List PyData} {d : PyData} {Q : VK} {E : XK} {vs : List V}
theorem n_is (h : EvN K te σ H ds) (e : ds = es) : EvN K te σ H es := e ▸ h
theorem et_yes : EvT tYes σ H true := fun H1 _ _ q => q H1 (Ex.refl H1)
theorem fm_take {f : α → List β} {l : List α} {i : Nat} {a : α} (h : l[i]? = some a) : (l.take (i + 1)).flatMap f = (l.take i).flatMap f ++ f a := by
  rw [take_succ_of h, List.flatMap_append, List.flatMap_cons, List.flatMap_nil, List.append_nil]
theorem fm_len {f : α → List β} {c : Nat} : ∀ {l : List α}, (∀ a ∈ l, (f a).length ≤ c) → (l.flatMap f).length ≤ l.length * c
  | [], _ => by simp
  | a :: l, h => by
    rw [List.flatMap_cons, List.length_append, List.length_cons, Nat.succ_mul]
    have h1 := h a List.mem_cons_self
    have h2 := fm_len (f := f) (c := c) (l := l) fun b hb => h b (List.mem_cons_of_mem _ hb)
    omega
theorem take_fm_len {f : α → List β} {l : List α} {i : Nat} : ((l.take i).flatMap f).length ≤ (l.flatMap f).length := by
  have h : l.flatMap f = (l.take i).flatMap f ++ (l.drop i).flatMap f := by rw [← List.flatMap_append, List.take_append_drop]
  rw [h, List.length_append]
  omega
/-- over a list in a slot -/
theorem s_forVD {j : Nat} (en : α → PyData) (as : List α) (hs : σ[j]? = some (some (.ref p))) (hl : Ls K H p (as.map en)) (hf : flatAll (as.map en) = true)
    (k : ∀ xs, H p = some (.lst xs) → ∃ Pv : Nat → L2.St → Hp → Prop, Pv 0 σ H ∧ (∀ i σ' H', Pv i σ' H' → H' p = some (.lst xs) ∧ Tx K H H') ∧
      (∀ i a x σ' H', as[i]? = some a → Pv i σ' H' → Dp K H' x (en a) → g x σ' H' fun σ2 H2 => tu { D with nx := Pv (i + 1), ct := Pv (i + 1), bk := D.nx } σ2 H2) ∧ ∀ σ' H', Pv as.length σ' H' → D.nx σ' H') : tFor (iList K (tVar j)) g tu D σ H := by
  obtain ⟨xs, hp, dp⟩ := hl
  obtain ⟨Pv, h0, h1, h2, h3⟩ := k xs hp
  have ln : xs.length = as.length := by rw [dp.len, List.length_map]
  refine ⟨_, hs, p, rfl, ⟨xs, sq_of hp⟩, for_list Pv h0 (fun i σ' H' _ pv => sq_of (h1 i σ' H' pv).1) (fun i x σ' H' hx pv => ?_) fun σ' H' pv => h3 σ' H' (by rw [← ln]; exact pv)⟩
  obtain ⟨d, hd, dd⟩ := dp.get hx
  obtain ⟨a, ha, rfl⟩ := get_map hd
  exact h2 i a x σ' H' ha pv (dd.tx (h1 i σ' H' pv).2 (flatAll_get hf hd))
theorem q_forVD {j : Nat} (en : α → PyData) (as : List α) (hs : σ[j]? = some (some (.ref p))) (hl : Ls K H p (as.map en)) (hf : flatAll (as.map en) = true)
    (k : ∀ xs, H p = some (.lst xs) → ∃ Pv : Nat → L2.St → Hp → Prop, Pv 0 σ H ∧ (∀ i σ' H', Pv i σ' H' → H' p = some (.lst xs) ∧ Tx K H H') ∧
      (∀ i a x σ' H', as[i]? = some a → Pv i σ' H' → Dp K H' x (en a) → g x σ' H' fun σ2 H2 => tu { D with nx := Pv (i + 1), ct := Pv (i + 1), bk := tz D } σ2 H2) ∧ ∀ σ' H', Pv as.length σ' H' → tz D σ' H') : tSeq (tFor (iList K (tVar j)) g tu) tz D σ H :=
  s_forVD (D := { D with nx := tz D }) en as hs hl hf k
theorem q_none {i : Nat} (hk : EvD K tk σ H (.tuple ds)) (f : flatAll ds = true) (hd : (keyD (.tuple ds)).depth ≤ 8) (hv : EvD K tv σ H d) (fv : flat d = true)
    (k : ∀ p H', H p = none → Ex H H' → DN P w K H' p 1 (fun k' => if k' = keyD (.tuple ds) then some d else none) → tz D (σ.set i (some (.ref p))) H') : tSeq (tAsg (tNOne P w K tk tv) (gName i)) tz D σ H := fun p H0 np e0 d0 =>
  hk H0 e0 _ fun y H1 e1 hy => hv H1 (e0.trans e1) _ fun v H2 e2 hv2 => by
    obtain ⟨b, rfl, kb⟩ := NK.of (hy.ex e2) (by simpa [flat] using f) hd ⟨_, rfl⟩
    refine ⟨b, _, d, rfl, e1.trans e2, kb, hv2, fv, fun H4 d4 t4 k4 => k p H4 np (fun c o hc => ?_) d4⟩
    rw [k4 c (ne_of_none hc np)]
    exact e2 _ _ (e1 _ _ (e0 _ _ hc))
theorem q_nnew {i : Nat} (k : ∀ p H', H p = none → Ex H H' → DN P w K H' p 0 (fun _ => none) → tz D (σ.set i (some (.ref p))) H') : tSeq (tAsg (tNNew P w K) (gName i)) tz D σ H := fun p H1 np e d => k p H1 np e d
/-- a new table -/
def spNT (P : Program) (w : World) (K : PySem.W.Frag) (n : Nat) (R : List PyData → (Lot → Option Row) → Prop) : Sp := fun vs H Q _ => ∃ ds T, ds.length = n ∧ DpAll K H vs ds ∧ R ds T ∧ ∀ p H', H p = none → Ex H H' → DT P w K H' p 200 T → Q (.ref p) H'
theorem spNT_len {n : Nat} {R : List PyData → (Lot → Option Row) → Prop} (h : spNT P w K n R vs H Q E) : vs.length = n := by
  obtain ⟨ds, d, rfl, h, _⟩ := h
  exact h.len
/-- a loop's turn over pairs -/
theorem tg_two {i j : Nat} {x : V} {e : PyData} {Q : L2.St → Hp → Prop} (h : Dp K H x (.tuple [d, e])) (k : ∀ a b, Dp K H a d → Dp K H b e → Q ((σ.set i (some a)).set j (some b)) H) : gTup K 2 (gCons (gName i) (gCons (gName j) gNil)) x σ H Q := tg_pair h (Ex.refl H) k
/-- over a list, a tuple that an elder heap knows -/
theorem s_forPD {B : Hp} {v : V} {j : Nat} (en : α → PyData) (as : List α) (hs : σ[j]? = some (some v)) (hv : Dp K B v (.list (as.map en)))
    (Pv : Nat → L2.St → Hp → Prop) (h0 : Pv 0 σ H) (he : ∀ i σ' H', Pv i σ' H' → Ex B H')
    (h2 : ∀ i a x σ' H', as[i]? = some a → Pv i σ' H' → Dp K H' x (en a) → g x σ' H' fun σ2 H2 => tu { D with nx := Pv (i + 1), ct := Pv (i + 1), bk := D.nx } σ2 H2) (h3 : ∀ σ' H', Pv as.length σ' H' → D.nx σ' H') : tFor (iList K (tVar j)) g tu D σ H := by
  obtain ⟨p, xs, rfl, sp, dp⟩ := hv.list_of
  have ln : xs.length = as.length := by rw [dp.len, List.length_map]
  refine ⟨_, hs, p, rfl, ⟨xs, ex_l (he 0 σ H h0) sp⟩, for_list Pv h0 (fun i σ' H' _ pv => ex_l (he i σ' H' pv) sp) (fun i x σ' H' hx pv => ?_) fun σ' H' pv => h3 σ' H' (by rw [← ln]; exact pv)⟩
  obtain ⟨d, hd, dd⟩ := dp.get hx
  obtain ⟨a, ha, rfl⟩ := get_map hd
  exact h2 i a x σ' H' ha pv (dd.ex (he i σ' H' pv))
theorem q_forPD {B : Hp} {v : V} {j : Nat} (en : α → PyData) (as : List α) (hs : σ[j]? = some (some v)) (hv : Dp K B v (.list (as.map en)))
    (Pv : Nat → L2.St → Hp → Prop) (h0 : Pv 0 σ H) (he : ∀ i σ' H', Pv i σ' H' → Ex B H')
    (h2 : ∀ i a x σ' H', as[i]? = some a → Pv i σ' H' → Dp K H' x (en a) → g x σ' H' fun σ2 H2 => tu { D with nx := Pv (i + 1), ct := Pv (i + 1), bk := tz D } σ2 H2) (h3 : ∀ σ' H', Pv as.length σ' H' → tz D σ' H') : tSeq (tFor (iList K (tVar j)) g tu) tz D σ H :=
  s_forPD (D := { D with nx := tz D }) en as hs hv Pv h0 he h2 h3
theorem s_forPT {B : Hp} {v : V} {j : Nat} (en : α → PyData) (as : List α) (hs : σ[j]? = some (some v)) (hv : Dp K B v (.tuple (as.map en)))
    (Pv : Nat → L2.St → Hp → Prop) (h0 : Pv 0 σ H) (he : ∀ i σ' H', Pv i σ' H' → Ex B H')
    (h2 : ∀ i a x σ' H', as[i]? = some a → Pv i σ' H' → Dp K H' x (en a) → g x σ' H' fun σ2 H2 => tu { D with nx := Pv (i + 1), ct := Pv (i + 1), bk := D.nx } σ2 H2) (h3 : ∀ σ' H', Pv as.length σ' H' → D.nx σ' H') : tFor (iTup K (tVar j)) g tu D σ H := by
  obtain ⟨p, xs, rfl, sp, dp⟩ := hv.tup_of
  have ln : xs.length = as.length := by rw [dp.len, List.length_map]
  refine ⟨_, hs, p, rfl, ⟨xs, ex_t (he 0 σ H h0) sp⟩, for_tup Pv h0 (fun i σ' H' _ pv => ex_t (he i σ' H' pv) sp) (fun i x σ' H' hx pv => ?_) fun σ' H' pv => h3 σ' H' (by rw [← ln]; exact pv)⟩
  obtain ⟨d, hd, dd⟩ := dp.get hx
  obtain ⟨a, ha, rfl⟩ := get_map hd
  exact h2 i a x σ' H' ha pv (dd.ex (he i σ' H' pv))
theorem q_asgTup {i j : Nat} {e : PyData} (h : EvD K te σ H (.tuple [d, e])) (k : ∀ v w H1, Ex H H1 → Dp K H1 v d → Dp K H1 w e → tz D ((σ.set i (some v)).set j (some w)) H1) : tSeq (tAsg te (gTup K 2 (gCons (gName i) (gCons (gName j) gNil)))) tz D σ H :=
  h H (Ex.refl H) _ fun v H1 e1 hv => tg_two hv fun a b ha hb => k a b H1 e1 ha hb
theorem d_takeI {r : Row} {n : Nat} (h : EvD K te σ H (tI r)) (hh : EvD K tx σ H (.int (n : Int))) (hn : n ≤ r.length) : EvD K (tSl (rSlA K) te tNoPart (tPart tx)) σ H (tI (r.take n)) := by
  have h1 := d_take (ds := r.map PyData.int) h hh (by rw [List.length_map]; exact hn)
  rw [← List.map_take] at h1
  exact h1
theorem d_dropI {r : Row} {n : Nat} (h : EvD K te σ H (tI r)) (hh : EvD K tx σ H (.int (n : Int))) (hn : n ≤ r.length) : EvD K (tSl (rSlA K) te (tPart tx) tNoPart) σ H (tI (r.drop n)) := by
  have h1 := d_drop (ds := r.map PyData.int) h hh (by rw [List.length_map]; exact hn)
  rw [← List.map_drop] at h1
  exact h1
/-- r[:i] + r[i + 1:] -/
theorem d_dropAt {r : Row} {i : Nat} {te2 tx2 : TE} (h : EvD K te σ H (tI r)) (h2 : EvD K te2 σ H (tI r)) (hh : EvD K tx σ H (.int (i : Int))) (hh2 : EvD K tx2 σ H (.int (i : Int))) (hi : i < r.length) (hz : r.length ≤ 10000) :
    EvD K (tOp (rCatA K) (tSl (rSlA K) te tNoPart (tPart tx)) (tSl (rSlA K) te2 (tPart (tOp (rI0 fun i j => .int (i + j)) tx2 (tC (.int 1)))) tNoPart)) σ H (tI (dropAt r i)) :=
  d_op (d_takeI h hh (Nat.le_of_lt hi)) (d_dropI h2 (d_op hh2 d_ci rd_add) hi) (rd_catI (by rw [List.length_take, List.length_drop]; omega))
theorem atI_kind {p : Row} {i : Nat} (h : i < p.length) : atI p (i : Int) = some (kindAt p i) := by
  refine atI_of (Int.natCast_nonneg i) ?_
  rw [Int.toNat_natCast, List.getElem?_eq_getElem h, kindAt, List.getD_eq_getElem?_getD, List.getElem?_eq_getElem h]
  rfl
end
end K11
/-! rows, orders, lots, small lots -/
namespace K11
open PySem PySem.Spec PyProof.Rows L2 Evl
abbrev Rrows : List PyData → List PyData → Prop := fun ds es => ∃ (m : Int) (n : Nat), ds = [.int m, .int (n : Int)] ∧ small m ∧ n ≤ 4 ∧ es = (rowsN m n).map tI
theorem ordN_len {r : Row} (h : r.length ≤ 4) : ∀ n : Nat, (ordN r n).length ≤ 4 ^ n
  | 0 => Nat.le_refl _
  | n + 1 => by
    have ih := ordN_len h n
    have h2 : (ordUp r (ordN r n)).length ≤ (ordN r n).length * 4 := fm_len fun o _ => by
      rw [List.length_map]
      exact Nat.le_trans (List.length_filter_le _ _) h
    show (ordUp r (ordN r n)).length ≤ 4 ^ (n + 1)
    rw [Nat.pow_succ]
    omega
theorem ordN_lens {r : Row} : ∀ {n : Nat}, ∀ o ∈ ordN r n, o.length = n := by
  intro n
  induction n with
  | zero => intro o ho; have : o = [] := by simpa [ordN] using ho
            subst this; rfl
  | succ n ih =>
    intro o ho
    obtain ⟨o0, h0, h1⟩ := List.mem_flatMap.mp ho
    obtain ⟨x, _, rfl⟩ := List.mem_map.mp h1
    rw [List.length_append, ih o0 h0]
    rfl
theorem goesUp_nil {x : Int} : goesUp [] x = true := rfl
theorem goesUp_or (r : Row) (x : Int) : (decide (r = []) || goesUp r x) = goesUp r x := by
  cases r with
  | nil => rfl
  | cons y r => simp
theorem rowsUpL_len {m : Int} {n : Nat} (h : small m) (hn : n + 1 ≤ 4) {i : Nat} : (rowsUpL m ((rowsL m n).take i)).length ≤ 6 := by
  have h1 := rowsN_len h hn
  rw [← rowsL_eq h hn] at h1
  exact Nat.le_trans take_fm_len h1
section
variable {P : Program} {w : World} {K : PySem.W.Frag} {mg : Str → Option Value} {base : Heap}
theorem sc_list_lots : FnScope ["sorts", "kinds", "lots", "size", "sides", "jobs", "slots"] ["sorts", "kinds"] (defScope (top 16)) := ⟨rfl, rfl, rfl, by decide +kernel, rfl, by decide +kernel, by decide +kernel⟩
theorem bp_list_lots : BindsP "list_lots" (top 16) ["sorts", "kinds"] := fun _ _ _ _ _ _ us hl => match us, hl with | [_, _], _ => rfl
theorem o_list_lots (W : Gs K mg) : OkF CX0 P w K mg base 4 "list_lots" ["sorts", "kinds"] (spD K 2 fun ds d => ∃ S T : Int, ds = [.int S, .int T] ∧ small S ∧ small T ∧ d = .tuple ((lots S T).map tL)) := by
  refine ok_of W.n_list_lots sc_list_lots bp_list_lots (fun vs H Q E h => spD_len h) (fun f cdv A outer s H vs Q E hr h => ?_)
  refine ⟨_, (PSs.nox
  (pss_cons (ps_expr (k_own (P := P) (w := w) (base := base) (o_need_sizes W) (hr.mono (by decide)) pass0 (by rfl) (pa_cons (pv 0) (pa_cons (pv 1) pa_nil))))
  (pss_cons (ps_set (i := 2) sc_list_lots.nd rfl (.inl rfl) (pe_lst pa_nil))
  (pss_cons (ps_for PassesOwn.never rfl (pi_range2 (by rfl) W.f_range (pa_cons pe_int (pa_cons (pe_op op_add (pe_callB (cMin2 rfl) (by rfl) W.f_min boot_min (pa_cons (pv 0) (pa_cons (pv 1) pa_nil))) pe_int) pa_nil))) (pg_name (i := 3) sc_list_lots.nd rfl (.inl rfl))
  (pss_cons (ps_set (i := 4) sc_list_lots.nd rfl (.inr rfl) (k_own (P := P) (w := w) (base := base) (o_rising_rows W) (hr.mono (by decide)) pass0 (by rfl) (pa_cons (pv 1) (pa_cons (pv 3) pa_nil))))
  (pss_one (ps_expr (pe_bm PySem.F.plainAttrs_list PySem.F.slot_list_extend PySem.F.type_list_extend mt_extend (pv 2) (pa_cons (pe_lc2 (own := [("jobs", 5), ("slots", 6)]) (vs1 := [6]) rfl sc_list_lots.nd (k_pilist K (k_own (P := P) (w := w) (base := base) (o_rising_rows W) (hr.mono (by decide)) pass0 (by rfl) (pa_cons (pv 0) (pa_cons (pv 3) pa_nil)))) (blkOk_by (N := ["sorts", "kinds", "lots", "size", "sides", "jobs", "slots"]) (sc := defScope (top 16)) (by decide +kernel)) (by decide) (fun _ _ _ _ _ => (pg_name (i := 5) sc_list_lots.nd rfl (.inl rfl))) (fun _ _ _ _ _ => pts_nil) (fun _ _ _ _ _ => (k_pilist K (pv 4))) (fun _ _ _ _ _ => (pg_name (i := 6) sc_list_lots.nd rfl (.inl rfl))) (fun _ _ _ _ _ => pts_nil) (fun _ _ _ _ _ => (pe_tup (pa_cons (pv 5) (pa_cons (pv 6) pa_nil))))) pa_nil))))))
  (pss_one (ps_ret (pe_callTy (k_tup K) (by rfl) W.f_tuple boot_tuple (pa_cons (pv 2) pa_nil)))))))), ?_⟩
  obtain ⟨ds, d, hn, hd, ⟨S, T, rfl, hS, hT, rfl⟩, q⟩ := h
  obtain ⟨a, b, rfl, da, db⟩ := dp2 hd
  cases da; cases db
  have hm := minI_le hS hT
  obtain ⟨s1, s2⟩ := id hS
  obtain ⟨t1, t2⟩ := id hT
  refine q_drop (EvD.non (K := K) (d_own (da_two (d_var rfl (.int S)) (d_var rfl (.int T))) ⟨S, T, rfl, by omega, by omega, rfl⟩)) fun H1 e1 => ?_
  refine q_setN (K := K) d_lst0 fun l xs0 H2 nl e2 hl dl => ?_
  have nl0 := fresh_back e1 nl
  refine q_forR2 (lo := 2) (n := minI S T + 1) (ev_of_int2 (K := K) d_ci (d_op (d_cb1 (da_two (d_var rfl (.int S)) (d_var rfl (.int T))) cd_min2) d_ci rd_add)) (by omega)
    (fun i σ' H' => ∃ t u, σ' = [some (.int S), some (.int T), some (.ref l), t, u, none, none] ∧ Ex H H' ∧ Ls K H' l ((lotsUp S T i).map tL)) (fun H3 e3 => ⟨none, none, rfl, (e1.trans e2).trans e3, ⟨xs0, e3 _ _ hl, dl.ex e3⟩⟩) ?_ ?_
  · rintro i σ' H' hi ⟨t, u, rfl, e, hl'⟩
    have hi3 : i ≤ 2 := by omega
    have ei : (2 : Int) + (i : Int) = ((i + 2 : Nat) : Int) := by omega
    refine q_setN (K := K) (n_own (da_two (d_var rfl (.int T)) (d_var rfl (.int (2 + (i : Int))))) ⟨T, i + 2, by rw [ei], hT, by omega, rfl⟩) fun p xs3 H3 np e3 hp dp => ?_
    have lsz := lotsUp_len hS hT (show i + 1 ≤ 3 by omega)
    have eL : lotsUp S T (i + 1) = lotsUp S T i ++ lotsOf S T (i + 2) := rfl
    rw [eL, List.length_append] at lsz
    have lsz2 : (lcT (rowsN S (i + 2)) (fun _ => rowsN T (i + 2)) (fun _ _ => true) fun j s => tL (j, s)) = (lotsOf S T (i + 2)).map tL := by
      unfold lcT lotsOf
      simp only [filt_all, List.map_flatMap, List.map_map]
      rfl
    refine s_extN (K := K) (hl'.ex e3) (flat_tLs _) (flat_tLs _) (ev_var rfl) (n_is (n_lc2T tI tI (rowsN S (i + 2)) (i_list (n_own (da_two (d_var rfl (.int S)) (d_var rfl (.int (2 + (i : Int))))) ⟨S, i + 2, by rw [ei], hS, by omega, rfl⟩).toD) (fun _ => rowsN T (i + 2)) (fun _ _ => true) (fun j s => tL (j, s))
      (by rw [lsz2, List.length_map]; omega) (fun _ _ _ _ _ => flat_tL _) ?_) lsz2) (by rw [List.length_map, List.length_map]; omega) fun H6 w6 l6 => ⟨_, _, rfl, w6.exB (e.trans e3) nl0, l6.cg (by rw [← List.map_append]; rfl)⟩
    intro j hj x B H4 eB eB1 dx Q1 k
    refine k _ rfl (ib_list rfl ((Dp.lst (sq_of hp) dp).ex eB)) fun c hc y B2 H5 eB2 eB3 dy Q2 k2 => ?_
    exact k2 _ rfl et_yes fun _ => d_tL (l := (j, c)) (d_var rfl (dx.ex eB2)) (d_var rfl dy)
  · rintro σ' H' ⟨t, u, rfl, e, hl'⟩
    have e9 : (minI S T + 1 - 2).toNat = (minI S T - 1).toNat := by omega
    rw [e9] at hl'
    exact s_retD (d_cb1 (da_one (d_var rfl hl'.toD)) cd_tupL) fun v H7 e7 hv => q v H7 (e.trans e7) hv
theorem sc_law_rows : FnScope ["_law_many", "_law_size", "_law_rows_here", "_law_turn", "_law_longer", "_law_row", "_law_one"] ["_law_many", "_law_size"] (defScope (top 33)) := ⟨rfl, rfl, rfl, by decide +kernel, rfl, by decide +kernel, by decide +kernel⟩
theorem bp_law_rows : BindsP "_law_rows" (top 33) ["_law_many", "_law_size"] := fun _ _ _ _ _ _ us hl => match us, hl with | [_, _], _ => rfl
theorem o_law_rows (W : Gs K mg) : OkF CX0 P w K mg base 1 "_law_rows" ["_law_many", "_law_size"] (spN K 2 Rrows) := by
  refine ok_of W.n_law_rows sc_law_rows bp_law_rows (fun vs H Q E h => spN_len h) (fun f cdv A outer s H vs Q E hr h => ?_)
  refine ⟨_, (PSs.nox
  (pss_cons (ps_set (i := 2) sc_law_rows.nd rfl (.inl rfl) (pe_lst (pa_cons (pe_tup pa_nil) pa_nil)))
  (pss_cons (ps_for PassesOwn.never rfl (pi_range1 (by rfl) W.f_range (pa_cons (pv 1) pa_nil)) (pg_name (i := 3) sc_law_rows.nd rfl (.inl rfl))
  (pss_cons (ps_set (i := 4) sc_law_rows.nd rfl (.inl rfl) (pe_lst pa_nil))
  (pss_cons (ps_for PassesOwn.never rfl (k_pilist K (pv 2)) (pg_name (i := 5) sc_law_rows.nd rfl (.inr rfl))
  (pss_one (ps_expr (pe_bm PySem.F.plainAttrs_list PySem.F.slot_list_extend PySem.F.type_list_extend mt_extend (pv 4) (pa_cons (pe_lc (own := [("_law_one", 6)]) rfl sc_law_rows.nd (pi_range1 (by rfl) W.f_range (pa_cons (pv 0) pa_nil)) (blkOk_by (N := ["_law_many", "_law_size", "_law_rows_here", "_law_turn", "_law_longer", "_law_row", "_law_one"]) (sc := defScope (top 33)) (by decide +kernel)) (fun _ _ _ _ _ => (pg_name (i := 6) sc_law_rows.nd rfl (.inl rfl))) (fun _ _ _ _ _ => (pts_one (PW.pt (pw_or (pt_cmpR (k_eqD K (room_u hr)) (pv 5) (pe_tup pa_nil) (nomark _)) (pw_or1 (pt_cmpR op_gt (pv 6) (pe_ix (k_ixT K) (pv 5) (pe_un un_neg pe_int) (fun _ _ => rfl)) (nomark _))))))) (fun _ _ _ _ _ => (pe_op (k_catA K) (pv 5) (pe_tup (pa_cons (pv 6) pa_nil))))) pa_nil)))))
  (pss_one (ps_set (i := 2) sc_law_rows.nd rfl (.inl rfl) (pv 4))))))
  (pss_one (ps_ret (pv 2)))))), ?_⟩
  obtain ⟨ds, es, hn, hd, ⟨m, n, rfl, hm, hn4, rfl⟩, q⟩ := h
  obtain ⟨a, b, rfl, da, db⟩ := dp2 hd
  cases da; cases db
  have hm4 := hm.2
  have hm1 := hm.1
  refine q_setN (K := K) (n_lst (da_one d_tI_nil) (show 1 ≤ 100000 by decide)) fun p0 xs0 H1 np0 e1 hp0 dp0 => ?_
  refine q_forR1 (ev_of_int (K := K) (d_var rfl (.int _))) (by omega) (fun i σ' H' => ∃ p t u r, σ' = [some (.int m), some (.int (n : Int)), some (.ref p), t, u, r, none] ∧ H p = none ∧ Ex H H' ∧ Ls K H' p ((rowsL m i).map tI)) (fun H2 e2 => ⟨p0, none, none, none, rfl, np0, e1.trans e2, ⟨xs0, e2 _ _ hp0, dp0.ex e2⟩⟩) ?_ ?_
  · rintro i σ' H' hi ⟨p, t, u, r, rfl, np, e, lp⟩
    have hi4 : i + 1 ≤ 4 := by omega
    refine q_setN (K := K) d_lst0 fun l xs1 H1 nl e1 hl dl => ?_
    have lp1 := lp.ex e1
    have npl := lp.off nl
    have nl0 := fresh_back e nl
    refine q_forVD tI (rowsL m i) rfl lp1 (flat_tIs _) fun xs hxs => ⟨fun j σ2 H2 => ∃ r, σ2 = [some (.int m), some (.int (n : Int)), some (.ref p), some (.int (i : Int)), some (.ref l), r, none] ∧ Fr K [l] H1 H2 ∧ Ls K H2 l ((rowsUpL m ((rowsL m i).take j)).map tI), ⟨_, rfl, Fr.refl, ⟨xs1, hl, dl⟩⟩, ?_, ?_, ?_⟩
    · rintro j σ2 H2 ⟨r, rfl, f, l2⟩
      exact ⟨f.at hxs (by simpa using npl), f.1⟩
    · rintro j r0 x σ2 H2 hr ⟨r, rfl, f, l2⟩ dx
      have sz := rowsUpL_len hm hi4 (i := j + 1)
      have eU : rowsUpL m ((rowsL m i).take (j + 1)) = rowsUpL m ((rowsL m i).take j) ++ ((upR 0 m).filter (goesUp r0)).map fun x => r0 ++ [x] := fm_take hr
      rw [eU, List.length_append] at sz
      have ln : r0.length ≤ 10000 := by
        have h1 := rowsL_eq hm (show i ≤ 4 by omega)
        have h2 := lens_up r0 (by rw [← h1]; exact List.mem_of_getElem? hr)
        omega
      refine s_extN (K := K) l2 (flat_tIs _) (flat_tIs (((upR 0 m).filter (goesUp r0)).map fun x => r0 ++ [x])) (ev_var rfl) (n_is (n_lcT .int (upR 0 m) (i_up1 (da_one (d_var rfl (.int m))) (by omega)) (goesUp r0) (fun x => tI (r0 ++ [x])) ?_ (fun _ _ _ => flat_tI _) ?_) ?_) ?_ fun H6 w6 l6 => ⟨_, rfl, f.trans (Fr.wr w6 (by simp)), l6.cg (by rw [← List.map_append, eU])⟩
      · unfold upR
        rw [List.length_map, List.length_range]
        omega
      · intro c hc y B H4 eB eB1 dy Q1 k
        refine k _ rfl (et_is (et_or (b := goesUp r0 c) (t_d (d_op (d_var rfl (dx.ex eB)) d_tI_nil rd_eqI')) fun z => ?_) (goesUp_or r0 c)) fun _ => d_snoc (d_var rfl (dx.ex eB)) (d_var rfl dy) ln
        have hne : r0 ≠ [] := of_decide_eq_false z
        obtain ⟨z2, hz2⟩ : ∃ z2, r0.getLast? = some z2 := ⟨_, List.getLast?_eq_getLast hne⟩
        have eg : goesUp r0 c = decide (z2 < c) := by
          unfold goesUp
          rw [hz2]
        rw [eg]
        exact t_d (d_op (d_var rfl dy) (d_atI (d_var rfl (dx.ex eB)) d_neg1 (last_at hz2)) rd_gt)
      · rw [List.map_map]
        rfl
      · rw [List.length_map, List.length_map]
        omega
    · rintro σ2 H2 ⟨r, rfl, f, l2⟩
      rw [List.take_length] at l2
      exact s_asg (ev_var rfl) fun H3 e3 => ⟨l, _, _, _, rfl, nl0, (f.exB (e.trans e1) (by simpa using nl0)).trans e3, l2.ex e3⟩
  · rintro σ' H' ⟨p, t, u, r, rfl, np, e, xs, hp, dp⟩
    rw [Int.toNat_natCast, rowsL_eq hm hn4] at dp
    exact s_ret (ev_var rfl) fun H2 e2 => q p xs H2 np (e.trans e2) (e2 _ _ hp) (dp.ex e2)
theorem sc_law_orders : FnScope ["_law_row", "_law_orders_here", "_law_turn", "_law_longer", "_law_order", "_law_one"] ["_law_row"] (defScope (top 34)) := ⟨rfl, rfl, rfl, by decide +kernel, rfl, by decide +kernel, by decide +kernel⟩
theorem bp_law_orders : BindsP "_law_orders" (top 34) ["_law_row"] := fun _ _ _ _ _ _ us hl => match us, hl with | [_], _ => rfl
theorem o_law_orders (W : Gs K mg) : OkF CX0 P w K mg base 1 "_law_orders" ["_law_row"] (spN K 1 fun ds es => ∃ r : Row, ds = [tI r] ∧ r.length ≤ 4 ∧ es = (orders r).map tI) := by
  refine ok_of W.n_law_orders sc_law_orders bp_law_orders (fun vs H Q E h => spN_len h) (fun f cdv A outer s H vs Q E hr h => ?_)
  refine ⟨_, (PSs.nox
  (pss_cons (ps_set (i := 1) sc_law_orders.nd rfl (.inl rfl) (pe_lst (pa_cons (pe_tup pa_nil) pa_nil)))
  (pss_cons (ps_for PassesOwn.never rfl (pi_range1 (by rfl) W.f_range (pa_cons (pe_callB (k_len K) (by rfl) W.f_len boot_len (pa_cons (pv 0) pa_nil)) pa_nil)) (pg_name (i := 2) sc_law_orders.nd rfl (.inl rfl))
  (pss_cons (ps_set (i := 3) sc_law_orders.nd rfl (.inl rfl) (pe_lst pa_nil))
  (pss_cons (ps_for PassesOwn.never rfl (k_pilist K (pv 1)) (pg_name (i := 4) sc_law_orders.nd rfl (.inr rfl))
  (pss_one (ps_expr (pe_bm PySem.F.plainAttrs_list PySem.F.slot_list_extend PySem.F.type_list_extend mt_extend (pv 3) (pa_cons (pe_lc (own := [("_law_one", 5)]) rfl sc_law_orders.nd (k_pitup K (pv 0)) (blkOk_by (N := ["_law_row", "_law_orders_here", "_law_turn", "_law_longer", "_law_order", "_law_one"]) (sc := defScope (top 34)) (by decide +kernel)) (fun _ _ _ _ _ => (pg_name (i := 5) sc_law_orders.nd rfl (.inl rfl))) (fun _ _ _ _ _ => (pts_one (pt_cmpR (k_nin K) (pv 5) (pv 4) (by rfl)))) (fun _ _ _ _ _ => (pe_op (k_catA K) (pv 4) (pe_tup (pa_cons (pv 5) pa_nil))))) pa_nil)))))
  (pss_one (ps_set (i := 1) sc_law_orders.nd rfl (.inl rfl) (pv 3))))))
  (pss_one (ps_ret (pv 1)))))), ?_⟩
  obtain ⟨ds, es, hn, hd, ⟨r, rfl, hr4, rfl⟩, q⟩ := h
  obtain ⟨a, rfl, da⟩ := dp1 hd
  refine q_setN (K := K) (n_lst (da_one d_tI_nil) (show 1 ≤ 100000 by decide)) fun p0 xs0 H1 np0 e1 hp0 dp0 => ?_
  refine q_forR1 (ev_of_int (K := K) (d_lenI (d_var rfl (da.ex e1)))) (by omega) (fun i σ' H' => ∃ p t u v, σ' = [some a, some (.ref p), t, u, v, none] ∧ H p = none ∧ Ex H H' ∧ Ls K H' p ((ordN r i).map tI)) (fun H2 e2 => ⟨p0, none, none, none, rfl, np0, e1.trans e2, ⟨xs0, e2 _ _ hp0, dp0.ex e2⟩⟩) ?_ ?_
  · rintro i σ' H' hi ⟨p, t, u, v, rfl, np, e, lp⟩
    have hi4 : i + 1 ≤ 4 := by omega
    refine q_setN (K := K) d_lst0 fun l xs1 H1 nl e1 hl dl => ?_
    have lp1 := lp.ex e1
    have npl := lp.off nl
    have nl0 := fresh_back e nl
    refine q_forVD tI (ordN r i) rfl lp1 (flat_tIs _) fun xs hxs => ⟨fun j σ2 H2 => ∃ v, σ2 = [some a, some (.ref p), some (.int (i : Int)), some (.ref l), v, none] ∧ Fr K [l] H1 H2 ∧ Ls K H2 l ((ordUp r ((ordN r i).take j)).map tI), ⟨_, rfl, Fr.refl, ⟨xs1, hl, dl⟩⟩, ?_, ?_, ?_⟩
    · rintro j σ2 H2 ⟨v, rfl, f, l2⟩
      exact ⟨f.at hxs (by simpa using npl), f.1⟩
    · rintro j o x σ2 H2 ho ⟨v, rfl, f, l2⟩ dx
      have sz : (ordUp r ((ordN r i).take (j + 1))).length ≤ 4 ^ (i + 1) := Nat.le_trans take_fm_len (ordN_len hr4 (i + 1))
      have sz3 : 4 ^ (i + 1) ≤ 4 ^ 4 := Nat.pow_le_pow_right (by decide) hi4
      have eU : ordUp r ((ordN r i).take (j + 1)) = ordUp r ((ordN r i).take j) ++ (r.filter fun x => !decide (x ∈ o)).map fun x => o ++ [x] := fm_take ho
      rw [eU, List.length_append] at sz
      have ln : o.length ≤ 10000 := by
        have h2 := ordN_lens o (List.mem_of_getElem? ho)
        omega
      refine s_extN (K := K) l2 (flat_tIs _) (flat_tIs ((r.filter fun x => !decide (x ∈ o)).map fun x => o ++ [x])) (ev_var rfl) (n_is (n_lcT .int r (i_tup (d_var rfl ((da.ex (e.trans e1)).tx f.1 (flat_tI r)))) (fun x => !decide (x ∈ o)) (fun x => tI (o ++ [x])) (by omega) (fun _ _ _ => flat_tI _) ?_) ?_) ?_ fun H6 w6 l6 => ⟨_, rfl, f.trans (Fr.wr w6 (by simp)), l6.cg (by rw [← List.map_append, eU])⟩
      · intro c hc y B H4 eB eB1 dy Q1 k
        exact k _ rfl (t_d (d_op (d_var rfl dy) (d_var rfl (dx.ex eB)) rd_niT)) fun _ => d_snoc (d_var rfl (dx.ex eB)) (d_var rfl dy) ln
      · rw [List.map_map]
        rfl
      · rw [List.length_map, List.length_map]
        omega
    · rintro σ2 H2 ⟨v, rfl, f, l2⟩
      rw [List.take_length] at l2
      exact s_asg (ev_var rfl) fun H3 e3 => ⟨l, _, _, _, rfl, nl0, (f.exB (e.trans e1) (by simpa using nl0)).trans e3, l2.ex e3⟩
  · rintro σ' H' ⟨p, t, u, v, rfl, np, e, xs, hp, dp⟩
    rw [Int.toNat_natCast] at dp
    exact s_ret (ev_var rfl) fun H2 e2 => q p xs H2 np (e.trans e2) (e2 _ _ hp) (dp.ex e2)
theorem sc_law_lots : FnScope ["_law_sorts", "_law_kinds", "_law_lots_here", "_law_size", "_law_jobs", "_law_slots"] ["_law_sorts", "_law_kinds"] (defScope (top 35)) := ⟨rfl, rfl, rfl, by decide +kernel, rfl, by decide +kernel, by decide +kernel⟩
theorem bp_law_lots : BindsP "_law_lots" (top 35) ["_law_sorts", "_law_kinds"] := fun _ _ _ _ _ _ us hl => match us, hl with | [_, _], _ => rfl
theorem o_law_lots (W : Gs K mg) : OkF CX0 P w K mg base 2 "_law_lots" ["_law_sorts", "_law_kinds"] (spN K 2 fun ds es => ∃ S T : Int, ds = [.int S, .int T] ∧ small S ∧ small T ∧ es = (lots S T).map tL) := by
  refine ok_of W.n_law_lots sc_law_lots bp_law_lots (fun vs H Q E h => spN_len h) (fun f cdv A outer s H vs Q E hr h => ?_)
  refine ⟨_, (PSs.nox
  (pss_cons (ps_set (i := 2) sc_law_lots.nd rfl (.inl rfl) (pe_lst pa_nil))
  (pss_cons (ps_for PassesOwn.never rfl (pi_range2 (by rfl) W.f_range (pa_cons pe_int (pa_cons (pe_op op_add (pe_callB (cMin2 rfl) (by rfl) W.f_min boot_min (pa_cons (pv 0) (pa_cons (pv 1) pa_nil))) pe_int) pa_nil))) (pg_name (i := 3) sc_law_lots.nd rfl (.inl rfl))
  (pss_one (ps_for PassesOwn.never rfl (k_pilist K (k_own (P := P) (w := w) (base := base) (o_law_rows W) (hr.mono (by decide)) pass0 (by rfl) (pa_cons (pv 0) (pa_cons (pv 3) pa_nil)))) (pg_name (i := 4) sc_law_lots.nd rfl (.inr rfl))
  (pss_one (ps_expr (pe_bm PySem.F.plainAttrs_list PySem.F.slot_list_extend PySem.F.type_list_extend mt_extend (pv 2) (pa_cons (pe_lc (own := [("_law_slots", 5)]) rfl sc_law_lots.nd (k_pilist K (k_own (P := P) (w := w) (base := base) (o_law_rows W) (hr.mono (by decide)) pass0 (by rfl) (pa_cons (pv 1) (pa_cons (pv 3) pa_nil)))) (blkOk_by (N := ["_law_sorts", "_law_kinds", "_law_lots_here", "_law_size", "_law_jobs", "_law_slots"]) (sc := defScope (top 35)) (by decide +kernel)) (fun _ _ _ _ _ => (pg_name (i := 5) sc_law_lots.nd rfl (.inl rfl))) (fun _ _ _ _ _ => pts_nil) (fun _ _ _ _ _ => (pe_tup (pa_cons (pv 4) (pa_cons (pv 5) pa_nil))))) pa_nil)))))))
  (pss_one (ps_ret (pv 2)))))), ?_⟩
  obtain ⟨ds, es, hn, hd, ⟨S, T, rfl, hS, hT, rfl⟩, q⟩ := h
  obtain ⟨a, b, rfl, da, db⟩ := dp2 hd
  cases da; cases db
  have hm := minI_le hS hT
  obtain ⟨s1, s2⟩ := id hS
  obtain ⟨t1, t2⟩ := id hT
  refine q_setN (K := K) d_lst0 fun l xs0 H2 nl0 e2 hl dl => ?_
  refine q_forR2 (lo := 2) (n := minI S T + 1) (ev_of_int2 (K := K) d_ci (d_op (d_cb1 (da_two (d_var rfl (.int S)) (d_var rfl (.int T))) cd_min2) d_ci rd_add)) (by omega)
    (fun i σ' H' => ∃ t u, σ' = [some (.int S), some (.int T), some (.ref l), t, u, none] ∧ Ex H H' ∧ Ls K H' l ((lotsUp S T i).map tL)) (fun H3 e3 => ⟨none, none, rfl, e2.trans e3, ⟨xs0, e3 _ _ hl, dl.ex e3⟩⟩) ?_ ?_
  · rintro i σ' H' hi ⟨t, u, rfl, e, hl'⟩
    have hi3 : i ≤ 2 := by omega
    have ei : (2 : Int) + (i : Int) = ((i + 2 : Nat) : Int) := by omega
    refine s_forND (K := K) tI (rowsN S (i + 2)) (n_own (da_two (d_var rfl (.int S)) (d_var rfl (.int (2 + (i : Int))))) ⟨S, i + 2, by rw [ei], hS, by omega, rfl⟩) (flat_tIs _) fun p xs H1 np e1 hp dp =>
      ⟨fun j σ2 H2 => ∃ u, σ2 = [some (.int S), some (.int T), some (.ref l), some (.int (2 + (i : Int))), u, none] ∧ Fr K [l] H1 H2 ∧ Ls K H2 l ((lotsUp S T i ++ ((rowsN S (i + 2)).take j).flatMap fun j => (rowsN T (i + 2)).map fun s => (j, s)).map tL), ⟨_, rfl, Fr.refl, (hl'.ex e1).cg (by simp)⟩, ?_, ?_, ?_⟩
    · rintro j σ2 H2 ⟨u, rfl, f, l2⟩
      exact ⟨f.at hp (by simpa using (hl'.off np).symm), f.1⟩
    · rintro j r0 x σ2 H2 hr ⟨u, rfl, f, l2⟩ dx
      have lsz := lotsUp_len hS hT (show i + 1 ≤ 3 by omega)
      have eL : lotsUp S T (i + 1) = lotsUp S T i ++ lotsOf S T (i + 2) := rfl
      have eU : ((rowsN S (i + 2)).take (j + 1)).flatMap (fun j => (rowsN T (i + 2)).map fun s => (j, s)) = ((rowsN S (i + 2)).take j).flatMap (fun j => (rowsN T (i + 2)).map fun s => (j, s)) ++ (rowsN T (i + 2)).map fun s => (r0, s) := fm_take hr
      have lsz2 : (((rowsN S (i + 2)).take (j + 1)).flatMap fun j => (rowsN T (i + 2)).map fun s => (j, s)).length ≤ (lotsOf S T (i + 2)).length := take_fm_len
      rw [eL, List.length_append] at lsz
      rw [eU, List.length_append, List.length_map] at lsz2
      have rl := rowsN_len hT (show i + 2 ≤ 4 by omega)
      refine s_extN (K := K) l2 (flat_tLs _) (flat_tLs ((rowsN T (i + 2)).map fun s => (r0, s))) (ev_var rfl) (n_is (n_lcT tI (rowsN T (i + 2)) (i_list (n_own (da_two (d_var rfl (.int T)) (d_var rfl (.int (2 + (i : Int))))) ⟨T, i + 2, by rw [ei], hT, by omega, rfl⟩).toD) (fun _ => true) (fun s => tL (r0, s)) (by omega) (fun _ _ _ => flat_tL _) ?_) ?_) ?_ fun H6 w6 l6 => ⟨_, rfl, f.trans (Fr.wr w6 (by simp)), l6.cg (by rw [← List.map_append, eU, List.append_assoc])⟩
      · intro c hc y B H4 eB eB1 dy Q1 k
        exact k _ rfl et_yes fun _ => d_tL (l := (r0, c)) (d_var rfl (dx.ex eB)) (d_var rfl dy)
      · rw [filt_all, List.map_map]
        rfl
      · rw [List.length_map, List.length_map, List.length_append, List.length_map]
        omega
    · rintro σ2 H2 ⟨u, rfl, f, l2⟩
      rw [List.take_length] at l2
      exact ⟨_, _, rfl, f.exB (e.trans e1) (by simpa using nl0), l2⟩
  · rintro σ' H' ⟨t, u, rfl, e, xs, hp, dp⟩
    have e9 : (minI S T + 1 - 2).toNat = (minI S T - 1).toNat := by omega
    rw [e9] at dp
    exact s_ret (ev_var rfl) fun H2 e2 => q l xs H2 nl0 (e.trans e2) (e2 _ _ hp) (dp.ex e2)
end
end K11
/-! small lots, parts, fits, permutations, longer pairings -/
namespace K11
open PySem PySem.Spec PyProof.Rows L2 Evl
abbrev Rones : List PyData → (Lot → Option Row) → Prop := fun ds T => ∃ S U : Int, ds = [.int S, .int U] ∧ small S ∧ small U ∧ T = ones S U
def spFits (P : Program) (w : World) (K : PySem.W.Frag) : Sp := fun vs H Q _ => ∃ a v1 v2 n T l p, vs = [.ref a, v1, v2] ∧ DT P w K H a n T ∧ Dp K H v1 (tL l) ∧ Dp K H v2 (tI p) ∧ p.length = l.1.length ∧ p.length ≤ 10 ∧ l.2.length ≤ 10 ∧
  (∀ i, i < p.length → (T (partL l p i)).isSome = true) ∧ ∀ H', Ex H H' → Q (.bl (fitsB T l p)) H'
theorem spFits_len {P : Program} {w : World} {K : PySem.W.Frag} {vs : List V} {H : Hp} {Q : VK} {E : XK} (h : spFits P w K vs H Q E) : vs.length = 3 := by
  obtain ⟨_, _, _, _, _, _, _, rfl, _⟩ := h
  rfl
theorem all_range_succ {f : Nat → Bool} {i : Nat} : (List.range (i + 1)).all f = ((List.range i).all f && f i) := by
  rw [List.range_succ, List.all_append, List.all_cons, List.all_nil, Bool.and_true]
theorem all_range_le {f : Nat → Bool} {i n : Nat} (h : i < n) (hf : f i = false) : (List.range n).all f = false := by
  rw [List.all_eq_false]
  exact ⟨i, List.mem_range.mpr h, by rw [hf]; decide⟩
theorem eqv_lI (r s : Row) : PyData.eqv (.list (r.map .int)) (.list (s.map .int)) = decide (r = s) := by rw [PyData.eqv, eqvAll_ints]
theorem shp_lI (r : Row) : SeqAt.shaped (.list (r.map .int)) = true := by
  unfold SeqAt.shaped
  rw [PyData.canLay0, lay_ints, PyData.depth, dep_ints]
  rfl
theorem flat_tP (p : Pair) : flat (tP p) = true := rfl
section
variable {P : Program} {w : World} {K : PySem.W.Frag} {mg : Str → Option Value} {base : Heap}
theorem sc_small_lots : FnScope ["sorts", "kinds", "told", "sort", "kind"] ["sorts", "kinds"] (defScope (top 17)) := ⟨rfl, rfl, rfl, by decide +kernel, rfl, by decide +kernel, by decide +kernel⟩
theorem bp_small_lots : BindsP "small_lots" (top 17) ["sorts", "kinds"] := fun _ _ _ _ _ _ us hl => match us, hl with | [_, _], _ => rfl
theorem o_small_lots (W : Gs K mg) : OkF CX0 P w K mg base 1 "small_lots" ["sorts", "kinds"] (spNT P w K 2 Rones) := by
  refine ok_of W.n_small_lots sc_small_lots bp_small_lots (fun vs H Q E h => spNT_len h) (fun f cdv A outer s H vs Q E hr h => ?_)
  refine ⟨_, (PSs.nox
  (pss_cons (ps_set (i := 2) sc_small_lots.nd rfl (.inl rfl) (k_none K P w (room_n hr) (pe_tup (pa_cons (pe_tup pa_nil) (pa_cons (pe_tup pa_nil) pa_nil))) (pe_tup pa_nil)))
  (pss_cons (ps_for PassesOwn.never rfl (pi_range1 (by rfl) W.f_range (pa_cons (pv 0) pa_nil)) (pg_name (i := 3) sc_small_lots.nd rfl (.inl rfl))
  (pss_one (ps_for PassesOwn.never rfl (pi_range1 (by rfl) W.f_range (pa_cons (pv 1) pa_nil)) (pg_name (i := 4) sc_small_lots.nd rfl (.inl rfl))
  (pss_one (k_nput K P w (room_n hr) (pv 2) (pe_tup (pa_cons (pe_tup (pa_cons (pv 3) pa_nil)) (pa_cons (pe_tup (pa_cons (pv 4) pa_nil)) pa_nil))) (pe_tup (pa_cons (pv 4) pa_nil)) (by rfl))))))
  (pss_one (ps_ret (pv 2)))))), ?_⟩
  obtain ⟨ds, T, hn, hd, ⟨S, U, rfl, hS, hU, rfl⟩, q⟩ := h
  obtain ⟨v1, v2, rfl, da, db⟩ := dp2 hd
  cases da; cases db
  obtain ⟨s1, s2⟩ := id hS
  obtain ⟨t1, t2⟩ := id hU
  refine q_none (K := K) (ds := [tI [], tI []]) (d_tL (l := ([], [])) d_tI_nil d_tI_nil) rfl (kdep_tL ([], [])) d_tI_nil (flat_tI []) fun a H1 na e1 d1 => ?_
  have t1' : DT P w K H1 a 1 (onesP U 0 0) := by
    rw [onesP_0]
    exact ⟨_, d1, setT_G (G := fun _ => none) (T := fun _ => none) (fun _ => rfl) ([], []) []⟩
  refine q_forR1 (ev_of_int (K := K) (d_var rfl (.int S))) (by omega) (fun i σ' H' => ∃ t u, σ' = [some (.int S), some (.int U), some (.ref a), t, u] ∧ Ex H H' ∧ DT P w K H' a (1 + 5 * i) (onesP U (i : Int) 0)) (fun H2 e2 => ⟨none, none, rfl, e1.trans e2, t1'.ex e2⟩) ?_ ?_
  · rintro i σ' H' hi ⟨t, u, rfl, e, dt⟩
    refine s_forR1 (ev_of_int (K := K) (d_var rfl (.int U))) (by omega) (fun j σ2 H2 => ∃ u, σ2 = [some (.int S), some (.int U), some (.ref a), some (.int (i : Int)), u] ∧ Ex H H2 ∧ DT P w K H2 a (1 + 5 * i + j) (onesP U (i : Int) (j : Int))) (fun H2 e2 => ⟨_, rfl, e.trans e2, dt.ex e2⟩) ?_ ?_
    · rintro j σ2 H2 hj ⟨u, rfl, e2, dt2⟩
      refine s_tput (K := K) (d_tI_lit (d_var rfl (.int (j : Int)))) (ev_var rfl) dt2 (by omega) (d_tL (l := ([(i : Int)], [(j : Int)])) (d_tI_lit (d_var rfl (.int (i : Int)))) (d_tI_lit (d_var rfl (.int (j : Int))))) fun H3 w3 dt3 => ⟨_, rfl, w3.exB e2 na, ?_⟩
      have es := onesP_set (K := U) (i := (i : Int)) (j := (j : Int)) (Int.natCast_nonneg i) ⟨Int.natCast_nonneg j, hj⟩
      have es2 : setT (onesP U (i : Int) (j : Int)) ([(i : Int)], [(j : Int)]) [(j : Int)] = onesP U (i : Int) ((j + 1 : Nat) : Int) := es
      rw [es2] at dt3
      exact dt3
    · rintro σ2 H2 ⟨u, rfl, e2, dt2⟩
      have e5 : ((U.toNat : Nat) : Int) = U := Int.toNat_of_nonneg (by omega)
      rw [e5, onesP_next (Int.natCast_nonneg i)] at dt2
      exact ⟨_, _, rfl, e2, dt2.up (by omega)⟩
  · rintro σ' H' ⟨t, u, rfl, e, dt⟩
    have e5 : ((S.toNat : Nat) : Int) = S := Int.toNat_of_nonneg (by omega)
    rw [e5] at dt
    exact s_ret (ev_var rfl) fun H2 e2 => q a H2 na (e.trans e2) ((dt.ex e2).up (by omega))
theorem sc_law_ones : FnScope ["_law_sorts", "_law_kinds", "_law_told", "_law_sort", "_law_kind"] ["_law_sorts", "_law_kinds"] (defScope (top 36)) := ⟨rfl, rfl, rfl, by decide +kernel, rfl, by decide +kernel, by decide +kernel⟩
theorem bp_law_ones : BindsP "_law_ones" (top 36) ["_law_sorts", "_law_kinds"] := fun _ _ _ _ _ _ us hl => match us, hl with | [_, _], _ => rfl
theorem o_law_ones (W : Gs K mg) : OkF CX0 P w K mg base 1 "_law_ones" ["_law_sorts", "_law_kinds"] (spNT P w K 2 Rones) := by
  refine ok_of W.n_law_ones sc_law_ones bp_law_ones (fun vs H Q E h => spNT_len h) (fun f cdv A outer s H vs Q E hr h => ?_)
  refine ⟨_, (PSs.nox
  (pss_cons (ps_set (i := 2) sc_law_ones.nd rfl (.inl rfl) (k_nnew K P w))
  (pss_cons (k_nput K P w (room_n hr) (pv 2) (pe_tup (pa_cons (pe_tup pa_nil) (pa_cons (pe_tup pa_nil) pa_nil))) (pe_tup pa_nil) (by rfl))
  (pss_cons (ps_for PassesOwn.never rfl (pi_range1 (by rfl) W.f_range (pa_cons (pv 0) pa_nil)) (pg_name (i := 3) sc_law_ones.nd rfl (.inl rfl))
  (pss_one (ps_for PassesOwn.never rfl (pi_range1 (by rfl) W.f_range (pa_cons (pv 1) pa_nil)) (pg_name (i := 4) sc_law_ones.nd rfl (.inl rfl))
  (pss_one (k_nput K P w (room_n hr) (pv 2) (pe_tup (pa_cons (pe_tup (pa_cons (pv 3) pa_nil)) (pa_cons (pe_tup (pa_cons (pv 4) pa_nil)) pa_nil))) (pe_tup (pa_cons (pv 4) pa_nil)) (by rfl))))))
  (pss_one (ps_ret (pv 2))))))), ?_⟩
  obtain ⟨ds, T, hn, hd, ⟨S, U, rfl, hS, hU, rfl⟩, q⟩ := h
  obtain ⟨v1, v2, rfl, da, db⟩ := dp2 hd
  cases da; cases db
  obtain ⟨s1, s2⟩ := id hS
  obtain ⟨t1, t2⟩ := id hU
  refine q_nnew fun a H0 na e0 d0 => ?_
  refine q_tput (K := K) d_tI_nil (ev_var rfl) (⟨_, d0, fun _ => rfl⟩ : DT P w K H0 a 0 (fun _ => none)) (by omega) (d_tL (l := ([], [])) d_tI_nil d_tI_nil) fun H1 w1 dt1 => ?_
  have e1 : Ex H H1 := w1.exB e0 na
  have t1' : DT P w K H1 a 1 (onesP U 0 0) := by
    rw [onesP_0]
    exact dt1
  refine q_forR1 (ev_of_int (K := K) (d_var rfl (.int S))) (by omega) (fun i σ' H' => ∃ t u, σ' = [some (.int S), some (.int U), some (.ref a), t, u] ∧ Ex H H' ∧ DT P w K H' a (1 + 5 * i) (onesP U (i : Int) 0)) (fun H2 e2 => ⟨none, none, rfl, e1.trans e2, t1'.ex e2⟩) ?_ ?_
  · rintro i σ' H' hi ⟨t, u, rfl, e, dt⟩
    refine s_forR1 (ev_of_int (K := K) (d_var rfl (.int U))) (by omega) (fun j σ2 H2 => ∃ u, σ2 = [some (.int S), some (.int U), some (.ref a), some (.int (i : Int)), u] ∧ Ex H H2 ∧ DT P w K H2 a (1 + 5 * i + j) (onesP U (i : Int) (j : Int))) (fun H2 e2 => ⟨_, rfl, e.trans e2, dt.ex e2⟩) ?_ ?_
    · rintro j σ2 H2 hj ⟨u, rfl, e2, dt2⟩
      refine s_tput (K := K) (d_tI_lit (d_var rfl (.int (j : Int)))) (ev_var rfl) dt2 (by omega) (d_tL (l := ([(i : Int)], [(j : Int)])) (d_tI_lit (d_var rfl (.int (i : Int)))) (d_tI_lit (d_var rfl (.int (j : Int))))) fun H3 w3 dt3 => ⟨_, rfl, w3.exB e2 na, ?_⟩
      have es := onesP_set (K := U) (i := (i : Int)) (j := (j : Int)) (Int.natCast_nonneg i) ⟨Int.natCast_nonneg j, hj⟩
      have es2 : setT (onesP U (i : Int) (j : Int)) ([(i : Int)], [(j : Int)]) [(j : Int)] = onesP U (i : Int) ((j + 1 : Nat) : Int) := es
      rw [es2] at dt3
      exact dt3
    · rintro σ2 H2 ⟨u, rfl, e2, dt2⟩
      have e5 : ((U.toNat : Nat) : Int) = U := Int.toNat_of_nonneg (by omega)
      rw [e5, onesP_next (Int.natCast_nonneg i)] at dt2
      exact ⟨_, _, rfl, e2, dt2.up (by omega)⟩
  · rintro σ' H' ⟨t, u, rfl, e, dt⟩
    have e5 : ((S.toNat : Nat) : Int) = S := Int.toNat_of_nonneg (by omega)
    rw [e5] at dt
    exact s_ret (ev_var rfl) fun H2 e2 => q a H2 na (e.trans e2) ((dt.ex e2).up (by omega))
theorem sc_without_pair : FnScope ["lot", "pairing", "at", "jobs", "kind", "slots", "one"] ["lot", "pairing", "at"] (defScope (top 18)) := ⟨rfl, rfl, rfl, by decide +kernel, rfl, by decide +kernel, by decide +kernel⟩
theorem bp_without_pair : BindsP "without_pair" (top 18) ["lot", "pairing", "at"] := fun _ _ _ _ _ _ us hl => match us, hl with | [_, _, _], _ => rfl
theorem o_without_pair (W : Gs K mg) : OkF CX0 P w K mg base 1 "without_pair" ["lot", "pairing", "at"] (spD K 3 fun ds d => ∃ (l : Lot) (p : Row) (i : Nat), ds = [tL l, tI p, .int (i : Int)] ∧ i < p.length ∧ p.length = l.1.length ∧ p.length ≤ 10 ∧ l.2.length ≤ 10 ∧ d = .tuple [tL (partL l p i), tI (dropAt p i)]) := by
  refine ok_of W.n_without_pair sc_without_pair bp_without_pair (fun vs H Q E h => spD_len h) (fun f cdv A outer s H vs Q E hr h => ?_)
  refine ⟨_, (PSs.nox
  (pss_cons (ps_asg (pe_tup (pa_cons (pe_ix (k_ixT K) (pv 0) pe_int (fun _ _ => rfl)) (pa_cons (pe_ix (k_ixT K) (pv 1) (pv 2) (fun _ _ => rfl)) pa_nil))) (k_pgtup K (n := 2) rfl (pgs_cons (pg_name (i := 3) sc_without_pair.nd rfl (.inl rfl)) (pgs_cons (pg_name (i := 4) sc_without_pair.nd rfl (.inr rfl)) pgs_nil))))
  (pss_cons (ps_set (i := 5) sc_without_pair.nd rfl (.inl rfl) (pe_callTy (k_tup K) (by rfl) W.f_tuple boot_tuple (pa_cons (pe_lc (own := [("one", 6)]) rfl sc_without_pair.nd (k_pitup K (pe_ix (k_ixT K) (pv 0) pe_int (fun _ _ => rfl))) (blkOk_by (N := ["lot", "pairing", "at", "jobs", "kind", "slots", "one"]) (sc := defScope (top 18)) (by decide +kernel)) (fun _ _ _ _ _ => (pg_name (i := 6) sc_without_pair.nd rfl (.inl rfl))) (fun _ _ _ _ _ => (pts_one (pt_cmpR op_ne (pv 6) (pv 4) (nomark _)))) (fun _ _ _ _ _ => (pv 6))) pa_nil)))
  (pss_one (ps_ret (pe_tup (pa_cons (pe_tup (pa_cons (pe_op (k_catA K) (pe_slice (k_slT K) (pv 3) po_none (po_some (pv 2))) (pe_slice (k_slT K) (pv 3) (po_some (pe_op op_add (pv 2) pe_int)) po_none)) (pa_cons (pv 5) pa_nil))) (pa_cons (pe_op (k_catA K) (pe_slice (k_slT K) (pv 1) po_none (po_some (pv 2))) (pe_slice (k_slT K) (pv 1) (po_some (pe_op op_add (pv 2) pe_int)) po_none)) pa_nil)))))))), ?_⟩
  obtain ⟨ds, d, hn, hd, ⟨l, p, i, rfl, hi, hl, hp, hs, rfl⟩, q⟩ := h
  obtain ⟨v1, v2, v3, rfl, d1, d2, d3⟩ := dp3 hd
  refine q_asgTup (K := K) (d_tup (da_two (d_lot0 (d_var rfl d1)) (d_atI (d_var rfl d2) (d_var rfl d3) (atI_kind hi))) (show 2 ≤ 100000 by decide)) fun v4 v5 H1 e1 d4 d5 => ?_
  cases d5
  refine q_setD (K := K) (d_cb1 (da_one (n_lcT .int l.2 (i_tup (d_lot1 (d_var rfl (d1.ex e1)))) (fun x => !decide (x = kindAt p i)) .int (by omega) (fun _ _ _ => rfl) ?_).toD) cd_tupL) fun v6 H2 e2 d6 => ?_
  · intro c hc y B H4 eB eB1 dy Q1 k
    exact k _ rfl (t_d (d_op (d_var rfl dy) (d_var rfl (.int _)) rd_neI)) fun _ => d_var rfl dy
  · have e3 := e1.trans e2
    exact s_retD (d_tup (da_two (d_tL (l := partL l p i) (d_dropAt (d_var rfl (d4.ex e2)) (d_var rfl (d4.ex e2)) (d_var rfl (d3.ex e3)) (d_var rfl (d3.ex e3)) (by omega) (by omega)) (d_var rfl d6)) (d_dropAt (d_var rfl (d2.ex e3)) (d_var rfl (d2.ex e3)) (d_var rfl (d3.ex e3)) (d_var rfl (d3.ex e3)) hi (by omega))) (show 2 ≤ 100000 by decide)) fun v H3 e4 hv => q v H3 (e3.trans e4) hv
theorem sc_fits_parts : FnScope ["told", "lot", "pairing", "at", "part", "rest"] ["told", "lot", "pairing"] (defScope (top 19)) := ⟨rfl, rfl, rfl, by decide +kernel, rfl, by decide +kernel, by decide +kernel⟩
theorem bp_fits_parts : BindsP "fits_parts" (top 19) ["told", "lot", "pairing"] := fun _ _ _ _ _ _ us hl => match us, hl with | [_, _, _], _ => rfl
theorem o_fits_parts (W : Gs K mg) : OkF CX0 P w K mg base 2 "fits_parts" ["told", "lot", "pairing"] (spFits P w K) := by
  refine ok_of W.n_fits_parts sc_fits_parts bp_fits_parts (fun vs H Q E h => spFits_len h) (fun f cdv A outer s H vs Q E hr h => ?_)
  refine ⟨_, (PSs.nox
  (pss_cons (ps_for PassesOwn.never rfl (pi_range1 (by rfl) W.f_range (pa_cons (pe_callB (k_len K) (by rfl) W.f_len boot_len (pa_cons (pv 2) pa_nil)) pa_nil)) (pg_name (i := 3) sc_fits_parts.nd rfl (.inl rfl))
  (pss_cons (ps_asg (k_own (P := P) (w := w) (base := base) (o_without_pair W) (hr.mono (by decide)) pass0 (by rfl) (pa_cons (pv 1) (pa_cons (pv 2) (pa_cons (pv 3) pa_nil)))) (k_pgtup K (n := 2) rfl (pgs_cons (pg_name (i := 4) sc_fits_parts.nd rfl (.inl rfl)) (pgs_cons (pg_name (i := 5) sc_fits_parts.nd rfl (.inl rfl)) pgs_nil))))
  (pss_one (ps_if (pt_cmpR (k_neD K (room_u hr)) (k_nget K P w (room_n hr) (pv 0) (pv 4) (fun _ _ => rfl)) (pv 5) (nomark _)) (pss_one (ps_ret pe_bl)) pss_nil))))
  (pss_one (ps_ret pe_bl)))), ?_⟩
  obtain ⟨a, v1, v2, n, T, l, p, rfl, dt, d1, d2, hl, hp, hs, hT, q⟩ := h
  refine q_forR1 (ev_of_int (K := K) (d_lenI (d_var rfl d2))) (by omega) (fun i σ' H' => ∃ t u v, σ' = [some (.ref a), some v1, some v2, t, u, v] ∧ Ex H H' ∧ ((List.range i).all fun i => decide (T (partL l p i) = some (dropAt p i))) = true) (fun H2 e2 => ⟨none, none, none, rfl, e2, rfl⟩) ?_ ?_
  · rintro i σ' H' hi ⟨t, u, v, rfl, e, ok⟩
    have hi' : i < p.length := by omega
    refine q_asgTup (K := K) (d_own (da_cons (d_var rfl (d1.ex e)) (da_two (d_var rfl (d2.ex e)) (d_var rfl (.int (i : Int))))) ⟨l, p, i, rfl, hi', hl, hp, hs, rfl⟩) fun u2 v2' H1 e1 du dv => ?_
    obtain ⟨r, hr⟩ := Option.isSome_iff_exists.mp (hT i hi')
    refine s_if (t_d (d_op (d_tget (ev_var rfl) (dt.ex (e.trans e1)) (d_var rfl du) hr) (d_var rfl dv) rd_neI')) (fun z H3 e3 => ?_) fun z H3 e3 => ?_
    · have ne : r ≠ dropAt p i := by simpa using z
      refine s_ret ev_c fun H4 e4 => ?_
      have eq : fitsB T l p = false := all_range_le hi' (decide_eq_false fun z2 => ne (Option.some.inj (hr.symm.trans z2)))
      have q2 := q H4 (((e.trans e1).trans e3).trans e4)
      rw [eq] at q2
      exact q2
    · have eq : r = dropAt p i := by simpa using z
      refine ⟨_, _, _, rfl, (e.trans e1).trans e3, ?_⟩
      rw [all_range_succ, ok, hr, eq]
      simp
  · rintro σ' H' ⟨t, u, v, rfl, e, ok⟩
    rw [Int.toNat_natCast] at ok
    refine s_ret ev_c fun H4 e4 => ?_
    have q2 := q H4 (e.trans e4)
    have eq : fitsB T l p = true := ok
    rw [eq] at q2
    exact q2
theorem sc_law_fits : FnScope ["_law_told", "_law_lot", "_law_pairing", "_law_jobs", "_law_slots", "_law_at", "_law_less", "_law_kind"] ["_law_told", "_law_lot", "_law_pairing"] (defScope (top 37)) := ⟨rfl, rfl, rfl, by decide +kernel, rfl, by decide +kernel, by decide +kernel⟩
theorem bp_law_fits : BindsP "_law_fits" (top 37) ["_law_told", "_law_lot", "_law_pairing"] := fun _ _ _ _ _ _ us hl => match us, hl with | [_, _, _], _ => rfl
theorem o_law_fits (W : Gs K mg) : OkF CX0 P w K mg base 1 "_law_fits" ["_law_told", "_law_lot", "_law_pairing"] (spFits P w K) := by
  refine ok_of W.n_law_fits sc_law_fits bp_law_fits (fun vs H Q E h => spFits_len h) (fun f cdv A outer s H vs Q E hr h => ?_)
  refine ⟨_, (PSs.nox
  (pss_cons (ps_asg (pv 1) (k_pgtup K (n := 2) rfl (pgs_cons (pg_name (i := 3) sc_law_fits.nd rfl (.inl rfl)) (pgs_cons (pg_name (i := 4) sc_law_fits.nd rfl (.inl rfl)) pgs_nil))))
  (pss_cons (ps_for PassesOwn.never rfl (pi_range1 (by rfl) W.f_range (pa_cons (pe_callB (k_len K) (by rfl) W.f_len boot_len (pa_cons (pv 3) pa_nil)) pa_nil)) (pg_name (i := 5) sc_law_fits.nd rfl (.inr rfl))
  (pss_cons (ps_set (i := 6) sc_law_fits.nd rfl (.inl rfl) (pe_callTy (k_tup K) (by rfl) W.f_tuple boot_tuple (pa_cons (pe_lc (own := [("_law_kind", 7)]) rfl sc_law_fits.nd (k_pitup K (pv 4)) (blkOk_by (N := ["_law_told", "_law_lot", "_law_pairing", "_law_jobs", "_law_slots", "_law_at", "_law_less", "_law_kind"]) (sc := defScope (top 37)) (by decide +kernel)) (fun _ _ _ _ _ => (pg_name (i := 7) sc_law_fits.nd rfl (.inl rfl))) (fun _ _ _ _ _ => (pts_one (pt_cmpR op_ne (pv 7) (pe_ix (k_ixT K) (pv 2) (pv 5) (fun _ _ => rfl)) (nomark _)))) (fun _ _ _ _ _ => (pv 7))) pa_nil)))
  (pss_one (ps_if (pt_cmpR (k_neD K (room_u hr)) (k_nget K P w (room_n hr) (pv 0) (pe_tup (pa_cons (pe_op (k_catA K) (pe_slice (k_slT K) (pv 3) po_none (po_some (pv 5))) (pe_slice (k_slT K) (pv 3) (po_some (pe_op op_add (pv 5) pe_int)) po_none)) (pa_cons (pv 6) pa_nil))) (fun _ _ => rfl)) (pe_op (k_catA K) (pe_slice (k_slT K) (pv 2) po_none (po_some (pv 5))) (pe_slice (k_slT K) (pv 2) (po_some (pe_op op_add (pv 5) pe_int)) po_none)) (nomark _)) (pss_one (ps_ret pe_bl)) pss_nil))))
  (pss_one (ps_ret pe_bl))))), ?_⟩
  obtain ⟨a, v1, v2, n, T, l, p, rfl, dt, d1, d2, hl, hp, hs, hT, q⟩ := h
  refine q_asgTup (K := K) (d_var rfl d1) fun vj vs H0 e0 dj dsl => ?_
  refine q_forR1 (ev_of_int (K := K) (d_lenI (d_var rfl dj))) (by omega) (fun i σ' H' => ∃ t u, σ' = [some (.ref a), some v1, some v2, some vj, some vs, t, u, none] ∧ Ex H0 H' ∧ ((List.range i).all fun i => decide (T (partL l p i) = some (dropAt p i))) = true) (fun H2 e2 => ⟨none, none, rfl, e2, rfl⟩) ?_ ?_
  · rintro i σ' H' hi ⟨t, u, rfl, e, ok⟩
    have hi' : i < p.length := by omega
    have e9 := e0.trans e
    refine q_setD (K := K) (d_cb1 (da_one (n_lcT .int l.2 (i_tup (d_var rfl (dsl.ex e))) (fun x => !decide (x = kindAt p i)) .int (by omega) (fun _ _ _ => rfl) ?_).toD) cd_tupL) fun v6 H1 e1 d6 => ?_
    · intro c hc y B H4 eB eB1 dy Q1 k
      exact k _ rfl (t_d (d_op (d_var rfl dy) (d_atI (d_var rfl (d2.ex (e9.trans eB))) (d_var rfl (.int (i : Int))) (atI_kind hi')) rd_neI)) fun _ => d_var rfl dy
    have e2 := e9.trans e1
    have dj2 := dj.ex (e.trans e1)
    obtain ⟨r, hr⟩ := Option.isSome_iff_exists.mp (hT i hi')
    refine s_if (t_d (d_op (d_tget (l := partL l p i) (ev_var rfl) (dt.ex e2) (d_tL (l := partL l p i) (d_dropAt (d_var rfl dj2) (d_var rfl dj2) (d_var rfl (.int (i : Int))) (d_var rfl (.int (i : Int))) (by omega) (by omega)) (d_var rfl d6)) hr)
      (d_dropAt (d_var rfl (d2.ex e2)) (d_var rfl (d2.ex e2)) (d_var rfl (.int (i : Int))) (d_var rfl (.int (i : Int))) hi' (by omega)) rd_neI')) (fun z H3 e3 => ?_) fun z H3 e3 => ?_
    · have ne : r ≠ dropAt p i := by simpa using z
      refine s_ret ev_c fun H4 e4 => ?_
      have eq : fitsB T l p = false := all_range_le hi' (decide_eq_false fun z2 => ne (Option.some.inj (hr.symm.trans z2)))
      have q2 := q H4 ((e2.trans e3).trans e4)
      rw [eq] at q2
      exact q2
    · have eq : r = dropAt p i := by simpa using z
      refine ⟨_, _, rfl, (e.trans e1).trans e3, ?_⟩
      rw [all_range_succ, ok, hr, eq]
      simp
  · rintro σ' H' ⟨t, u, rfl, e, ok⟩
    rw [Int.toNat_natCast, ← hl] at ok
    refine s_ret ev_c fun H4 e4 => ?_
    have q2 := q H4 ((e0.trans e).trans e4)
    have eq : fitsB T l p = true := ok
    rw [eq] at q2
    exact q2
theorem sc_is_permutation : FnScope ["value", "row", "one"] ["value", "row"] (defScope (top 11)) := ⟨rfl, rfl, rfl, by decide +kernel, rfl, by decide +kernel, by decide +kernel⟩
theorem bp_is_permutation : BindsP "is_permutation" (top 11) ["value", "row"] := fun _ _ _ _ _ _ us hl => match us, hl with | [_, _], _ => rfl
theorem o_is_permutation (W : Gs K mg) : OkF CX0 P w K mg base 3 "is_permutation" ["value", "row"] (spD K 2 fun ds d => ∃ p r : Row, ds = [tI p, tI r] ∧ (∀ x ∈ p, 0 ≤ x) ∧ p.length ≤ 10 ∧ r.length ≤ 10 ∧ d = .bool (decide (sortI p = r))) := by
  refine ok_of W.n_is_permutation sc_is_permutation bp_is_permutation (fun vs H Q E h => spD_len h) (fun f cdv A outer s H vs Q E hr h => ?_)
  refine ⟨_, (PSs.nox
  (pss_cons (ps_if (PW.pt (pw_or (pt_not (pt_val (k_own (P := P) (w := w) (base := base) (o_is_sequence W) (hr.mono (by decide)) pass0 (by rfl) (pa_cons (pv 0) pa_nil)))) (pw_or1 (pt_not (pt_val (pe_callB (k_all K rfl) (by rfl) W.f_all boot_all (pa_cons (pe_lc (own := [("one", 2)]) rfl sc_is_permutation.nd (k_pitup K (pv 0)) (blkOk_by (N := ["value", "row", "one"]) (sc := defScope (top 11)) (by decide +kernel)) (fun _ _ _ _ _ => (pg_name (i := 2) sc_is_permutation.nd rfl (.inl rfl))) (fun _ _ _ _ _ => pts_nil) (fun _ _ _ _ _ => (k_own (P := P) (w := w) (base := base) (o_is_number W) (hr.mono (by decide)) pass0 (by rfl) (pa_cons (pv 2) pa_nil)))) pa_nil))))))) (pss_one (ps_ret pe_bl)) pss_nil)
  (pss_one (ps_ret (pe_cmpR (k_eqD K (room_u hr)) (pe_callB (k_sortedT K) (by rfl) W.f_sorted boot_sorted (pa_cons (pv 0) pa_nil)) (pe_callTy (k_list K) (by rfl) W.f_list boot_list (pa_cons (pv 1) pa_nil)) (nomark _)))))), ?_⟩
  obtain ⟨ds, d, hn, hd, ⟨p, r, rfl, h0, hp, hr, rfl⟩, q⟩ := h
  obtain ⟨v1, v2, rfl, d1, d2⟩ := dp2 hd
  refine q_if (b := false) (et_is (et_or (et_not (t_B (d_own (da_one (d_var rfl d1)) ⟨tI p, rfl, True.intro, rfl⟩))) fun _ => et_not (t_B (d_cb1 (da_one (n_is (es := (p.map fun _ => true).map PyData.bool) (n_lcT .int p (i_tup (d_var rfl d1)) (fun _ => true) (fun _ => .bool true) (by omega) (fun _ _ _ => rfl) ?_) ?_).toD) cd_all))) ?_) (fun z => Bool.noConfusion z) fun _ H1 e1 => ?_
  · intro c hc y B H4 eB eB1 dy Q1 k
    exact k _ rfl et_yes fun _ => d_is (d_own (da_one (d_var rfl dy)) ⟨.int c, rfl, True.intro, rfl⟩) (congrArg PyData.bool (decide_eq_true (h0 c hc)))
  · rw [filt_all, List.map_map]
    rfl
  · simp [isSeqD, tI]
  · exact s_retD (d_is (d_op (n_cb1 (da_one (d_var rfl (d1.ex e1))) (cn_sortedT (by omega))).toD (n_cb1 (da_one (d_var rfl (d2.ex e1))) cn_listT).toD (rd_eqD (shp_lI _) (shp_lI _))) (congrArg PyData.bool (eqv_lI _ _))) fun v H2 e2 hv => q v H2 (e1.trans e2) hv
theorem sc_longer_pairings : FnScope ["pairings", "pairs", "longer", "jobs", "slots", "sort", "kind"] ["pairings", "pairs"] (defScope (top 26)) := ⟨rfl, rfl, rfl, by decide +kernel, rfl, by decide +kernel, by decide +kernel⟩
theorem bp_longer_pairings : BindsP "longer_pairings" (top 26) ["pairings", "pairs"] := fun _ _ _ _ _ _ us hl => match us, hl with | [_, _], _ => rfl
theorem o_longer_pairings (W : Gs K mg) : OkF CX0 P w K mg base 1 "longer_pairings" ["pairings", "pairs"] (spN K 2 fun ds es => ∃ (L : List Lot) (ps : List Pair), ds = [.list (L.map tL), .tuple (ps.map tP)] ∧ (growAll L ps).length ≤ 90000 ∧ (∀ js ∈ L, js.1.length ≤ 100 ∧ js.2.length ≤ 100) ∧ es = (growAll L ps).map tL) := by
  refine ok_of W.n_longer_pairings sc_longer_pairings bp_longer_pairings (fun vs H Q E h => spN_len h) (fun f cdv A outer s H vs Q E hr h => ?_)
  refine ⟨_, (PSs.nox
  (pss_cons (ps_set (i := 2) sc_longer_pairings.nd rfl (.inl rfl) (pe_lst pa_nil))
  (pss_cons (ps_for PassesOwn.never rfl (k_pilist K (pv 0)) (k_pgtup K (n := 2) rfl (pgs_cons (pg_name (i := 3) sc_longer_pairings.nd rfl (.inl rfl)) (pgs_cons (pg_name (i := 4) sc_longer_pairings.nd rfl (.inl rfl)) pgs_nil)))
  (pss_one (ps_for PassesOwn.never rfl (k_pitup K (pv 1)) (k_pgtup K (n := 2) rfl (pgs_cons (pg_name (i := 5) sc_longer_pairings.nd rfl (.inl rfl)) (pgs_cons (pg_name (i := 6) sc_longer_pairings.nd rfl (.inl rfl)) pgs_nil)))
  (pss_one (ps_if (PW.pt (pw_and (pt_cmpR (k_nin K) (pv 6) (pv 4) (by rfl)) (pw_and1 (PW.pt (pw_or (pt_cmpR op_eq (pe_callB (k_len K) (by rfl) W.f_len boot_len (pa_cons (pv 3) pa_nil)) pe_int (nomark _)) (pw_or1 (pt_cmpR op_gt (pv 5) (pe_ix (k_ixT K) (pv 3) (pe_un un_neg pe_int) (fun _ _ => rfl)) (nomark _)))))))) (pss_one (ps_expr (pe_bm PySem.F.plainAttrs_list PySem.F.slot_list_append PySem.F.type_list_append mt_append (pv 2) (pa_cons (pe_tup (pa_cons (pe_op (k_catA K) (pv 3) (pe_tup (pa_cons (pv 5) pa_nil))) (pa_cons (pe_op (k_catA K) (pv 4) (pe_tup (pa_cons (pv 6) pa_nil))) pa_nil))) pa_nil)))) pss_nil)))))
  (pss_one (ps_ret (pv 2)))))), ?_⟩
  obtain ⟨ds, es, hn, hd, ⟨L, ps, rfl, hz, hL, rfl⟩, q⟩ := h
  obtain ⟨v1, v2, rfl, d1, d2⟩ := dp2 hd
  refine q_setN (K := K) d_lst0 fun l xs0 H1 nl e1 hl dl => ?_
  refine q_forPD tL L rfl d1 (fun i σ' H' => ∃ t u v x, σ' = [some v1, some v2, some (.ref l), t, u, v, x] ∧ Ex H H' ∧ Ls K H' l ((growAll (L.take i) ps).map tL)) ⟨none, none, none, none, rfl, e1, xs0, hl, dl⟩ (fun i σ' H' ⟨_, _, _, _, _, e, _⟩ => e) ?_ ?_
  · rintro i js x σ' H' hi ⟨t, u, v, x', rfl, e, ll⟩ dx
    have eG : growAll (L.take (i + 1)) ps = growAll (L.take i) ps ++ grow1 js ps := fm_take hi
    have sz : (growAll (L.take (i + 1)) ps).length ≤ (growAll L ps).length := take_fm_len
    rw [eG, List.length_append] at sz
    have lj := hL js (List.mem_of_getElem? hi)
    refine tg_two dx fun aj as da db => ?_
    refine s_forPT (B := H) tP ps rfl d2 (fun j σ2 H2 => ∃ v x, σ2 = [some v1, some v2, some (.ref l), some aj, some as, v, x] ∧ Ex H H2 ∧ Fr K [l] H' H2 ∧ Ls K H2 l ((growAll (L.take i) ps ++ grow1 js (ps.take j)).map tL)) ⟨_, _, rfl, e, Fr.refl, ll.cg (by simp [grow1])⟩ (fun i σ' H' ⟨_, _, _, e, _⟩ => e) ?_ ?_
    · rintro j p y σ2 H2 hj ⟨v, x, rfl, e2, f2, l2⟩ dy
      refine tg_two dy fun ak at' dk dt => ?_
      cases dk; cases dt
      have da2 := da.tx f2.1 (flat_tI _)
      have db2 := db.tx f2.1 (flat_tI _)
      have eP : grow1 js (ps.take (j + 1)) = grow1 js (ps.take j) ++ if goes js p = true then [(js.1 ++ [p.1], js.2 ++ [p.2])] else [] := by
        unfold grow1
        rw [take_succ_of hj, List.filter_append, List.map_append]
        cases hg : goes js p with
        | true => rw [filt_yes hg]; rfl
        | false => rw [filt_no hg]; rfl
      have sz2 : (grow1 js (ps.take j)).length ≤ (grow1 js ps).length := by
        unfold grow1
        rw [List.length_map, List.length_map]
        exact (List.Sublist.filter _ (List.take_sublist _ _)).length_le
      refine s_if (b := goes js p) (et_and (t_d (d_op (d_var rfl (.int p.2)) (d_var rfl db2) rd_niT)) fun _ => et_is (et_or (b := goesUp js.1 p.1) (t_d (d_op (d_lenI (d_var rfl da2)) d_ci rd_eqI)) fun z => ?_) ?_) (fun z H3 e3 => ?_) fun z H3 e3 => ?_
      · have hne : js.1 ≠ [] := fun z2 => by rw [z2] at z; simp at z
        obtain ⟨z2, hz2⟩ : ∃ z2, js.1.getLast? = some z2 := ⟨_, List.getLast?_eq_getLast hne⟩
        have eg : goesUp js.1 p.1 = decide (z2 < p.1) := by
          unfold goesUp
          rw [hz2]
        rw [eg]
        exact t_d (d_op (d_var rfl (.int p.1)) (d_atI (d_var rfl da2) d_neg1 (last_at hz2)) rd_gt)
      · cases hj1 : js.1 with
        | nil => rfl
        | cons y r =>
          simp
          intro hh
          omega
      · refine s_appD (K := K) (d := tL (js.1 ++ [p.1], js.2 ++ [p.2])) (l2.ex e3) (flat_tLs _) (flat_tL _) (ev_var rfl) (d_tL (l := (js.1 ++ [p.1], js.2 ++ [p.2])) (d_snoc (d_var rfl (da2.ex e3)) (d_var rfl (.int p.1)) (by omega)) (d_snoc (d_var rfl (db2.ex e3)) (d_var rfl (.int p.2)) (by omega))) (by rw [List.length_map, List.length_append]; omega) fun H4 w4 l4 => ?_
        refine ⟨_, _, rfl, w4.exB (e2.trans e3) nl, (f2.trans (Fr.ex e3)).trans (Fr.wr w4 (by simp)), l4.cg ?_⟩
        rw [eP, if_pos z]
        simp
      · refine ⟨_, _, rfl, e2.trans e3, f2.trans (Fr.ex e3), (l2.ex e3).cg ?_⟩
        rw [eP, if_neg (by rw [z]; decide), List.append_nil]
    · rintro σ2 H2 ⟨v, x, rfl, e2, f2, l2⟩
      rw [List.take_length, ← eG] at l2
      exact ⟨_, _, _, _, rfl, e2, l2⟩
  · rintro σ' H' ⟨t, u, v, x, rfl, e, xs, hp, dp⟩
    rw [List.take_length] at dp
    exact s_ret (ev_var rfl) fun H2 e2 => q l xs H2 nl (e.trans e2) (e2 _ _ hp) (dp.ex e2)
end
end K11
/-! the box of drawn numbers -/
namespace K11
open PySem PySem.Spec PyProof.Rows L2 Evl
/-- a tracked list of ints -/
abbrev Li (K : PySem.W.Frag) (H : Hp) (a : Addr) (ns : List Int) : Prop := Ls K H a (ns.map .int)
def Bx (K : PySem.W.Frag) (H : Hp) (a : Addr) : Prop := ∃ g s n : Int, Li K H a [g, s, n]
theorem flat_I (ns : List Int) : flatAll (ns.map PyData.int) = true := flatAll_map0 fun _ _ => rfl
section
variable {P : Program} {w : World} {K : PySem.W.Frag} {H H' H1 H2 : Hp} {σ : L2.St} {ta tb te tm tx : TE} {D : Ends} {tz : TS} {a p : Addr} {x : Int} {ns : List Int} {Q : VK} {E : XK} {vs : List V} {S : List Addr} {ds : List PyData}
theorem Bx.ex (h : Bx K H a) (e : Ex H H') : Bx K H' a := let ⟨g, s, n, l⟩ := h; ⟨g, s, n, l.ex e⟩
theorem Bx.fr (h : Bx K H a) (f : Fr K S H H') (m : a ∉ S) : Bx K H' a := let ⟨g, s, n, l⟩ := h; ⟨g, s, n, l.fr f m (flat_I _)⟩
theorem Bx.off (h : Bx K H a) (n : H p = none) : a ≠ p := let ⟨_, _, _, l⟩ := h; l.off n
theorem s_setB {i : Nat} (hl : Li K H a ns) (h : EvD K te σ H (.int x)) (ho : Ev ta σ H (.ref a)) (hi : Ev tb σ H (.int (i : Int))) (hj : i < ns.length) (k : ∀ H', Wr K a H H' → Li K H' a (ns.set i x) → D.nx σ H') : tAsg te (gSub ta tb rSetL) D σ H := by
  obtain ⟨xs, h1, h2⟩ := hl
  have e := h2.ints
  subst e
  refine s_setL (j := i) h1 h.int ho hi (by rw [List.length_map]; exact hj) fun H1 e1 => k _ (Wr.of e1 ⟨_, e1 _ _ h1⟩) ⟨_, upd_same, ?_⟩
  have e2 : (ns.map V.int).set i (V.int x) = (ns.set i x).map V.int := List.map_set.symm
  rw [e2]
  exact .of_ints _
theorem q_setB {i : Nat} (hl : Li K H a ns) (h : EvD K te σ H (.int x)) (ho : Ev ta σ H (.ref a)) (hi : Ev tb σ H (.int (i : Int))) (hj : i < ns.length) (k : ∀ H', Wr K a H H' → Li K H' a (ns.set i x) → tz D σ H') : tSeq (tAsg te (gSub ta tb rSetL)) tz D σ H :=
  s_setB (D := { D with nx := tz D }) hl h ho hi hj k
def spBox (K : PySem.W.Frag) : Sp := fun vs H Q _ => ∃ v k ns, vs = [v, .int k] ∧ Dp K H v (.list (ns.map .int)) ∧ 0 ≤ k ∧ k < 1000 ∧ (k < (ns.length : Int) ∨ ns = []) ∧ ∀ p H', H p = none → Ex H H' → Bx K H' p → Q (.ref p) H'
theorem spBox_len (h : spBox K vs H Q E) : vs.length = 2 := by
  obtain ⟨_, _, _, rfl, _⟩ := h
  rfl
def spTake (K : PySem.W.Frag) : Sp := fun vs H Q _ => ∃ a m, vs = [.ref a, .int m] ∧ Bx K H a ∧ 0 < m ∧ m < 1000000 ∧ ∀ r H', 0 ≤ r → r < m → Fr K [a] H H' → Bx K H' a → Q (.int r) H'
theorem spTake_len (h : spTake K vs H Q E) : vs.length = 2 := by
  obtain ⟨_, _, rfl, _⟩ := h
  rfl
theorem take_call {j : Nat} {m : Int} (hs : σ[j]? = some (some (.ref a))) (hb : Bx K H a) (hm : EvD K tm σ H (.int m)) (h0 : 0 < m ∧ m < 1000000) (k : ∀ r H', 0 ≤ r → r < m → Fr K [a] H H' → Bx K H' a → Q (.int r) H') : tCall (spTake K) [] E0 (tCons (tVar j) (tCons tm tNil)) σ H Q :=
  ⟨_, hs, hm.int H (Ex.refl H) _ fun H1 e1 => ⟨a, m, rfl, hb.ex e1, h0.1, h0.2, fun r H' r0 r1 f b => k r H' r0 r1 ((Fr.ex e1).trans f) b⟩⟩
/-- one of a list of flat data, by the box -/
def spPick (K : PySem.W.Frag) : Sp := fun vs H Q _ => ∃ a p ds, vs = [.ref a, .ref p] ∧ Bx K H a ∧ Ls K H p ds ∧ flatAll ds = true ∧ p ≠ a ∧ ds ≠ [] ∧ ds.length < 1000000 ∧ ∀ d v H', d ∈ ds → Fr K [a] H H' → Bx K H' a → Dp K H' v d → Q v H'
theorem spPick_len (h : spPick K vs H Q E) : vs.length = 2 := by
  obtain ⟨_, _, _, rfl, _⟩ := h
  rfl
theorem pick_call {j i : Nat} (hs : σ[j]? = some (some (.ref a))) (hs2 : σ[i]? = some (some (.ref p))) (hb : Bx K H a) (hl : Ls K H p ds) (hf : flatAll ds = true) (ne : p ≠ a) (h0 : ds ≠ []) (hz : ds.length < 1000000) (k : ∀ d v H', d ∈ ds → Fr K [a] H H' → Bx K H' a → Dp K H' v d → Q v H') : tCall (spPick K) [] E0 (tCons (tVar j) (tCons (tVar i) tNil)) σ H Q :=
  ⟨_, hs, _, hs2, ⟨a, p, ds, rfl, hb, hl, hf, ne, h0, hz, k⟩⟩
/-- the pairings of a table, as a list -/
def spListT (P : Program) (w : World) (K : PySem.W.Frag) : Sp := fun vs H Q _ => ∃ a S U n T, vs = [.ref a, .int S, .int U] ∧ DT P w K H a n T ∧ small S ∧ small U ∧ (∀ l ∈ lots S U, (T l).isSome = true) ∧
  ∀ p xs H', H p = none → Ex H H' → H' p = some (.lst xs) → DpAll K H' xs (((lots S U).map fun l => (T l).getD []).map tI) → Q (.ref p) H'
theorem spListT_len (h : spListT P w K vs H Q E) : vs.length = 3 := by
  obtain ⟨_, _, _, _, _, rfl, _⟩ := h
  rfl
theorem rd_mul {i j : Int} (h : CMul i j) : RD K (rI CMul fun i j => .int (i * j)) (.int i) (.int j) (.int (i * j)) := rd_I h fun _ => .int _
theorem rd_mod {i j : Int} (h : 0 < j) : RD K (rI (fun _ j => 0 < j) fun i j => .int (i % j)) (.int i) (.int j) (.int (i % j)) := rd_I h fun _ => .int _
theorem rd_fdiv {i j : Int} (h : CDiv i j) : RD K (rI CDiv fun i j => .int (i / j)) (.int i) (.int j) (.int (i / j)) := rd_I h fun _ => .int _
theorem rd_pow {i j : Int} (h : CPow i j) : RD K (rI CPow fun i j => .int (i ^ j.toNat)) (.int i) (.int j) (.int (i ^ j.toNat)) := rd_I h fun _ => .int _
theorem d_intc {i : Int} (h : EvD K te σ H (.int i)) : EvD K (tCB rInt1 (tCons te tNil)) σ H (.int i) := d_cb1 (da_one h) cd_int
end
theorem cmulL {i j : Int} (h : -18446744073709551616 < i ∧ i < 18446744073709551616) : CMul i j := .inl h
theorem cmulR {i j : Int} (h : -18446744073709551616 < j ∧ j < 18446744073709551616) : CMul i j := .inr h
end K11
/-! the box's defs -/
namespace K11
open PySem PySem.Spec PyProof.Rows L2 Evl
section
variable {P : Program} {w : World} {K : PySem.W.Frag} {mg : Str → Option Value} {base : Heap}
theorem sc_law_box : FnScope ["_law_script", "_law_k", "_law_cell"] ["_law_script", "_law_k"] (defScope (top 30)) := ⟨rfl, rfl, rfl, by decide +kernel, rfl, by decide +kernel, by decide +kernel⟩
theorem bp_law_box : BindsP "_law_box" (top 30) ["_law_script", "_law_k"] := fun _ _ _ _ _ _ us hl => match us, hl with | [_, _], _ => rfl
theorem o_law_box (W : Gs K mg) : OkF CX0 P w K mg base 1 "_law_box" ["_law_script", "_law_k"] (spBox K) := by
  refine ok_of W.n_law_box sc_law_box bp_law_box (fun vs H Q E h => spBox_len h) (fun f cdv A outer s H vs Q E hr h => ?_)
  refine ⟨_, (PSs.nox
  (pss_cons (ps_set (i := 2) sc_law_box.nd rfl (.inl rfl) (pe_op op_add (pe_op op_mul pe_int (pv 1)) pe_int))
  (pss_cons (ps_if (pt_cmpR op_lt (pv 1) (pe_callB (k_len K) (by rfl) W.f_len boot_len (pa_cons (pv 0) pa_nil)) (nomark _)) (pss_one (ps_set (i := 2) sc_law_box.nd rfl (.inl rfl) (pe_callB cAbs (by rfl) W.f_abs boot_abs (pa_cons (pe_ix (k_ixL K) (pv 0) (pv 1) (fun _ _ => rfl)) pa_nil)))) (pss_one (ps_if (pt_cmpR op_gt (pe_callB (k_len K) (by rfl) W.f_len boot_len (pa_cons (pv 0) pa_nil)) pe_int (nomark _)) (pss_one (ps_set (i := 2) sc_law_box.nd rfl (.inl rfl) (pe_op op_add (pv 2) (pe_op op_mul (pe_op op_mod (pe_callTy cInt (by rfl) W.f_int boot_int (pa_cons (pe_callB cAbs (by rfl) W.f_abs boot_abs (pa_cons (pe_ix (k_ixL K) (pv 0) (pe_op op_mod (pe_callTy cInt (by rfl) W.f_int boot_int (pa_cons (pv 1) pa_nil)) (pe_callB (k_len K) (by rfl) W.f_len boot_len (pa_cons (pv 0) pa_nil))) (fun _ _ => rfl)) pa_nil)) pa_nil)) pe_int) pe_int)))) pss_nil)))
  (pss_one (ps_ret (pe_lst (pa_cons (pe_ix (k_ixL K) (pe_lst (pa_cons pe_int (pa_cons (pv 2) pa_nil))) (pe_callTy cInt (by rfl) W.f_int boot_int (pa_cons (pe_cmpR op_ge (pv 2) (pe_op op_pow pe_int pe_int) (nomark _)) pa_nil)) (fun _ _ => rfl)) (pa_cons (pe_op op_add (pe_op op_mod (pe_callTy cInt (by rfl) W.f_int boot_int (pa_cons (pe_op op_add (pe_op op_mul (pe_op op_mod (pe_callTy cInt (by rfl) W.f_int boot_int (pa_cons (pv 2) pa_nil)) pe_int) pe_int) (pe_op op_mul pe_int (pv 1))) pa_nil)) pe_int) pe_int) (pa_cons pe_int pa_nil))))))))), ?_⟩
  obtain ⟨v, k, ns, rfl, dv, hk0, hk1, hk, q⟩ := h
  refine q_setD (K := K) (d_op (d_op d_ci (d_var rfl (.int k)) (rd_mul (cmulL (by decide)))) d_ci rd_add) fun v1 H1 e1 d1 => ?_
  cases d1
  have key : ∀ (c : Int) (H' : Hp), Ex H H' → EvN K (tLst (tCons (tOp (rIxL K) (tLst (tCons (tC (.int 0)) (tCons (tVar 2) tNil))) (tCB rInt1 (tCons (tOp (rI0 fun i j => .bl (decide (j ≤ i))) (tVar 2) (tOp (rI CPow fun i j => .int (i ^ j.toNat)) (tC (.int 10)) (tC (.int 18)))) tNil)))
      (tCons (tOp (rI0 fun i j => .int (i + j)) (tOp (rI (fun _ j => 0 < j) fun i j => .int (i % j)) (tCB rInt1 (tCons (tOp (rI0 fun i j => .int (i + j)) (tOp (rI CMul fun i j => .int (i * j)) (tOp (rI (fun _ j => 0 < j) fun i j => .int (i % j)) (tCB rInt1 (tCons (tVar 2) tNil)) (tC (.int 2147483629))) (tC (.int 38377))) (tOp (rI CMul fun i j => .int (i * j)) (tC (.int 71129)) (tVar 1))) tNil)) (tC (.int 2147483629))) (tC (.int 1)))
        (tCons (tC (.int 0)) tNil)))) [some v, some (.int k), some (.int c)] H' (([if 10 ^ (18 : Int).toNat ≤ c then c else 0, ((c % 2147483629) * 38377 + 71129 * k) % 2147483629 + 1, 0] : List Int).map .int) := fun c H' e => by
    refine n_lst (da_cons (d_op (n_lst (da_two d_ci (d_var rfl (.int c))) (show 2 ≤ 100000 by decide)).toD (d_cb1 (da_one (d_op (d_var rfl (.int c)) (d_op d_ci d_ci (rd_pow (show CPow 10 18 from ⟨by decide, by decide, by decide⟩))) rd_ge)) cd_intB) (rd_ixL ?_))
      (da_two (d_op (d_op (d_intc (d_op (d_op (d_op (d_intc (d_var rfl (.int c))) d_ci (rd_mod (by decide))) d_ci (rd_mul (cmulR (by decide)))) (d_op d_ci (d_var rfl (.int k)) (rd_mul (cmulL (by decide)))) rd_add)) d_ci (rd_mod (by decide))) d_ci rd_add) d_ci)) (show 3 ≤ 100000 by decide)
    by_cases hc : (10 : Int) ^ (18 : Int).toNat ≤ c
    · rw [decide_eq_true hc, if_pos hc]
      rfl
    · rw [decide_eq_false hc, if_neg hc]
      rfl
  have fin : ∀ (c : Int) (H' : Hp), Ex H H' → ∀ (p : Addr) (xs : List V) (H2 : Hp), H' p = none → Ex H' H2 → H2 p = some (.lst xs) → DpAll K H2 xs (([if 10 ^ (18 : Int).toNat ≤ c then c else 0, ((c % 2147483629) * 38377 + 71129 * k) % 2147483629 + 1, 0] : List Int).map .int) → Q (.ref p) H2 := fun c H' e p xs H2 np e2 hp dp => q p H2 (fresh_back e np) (e.trans e2) ⟨_, _, _, xs, hp, dp⟩
  have lenv : EvD K (tCB (rLenS K) (tCons (tVar 0) tNil)) [some v, some (.int k), some (.int (6121 * k + 877))] H1 (.int (ns.length : Int)) := by
    have h2 := d_lenL (K := K) (d_var (i := 0) (σ := [some v, some (.int k), some (.int (6121 * k + 877))]) rfl (dv.ex e1))
    rw [List.length_map] at h2
    exact h2
  rcases hk with hk | hk
  · refine q_if (b := true) (et_is (t_d (d_op (d_var rfl (.int k)) lenv rd_lt)) (decide_eq_true hk)) (fun _ H2 e2 => ?_) fun z => Bool.noConfusion z
    have hj : k.toNat < ns.length := by omega
    refine s_setD (K := K) (d_cb1 (da_one (d_op (d_var rfl (dv.ex (e1.trans e2))) (d_var rfl (.int k)) (rd_ixL (z := .int ns[k.toNat]) (atI_of hk0 (by rw [List.getElem?_map, List.getElem?_eq_getElem hj]; rfl))))) cd_abs) fun v2 H3 e3 d3 => ?_
    cases d3
    exact s_retN (key _ H3 ((e1.trans e2).trans e3)) (fin _ H3 ((e1.trans e2).trans e3))
  · subst hk
    refine q_if (b := false) (et_is (t_d (d_op (d_var rfl (.int k)) lenv rd_lt)) (decide_eq_false (by simp only [List.length_nil]; omega))) (fun z => Bool.noConfusion z) fun _ H2 e2 => ?_
    refine s_if (b := false) (t_d (d_op (lenv.mono e2) d_ci rd_gt)) (fun z => Bool.noConfusion z) fun _ H3 e3 => ?_
    exact s_retN (key _ H3 ((e1.trans e2).trans e3)) (fin _ H3 ((e1.trans e2).trans e3))
theorem sc_law_take : FnScope ["_law_box_here", "_law_many", "_law_digit", "_law_raw"] ["_law_box_here", "_law_many"] (defScope (top 31)) := ⟨rfl, rfl, rfl, by decide +kernel, rfl, by decide +kernel, by decide +kernel⟩
theorem bp_law_take : BindsP "_law_take" (top 31) ["_law_box_here", "_law_many"] := fun _ _ _ _ _ _ us hl => match us, hl with | [_, _], _ => rfl
theorem o_law_take (W : Gs K mg) : OkF CX0 P w K mg base 1 "_law_take" ["_law_box_here", "_law_many"] (spTake K) := by
  refine ok_of W.n_law_take sc_law_take bp_law_take (fun vs H Q E h => spTake_len h) (fun f cdv A outer s H vs Q E hr h => ?_)
  refine ⟨_, (PSs.nox
  (pss_cons (ps_if (pt_cmpR op_gt (pe_ix (k_ixL K) (pv 0) pe_int (fun _ _ => rfl)) pe_int (nomark _)) (pss_cons (ps_set (i := 2) sc_law_take.nd rfl (.inl rfl) (pe_op op_mod (pe_callTy cInt (by rfl) W.f_int boot_int (pa_cons (pe_ix (k_ixL K) (pv 0) pe_int (fun _ _ => rfl)) pa_nil)) (pv 1)))
  (pss_cons (ps_asg (pe_op op_fdiv (pe_ix (k_ixL K) (pv 0) pe_int (fun _ _ => rfl)) (pv 1)) (pg_sub (pv 0) pe_int set_list))
  (pss_one (ps_ret (pv 2))))) pss_nil)
  (pss_cons (ps_asg (pe_op op_add (pe_ix (k_ixL K) (pv 0) pe_int (fun _ _ => rfl)) pe_int) (pg_sub (pv 0) pe_int set_list))
  (pss_cons (ps_set (i := 3) sc_law_take.nd rfl (.inl rfl) (pe_op op_mod (pe_callTy cInt (by rfl) W.f_int boot_int (pa_cons (pe_op op_add (pe_op op_mul (pe_op op_add (pe_ix (k_ixL K) (pv 0) pe_int (fun _ _ => rfl)) (pe_op op_mul pe_int (pe_ix (k_ixL K) (pv 0) pe_int (fun _ _ => rfl)))) pe_int) pe_int) pa_nil)) pe_int))
  (pss_cons (ps_asg (pe_op op_add (pe_op op_mod (pe_callTy cInt (by rfl) W.f_int boot_int (pa_cons (pe_op op_add (pe_op op_mul (pv 3) pe_int) pe_int) pa_nil)) pe_int) pe_int) (pg_sub (pv 0) pe_int set_list))
  (pss_one (ps_ret (pe_op op_mod (pe_callTy cInt (by rfl) W.f_int boot_int (pa_cons (pe_op op_fdiv (pe_op op_add (pe_op op_mul (pv 3) pe_int) (pe_ix (k_ixL K) (pv 0) pe_int (fun _ _ => rfl))) pe_int) pa_nil)) (pv 1))))))))), ?_⟩
  obtain ⟨a, m, rfl, ⟨g, s, n, lb⟩, m0, m1, q⟩ := h
  have rg : ∀ {H' : Hp} {g s n : Int} {σ : L2.St}, σ[0]? = some (some (.ref a)) → Li K H' a [g, s, n] → EvD K (tOp (rIxL K) (tVar 0) (tC (.int 0))) σ H' (.int g) := fun hs l => d_op (d_var hs l.toD) d_ci (rd_ixL atI_z)
  have rs : ∀ {H' : Hp} {g s n : Int} {σ : L2.St}, σ[0]? = some (some (.ref a)) → Li K H' a [g, s, n] → EvD K (tOp (rIxL K) (tVar 0) (tC (.int 1))) σ H' (.int s) := fun hs l => d_op (d_var hs l.toD) d_ci (rd_ixL atI_one)
  have rn : ∀ {H' : Hp} {g s n : Int} {σ : L2.St}, σ[0]? = some (some (.ref a)) → Li K H' a [g, s, n] → EvD K (tOp (rIxL K) (tVar 0) (tC (.int 2))) σ H' (.int n) := fun hs l => d_op (d_var hs l.toD) d_ci (rd_ixL rfl)
  refine q_if (t_d (d_op (rg rfl lb) d_ci rd_gt)) (fun z H1 e1 => ?_) fun _ H1 e1 => ?_
  · refine q_setD (K := K) (d_op (d_intc (rg rfl (lb.ex e1))) (d_var rfl (.int m)) (rd_mod m0)) fun v H2 e2 d2 => ?_
    cases d2
    have e3 := e1.trans e2
    refine q_setB (i := 0) (K := K) (lb.ex e3) (d_op (rg rfl (lb.ex e3)) (d_var rfl (.int m)) (rd_fdiv ⟨m0, by omega⟩)) (ev_var rfl) ev_c (show 0 < 3 by decide) fun H3 w3 l3 => ?_
    refine s_ret (ev_var rfl) fun H4 e4 => ?_
    exact q _ H4 (Int.emod_nonneg _ (by omega)) (Int.emod_lt_of_pos _ m0) (((Fr.ex e3).trans (Fr.wr w3 (by simp))).trans (Fr.ex e4)) (Bx.ex ⟨_, _, _, l3⟩ e4)
  · refine q_setB (i := 2) (K := K) (lb.ex e1) (d_op (rn rfl (lb.ex e1)) d_ci rd_add) (ev_var rfl) ev_c (show 2 < 3 by decide) fun H2 w2 l2 => ?_
    refine q_setD (K := K) (d_op (d_intc (d_op (d_op (d_op (rs rfl l2) (d_op d_ci (rn rfl l2) (rd_mul (cmulL (by decide)))) rd_add) d_ci (rd_mul (cmulR (by decide)))) d_ci rd_add)) d_ci (rd_mod (by decide))) fun v H3 e3 d3 => ?_
    cases d3
    refine q_setB (i := 1) (K := K) (l2.ex e3) (d_op (d_op (d_intc (d_op (d_op (d_var rfl (.int _)) d_ci (rd_mul (cmulR (by decide)))) d_ci rd_add)) d_ci (rd_mod (by decide))) d_ci rd_add) (ev_var rfl) ev_c (show 1 < 3 by decide) fun H4 w4 l4 => ?_
    refine s_retD (K := K) (d_op (d_intc (d_op (d_op (d_op (d_var rfl (.int _)) d_ci (rd_mul (cmulR (by decide)))) (rs rfl l4) rd_add) d_ci (rd_fdiv ⟨by decide, by decide⟩))) (d_var rfl (.int m)) (rd_mod m0)) fun v5 H5 e5 d5 => ?_
    cases d5
    exact q _ H5 (Int.emod_nonneg _ (by omega)) (Int.emod_lt_of_pos _ m0) (((((Fr.ex e1).trans (Fr.wr w2 (by simp))).trans (Fr.ex e3)).trans (Fr.wr w4 (by simp))).trans (Fr.ex e5)) (Bx.ex ⟨_, _, _, l4⟩ e5)
theorem sc_law_pick : FnScope ["_law_box_here", "_law_some_here"] ["_law_box_here", "_law_some_here"] (defScope (top 32)) := ⟨rfl, rfl, rfl, by decide +kernel, rfl, by decide +kernel, by decide +kernel⟩
theorem bp_law_pick : BindsP "_law_pick" (top 32) ["_law_box_here", "_law_some_here"] := fun _ _ _ _ _ _ us hl => match us, hl with | [_, _], _ => rfl
theorem o_law_pick (W : Gs K mg) : OkF CX0 P w K mg base 2 "_law_pick" ["_law_box_here", "_law_some_here"] (spPick K) := by
  refine ok_of W.n_law_pick sc_law_pick bp_law_pick (fun vs H Q E h => spPick_len h) (fun f cdv A outer s H vs Q E hr h => ?_)
  refine ⟨_, (PSs.nox
  (pss_one (ps_ret (pe_ix (k_ixL K) (pv 1) (k_own (P := P) (w := w) (base := base) (o_law_take W) (hr.mono (by decide)) pass0 (by rfl) (pa_cons (pv 0) (pa_cons (pe_callB (k_len K) (by rfl) W.f_len boot_len (pa_cons (pv 1) pa_nil)) pa_nil))) (fun _ _ => rfl))))), ?_⟩
  obtain ⟨a, p, ds, rfl, hb, hl, hf, ne, h0, hz, q⟩ := h
  have hn : 0 < ds.length := List.length_pos_iff.mpr h0
  refine ⟨_, rfl, take_call (K := K) rfl hb (d_lenL (d_var rfl hl.toD)) ⟨by omega, by omega⟩ fun r H' r0 r1 f b => ?_⟩
  have hl2 := hl.fr f (by simpa using ne) hf
  have hj : r.toNat < ds.length := by omega
  have h1 := rd_ixL (K := K) (ds := ds) (z := ds[r.toNat]) (i := r) (atI_of r0 (List.getElem?_eq_getElem hj))
  exact h1 _ _ H' hl2.toD (.int r) _ fun v H2 e2 hv => q _ v H2 (List.getElem_mem hj) (f.trans (Fr.ex e2)) (b.ex e2) hv
theorem sc_law_every : FnScope ["_law_sorts", "_law_kinds", "_law_pairs", "_law_sort", "_law_kind"] ["_law_sorts", "_law_kinds"] (defScope (top 46)) := ⟨rfl, rfl, rfl, by decide +kernel, rfl, by decide +kernel, by decide +kernel⟩
theorem bp_law_every : BindsP "_law_every" (top 46) ["_law_sorts", "_law_kinds"] := fun _ _ _ _ _ _ us hl => match us, hl with | [_, _], _ => rfl
theorem o_law_every (W : Gs K mg) : OkF CX0 P w K mg base 1 "_law_every" ["_law_sorts", "_law_kinds"] (spN K 2 fun ds es => ∃ S U : Int, ds = [.int S, .int U] ∧ small S ∧ small U ∧ es = (everyP S U).map tP) := by
  refine ok_of W.n_law_every sc_law_every bp_law_every (fun vs H Q E h => spN_len h) (fun f cdv A outer s H vs Q E hr h => ?_)
  refine ⟨_, (PSs.nox
  (pss_cons (ps_set (i := 2) sc_law_every.nd rfl (.inl rfl) (pe_lst pa_nil))
  (pss_cons (ps_for PassesOwn.never rfl (pi_range1 (by rfl) W.f_range (pa_cons (pv 0) pa_nil)) (pg_name (i := 3) sc_law_every.nd rfl (.inr rfl))
  (pss_one (ps_expr (pe_bm PySem.F.plainAttrs_list PySem.F.slot_list_extend PySem.F.type_list_extend mt_extend (pv 2) (pa_cons (pe_lc (own := [("_law_kind", 4)]) rfl sc_law_every.nd (pi_range1 (by rfl) W.f_range (pa_cons (pv 1) pa_nil)) (blkOk_by (N := ["_law_sorts", "_law_kinds", "_law_pairs", "_law_sort", "_law_kind"]) (sc := defScope (top 46)) (by decide +kernel)) (fun _ _ _ _ _ => (pg_name (i := 4) sc_law_every.nd rfl (.inl rfl))) (fun _ _ _ _ _ => pts_nil) (fun _ _ _ _ _ => (pe_tup (pa_cons (pv 3) (pa_cons (pv 4) pa_nil))))) pa_nil)))))
  (pss_one (ps_ret (pv 2)))))), ?_⟩
  obtain ⟨ds, es, hn, hd, ⟨S, U, rfl, hS, hU, rfl⟩, q⟩ := h
  obtain ⟨v1, v2, rfl, da, db⟩ := dp2 hd
  cases da; cases db
  obtain ⟨s1, s2⟩ := id hS
  obtain ⟨t1, t2⟩ := id hU
  refine q_setN (K := K) d_lst0 fun l xs0 H1 nl e1 hl dl => ?_
  refine q_forR1 (ev_of_int (K := K) (d_var rfl (.int S))) (by omega) (fun i σ' H' => ∃ t, σ' = [some (.int S), some (.int U), some (.ref l), t, none] ∧ Ex H H' ∧ Ls K H' l ((everyP (i : Int) U).map tP)) (fun H2 e2 => ⟨none, rfl, e1.trans e2, ⟨xs0, e2 _ _ hl, dl.ex e2⟩⟩) ?_ ?_
  · rintro i σ' H' hi ⟨t, rfl, e, l2⟩
    have eU : everyP ((i + 1 : Nat) : Int) U = everyP (i : Int) U ++ (upR 0 U).map fun k => ((i : Int), k) := everyP_succ i U
    have sz := everyP_len (S := (i : Int)) (U := U) (by omega) (by omega)
    have sz2 : (upR 0 U).length ≤ 4 := by
      unfold upR
      rw [List.length_map, List.length_range]
      omega
    refine s_extN (K := K) l2 (flatAll_map0 fun _ _ => rfl) (flatAll_map0 fun _ _ => rfl) (ev_var rfl) (n_is (es := ((upR 0 U).map fun k => ((i : Int), k)).map tP) (n_lcT .int (upR 0 U) (i_up1 (da_one (d_var rfl (.int U))) (by omega)) (fun _ => true) (fun k => tP ((i : Int), k)) (by omega) (fun _ _ _ => rfl) ?_) ?_) ?_ fun H6 w6 l6 => ⟨_, rfl, w6.exB e nl, l6.cg (by rw [← List.map_append, eU])⟩
    · intro c hc y B H4 eB eB1 dy Q1 k
      exact k _ rfl et_yes fun _ => d_tup (da_two (d_var rfl (.int (i : Int))) (d_var rfl dy)) (show 2 ≤ 100000 by decide)
    · rw [filt_all, List.map_map]
      rfl
    · rw [List.length_map, List.length_map, List.length_map]
      omega
  · rintro σ' H' ⟨t, rfl, e, xs, hp, dp⟩
    have e5 : ((S.toNat : Nat) : Int) = S := Int.toNat_of_nonneg (by omega)
    rw [e5] at dp
    exact s_ret (ev_var rfl) fun H2 e2 => q l xs H2 nl (e.trans e2) (e2 _ _ hp) (dp.ex e2)
theorem sc_law_list : FnScope ["_law_told", "_law_sorts", "_law_kinds", "_law_lot"] ["_law_told", "_law_sorts", "_law_kinds"] (defScope (top 43)) := ⟨rfl, rfl, rfl, by decide +kernel, rfl, by decide +kernel, by decide +kernel⟩
theorem bp_law_list : BindsP "_law_list" (top 43) ["_law_told", "_law_sorts", "_law_kinds"] := fun _ _ _ _ _ _ us hl => match us, hl with | [_, _, _], _ => rfl
theorem o_law_list (W : Gs K mg) : OkF CX0 P w K mg base 3 "_law_list" ["_law_told", "_law_sorts", "_law_kinds"] (spListT P w K) := by
  refine ok_of W.n_law_list sc_law_list bp_law_list (fun vs H Q E h => spListT_len h) (fun f cdv A outer s H vs Q E hr h => ?_)
  refine ⟨_, (PSs.nox
  (pss_one (ps_ret (pe_lc (own := [("_law_lot", 3)]) rfl sc_law_list.nd (k_pilist K (k_own (P := P) (w := w) (base := base) (o_law_lots W) (hr.mono (by decide)) pass0 (by rfl) (pa_cons (pv 1) (pa_cons (pv 2) pa_nil)))) (blkOk_by (N := ["_law_told", "_law_sorts", "_law_kinds", "_law_lot"]) (sc := defScope (top 43)) (by decide +kernel)) (fun _ _ _ _ _ => (pg_name (i := 3) sc_law_list.nd rfl (.inl rfl))) (fun _ _ _ _ _ => pts_nil) (fun _ _ _ _ _ => (k_nget K P w (room_n hr) (pv 0) (pv 3) (fun _ _ => rfl))))))), ?_⟩
  obtain ⟨a, S, U, n, T, rfl, dt, hS, hU, hT, q⟩ := h
  have sz := lots_len hS hU
  refine s_retN (K := K) (n_is (n_lcT tL (lots S U) (i_list (n_own (da_two (d_var rfl (.int S)) (d_var rfl (.int U))) ⟨S, U, rfl, hS, hU, rfl⟩).toD) (fun _ => true) (fun l => tI ((T l).getD [])) (by omega) (fun _ _ _ => flat_tI _) ?_) (es := ((lots S U).map fun l => (T l).getD []).map tI) ?_) fun p xs H1 np e1 hp dp => q p xs H1 np e1 hp dp
  · intro l hl x B H1 eB eB1 dx Q1 k
    obtain ⟨r, hr⟩ := Option.isSome_iff_exists.mp (hT l hl)
    refine k _ rfl et_yes fun _ => ?_
    rw [hr]
    exact d_tget (l := l) (ev_var rfl) (dt.ex eB) (d_var rfl dx) hr
  · rw [filt_all, List.map_map]
    rfl
end
end K11
/-! heaps without some objects; zip of tuples; prices -/
namespace K11
open PySem PySem.Spec PyProof.Rows L2 Evl
def off (S : List Addr) (H : Hp) : Hp := fun c => if c ∈ S then none else H c
section
variable {P : Program} {w : World} {K : PySem.W.Frag} {H H' H1 H2 : Hp} {σ : L2.St} {ta tb te tm tx : TE} {tA tr : TA} {D : Ends} {tz : TS} {a p : Addr} {x : Int} {ns : List Int} {Q : VK} {E : XK} {vs : List V} {S S' : List Addr} {ds : List PyData} {r s : Row}
theorem off_ex : Ex (off S H) H := fun c o h => by
  unfold off at h
  split at h
  · cases h
  · exact h
theorem off_at {c : Addr} {o : HO} (n : c ∉ S) (h : H c = some o) : off S H c = some o := by
  unfold off
  rw [if_neg n]
  exact h
theorem off_in {c : Addr} (m : c ∈ S) : off S H c = none := if_pos m
theorem Fr.offE (f : Fr K S H H') : Ex (off S H) (off S H') := fun c o h => by
  unfold off at h
  split at h
  · cases h
  · next n => exact off_at n (f.2 c o n h)
theorem Fr.cut (f : Fr K S H H') (h : ∀ c ∈ S, c ∈ S' ∨ H c = none) : Fr K S' H H' := ⟨f.1, fun c o n q => f.2 c o (fun z => by
  rcases h c z with h | h
  · exact n h
  · rw [h] at q
    cases q) q⟩
theorem off_more (h : ∀ c ∈ S', c ∈ S ∨ H c = none) : Ex (off S H) (off S' H) := fun c o q => by
  unfold off at q
  split at q
  · cases q
  · next n =>
    refine off_at (fun z => ?_) q
    rcases h c z with h | h
    · exact n h
    · rw [h] at q
      cases q
theorem off_less (h : ∀ c ∈ S', c ∈ S) : Ex (off S H) (off S' H) := off_more fun c m => .inl (h c m)
theorem off_ext (e : Ex H H') : Ex (off S H) (off S H') := fun c o h => by
  unfold off at h
  split at h
  · cases h
  · next n => exact off_at n (e c o h)
theorem ta_consN {Q : List V → Hp → Prop} (h : EvN K te σ H ds) (k : ∀ p xs H1, H p = none → Ex H H1 → H1 p = some (.lst xs) → DpAll K H1 xs ds → tr σ H1 fun vs H2 => Q (.ref p :: vs) H2) : tCons te tr σ H Q := h H (Ex.refl H) _ k
theorem q_par3 {i j l : Nat} (h : tA σ H fun vs H1 => ∃ u v w, vs = [u, v, w] ∧ tz D (((σ.set i (some u)).set j (some v)).set l (some w)) H1) : tSeq (tPar3 i j l tA) tz D σ H := h
theorem q_par2 {i j : Nat} (h : tA σ H fun vs H1 => ∃ u v, vs = [u, v] ∧ tz D ((σ.set i (some u)).set j (some v)) H1) : tSeq (tPar i j tA) tz D σ H := h
theorem s_par2 {i j : Nat} (h : tA σ H fun vs H1 => ∃ u v, vs = [u, v] ∧ D.nx ((σ.set i (some u)).set j (some v)) H1) : tPar i j tA D σ H := h
theorem d_ixI {i : Int} (ha : EvD K ta σ H (.list (ns.map .int))) (hb : EvD K tb σ H (.int i)) (h : atI ns i = some x) : EvD K (tOp (rIxL K) ta tb) σ H (.int x) := d_op ha hb (rd_ixL (atI_map (f := .int) h))
theorem wk_zipI {c d : Addr} (sc : SqT K H c (r.map V.int)) (sd : SqT K H d (s.map V.int)) (hl : r.length = s.length) : WkD K (RZ.ItzT K c d) ((r.zip s).map tP) H := by
  have hz : ((r.zip s).map tP).length = r.length := by rw [List.length_map, List.length_zip, hl, Nat.min_self]
  refine ⟨fun i H' hi e' => ?_, fun H' e' => ⟨_, _, ex_t e' sc, ex_t e' sd, .inl (by rw [hz, List.length_map]; exact Nat.le_refl _)⟩⟩
  rw [hz] at hi
  have hi2 : i < s.length := by omega
  have g1 : (r.map V.int)[i]? = some (.int r[i]) := by rw [List.getElem?_map, List.getElem?_eq_getElem hi]; rfl
  have g2 : (s.map V.int)[i]? = some (.int s[i]) := by rw [List.getElem?_map, List.getElem?_eq_getElem hi2]; rfl
  refine ⟨⟨_, _, _, _, ex_t e' sc, ex_t e' sd, g1, g2⟩, fun x H'' y => ?_⟩
  obtain ⟨T, u, v, rfl, nT, rfl, f1, f2⟩ := y
  have eu := f1 _ (ex_t e' sc)
  have ev := f2 _ (ex_t e' sd)
  rw [g1] at eu
  rw [g2] at ev
  cases eu
  cases ev
  refine ⟨Ex.new nT, tP (r[i], s[i]), ?_, .tup (st_of (by rw [cut_new nT, upd_same])) (.cons (.int _) (.cons (.int _) .nil))⟩
  have hi3 : i < (r.zip s).length := by rw [List.length_zip]; omega
  rw [List.getElem?_map, List.getElem?_eq_getElem hi3, List.getElem_zip]
  rfl
theorem i_zipI (h : EvDA K tA σ H [tI r, tI s]) (hl : r.length = s.length) : EvI K (RZ.iZipA K tA) σ H ((r.zip s).map tP) := fun H1 e R q => h H1 e _ fun vs H2 e2 hv => by
  obtain ⟨v1, v2, rfl, d1, d2⟩ := dp2 hv
  obtain ⟨c, xs, rfl, sc, dc⟩ := d1.tup_of
  obtain ⟨d, ys, rfl, sd, dd⟩ := d2.tup_of
  have e3 := dc.ints
  have e4 := dd.ints
  subst e3 e4
  exact ⟨c, d, _, _, rfl, .inr ⟨sc, sd, q _ H2 e2 (wk_zipI sc sd hl)⟩⟩
/-! promises -/
def spPrices (K : PySem.W.Frag) : Sp := fun vs H Q _ => ∃ a S U, vs = [.ref a, .int S, .int U] ∧ Bx K H a ∧ small S ∧ small U ∧ ∀ M v H', PrM S.toNat U.toNat M → Fr K [a] H H' → Bx K H' a → Dp K (off [a] H') v (.list (M.map lI)) → Q v H'
theorem spPrices_len (h : spPrices K vs H Q E) : vs.length = 3 := by
  obtain ⟨_, _, _, rfl, _⟩ := h
  rfl
end
theorem Priced.len {N : Nat} {xs used : List Int} (h : Priced N xs used) : xs.length = used.length := by
  obtain ⟨rs, h1, _, h3⟩ := h
  rw [h3, List.length_zipWith, h1, Nat.min_self]
theorem flat_len {U : Nat} : ∀ {M : List Row}, (∀ row ∈ M, row.length = U) → M.flatten.length = M.length * U
  | [], _ => by simp
  | r :: M, h => by
    rw [List.flatten_cons, List.length_append, h r List.mem_cons_self, flat_len fun x hx => h x (List.mem_cons_of_mem _ hx), List.length_cons, Nat.succ_mul]
    omega
theorem off_ints {K : PySem.W.Frag} {H : Hp} {S : List Addr} {q : Addr} {ns : List Int} (n : q ∉ S) (h : Li K H q ns) : Dp K (off S H) (.ref q) (lI ns) := by
  obtain ⟨xs, h1, h2⟩ := h
  have e := h2.ints
  subst e
  exact .lst (sq_of (off_at n h1)) (.of_ints ns)
theorem perm_pop {used lfs : List Int} {k : Nat} (h : k < lfs.length) : ((used ++ [lfs[k]]) ++ lfs.eraseIdx k).Perm (used ++ lfs) := by
  rw [List.append_assoc]
  refine List.Perm.append_left _ ?_
  have e : lfs = lfs.take k ++ lfs[k] :: lfs.drop (k + 1) := by rw [← List.drop_eq_getElem_cons h, List.take_append_drop]
  rw [List.eraseIdx_eq_take_drop_succ]
  have p : (lfs[k] :: (lfs.take k ++ lfs.drop (k + 1))).Perm (lfs.take k ++ lfs[k] :: lfs.drop (k + 1)) := List.perm_middle.symm
  rw [← e] at p
  exact p
end K11
/-! prices, best pairings -/
namespace K11
open PySem PySem.Spec PyProof.Rows L2 Evl
section
variable {P : Program} {w : World} {K : PySem.W.Frag} {mg : Str → Option Value} {base : Heap}
theorem sc_law_prices : FnScope ["_law_box_here", "_law_sorts", "_law_kinds", "_law_powers", "_law_left", "_law_prices_here", "_law_turn", "_law_sort", "_law_row", "_law_kind"] ["_law_box_here", "_law_sorts", "_law_kinds"] (defScope (top 38)) := ⟨rfl, rfl, rfl, by decide +kernel, rfl, by decide +kernel, by decide +kernel⟩
theorem bp_law_prices : BindsP "_law_prices" (top 38) ["_law_box_here", "_law_sorts", "_law_kinds"] := fun _ _ _ _ _ _ us hl => match us, hl with | [_, _, _], _ => rfl
theorem o_law_prices (W : Gs K mg) : OkF CX0 P w K mg base 2 "_law_prices" ["_law_box_here", "_law_sorts", "_law_kinds"] (spPrices K) := by
  refine ok_of W.n_law_prices sc_law_prices bp_law_prices (fun vs H Q E h => spPrices_len h) (fun f cdv A outer s H vs Q E hr h => ?_)
  refine ⟨_, (PSs.nox
  (pss_cons (ps_par3 (i := 3) (j := 4) (l := 5) rfl sc_law_prices.nd rfl rfl rfl (by decide) (by decide) (by decide) rfl rfl rfl (pa_cons (pe_lst (pa_cons pe_int pa_nil)) (pa_cons (pe_lst pa_nil) (pa_cons (pe_lst pa_nil) pa_nil))) rfl)
  (pss_cons (ps_for PassesOwn.never rfl (pi_range1 (by rfl) W.f_range (pa_cons (pe_op op_mul (pv 1) (pv 2)) pa_nil)) (pg_name (i := 6) sc_law_prices.nd rfl (.inl rfl))
  (pss_one (ps_expr (pe_bm PySem.F.plainAttrs_list PySem.F.slot_list_append PySem.F.type_list_append mt_append (pv 3) (pa_cons (pe_op op_mul pe_int (pe_ix (k_ixL K) (pv 3) (pe_un un_neg pe_int) (fun _ _ => rfl))) pa_nil)))))
  (pss_cons (ps_set (i := 4) sc_law_prices.nd rfl (.inl rfl) (pe_slice (k_slL K) (pv 3) po_none (po_some (pe_un un_neg pe_int))))
  (pss_cons (ps_for PassesOwn.never rfl (pi_range1 (by rfl) W.f_range (pa_cons (pv 1) pa_nil)) (pg_name (i := 7) sc_law_prices.nd rfl (.inl rfl))
  (pss_cons (ps_set (i := 8) sc_law_prices.nd rfl (.inl rfl) (pe_lst pa_nil))
  (pss_cons (ps_for PassesOwn.never rfl (pi_range1 (by rfl) W.f_range (pa_cons (pv 2) pa_nil)) (pg_name (i := 9) sc_law_prices.nd rfl (.inl rfl))
  (pss_one (ps_expr (pe_bm PySem.F.plainAttrs_list PySem.F.slot_list_append PySem.F.type_list_append mt_append (pv 8) (pa_cons (pe_op op_add (pe_op op_mul (pe_ix (k_ixL K) (pv 3) (pe_un un_neg pe_int) (fun _ _ => rfl)) (k_own (P := P) (w := w) (base := base) (o_law_take W) (hr.mono (by decide)) pass0 (by rfl) (pa_cons (pv 0) (pa_cons pe_int pa_nil)))) (pe_bm PySem.F.plainAttrs_list PySem.F.slot_list_pop PySem.F.type_list_pop mt_popAt (pv 4) (pa_cons (k_own (P := P) (w := w) (base := base) (o_law_take W) (hr.mono (by decide)) pass0 (by rfl) (pa_cons (pv 0) (pa_cons (pe_callB (k_len K) (by rfl) W.f_len boot_len (pa_cons (pv 4) pa_nil)) pa_nil))) pa_nil))) pa_nil)))))
  (pss_one (ps_expr (pe_bm PySem.F.plainAttrs_list PySem.F.slot_list_append PySem.F.type_list_append mt_append (pv 5) (pa_cons (pv 8) pa_nil)))))))
  (pss_one (ps_ret (pv 5)))))))), ?_⟩
  obtain ⟨a, S, U, rfl, hb, hS, hU, q⟩ := h
  obtain ⟨s1, s2⟩ := id hS
  obtain ⟨t1, t2⟩ := id hU
  obtain ⟨Sn, rfl⟩ := Int.eq_ofNat_of_zero_le (show 0 ≤ S by omega)
  obtain ⟨Un, rfl⟩ := Int.eq_ofNat_of_zero_le (show 0 ≤ U by omega)
  have sn4 : Sn ≤ 4 := by omega
  have un4 : Un ≤ 4 := by omega
  have nb : Sn * Un ≤ 16 := Nat.mul_le_mul sn4 un4
  rw [Int.toNat_natCast, Int.toNat_natCast] at q
  refine q_par3 (ta_consN (K := K) (n_lst (da_one d_ci) (show 1 ≤ 100000 by decide)) fun pw xs1 H1 n1 e1 h1 dp1 => ta_consN (K := K) d_lst0 fun lf0 xs2 H2 n2 e2 h2 dp2 => ta_consN (K := K) d_lst0 fun pr xs3 H3 n3 e3 h3 dp3 => ⟨_, _, _, rfl, ?_⟩)
  have npr : H pr = none := fresh_back (e1.trans e2) n3
  have eN : (Sn : Int) * (Un : Int) = ((Sn * Un : Nat) : Int) := (Int.natCast_mul Sn Un).symm
  refine q_forR1 (n := ((Sn * Un : Nat) : Int)) (ev_of_int (K := K) (d_is (d_op (d_var rfl (.int (Sn : Int))) (d_var rfl (.int (Un : Int))) (rd_mul (cmulL (by omega)))) (congrArg PyData.int eN))) (by omega)
    (fun i σ' H' => ∃ t, σ' = [some (.ref a), some (.int (Sn : Int)), some (.int (Un : Int)), some (.ref pw), some (.ref lf0), some (.ref pr), t, none, none, none] ∧ Fr K [pw] H3 H' ∧ Li K H' pw (pows (i + 1)))
    (fun H' e' => ⟨none, rfl, K11.Fr.ex e', ⟨xs1, e' _ _ (e3 _ _ (e2 _ _ h1)), dp1.ex ((e2.trans e3).trans e')⟩⟩) ?_ ?_
  · rintro i σ' H' hi ⟨t, rfl, f, lw⟩
    have el : atI (pows (i + 1)) (-1) = some ((2 : Int) ^ i) := by rw [pows_succ]; exact atI_last
    have ep : (2 : Int) * 2 ^ i = 2 ^ (i + 1) := by rw [Int.pow_succ, Int.mul_comm]
    refine s_appD (K := K) (d := .int ((2 : Int) ^ (i + 1))) lw (flat_I _) rfl (ev_var rfl) (d_is (d_op d_ci (d_ixI (d_var rfl lw.toD) d_neg1 el) (rd_mul (cmulL (by decide)))) (congrArg PyData.int ep)) (by rw [List.length_map, pows_len]; omega) fun H4 w4 l4 => ⟨_, rfl, f.trans (Fr.wr w4 (by simp)), l4.cg ?_⟩
    rw [pows_succ (i + 1), List.map_append]
    rfl
  rintro σ' H' ⟨t, rfl, f, lw⟩
  rw [Int.toNat_natCast] at lw
  have hb3 : Bx K H3 a := hb.ex ((e1.trans e2).trans e3)
  have ha_pw : a ≠ pw := hb.off n1
  have hb' : Bx K H' a := hb3.fr f (by simpa using ha_pw)
  have hpr' : H' pr = some (.lst xs3) := f.at h3 (by
    have : pw ≠ pr := ne_of_none (e2 _ _ h1) n3
    simpa using this.symm)
  have hx3 : xs3 = [] := by cases dp3; rfl
  subst hx3
  refine q_setN (K := K) (n_slL (d_var rfl lw.toD) o_none (o_some (K := K) d_neg1) (es := (pows (Sn * Un)).map .int) (by rw [cutD_init, pows_succ, List.map_append]; exact List.dropLast_concat)) fun lf xs4 H4 n4 e4 h4 dp4 => ?_
  have lw4 := lw.ex e4
  have hb4 := hb'.ex e4
  have hpr4 := e4 _ _ hpr'
  have a_lf : a ≠ lf := hb'.off n4
  have pw_lf : pw ≠ lf := lw.off n4
  have pr_lf : pr ≠ lf := fun z => by rw [z, n4] at hpr'; cases hpr'
  have a_pr : a ≠ pr := hb.off npr
  have pw_pr : pw ≠ pr := ne_of_none (e2 _ _ h1) n3
  have nlf : H lf = none := by
    cases hh : H lf with
    | none => rfl
    | some o => exact absurd (f.at (e3 _ _ (e2 _ _ (e1 _ _ hh))) (by
        have : lf ≠ pw := pw_lf.symm
        simpa using this)) (by rw [n4]; exact fun z => by cases z)
  have f4 : Fr K [a, pw, lf, pr] H H4 := (K11.Fr.ex ((e1.trans e2).trans e3)).trans ((f.sub (by simp)).trans (K11.Fr.ex e4))
  refine q_forR1 (ev_of_int (K := K) (d_var rfl (.int (Sn : Int)))) (by omega)
    (fun i σ' H' => ∃ t7 r8 k9 M used lfs vs, σ' = [some (.ref a), some (.int (Sn : Int)), some (.int (Un : Int)), some (.ref pw), some (.ref lf), some (.ref pr), t, t7, r8, k9] ∧ Fr K [a, lf, pr] H4 H' ∧ Bx K H' a ∧ Li K H' lf lfs ∧ H' pr = some (.lst vs) ∧ DpAll K (off [a, lf, pr] H') vs (M.map lI) ∧
      M.length = i ∧ (∀ row ∈ M, row.length = Un) ∧ Priced (Sn * Un) M.flatten used ∧ (used ++ lfs).Perm (pows (Sn * Un)))
    (fun H5 e5 => ⟨none, none, none, [], [], pows (Sn * Un), [], rfl, K11.Fr.ex e5, hb4.ex e5, ⟨xs4, e5 _ _ h4, dp4.ex e5⟩, e5 _ _ hpr4, .nil, rfl, by simp, Priced.nil, List.Perm.refl _⟩) ?_ ?_
  · rintro i σ' H' hi ⟨t7, r8, k9, M, used, lfs, vs, rfl, f5, hb5, ll5, hpr5, dvs, hM, hU', hP, hperm⟩
    refine q_setN (K := K) d_lst0 fun rw_ xs5 H5 n5 e5 h5 dp5 => ?_
    have a_rw : a ≠ rw_ := hb5.off n5
    have lf_rw : lf ≠ rw_ := ll5.off n5
    have pr_rw : pr ≠ rw_ := fun z => by rw [z, n5] at hpr5; cases hpr5
    have lw5 : Li K H' pw (pows (Sn * Un + 1)) := lw4.fr f5 (by simp [ha_pw.symm, pw_lf, pw_pr]) (flat_I _)
    have pw_rw : pw ≠ rw_ := lw5.off n5
    refine q_forR1 (ev_of_int (K := K) (d_var rfl (.int (Un : Int)))) (by omega)
      (fun j σ2 H6 => ∃ k9 ns used lfs, σ2 = [some (.ref a), some (.int (Sn : Int)), some (.int (Un : Int)), some (.ref pw), some (.ref lf), some (.ref pr), t, some (.int (i : Int)), some (.ref rw_), k9] ∧ Fr K [a, lf, rw_] H5 H6 ∧ Bx K H6 a ∧ Li K H6 lf lfs ∧ Li K H6 rw_ ns ∧
        ns.length = j ∧ Priced (Sn * Un) (M.flatten ++ ns) used ∧ (used ++ lfs).Perm (pows (Sn * Un)))
      (fun H6 e6 => ⟨_, [], used, lfs, rfl, K11.Fr.ex e6, hb5.ex (e5.trans e6), ll5.ex (e5.trans e6), ⟨xs5, e6 _ _ h5, dp5.ex e6⟩, rfl, by rw [List.append_nil]; exact hP, hperm⟩) ?_ ?_
    · rintro j σ2 H6 hj ⟨k9, ns, used, lfs, rfl, f6, hb6, ll6, lr6, hn, hP, hperm⟩
      have lw6 : Li K H6 pw (pows (Sn * Un + 1)) := (lw5.ex e5).fr f6 (by simp [ha_pw.symm, pw_lf, pw_rw]) (flat_I _)
      have el : atI (pows (Sn * Un + 1)) (-1) = some ((2 : Int) ^ (Sn * Un)) := by rw [pows_succ]; exact atI_last
      have hlen : 0 < lfs.length := by
        have h1 := hperm.length_eq
        rw [List.length_append, pows_len, ← hP.len, List.length_append, flat_len hU', hM, hn] at h1
        have h2 : (i + 1) * Un ≤ Sn * Un := Nat.mul_le_mul_right Un (by omega)
        rw [Nat.succ_mul] at h2
        omega
      have hlen2 : lfs.length ≤ 16 := by
        have h1 := hperm.length_eq
        rw [List.length_append, pows_len] at h1
        omega
      obtain ⟨xr, hxr, dxr⟩ := id lr6
      refine ⟨_, rfl, Or.inl ⟨rfl, _, sq_of hxr⟩, ?_⟩
      refine (d_ixI (K := K) (d_var rfl lw6.toD) d_neg1 el).int H6 (Ex.refl _) _ fun H7 e7 => ?_
      refine take_call (K := K) rfl (hb6.ex e7) d_ci ⟨by decide, by decide⟩ fun r H8 r0 r1 f8 b8 => ⟨_, _, rfl, rfl, cmulR ⟨by omega, by omega⟩, ?_⟩
      have ll8 : Li K H8 lf lfs := (ll6.ex e7).fr f8 (by simpa using a_lf.symm) (flat_I _)
      have lr8 : Li K H8 rw_ ns := (lr6.ex e7).fr f8 (by simpa using a_rw.symm) (flat_I _)
      obtain ⟨xl, hxl, dxl⟩ := id ll8
      refine ⟨_, rfl, Or.inl ⟨rfl, _, sq_of hxl⟩, ?_⟩
      have lenlf : EvD K (tCB (rLenS K) (tCons (tVar 4) tNil)) [some (.ref a), some (.int (Sn : Int)), some (.int (Un : Int)), some (.ref pw), some (.ref lf), some (.ref pr), t, some (.int (i : Int)), some (.ref rw_), some (.int (j : Int))] H8 (.int (lfs.length : Int)) := by
        have h2 := d_lenL (K := K) (d_var (i := 4) (σ := [some (.ref a), some (.int (Sn : Int)), some (.int (Un : Int)), some (.ref pw), some (.ref lf), some (.ref pr), t, some (.int (i : Int)), some (.ref rw_), some (.int (j : Int))]) rfl ll8.toD)
        rw [List.length_map] at h2
        exact h2
      refine take_call (K := K) rfl b8 lenlf ⟨by omega, by omega⟩ fun r2 H9 r20 r21 f9 b9 => ?_
      have ll9 : Li K H9 lf lfs := ll8.fr f9 (by simpa using a_lf.symm) (flat_I _)
      have lr9 : Li K H9 rw_ ns := lr8.fr f9 (by simpa using a_rw.symm) (flat_I _)
      obtain ⟨yl, hyl, dyl⟩ := id ll9
      have ey := dyl.ints
      subst ey
      have hk : r2.toNat < lfs.length := by omega
      have hix : seqIndex? r2 (lfs.map V.int).length = some r2.toNat := by
        have h0 : ¬ r2 < 0 := by omega
        have h9 : (decide (0 ≤ r2) && decide (r2 < (lfs.length : Int))) = true := by
          rw [decide_eq_true r20, decide_eq_true (show r2 < (lfs.length : Int) by omega)]
          rfl
        unfold seqIndex?
        simp only [List.length_map, if_neg h0]
        exact if_pos h9
      have eE : (lfs.map V.int).eraseIdx r2.toNat = (lfs.eraseIdx r2.toNat).map V.int := by
        rw [List.eraseIdx_eq_take_drop_succ, List.eraseIdx_eq_take_drop_succ, List.map_append, List.map_take, List.map_drop]
      refine ⟨lf, _, r2, r2.toNat, .int lfs[r2.toNat], rfl, rfl, hyl, by omega, by omega, hix, by rw [List.getElem?_map, List.getElem?_eq_getElem hk]; rfl, ?_⟩
      rw [eE]
      obtain ⟨zr, hzr, dzr⟩ := id lr9
      have ez := dzr.ints
      subst ez
      have hzr2 : (upd H9 lf (.lst ((lfs.eraseIdx r2.toNat).map V.int))) rw_ = some (.lst (ns.map V.int)) := by rw [upd_ne lf_rw.symm]; exact hzr
      refine ⟨_, _, rfl, rfl, rw_, _, _, rfl, rfl, hzr2, sz_lt (by rw [List.length_map]; omega), ?_⟩
      have t9 := Tx.lst (K := K) (o := .lst ((lfs.eraseIdx r2.toNat).map V.int)) hyl
      have t10 := Tx.lst (K := K) (o := .lst (ns.map V.int ++ [.int (2 ^ (Sn * Un) * r + lfs[r2.toNat])])) hzr2
      have fA : Fr K [a, lf, rw_] H9 (upd (upd H9 lf (.lst ((lfs.eraseIdx r2.toNat).map V.int))) rw_ (.lst (ns.map V.int ++ [.int (2 ^ (Sn * Un) * r + lfs[r2.toNat])]))) :=
        ⟨t9.trans t10, fun c o n hc => by
          have n1 : c ≠ lf := fun z => n (by simp [z])
          have n2 : c ≠ rw_ := fun z => n (by simp [z])
          rw [upd_ne n2, upd_ne n1]
          exact hc⟩
      refine ⟨_, ns ++ [2 ^ (Sn * Un) * r + lfs[r2.toNat]], used ++ [lfs[r2.toNat]], lfs.eraseIdx r2.toNat, rfl, f6.trans ((K11.Fr.ex e7).trans ((f8.sub (by simp)).trans ((f9.sub (by simp)).trans fA))), ?_, ⟨_, by rw [upd_ne lf_rw]; exact upd_same, .of_ints _⟩, ⟨_, upd_same, ?_⟩, by rw [List.length_append, hn]; rfl, ?_, (perm_pop hk).trans hperm⟩
      · obtain ⟨g, s, n, xb, hxb, dxb⟩ := b9
        exact ⟨g, s, n, xb, by rw [upd_ne a_rw, upd_ne a_lf]; exact hxb, (dxb.tx t9 (flat_I [g, s, n])).tx t10 (flat_I [g, s, n])⟩
      · have e9 : ns.map V.int ++ [V.int (2 ^ (Sn * Un) * r + lfs[r2.toNat])] = (ns ++ [2 ^ (Sn * Un) * r + lfs[r2.toNat]]).map V.int := by rw [List.map_append]; rfl
        rw [e9]
        exact .of_ints _
      · rw [← List.append_assoc]
        exact hP.snoc r0
    · rintro σ2 H6 ⟨k9, ns, used, lfs, rfl, f6, hb6, ll6, lr6, hn, hP, hperm⟩
      rw [Int.toNat_natCast] at hn
      have hpr6 : H6 pr = some (.lst vs) := f6.at (e5 _ _ hpr5) (by simp [a_pr.symm, pr_lf, pr_rw])
      have lvs : vs.length = i := by rw [dvs.len, List.length_map, hM]
      refine s_app (K := K) hpr6 (ev_var rfl) (ev_var rfl) (by omega) fun H7 e7 => ?_
      have hpr7 := e7 _ _ hpr6
      have t7' := Tx.lst (K := K) (o := .lst (vs ++ [.ref rw_])) hpr7
      have f7 : Fr K [a, lf, pr] H' (upd H7 pr (.lst (vs ++ [.ref rw_]))) := by
        have g1 : Fr K [a, lf, rw_, pr] H' (upd H7 pr (.lst (vs ++ [.ref rw_]))) := (K11.Fr.ex e5).trans ((f6.sub (by simp; try omega)).trans ((K11.Fr.ex e7).trans ⟨t7', fun c o n hc => by
          have n1 : c ≠ pr := fun z => n (by simp [z])
          rw [upd_ne n1]
          exact hc⟩))
        refine g1.cut fun c hc => ?_
        simp only [List.mem_cons, List.not_mem_nil, or_false] at hc ⊢
        rcases hc with hc | hc | hc | hc
        · exact .inl (.inl hc)
        · exact .inl (.inr (.inl hc))
        · exact .inr (hc ▸ n5)
        · exact .inl (.inr (.inr hc))
      have lr7 : Li K (upd H7 pr (.lst (vs ++ [.ref rw_]))) rw_ ns := by
        obtain ⟨zr, hzr, dzr⟩ := lr6
        exact ⟨zr, by rw [upd_ne pr_rw.symm]; exact e7 _ _ hzr, (dzr.ex e7).tx t7' (flat_I _)⟩
      refine ⟨_, _, _, M ++ [ns], used, lfs, vs ++ [.ref rw_], rfl, f5.trans f7, ?_, ?_, upd_same, ?_, by rw [List.length_append, hM]; rfl, ?_, ?_, hperm⟩
      · obtain ⟨g, s, n, xb, hxb, dxb⟩ := hb6
        exact ⟨g, s, n, xb, by rw [upd_ne a_pr]; exact e7 _ _ hxb, (dxb.ex e7).tx t7' (flat_I [g, s, n])⟩
      · obtain ⟨xb, hxb, dxb⟩ := ll6
        exact ⟨xb, by rw [upd_ne pr_lf.symm]; exact e7 _ _ hxb, (dxb.ex e7).tx t7' (flat_I _)⟩
      · rw [List.map_append]
        exact (dvs.ex f7.offE).app (.one (off_ints (by simp [a_rw.symm, lf_rw.symm, pr_rw.symm]) lr7))
      · intro row hr
        rcases List.mem_append.mp hr with hr | hr
        · exact hU' row hr
        · rw [List.mem_singleton.mp hr, hn]
      · rw [List.flatten_append, List.flatten_cons, List.flatten_nil, List.append_nil]
        exact hP
  · rintro σ' H' ⟨t7, r8, k9, M, used, lfs, vs, rfl, f5, hb5, ll5, hpr5, dvs, hM, hU', hP, hperm⟩
    rw [Int.toNat_natCast] at hM
    refine s_ret (ev_var rfl) fun H6 e6 => ?_
    have hl0 : lfs = [] := by
      have h1 := hperm.length_eq
      rw [List.length_append, pows_len, ← hP.len, flat_len hU', hM] at h1
      exact List.eq_nil_of_length_eq_zero (by omega)
    subst hl0
    rw [List.append_nil] at hperm
    refine q M _ H6 ⟨hM, hU', used, hP, hperm⟩ ?_ (hb5.ex e6) ?_
    · have g1 : Fr K [a, pw, lf, pr] H H6 := f4.trans ((f5.sub (by simp; try omega)).trans (K11.Fr.ex e6))
      refine g1.cut fun c hc => ?_
      simp only [List.mem_cons, List.not_mem_nil, or_false] at hc ⊢
      rcases hc with hc | hc | hc | hc
      · exact .inl hc
      · exact .inr (hc ▸ n1)
      · exact .inr (hc ▸ nlf)
      · exact .inr (hc ▸ npr)
    · have h6 : off [a] H6 pr = some (.lst vs) := off_at (by simpa using a_pr.symm) (e6 _ _ hpr5)
      exact .lst (sq_of h6) (dvs.ex ((off_ext e6).trans (off_less (by simp))))
end
end K11
/-! the mathematics of lots, orders, parts, whole tables -/
namespace K11
open PySem
abbrev Up (r : Row) : Prop := r.Pairwise (· < ·)
theorem Up.nodup {r : Row} (h : Up r) : r.Nodup := h.imp fun h => by omega
theorem up_snoc {r : Row} {x : Int} : Up (r ++ [x]) ↔ Up r ∧ ∀ y ∈ r, y < x := by
  unfold Up
  rw [List.pairwise_append]
  simp
theorem lo_le {r : Row} (h : Up r) : ∀ y ∈ r, y < loR r := by
  refine rev_ind (P := fun r => Up r → ∀ y ∈ r, y < loR r) (fun _ y hy => nomatch hy) (fun r x ih h y hy => ?_) r h
  have e : loR (r ++ [x]) = x + 1 := by simp [loR]
  rw [e]
  rcases List.mem_append.mp hy with hy | hy
  · have := (up_snoc.mp h).2 y hy
    omega
  · rw [List.mem_singleton.mp hy]
    omega
theorem lo_of {r : Row} {x : Int} (h : ∀ y ∈ r, y < x) (h0 : 0 ≤ x) : loR r ≤ x := by
  revert h
  refine rev_ind (P := fun r => (∀ y ∈ r, y < x) → loR r ≤ x) (fun _ => h0) (fun r z _ h => ?_) r
  have e : loR (r ++ [z]) = z + 1 := by simp [loR]
  rw [e]
  have := h z (by simp)
  omega
theorem lo_nn {r : Row} (h : ∀ y ∈ r, 0 ≤ y) : 0 ≤ loR r := by
  revert h
  refine rev_ind (P := fun r => (∀ y ∈ r, 0 ≤ y) → 0 ≤ loR r) (fun _ => Int.le_refl 0) (fun r z _ h => ?_) r
  have e : loR (r ++ [z]) = z + 1 := by simp [loR]
  rw [e]
  have := h z (by simp)
  omega
def In (m : Int) (r : Row) : Prop := ∀ x ∈ r, 0 ≤ x ∧ x < m
theorem mem_rowsN {m : Int} : ∀ {n : Nat} {r : Row}, r ∈ rowsN m n ↔ r.length = n ∧ Up r ∧ In m r
  | 0, r => by
    show r ∈ [[]] ↔ _
    rw [List.mem_singleton]
    constructor
    · rintro rfl
      exact ⟨rfl, List.Pairwise.nil, fun x hx => nomatch hx⟩
    · rintro ⟨h, _⟩
      exact List.eq_nil_of_length_eq_zero h
  | n + 1, r => by
    show r ∈ rowsUp m (rowsN m n) ↔ _
    unfold rowsUp
    rw [List.mem_flatMap]
    constructor
    · rintro ⟨q, hq, h⟩
      obtain ⟨x, hx, rfl⟩ := List.mem_map.mp h
      obtain ⟨h1, h2, h3⟩ := mem_rowsN.mp hq
      obtain ⟨x1, x2⟩ := mem_upR.mp hx
      refine ⟨by rw [List.length_append, h1]; rfl, up_snoc.mpr ⟨h2, fun y hy => ?_⟩, fun y hy => ?_⟩
      · have := lo_le h2 y hy
        omega
      · rcases List.mem_append.mp hy with hy | hy
        · exact h3 y hy
        · rw [List.mem_singleton.mp hy]
          have := lo_nn fun y hy => (h3 y hy).1
          omega
    · rintro ⟨h1, h2, h3⟩
      have hne : r ≠ [] := fun z => by rw [z] at h1; cases h1
      obtain ⟨q, x, rfl⟩ : ∃ q x, r = q ++ [x] := ⟨r.dropLast, r.getLast hne, (List.dropLast_concat_getLast hne).symm⟩
      have h4 := up_snoc.mp h2
      have hx := h3 x (by simp)
      refine ⟨q, mem_rowsN.mpr ⟨by simpa using h1, h4.1, fun y hy => h3 y (List.mem_append_left _ hy)⟩, List.mem_map.mpr ⟨x, mem_upR.mpr ⟨lo_of h4.2 hx.1, hx.2⟩, rfl⟩⟩
theorem mem_ordN {r : Row} : ∀ {n : Nat} {o : Row}, o ∈ ordN r n ↔ o.length = n ∧ o.Nodup ∧ ∀ x ∈ o, x ∈ r
  | 0, o => by
    show o ∈ [[]] ↔ _
    rw [List.mem_singleton]
    constructor
    · rintro rfl
      exact ⟨rfl, List.nodup_nil, fun x hx => nomatch hx⟩
    · rintro ⟨h, _⟩
      exact List.eq_nil_of_length_eq_zero h
  | n + 1, o => by
    show o ∈ ordUp r (ordN r n) ↔ _
    unfold ordUp
    rw [List.mem_flatMap]
    constructor
    · rintro ⟨q, hq, h⟩
      obtain ⟨x, hx, rfl⟩ := List.mem_map.mp h
      obtain ⟨h1, h2, h3⟩ := mem_ordN.mp hq
      obtain ⟨x1, x2⟩ := List.mem_filter.mp hx
      have x3 : x ∉ q := by simpa using x2
      refine ⟨by rw [List.length_append, h1]; rfl, List.nodup_append.mpr ⟨h2, by simp, fun a ha b hb => ?_⟩, fun y hy => ?_⟩
      · rw [List.mem_singleton.mp hb]
        exact fun z => x3 (z ▸ ha)
      · rcases List.mem_append.mp hy with hy | hy
        · exact h3 y hy
        · rw [List.mem_singleton.mp hy]
          exact x1
    · rintro ⟨h1, h2, h3⟩
      have hne : o ≠ [] := fun z => by rw [z] at h1; cases h1
      obtain ⟨q, x, rfl⟩ : ∃ q x, o = q ++ [x] := ⟨o.dropLast, o.getLast hne, (List.dropLast_concat_getLast hne).symm⟩
      obtain ⟨h4, _, h5⟩ := List.nodup_append.mp h2
      have x3 : x ∉ q := fun z => h5 x z x (by simp) rfl
      exact ⟨q, mem_ordN.mpr ⟨by simpa using h1, h4, fun y hy => h3 y (List.mem_append_left _ hy)⟩, List.mem_map.mpr ⟨x, List.mem_filter.mpr ⟨h3 x (by simp), by simpa using x3⟩, rfl⟩⟩
theorem mem_orders {r o : Row} : o ∈ orders r ↔ o.length = r.length ∧ o.Nodup ∧ ∀ x ∈ o, x ∈ r := mem_ordN
/-- a lot of sorts below S and kinds below U, n of each -/
structure LotOk (S U : Int) (n : Nat) (l : Lot) : Prop where
  len1 : l.1.length = n
  len2 : l.2.length = n
  up1 : Up l.1
  up2 : Up l.2
  in1 : In S l.1
  in2 : In U l.2
theorem mem_lotsOf {S U : Int} {n : Nat} {l : Lot} : l ∈ lotsOf S U n ↔ LotOk S U n l := by
  unfold lotsOf
  rw [List.mem_flatMap]
  constructor
  · rintro ⟨j, hj, h⟩
    obtain ⟨s, hs, rfl⟩ := List.mem_map.mp h
    obtain ⟨a1, a2, a3⟩ := mem_rowsN.mp hj
    obtain ⟨b1, b2, b3⟩ := mem_rowsN.mp hs
    exact ⟨a1, b1, a2, b2, a3, b3⟩
  · intro h
    exact ⟨l.1, mem_rowsN.mpr ⟨h.len1, h.up1, h.in1⟩, List.mem_map.mpr ⟨l.2, mem_rowsN.mpr ⟨h.len2, h.up2, h.in2⟩, rfl⟩⟩
theorem mem_lotsUp {S U : Int} {l : Lot} : ∀ {m : Nat}, l ∈ lotsUp S U m ↔ ∃ n, 2 ≤ n ∧ n ≤ m + 1 ∧ LotOk S U n l
  | 0 => by
    show l ∈ [] ↔ _
    constructor
    · intro h; cases h
    · rintro ⟨n, h1, h2, _⟩; omega
  | m + 1 => by
    show l ∈ lotsUp S U m ++ lotsOf S U (m + 2) ↔ _
    rw [List.mem_append, mem_lotsUp, mem_lotsOf]
    constructor
    · rintro (⟨n, h1, h2, h3⟩ | h)
      · exact ⟨n, h1, by omega, h3⟩
      · exact ⟨m + 2, by omega, by omega, h⟩
    · rintro ⟨n, h1, h2, h3⟩
      by_cases e : n = m + 2
      · exact .inr (e ▸ h3)
      · exact .inl ⟨n, h1, by omega, h3⟩
theorem up_len {m : Int} (h0 : 0 ≤ m) {r : Row} (h : Up r) (hi : In m r) : (r.length : Int) ≤ m := by
  have key : ∀ (r : Row) (m : Int), 0 ≤ m → Up r → In m r → (r.length : Int) ≤ m := by
    intro r
    refine rev_ind (P := fun r => ∀ m : Int, 0 ≤ m → Up r → In m r → (r.length : Int) ≤ m) (fun m h0 _ _ => h0) (fun r x ih m h0 h hi => ?_) r
    obtain ⟨h1, h2⟩ := up_snoc.mp h
    have hx := hi x (by simp)
    have := ih x hx.1 h1 fun y hy => ⟨(hi y (List.mem_append_left _ hy)).1, h2 y hy⟩
    rw [List.length_append, List.length_singleton]
    omega
  exact key r m h0 h hi
theorem mem_lots {S U : Int} (hS : small S) (hU : small U) {l : Lot} : l ∈ lots S U ↔ ∃ n, 2 ≤ n ∧ LotOk S U n l := by
  have hm := minI_le hS hU
  unfold lots
  rw [mem_lotsUp]
  constructor
  · rintro ⟨n, h1, _, h3⟩
    exact ⟨n, h1, h3⟩
  · rintro ⟨n, h1, h3⟩
    refine ⟨n, h1, ?_, h3⟩
    have a := up_len (show 0 ≤ S by have := hS.1; omega) h3.up1 h3.in1
    have b := up_len (show 0 ≤ U by have := hU.1; omega) h3.up2 h3.in2
    rw [h3.len1] at a
    rw [h3.len2] at b
    have : (n : Int) ≤ minI S U := by unfold minI; split <;> assumption
    omega
theorem LotOk.le4 {S U : Int} (hS : small S) {n : Nat} {l : Lot} (h : LotOk S U n l) : n ≤ 4 := by
  have a := up_len (show 0 ≤ S by have := hS.1; omega) h.up1 h.in1
  rw [h.len1] at a
  have := hS.2
  omega
/-! ### lots stand by size -/
theorem lotsUp_sorted (S U : Int) : ∀ m, (lotsUp S U m).Pairwise fun a b => a.1.length ≤ b.1.length
  | 0 => List.Pairwise.nil
  | m + 1 => by
    show (lotsUp S U m ++ lotsOf S U (m + 2)).Pairwise _
    rw [List.pairwise_append]
    refine ⟨lotsUp_sorted S U m, ?_, fun a ha b hb => ?_⟩
    · refine List.pairwise_of_forall_mem_list (fun a ha b hb => ?_)
      rw [(mem_lotsOf.mp ha).len1, (mem_lotsOf.mp hb).len1]
      exact Nat.le_refl _
    · obtain ⟨n, _, h2, h3⟩ := mem_lotsUp.mp ha
      rw [h3.len1, (mem_lotsOf.mp hb).len1]
      omega
theorem lots_less {S U : Int} {i : Nat} {l l' : Lot} (hi : (lots S U)[i]? = some l) (h : l' ∈ lots S U) (hl : l'.1.length < l.1.length) : l' ∈ (lots S U).take i := by
  obtain ⟨j, hj⟩ := List.mem_iff_getElem?.mp h
  have hji : j < i := by
    refine Nat.lt_of_not_le fun z => ?_
    rcases Nat.eq_or_lt_of_le z with e | e
    · rw [← e, hi] at hj
      cases hj
      omega
    · have sorted := lotsUp_sorted S U (minI S U - 1).toNat
      have hi' : i < (lots S U).length := (List.getElem?_eq_some_iff.mp hi).1
      have hj' : j < (lots S U).length := (List.getElem?_eq_some_iff.mp hj).1
      have := List.pairwise_iff_getElem.mp sorted i j hi' hj' e
      have e1 : (lots S U)[i] = l := (List.getElem?_eq_some_iff.mp hi).2
      have e2 : (lots S U)[j] = l' := (List.getElem?_eq_some_iff.mp hj).2
      have e3 : (lotsUp S U (minI S U - 1).toNat)[i]'hi' = l := e1
      have e4 : (lotsUp S U (minI S U - 1).toNat)[j]'hj' = l' := e2
      rw [e3, e4] at this
      omega
  exact List.mem_iff_getElem?.mpr ⟨j, by rw [List.getElem?_take_of_lt hji]; exact hj⟩
theorem lots_le {S U : Int} {i : Nat} {l l' : Lot} (hi : (lots S U)[i]? = some l) (h : l' ∈ (lots S U).take i) : l'.1.length ≤ l.1.length := by
  obtain ⟨j, hj⟩ := List.mem_iff_getElem?.mp h
  have hji : j < i := by
    have := (List.getElem?_eq_some_iff.mp hj).1
    rw [List.length_take] at this
    omega
  rw [List.getElem?_take_of_lt hji] at hj
  have sorted := lotsUp_sorted S U (minI S U - 1).toNat
  have hi' : i < (lots S U).length := (List.getElem?_eq_some_iff.mp hi).1
  have hj' : j < (lots S U).length := (List.getElem?_eq_some_iff.mp hj).1
  have := List.pairwise_iff_getElem.mp sorted j i hj' hi' hji
  have e3 : (lotsUp S U (minI S U - 1).toNat)[i]'hi' = l := (List.getElem?_eq_some_iff.mp hi).2
  have e4 : (lotsUp S U (minI S U - 1).toNat)[j]'hj' = l' := (List.getElem?_eq_some_iff.mp hj).2
  rw [e3, e4] at this
  exact this
/-! ### parts -/
theorem dropAt_eq {r : Row} {i : Nat} : dropAt r i = r.eraseIdx i := by
  unfold dropAt
  rw [List.eraseIdx_eq_take_drop_succ]
theorem dropAt_len {r : Row} {i : Nat} (h : i < r.length) : (dropAt r i).length + 1 = r.length := by
  rw [dropAt_eq, List.length_eraseIdx_of_lt h]
  omega
theorem dropAt_sub {r : Row} {i : Nat} : (dropAt r i).Sublist r := by rw [dropAt_eq]; exact List.eraseIdx_sublist _ _
theorem kind_mem {p : Row} {i : Nat} (h : i < p.length) : kindAt p i ∈ p := by
  unfold kindAt
  rw [List.getD_eq_getElem?_getD, List.getElem?_eq_getElem h]
  exact List.getElem_mem h
theorem filter_ne_len {r : Row} {k : Int} (hn : r.Nodup) (hk : k ∈ r) : (r.filter fun x => !decide (x = k)).length + 1 = r.length := by
  induction r with
  | nil => cases hk
  | cons a r ih =>
    obtain ⟨h1, h2⟩ := List.nodup_cons.mp hn
    by_cases e : a = k
    · subst e
      have e2 : (r.filter fun x => !decide (x = a)) = r := List.filter_eq_self.mpr fun x hx => by
        have : x ≠ a := fun z => h1 (z ▸ hx)
        simp [this]
      rw [List.filter_cons, if_neg (by simp), e2, List.length_cons]
    · rw [List.filter_cons, if_pos (by simp [e]), List.length_cons, List.length_cons, ih h2 ((List.mem_cons.mp hk).resolve_left fun z => e z.symm)]
theorem part_ok {S U : Int} {n : Nat} {l : Lot} {p : Row} {i : Nat} (h : LotOk S U (n + 1) l) (hp : p ∈ orders l.2) (hi : i < p.length) : LotOk S U n (partL l p i) := by
  obtain ⟨p1, p2, p3⟩ := mem_orders.mp hp
  have hl1 : i < l.1.length := by rw [h.len1, ← h.len2, ← p1]; exact hi
  refine ⟨?_, ?_, h.up1.sublist dropAt_sub, h.up2.sublist List.filter_sublist, fun x hx => h.in1 x (dropAt_sub.mem hx), fun x hx => h.in2 x (List.mem_filter.mp hx).1⟩
  · have := dropAt_len hl1
    rw [h.len1] at this
    show (dropAt l.1 i).length = n
    omega
  · have := filter_ne_len h.up2.nodup (p3 _ (kind_mem hi))
    rw [h.len2] at this
    show (l.2.filter fun x => !decide (x = kindAt p i)).length = n
    omega
/-! ### whole tables -/
structure WholeUp (S U : Int) (T : Lot → Option Row) (L : List Lot) : Prop where
  one0 : T ([], []) = some []
  one1 : ∀ s k, 0 ≤ s → s < S → 0 ≤ k → k < U → T ([s], [k]) = some [k]
  lot : ∀ l ∈ L, ∃ p, T l = some p ∧ p ∈ orders l.2 ∧ fitsB T l p = true
abbrev Whole (S U : Int) (T : Lot → Option Row) : Prop := WholeUp S U T (lots S U)
theorem ones_whole (S U : Int) : WholeUp S U (ones S U) [] := by
  refine ⟨rfl, fun s k h1 h2 h3 h4 => ?_, fun l hl => nomatch hl⟩
  show onesP U S 0 ([s], [k]) = some [k]
  unfold onesP
  rw [if_neg (by simp)]
  show (if _ then _ else _) = _
  rw [if_pos (by omega)]
theorem WholeUp.one {S U : Int} {T : Lot → Option Row} {L : List Lot} (h : WholeUp S U T L) {l : Lot} (hl : LotOk S U 1 l) : T l = some l.2 := by
  obtain ⟨j, s⟩ := l
  obtain ⟨a, rfl⟩ := List.length_eq_one_iff.mp hl.len1
  obtain ⟨b, rfl⟩ := List.length_eq_one_iff.mp hl.len2
  have h1 := hl.in1 a (by simp)
  have h2 := hl.in2 b (by simp)
  exact h.one1 a b h1.1 h1.2 h2.1 h2.2
/-- the parts of a lot's pairings are known -/
theorem WholeUp.part {S U : Int} (hS : small S) (hU : small U) {T : Lot → Option Row} {i : Nat} {l : Lot} (h : WholeUp S U T ((lots S U).take i)) (hi : (lots S U)[i]? = some l) {p : Row} (hp : p ∈ orders l.2) {j : Nat} (hj : j < p.length) : (T (partL l p j)).isSome = true := by
  obtain ⟨n, h2, ok⟩ := (mem_lots hS hU).mp (List.mem_of_getElem? hi)
  obtain ⟨n, rfl⟩ : ∃ m, n = m + 1 := ⟨n - 1, by omega⟩
  have pk := part_ok ok hp hj
  by_cases e : n = 1
  · subst e
    rw [h.one pk]
    rfl
  · obtain ⟨q, hq, _⟩ := h.lot _ (lots_less hi ((mem_lots hS hU).mpr ⟨n, by omega, pk⟩) (by rw [pk.len1, ok.len1]; omega))
    rw [hq]
    rfl
theorem Whole.known {S U : Int} (hS : small S) (hU : small U) {T : Lot → Option Row} (h : Whole S U T) {n : Nat} {l : Lot} (hl : LotOk S U n l) : (T l).isSome = true := by
  by_cases e0 : n = 0
  · subst e0
    obtain ⟨j, s⟩ := l
    have e1 : j = [] := List.eq_nil_of_length_eq_zero hl.len1
    have e2 : s = [] := List.eq_nil_of_length_eq_zero hl.len2
    subst e1 e2
    rw [h.one0]
    rfl
  · by_cases e1 : n = 1
    · subst e1
      rw [h.one hl]
      rfl
    · obtain ⟨q, hq, _⟩ := h.lot l ((mem_lots hS hU).mpr ⟨n, by omega, hl⟩)
      rw [hq]
      rfl
theorem Whole.partK {S U : Int} (hS : small S) (hU : small U) {T : Lot → Option Row} (h : Whole S U T) {l : Lot} (hl : l ∈ lots S U) {p : Row} (hp : p ∈ orders l.2) {j : Nat} (hj : j < p.length) : (T (partL l p j)).isSome = true := by
  obtain ⟨n, h2, ok⟩ := (mem_lots hS hU).mp hl
  obtain ⟨n, rfl⟩ : ∃ m, n = m + 1 := ⟨n - 1, by omega⟩
  exact h.known hS hU (part_ok ok hp hj)
theorem fits_congr {T T' : Lot → Option Row} {l : Lot} {p : Row} (h : ∀ i, i < p.length → T (partL l p i) = T' (partL l p i)) : fitsB T l p = fitsB T' l p := by
  unfold fitsB
  refine Bool.eq_iff_iff.mpr ?_
  rw [List.all_eq_true, List.all_eq_true]
  constructor
  · intro q i hi
    rw [← h i (List.mem_range.mp hi)]
    exact q i hi
  · intro q i hi
    rw [h i (List.mem_range.mp hi)]
    exact q i hi
theorem setTs_ne {T : Lot → Option Row} {l l' : Lot} {r : Row} (h : l' ≠ l) : setTs T l r l' = T l' := if_neg h
theorem setTs_eq {T : Lot → Option Row} {l : Lot} {r : Row} : setTs T l r l = some r := if_pos rfl
theorem WholeUp.set {S U : Int} (hS : small S) (hU : small U) {T : Lot → Option Row} {i : Nat} {l : Lot} {p : Row} (h : WholeUp S U T ((lots S U).take i)) (hi : (lots S U)[i]? = some l) (hp : p ∈ orders l.2) (hf : fitsB T l p = true) : WholeUp S U (setTs T l p) ((lots S U).take (i + 1)) := by
  obtain ⟨n, h2, ok⟩ := (mem_lots hS hU).mp (List.mem_of_getElem? hi)
  have small_ne : ∀ l' : Lot, l'.1.length < n → l' ≠ l := fun l' hl z => by rw [z, ok.len1] at hl; omega
  have keep : ∀ l' ∈ lots S U, l'.1.length ≤ n → ∀ p' ∈ orders l'.2, fitsB (setTs T l p) l' p' = fitsB T l' p' := fun l' hl hle p' hp' => fits_congr fun j hj => by
    obtain ⟨n', h2', ok'⟩ := (mem_lots hS hU).mp hl
    obtain ⟨n', rfl⟩ : ∃ m, n' = m + 1 := ⟨n' - 1, by omega⟩
    have pk := part_ok ok' hp' hj
    rw [ok'.len1] at hle
    exact setTs_ne (small_ne _ (by rw [pk.len1]; omega))
  refine ⟨?_, fun s k h1 h2' h3 h4 => ?_, fun l' hl' => ?_⟩
  · rw [setTs_ne (small_ne _ (by show 0 < n; omega))]
    exact h.one0
  · rw [setTs_ne (small_ne _ (by show 1 < n; omega))]
    exact h.one1 s k h1 h2' h3 h4
  · have e : (lots S U).take (i + 1) = (lots S U).take i ++ [l] := by rw [List.take_add_one, hi]; rfl
    rw [e] at hl'
    by_cases hll : l' = l
    · subst hll
      refine ⟨p, setTs_eq, hp, ?_⟩
      rw [keep l' (List.mem_of_getElem? hi) (by rw [ok.len1]; exact Nat.le_refl _) p hp]
      exact hf
    · rcases List.mem_append.mp hl' with hl' | hl'
      · obtain ⟨q, h5, h6, h7⟩ := h.lot l' hl'
        refine ⟨q, by rw [setTs_ne hll]; exact h5, h6, ?_⟩
        rw [keep l' (List.mem_of_mem_take hl') (by rw [← ok.len1]; exact lots_le hi hl') q h6]
        exact h7
      · exact absurd (List.mem_singleton.mp hl') hll
/-- an entry changed: the lots of one more size are looked at again -/
theorem Whole.turn {S U : Int} (hS : small S) (hU : small U) {T : Lot → Option Row} {l : Lot} {p : Row} (h : Whole S U T) (hl : l ∈ lots S U) (hp : p ∈ orders l.2) (hf : fitsB T l p = true)
    (hc : ∀ l' ∈ lots S U, l'.1.length = l.1.length + 1 → fitsB (setTs T l p) l' ((setTs T l p l').getD []) = true) : Whole S U (setTs T l p) := by
  obtain ⟨n, h2, ok⟩ := (mem_lots hS hU).mp hl
  have len_ne : ∀ l' : Lot, l'.1.length ≠ n → l' ≠ l := fun l' hl z => by rw [z, ok.len1] at hl; exact hl rfl
  refine ⟨?_, fun s k h1 h2' h3 h4 => ?_, fun l' hl' => ?_⟩
  · rw [setTs_ne (len_ne _ (by show 0 ≠ n; omega))]
    exact h.one0
  · rw [setTs_ne (len_ne _ (by show 1 ≠ n; omega))]
    exact h.one1 s k h1 h2' h3 h4
  · obtain ⟨n', h2', ok'⟩ := (mem_lots hS hU).mp hl'
    obtain ⟨n', rfl⟩ : ∃ m, n' = m + 1 := ⟨n' - 1, by omega⟩
    have keep : n' ≠ n → ∀ p' ∈ orders l'.2, fitsB (setTs T l p) l' p' = fitsB T l' p' := fun hne p' hp' => fits_congr fun j hj => setTs_ne (len_ne _ (by rw [(part_ok ok' hp' hj).len1]; exact hne))
    by_cases hll : l' = l
    · subst hll
      have e : n' + 1 = n := by rw [← ok.len1, ← ok'.len1]
      refine ⟨p, setTs_eq, hp, ?_⟩
      rw [keep (by omega) p hp]
      exact hf
    · obtain ⟨q, h5, h6, h7⟩ := h.lot l' hl'
      have e5 : setTs T l p l' = some q := by rw [setTs_ne hll]; exact h5
      refine ⟨q, e5, h6, ?_⟩
      by_cases e : n' = n
      · have := hc l' hl' (by rw [ok'.len1, ok.len1, e])
        rw [e5] at this
        exact this
      · rw [keep e q h6]
        exact h7
end K11
/-! a table of best pairings is whole -/
namespace K11
open PySem
theorem sum_perm {a b : List Int} (h : a.Perm b) : a.sum = b.sum := by
  induction h with
  | nil => rfl
  | cons x _ ih => rw [List.sum_cons, List.sum_cons, ih]
  | swap x y l => simp only [List.sum_cons]; omega
  | trans _ _ h1 h2 => exact h1.trans h2
theorem top_out {N : Nat} {A : List Int} (hn : A.Nodup) (hA : ∀ x ∈ A, x ∈ pows (N + 1)) : ∀ x ∈ A.erase (2 ^ N), x ∈ pows N := fun x hx => by
  have h1 := hA x (List.mem_of_mem_erase hx)
  rw [pows_succ] at h1
  rcases List.mem_append.mp h1 with h1 | h1
  · exact h1
  · rw [List.mem_singleton.mp h1] at hx
    exact absurd hx (List.Nodup.not_mem_erase hn)
theorem top_not {N : Nat} {A : List Int} (hA : ∀ x ∈ A, x ∈ pows (N + 1)) (h : (2 : Int) ^ N ∉ A) : ∀ x ∈ A, x ∈ pows N := fun x hx => by
  have h1 := hA x hx
  rw [pows_succ] at h1
  rcases List.mem_append.mp h1 with h1 | h1
  · exact h1
  · rw [List.mem_singleton.mp h1] at hx
    exact absurd hx h
theorem sum_erase {A : List Int} {x : Int} (h : x ∈ A) : A.sum = x + (A.erase x).sum := by
  rw [sum_perm (List.perm_cons_erase h), List.sum_cons]
theorem pow_sum : ∀ (N : Nat) (A : List Int), A.Nodup → (∀ x ∈ A, x ∈ pows N) → 0 ≤ A.sum ∧ A.sum < 2 ^ N
  | 0, A, _, hA => by
    have : A = [] := List.eq_nil_iff_forall_not_mem.mpr fun x hx => by
      have := hA x hx
      simp [pows] at this
    subst this
    decide
  | N + 1, A, hn, hA => by
    have e : (2 : Int) ^ (N + 1) = 2 ^ N + 2 ^ N := by rw [Int.pow_succ]; omega
    by_cases h : (2 : Int) ^ N ∈ A
    · have h1 := pow_sum N (A.erase (2 ^ N)) (hn.erase _) (top_out hn hA)
      rw [sum_erase h]
      omega
    · have h1 := pow_sum N A hn (top_not hA h)
      omega
theorem pow_inj : ∀ (N : Nat) (A B : List Int), A.Nodup → B.Nodup → (∀ x ∈ A, x ∈ pows N) → (∀ x ∈ B, x ∈ pows N) → A.sum = B.sum → ∀ x ∈ A, x ∈ B
  | 0, A, B, _, _, hA, _, _, x, hx => by
    have := hA x hx
    simp [pows] at this
  | N + 1, A, B, nA, nB, hA, hB, hs, x, hx => by
    by_cases h : (2 : Int) ^ N ∈ A
    · by_cases k : (2 : Int) ^ N ∈ B
      · have e : (A.erase (2 ^ N)).sum = (B.erase (2 ^ N)).sum := by
          have h1 := sum_erase h
          have h2 := sum_erase k
          omega
        by_cases hxe : x = 2 ^ N
        · rw [hxe]; exact k
        · have hx2 : x ∈ A.erase (2 ^ N) := (List.mem_erase_of_ne hxe).mpr hx
          exact List.mem_of_mem_erase (pow_inj N _ _ (nA.erase _) (nB.erase _) (top_out nA hA) (top_out nB hB) e x hx2)
      · have h1 := pow_sum N B nB (top_not hB k)
        have h2 := pow_sum N (A.erase (2 ^ N)) (nA.erase _) (top_out nA hA)
        have h3 := sum_erase h
        omega
    · by_cases k : (2 : Int) ^ N ∈ B
      · have h1 := pow_sum N A nA (top_not hA h)
        have h2 := pow_sum N (B.erase (2 ^ N)) (nB.erase _) (top_out nB hB)
        have h3 := sum_erase k
        omega
      · exact pow_inj N A B nA nB (top_not hA h) (top_not hB k) hs x hx
theorem pows_nodup : ∀ N, (pows N).Nodup
  | 0 => List.nodup_nil
  | N + 1 => by
    rw [pows_succ]
    refine List.nodup_append.mpr ⟨pows_nodup N, by simp, fun a ha b hb => ?_⟩
    rw [List.mem_singleton.mp hb]
    intro z
    have h1 := pow_sum N [a] (by simp) (by simpa using ha)
    simp at h1
    omega
theorem nodup_on {α β : Type} {f : α → β} : ∀ {l : List α}, (∀ a ∈ l, ∀ b ∈ l, f a = f b → a = b) → l.Nodup → (l.map f).Nodup
  | [], _, _ => List.nodup_nil
  | a :: l, h, hn => by
    obtain ⟨h1, h2⟩ := List.nodup_cons.mp hn
    rw [List.map_cons]
    refine List.nodup_cons.mpr ⟨fun z => ?_, nodup_on (fun x hx y hy => h x (List.mem_cons_of_mem _ hx) y (List.mem_cons_of_mem _ hy)) h2⟩
    obtain ⟨b, hb, e⟩ := List.mem_map.mp z
    exact h1 (h b (List.mem_cons_of_mem _ hb) a List.mem_cons_self e ▸ hb)
theorem nodup_of {α β : Type} {f : α → β} : ∀ {l : List α}, (l.map f).Nodup → l.Nodup
  | [], _ => List.nodup_nil
  | a :: l, h => by
    rw [List.map_cons] at h
    obtain ⟨h1, h2⟩ := List.nodup_cons.mp h
    exact List.nodup_cons.mpr ⟨fun z => h1 (List.mem_map_of_mem z), nodup_of h2⟩
/-! ### cells -/
theorem flat_get {U : Nat} : ∀ {M : List Row} {s k : Nat}, (∀ row ∈ M, row.length = U) → s < M.length → k < U → (M.getD s []).getD k 0 = M.flatten.getD (s * U + k) 0
  | [], s, k, _, h, _ => by simp at h
  | r :: M, 0, k, hM, _, hk => by
    have hr := hM r List.mem_cons_self
    rw [List.flatten_cons, Nat.zero_mul, Nat.zero_add, List.getD_cons_zero, List.getD_eq_getElem?_getD, List.getD_eq_getElem?_getD, List.getElem?_append_left (by omega)]
  | r :: M, s + 1, k, hM, h, hk => by
    have hr := hM r List.mem_cons_self
    have ih := flat_get (M := M) (s := s) (k := k) (fun x hx => hM x (List.mem_cons_of_mem _ hx)) (by simpa using h) hk
    rw [List.getD_cons_succ, ih, List.flatten_cons, List.getD_eq_getElem?_getD, List.getD_eq_getElem?_getD, List.getElem?_append_right (by rw [Nat.succ_mul]; omega)]
    have e : (s + 1) * U + k - r.length = s * U + k := by rw [Nat.succ_mul]; omega
    rw [e]
theorem zip_get {N : Nat} : ∀ {rs ps : List Int} {i : Nat}, rs.length = ps.length → i < ps.length → (List.zipWith (fun r p => 2 ^ N * r + p) rs ps).getD i 0 = 2 ^ N * rs.getD i 0 + ps.getD i 0
  | [], [], i, _, h => by simp at h
  | [], _ :: _, _, h, _ => by simp at h
  | _ :: _, [], _, h, _ => by simp at h
  | r :: rs, p :: ps, 0, _, _ => rfl
  | r :: rs, p :: ps, i + 1, hl, hi => by
    rw [List.zipWith_cons_cons, List.getD_cons_succ, List.getD_cons_succ, List.getD_cons_succ]
    exact zip_get (by simpa using hl) (by simpa using hi)
/-- prices told apart: M(s, k) = 2^N r + u, the u unlike powers of two below 2^N -/
theorem PrM.cells {S U : Nat} {M : List Row} (h : PrM S U M) : ∃ r u : Nat → Int, (∀ s k, s < S → k < U → cellM M (s : Int) (k : Int) = 2 ^ (S * U) * r (s * U + k) + u (s * U + k)) ∧ (∀ i, i < S * U → u i ∈ pows (S * U)) ∧ ∀ i j, i < S * U → j < S * U → u i = u j → i = j := by
  obtain ⟨h1, h2, used, ⟨rs, hr, _, hz⟩, hp⟩ := h
  have hlen : used.length = S * U := by rw [hp.length_eq, pows_len]
  have hnd : used.Nodup := hp.nodup_iff.mpr (pows_nodup _)
  refine ⟨fun i => rs.getD i 0, fun i => used.getD i 0, fun s k hs hk => ?_, fun i hi => ?_, fun i j hi hj e => ?_⟩
  · unfold cellM
    rw [Int.toNat_natCast, Int.toNat_natCast, flat_get h2 (by omega) hk, hz, zip_get hr]
    rw [hlen]
    have : (s + 1) * U ≤ S * U := Nat.mul_le_mul_right U hs
    rw [Nat.succ_mul] at this
    omega
  · have hi' : i < used.length := by omega
    refine hp.mem_iff.mp ?_
    show used.getD i 0 ∈ used
    rw [List.getD_eq_getElem?_getD, List.getElem?_eq_getElem hi']
    exact List.getElem_mem hi'
  · have hi' : i < used.length := by omega
    have hj' : j < used.length := by omega
    have e' : used.getD i 0 = used.getD j 0 := e
    rw [List.getD_eq_getElem?_getD, List.getD_eq_getElem?_getD, List.getElem?_eq_getElem hi', List.getElem?_eq_getElem hj'] at e'
    exact (List.getElem_inj hnd).mp e'
theorem sum_two {α : Type} (c : Int) (f g : α → Int) : ∀ l : List α, (l.map fun x => c * f x + g x).sum = c * (l.map f).sum + (l.map g).sum
  | [] => by simp
  | x :: l => by
    simp only [List.map_cons, List.sum_cons]
    rw [sum_two c f g l, Int.mul_add]
    omega
def ixP (U : Nat) (sk : Int × Int) : Nat := sk.1.toNat * U + sk.2.toNat
theorem ix_inj {S U : Nat} {a b : Int × Int} (ha : (0 ≤ a.1 ∧ a.1 < S) ∧ 0 ≤ a.2 ∧ a.2 < U) (hb : (0 ≤ b.1 ∧ b.1 < S) ∧ 0 ≤ b.2 ∧ b.2 < U) (h : ixP U a = ixP U b) : a = b := by
  unfold ixP at h
  have a2 : a.2.toNat < U := by omega
  have b2 : b.2.toNat < U := by omega
  have h1 : a.1.toNat = b.1.toNat := by
    have h3 : (a.1.toNat * U + a.2.toNat) / U = a.1.toNat := by rw [Nat.mul_comm, Nat.mul_add_div (by omega), Nat.div_eq_of_lt a2, Nat.add_zero]
    have h4 : (b.1.toNat * U + b.2.toNat) / U = b.1.toNat := by rw [Nat.mul_comm, Nat.mul_add_div (by omega), Nat.div_eq_of_lt b2, Nat.add_zero]
    rw [← h3, ← h4, h]
  rw [h1] at h
  exact Prod.ext (by omega) (by omega)
theorem ix_lt {S U : Nat} {a : Int × Int} (ha : (0 ≤ a.1 ∧ a.1 < S) ∧ 0 ≤ a.2 ∧ a.2 < U) : ixP U a < S * U := by
  unfold ixP
  have : (a.1.toNat + 1) * U ≤ S * U := Nat.mul_le_mul_right U (by omega)
  rw [Nat.succ_mul] at this
  omega
/-- of equal worth, equal -/
theorem worth_inj {S U : Nat} {M : List Row} (h : PrM S U M) {js p q : Row} (hj : js.Nodup) (ij : In S js) (hp : p.length = js.length) (hq : q.length = js.length) (ip : In U p) (iq : In U q) (e : worth M js p = worth M js q) : p = q := by
  obtain ⟨r, u, h1, h2, h3⟩ := h.cells
  have rng : ∀ (x : Row), x.length = js.length → In U x → ∀ a ∈ js.zip x, (0 ≤ a.1 ∧ a.1 < S) ∧ 0 ≤ a.2 ∧ a.2 < U := fun x _ hx a ha => ⟨ij _ (List.of_mem_zip ha).1, hx _ (List.of_mem_zip ha).2⟩
  have wt : ∀ (x : Row), x.length = js.length → In U x → worth M js x = 2 ^ (S * U) * ((js.zip x).map fun a => r (ixP U a)).sum + ((js.zip x).map fun a => u (ixP U a)).sum := fun x hl hx => by
    unfold worth
    rw [← sum_two]
    refine congrArg List.sum (List.map_congr_left fun a ha => ?_)
    obtain ⟨⟨a1, a2⟩, a3, a4⟩ := rng x hl hx a ha
    have := h1 a.1.toNat a.2.toNat (by omega) (by omega)
    rw [Int.toNat_of_nonneg a1, Int.toNat_of_nonneg a3] at this
    exact this
  have nd : ∀ (x : Row), x.length = js.length → In U x → ((js.zip x).map fun a => u (ixP U a)).Nodup := fun x hl hx => by
    have hz : (js.zip x).Nodup := by
      have e1 : (js.zip x).map Prod.fst = js := List.map_fst_zip (by omega)
      have : ((js.zip x).map Prod.fst).Nodup := by rw [e1]; exact hj
      exact nodup_of this
    exact nodup_on (fun a ha b hb hab => ix_inj (rng x hl hx a ha) (rng x hl hx b hb) (h3 _ _ (ix_lt (rng x hl hx a ha)) (ix_lt (rng x hl hx b hb)) hab)) hz
  have mem : ∀ (x : Row), x.length = js.length → In U x → ∀ y ∈ (js.zip x).map fun a => u (ixP U a), y ∈ pows (S * U) := fun x hl hx y hy => by
    obtain ⟨a, ha, rfl⟩ := List.mem_map.mp hy
    exact h2 _ (ix_lt (rng x hl hx a ha))
  have bp := pow_sum _ _ (nd p hp ip) (mem p hp ip)
  have bq := pow_sum _ _ (nd q hq iq) (mem q hq iq)
  have es : ((js.zip p).map fun a => u (ixP U a)).sum = ((js.zip q).map fun a => u (ixP U a)).sum := by
    rw [wt p hp ip, wt q hq iq] at e
    generalize ((js.zip p).map fun a => r (ixP U a)).sum = A at e
    generalize ((js.zip q).map fun a => r (ixP U a)).sum = B at e
    generalize ((js.zip p).map fun a => u (ixP U a)).sum = C at e bp ⊢
    generalize ((js.zip q).map fun a => u (ixP U a)).sum = D at e bq ⊢
    generalize (2 : Int) ^ (S * U) = Z at e bp bq
    have h5 : Z * (A - B) = D - C := by rw [Int.mul_sub]; omega
    by_cases hz : A - B = 0
    · rw [hz, Int.mul_zero] at h5
      omega
    · rcases Int.lt_or_gt_of_ne hz with h6 | h6
      · have : Z * (A - B) ≤ Z * (-1) := Int.mul_le_mul_of_nonneg_left (by omega) (by omega)
        omega
      · have : Z * 1 ≤ Z * (A - B) := Int.mul_le_mul_of_nonneg_left (by omega) (by omega)
        omega
  have sub := pow_inj _ _ _ (nd p hp ip) (nd q hq iq) (mem p hp ip) (mem q hq iq) es
  refine List.ext_getElem (by omega) fun i hi1 hi2 => ?_
  have hzp : i < (js.zip p).length := by rw [List.length_zip]; omega
  have m1 : u (ixP U (js[i], p[i])) ∈ (js.zip p).map fun a => u (ixP U a) := List.mem_map.mpr ⟨_, by have := List.getElem_mem hzp; rw [List.getElem_zip] at this; exact this, rfl⟩
  obtain ⟨b, hb, hbe⟩ := List.mem_map.mp (sub _ m1)
  have ma : (js[i], p[i]) ∈ js.zip p := by have := List.getElem_mem hzp; rw [List.getElem_zip] at this; exact this
  have eb := ix_inj (rng q hq iq b hb) (rng p hp ip _ ma) (h3 _ _ (ix_lt (rng q hq iq b hb)) (ix_lt (rng p hp ip _ ma)) hbe)
  rw [eb] at hb
  obtain ⟨j, hj2, hj3⟩ := List.getElem_of_mem hb
  rw [List.getElem_zip] at hj3
  have e1 := congrArg Prod.fst hj3
  have e2 := congrArg Prod.snd hj3
  simp only at e1 e2
  have : j = i := (List.getElem_inj hj).mp e1
  subst this
  exact e2.symm
/-! ### the best -/
theorem bestF_spec (wt : Row → Int) (ps : List Row) : match bestF wt ps with
  | (none, _) => ps = []
  | (some b, f) => (∀ p ∈ ps, wt p ≤ b) ∧ (∃ p ∈ f, p ∈ ps) ∧ ∀ p ∈ f, p ∈ ps ∧ wt p = b := by
  refine rev_ind (P := fun ps => match bestF wt ps with
    | (none, _) => ps = []
    | (some b, f) => (∀ p ∈ ps, wt p ≤ b) ∧ (∃ p ∈ f, p ∈ ps) ∧ ∀ p ∈ f, p ∈ ps ∧ wt p = b) rfl (fun ps p ih => ?_) ps
  rw [bestF_snoc]
  cases e : bestF wt ps with
  | mk b f =>
    rw [e] at ih
    cases b with
    | none =>
      have ih' : ps = [] := ih
      subst ih'
      exact ⟨by simp, ⟨p, by simp, by simp⟩, by simp⟩
    | some b =>
      obtain ⟨i1, ⟨p0, i2, i2'⟩, i3⟩ := (show (∀ p ∈ ps, wt p ≤ b) ∧ (∃ p ∈ f, p ∈ ps) ∧ ∀ p ∈ f, p ∈ ps ∧ wt p = b from ih)
      unfold bstep
      by_cases c : b < wt p
      · simp only [if_pos c]
        refine ⟨fun x hx => ?_, ⟨p, by simp, by simp⟩, by simp⟩
        rcases List.mem_append.mp hx with hx | hx
        · have := i1 x hx
          omega
        · rw [List.mem_singleton.mp hx]
          exact Int.le_refl _
      · simp only [if_neg c]
        by_cases c2 : wt p = b
        · simp only [if_pos c2]
          refine ⟨fun x hx => ?_, ⟨p, by simp, by simp⟩, fun x hx => ?_⟩
          · rcases List.mem_append.mp hx with hx | hx
            · exact i1 x hx
            · rw [List.mem_singleton.mp hx]
              omega
          · rcases List.mem_append.mp hx with hx | hx
            · exact ⟨List.mem_append_left _ (i3 x hx).1, (i3 x hx).2⟩
            · rw [List.mem_singleton.mp hx]
              exact ⟨by simp, c2⟩
        · simp only [if_neg c2]
          refine ⟨fun x hx => ?_, ⟨p0, i2, List.mem_append_left _ i2'⟩, fun x hx => ⟨List.mem_append_left _ (i3 x hx).1, (i3 x hx).2⟩⟩
          rcases List.mem_append.mp hx with hx | hx
          · exact i1 x hx
          · rw [List.mem_singleton.mp hx]
            omega
theorem self_order {r : Row} (h : r.Nodup) : r ∈ orders r := mem_orders.mpr ⟨rfl, h, fun _ h => h⟩
theorem best_head {M : List Row} {l : Lot} (h : l.2.Nodup) : ∃ p r, bestOf M l = p :: r ∧ p ∈ orders l.2 ∧ ∀ q ∈ orders l.2, worth M l.1 q ≤ worth M l.1 p := by
  have hs := bestF_spec (worth M l.1) (orders l.2)
  unfold bestOf
  cases e : bestF (worth M l.1) (orders l.2) with
  | mk b f =>
    rw [e] at hs
    cases b with
    | none =>
      have e0 : orders l.2 = [] := hs
      have := self_order h
      rw [e0] at this
      cases this
    | some b =>
      obtain ⟨h1, ⟨p0, h2, _⟩, h3⟩ := (show (∀ p ∈ orders l.2, worth M l.1 p ≤ b) ∧ (∃ p ∈ f, p ∈ orders l.2) ∧ ∀ p ∈ f, p ∈ orders l.2 ∧ worth M l.1 p = b from hs)
      cases f with
      | nil => cases h2
      | cons p r =>
        obtain ⟨h4, h5⟩ := h3 p List.mem_cons_self
        exact ⟨p, r, rfl, h4, fun q hq => by rw [h5]; exact h1 q hq⟩
theorem worth_part {M : List Row} : ∀ {js p : Row} {i : Nat}, i < js.length → p.length = js.length → worth M js p = worth M (dropAt js i) (dropAt p i) + cellM M (kindAt js i) (kindAt p i)
  | [], _, i, h, _ => by simp at h
  | _ :: _, [], _, _, h => by simp at h
  | s :: js, k :: p, 0, _, _ => by
    show (cellM M s k + ((js.zip p).map fun sk => cellM M sk.1 sk.2).sum) = ((js.zip p).map fun sk => cellM M sk.1 sk.2).sum + cellM M s k
    omega
  | s :: js, k :: p, i + 1, h, hl => by
    have ih := worth_part (M := M) (js := js) (p := p) (i := i) (by simpa using h) (by simpa using hl)
    have e1 : worth M (s :: js) (k :: p) = cellM M s k + worth M js p := rfl
    have e2 : worth M (dropAt (s :: js) (i + 1)) (dropAt (k :: p) (i + 1)) = cellM M s k + worth M (dropAt js i) (dropAt p i) := rfl
    have e3 : kindAt (s :: js) (i + 1) = kindAt js i := rfl
    have e4 : kindAt (k :: p) (i + 1) = kindAt p i := rfl
    rw [e1, e2, e3, e4, ih]
    omega
theorem drop_put {r : Row} {k : Int} {i : Nat} (h : i ≤ r.length) : dropAt (r.take i ++ k :: r.drop i) i = r ∧ kindAt (r.take i ++ k :: r.drop i) i = k := by
  have hl : (r.take i).length = i := by rw [List.length_take]; omega
  constructor
  · unfold dropAt
    rw [List.take_append_of_le_length (by omega), List.take_of_length_le (by omega), List.drop_append, hl]
    have e : i + 1 - i = 1 := by omega
    rw [e, List.drop_of_length_le (by omega), List.nil_append]
    show r.take i ++ r.drop i = r
    exact List.take_append_drop _ _
  · unfold kindAt
    rw [List.getD_eq_getElem?_getD, List.getElem?_append_right (by omega), hl, Nat.sub_self]
    rfl
theorem dropAt_order {l : Lot} {p : Row} {i : Nat} (hp : p ∈ orders l.2) (hl : l.2.Nodup) (hi : i < p.length) : dropAt p i ∈ orders (partL l p i).2 := by
  obtain ⟨p1, p2, p3⟩ := mem_orders.mp hp
  refine mem_orders.mpr ⟨?_, p2.sublist dropAt_sub, fun x hx => List.mem_filter.mpr ⟨p3 x (dropAt_sub.mem hx), ?_⟩⟩
  · have h1 := dropAt_len hi
    have h2 := filter_ne_len hl (p3 _ (kind_mem hi))
    show _ = (l.2.filter fun x => !decide (x = kindAt p i)).length
    omega
  · have : x ≠ kindAt p i := fun z => by
      have hpe : p = p.take i ++ kindAt p i :: p.drop (i + 1) := by
        unfold kindAt
        rw [List.getD_eq_getElem?_getD, List.getElem?_eq_getElem hi]
        show p = p.take i ++ p[i] :: p.drop (i + 1)
        rw [← List.drop_eq_getElem_cons hi, List.take_append_drop]
      rw [hpe] at p2
      have hp3 : (kindAt p i :: (p.take i ++ p.drop (i + 1))).Nodup := (List.perm_middle.nodup_iff).mp p2
      exact (List.nodup_cons.mp hp3).1 (z ▸ hx)
    simp [this]
/-- the best pairing's parts are the best of their lots -/
theorem best_fits {S U : Int} (hS : small S) (hU : small U) {M : List Row} (hM : PrM S.toNat U.toNat M) {T : Lot → Option Row} {i : Nat} {l : Lot} (hT : WholeUp S U T ((lots S U).take i)) (hB : ∀ l' ∈ (lots S U).take i, T l' = some ((bestOf M l').headD [])) (hi : (lots S U)[i]? = some l) :
    (bestOf M l).headD [] ∈ orders l.2 ∧ fitsB T l ((bestOf M l).headD []) = true := by
  obtain ⟨n, h2, ok⟩ := (mem_lots hS hU).mp (List.mem_of_getElem? hi)
  obtain ⟨n, rfl⟩ : ∃ m, n = m + 1 := ⟨n - 1, by omega⟩
  obtain ⟨p, r, e, hp, hmax⟩ := best_head (M := M) ok.up2.nodup
  rw [e]
  refine ⟨hp, ?_⟩
  show fitsB T l p = true
  obtain ⟨p1, p2, p3⟩ := mem_orders.mp hp
  unfold fitsB
  rw [List.all_eq_true]
  intro j hj
  have hj := List.mem_range.mp hj
  have pk := part_ok ok hp hj
  have ro := dropAt_order hp ok.up2.nodup hj
  obtain ⟨r1, r2, r3⟩ := mem_orders.mp ro
  refine decide_eq_true ?_
  have hjl : j < l.1.length := by rw [ok.len1, ← ok.len2, ← p1]; exact hj
  by_cases en : n = 1
  · subst en
    rw [hT.one pk]
    have h7 := pk.len2
    obtain ⟨a, ha⟩ := List.length_eq_one_iff.mp h7
    rw [ha] at r1 r3 ⊢
    obtain ⟨b, hb⟩ := List.length_eq_one_iff.mp r1
    rw [hb] at r3 ⊢
    have := r3 b (by simp)
    rw [List.mem_singleton.mp this]
  · have hl' := lots_less hi ((mem_lots hS hU).mpr ⟨n, by omega, pk⟩) (by rw [pk.len1, ok.len1]; omega)
    rw [hB _ hl']
    obtain ⟨b, rb, eb, hb, hbmax⟩ := best_head (M := M) pk.up2.nodup
    rw [eb]
    show some b = some (dropAt p j)
    congr 1
    obtain ⟨b1, b2, b3⟩ := mem_orders.mp hb
    have hbl : b.length = n := by rw [b1, pk.len2]
    -- b with the pair put back
    have hput := drop_put (r := b) (k := kindAt p j) (i := j) (by have := ok.len2; omega)
    have hq : (b.take j ++ kindAt p j :: b.drop j) ∈ orders l.2 := by
      have perm : (b.take j ++ kindAt p j :: b.drop j).Perm (kindAt p j :: b) := by
        have := List.perm_middle (a := kindAt p j) (l₁ := b.take j) (l₂ := b.drop j)
        rw [List.take_append_drop] at this
        exact this
      refine mem_orders.mpr ⟨?_, perm.nodup_iff.mpr (List.nodup_cons.mpr ⟨fun z => ?_, b2⟩), fun x hx => ?_⟩
      · rw [perm.length_eq, List.length_cons, hbl, ok.len2]
      · have := (List.mem_filter.mp (b3 _ z)).2
        simp at this
      · rcases List.mem_cons.mp (perm.mem_iff.mp hx) with h | h
        · rw [h]; exact p3 _ (kind_mem hj)
        · exact (List.mem_filter.mp (b3 x h)).1
    have w1 := worth_part (M := M) (js := l.1) (p := p) (i := j) hjl (by rw [p1, ok.len1, ok.len2])
    have w2 := worth_part (M := M) (js := l.1) (p := b.take j ++ kindAt p j :: b.drop j) (i := j) hjl (by rw [(mem_orders.mp hq).1, ok.len1, ok.len2])
    rw [hput.1, hput.2] at w2
    have w3 := hmax _ hq
    have w4 := hbmax _ ro
    have w5 : worth M (partL l p j).1 b = worth M (partL l p j).1 (dropAt p j) := by
      have e1 : (partL l p j).1 = dropAt l.1 j := rfl
      rw [e1] at w4 ⊢
      omega
    have eS : ((S.toNat : Nat) : Int) = S := Int.toNat_of_nonneg (by have := hS.1; omega)
    have eU : ((U.toNat : Nat) : Int) = U := Int.toNat_of_nonneg (by have := hU.1; omega)
    refine worth_inj hM pk.up1.nodup (by rw [eS]; exact pk.in1) (by rw [hbl, pk.len1]) (by rw [r1, pk.len2, pk.len1]) (by rw [eU]; exact fun x hx => pk.in2 x (b3 x hx)) (by rw [eU]; exact fun x hx => pk.in2 x (r3 x hx)) w5
theorem priced_whole {S U : Int} (hS : small S) (hU : small U) {M : List Row} (hM : PrM S.toNat U.toNat M) : Whole S U (pricedT M (ones S U) (lots S U)) := by
  have key : ∀ i, i ≤ (lots S U).length → WholeUp S U (pricedT M (ones S U) ((lots S U).take i)) ((lots S U).take i) ∧ ∀ l ∈ (lots S U).take i, pricedT M (ones S U) ((lots S U).take i) l = some ((bestOf M l).headD []) := by
    intro i
    induction i with
    | zero => exact fun _ => ⟨ones_whole S U, fun l hl => by simp at hl⟩
    | succ i ih =>
      intro hi
      obtain ⟨h1, h2⟩ := ih (by omega)
      have hg : (lots S U)[i]? = some (lots S U)[i] := List.getElem?_eq_getElem (by omega)
      obtain ⟨h3, h4⟩ := best_fits hS hU hM h1 h2 hg
      have e : (lots S U).take (i + 1) = (lots S U).take i ++ [(lots S U)[i]] := by rw [List.take_add_one, hg]; rfl
      have h5 := h1.set hS hU hg h3 h4
      rw [e, pricedT_snoc, ← e]
      refine ⟨h5, fun l hl => ?_⟩
      by_cases hle : l = (lots S U)[i]
      · rw [hle, setTs_eq]
      · rw [setTs_ne hle]
        rw [e] at hl
        rcases List.mem_append.mp hl with hl | hl
        · exact h2 l hl
        · exact absurd (List.mem_singleton.mp hl) hle
  have := (key _ (Nat.le_refl _)).1
  rw [List.take_length] at this
  exact this
end K11
/-! pairings within pairs, by levels; the least untold lot -/
namespace K11
open PySem
def lvl (ps : List Pair) : Nat → List Lot
  | 0 => [([], [])]
  | n + 1 => growAll (lvl ps n) ps
def foundUp (ps : List Pair) : Nat → List Lot
  | 0 => lvl ps 0
  | n + 1 => foundUp ps n ++ lvl ps (n + 1)
def ltPr (p q : Pair) : Prop := p.1 < q.1 ∨ (p.1 = q.1 ∧ p.2 < q.2)
structure PairsOk (S U : Int) (ps : List Pair) : Prop where
  up : ps.Pairwise ltPr
  rng : ∀ p ∈ ps, (0 ≤ p.1 ∧ p.1 < S) ∧ 0 ≤ p.2 ∧ p.2 < U
theorem PairsOk.len {S U : Int} (hS : small S) (hU : small U) {ps : List Pair} (h : PairsOk S U ps) : ps.length ≤ 16 := by
  have h1 : Up (ps.map fun p => p.1 * 4 + p.2) := by
    unfold Up
    rw [List.pairwise_map]
    refine (List.pairwise_iff_forall_sublist.mpr fun {p q} hs => ?_)
    have h2 := List.pairwise_iff_forall_sublist.mp h.up hs
    have hp := h.rng p (hs.mem (by simp))
    have hq := h.rng q (hs.mem (by simp))
    have := hU.2
    unfold ltPr at h2
    omega
  have h2 := up_len (m := 16) (by decide) h1 fun x hx => by
    obtain ⟨p, hp, rfl⟩ := List.mem_map.mp hx
    have hp := h.rng p hp
    have := hU.2
    have := hS.2
    omega
  rw [List.length_map] at h2
  omega
/-- a pairing within pairs, with n pairs -/
structure LvlOk (S U : Int) (ps : List Pair) (n : Nat) (js : Lot) : Prop where
  len1 : js.1.length = n
  len2 : js.2.length = n
  up : Up js.1
  nd : js.2.Nodup
  sub : ∀ p ∈ js.1.zip js.2, p ∈ ps
theorem goesUp_iff {r : Row} {x : Int} (h : Up r) : goesUp r x = true ↔ ∀ y ∈ r, y < x := by
  unfold goesUp
  cases e : r.getLast? with
  | none =>
    have : r = [] := List.getLast?_eq_none_iff.mp e
    subst this
    simp
  | some z =>
    simp only [decide_eq_true_eq]
    obtain ⟨hne, hz⟩ : ∃ hne : r ≠ [], r.getLast hne = z := by
      have hne : r ≠ [] := fun q => by rw [q] at e; cases e
      exact ⟨hne, by rw [List.getLast?_eq_getLast hne] at e; exact Option.some.inj e⟩
    have hr := List.dropLast_concat_getLast hne
    rw [hz] at hr
    rw [← hr] at h ⊢
    obtain ⟨h1, h2⟩ := up_snoc.mp h
    constructor
    · intro hx y hy
      rcases List.mem_append.mp hy with hy | hy
      · have := h2 y hy; omega
      · rw [List.mem_singleton.mp hy]; exact hx
    · intro hx
      exact hx z (by simp)
theorem mem_lvl {S U : Int} {ps : List Pair} : ∀ {n : Nat} {js : Lot}, js ∈ lvl ps n ↔ LvlOk S U ps n js
  | 0, js => by
    show js ∈ [([], [])] ↔ _
    rw [List.mem_singleton]
    constructor
    · rintro rfl
      exact ⟨rfl, rfl, List.Pairwise.nil, List.nodup_nil, fun p hp => nomatch hp⟩
    · intro h
      exact Prod.ext (List.eq_nil_of_length_eq_zero h.len1) (List.eq_nil_of_length_eq_zero h.len2)
  | n + 1, js => by
    show js ∈ growAll (lvl ps n) ps ↔ _
    unfold growAll
    rw [List.mem_flatMap]
    constructor
    · rintro ⟨q, hq, h⟩
      obtain ⟨p, hp, rfl⟩ := List.mem_map.mp h
      have ok := (mem_lvl (S := S) (U := U)).mp hq
      obtain ⟨hp1, hp2⟩ := List.mem_filter.mp hp
      have hg := Bool.and_eq_true_iff.mp hp2
      have g1 : p.2 ∉ q.2 := by simpa using hg.1
      have g2 := (goesUp_iff ok.up).mp hg.2
      refine ⟨by simp [ok.len1], by simp [ok.len2], up_snoc.mpr ⟨ok.up, g2⟩, List.nodup_append.mpr ⟨ok.nd, by simp, fun a ha b hb => ?_⟩, fun x hx => ?_⟩
      · rw [List.mem_singleton.mp hb]
        exact fun z => g1 (z ▸ ha)
      · have e : (q.1 ++ [p.1]).zip (q.2 ++ [p.2]) = q.1.zip q.2 ++ [(p.1, p.2)] := by
          rw [List.zip_append (by rw [ok.len1, ok.len2])]
          rfl
        have hx' : x ∈ (q.1 ++ [p.1]).zip (q.2 ++ [p.2]) := hx
        rw [e] at hx'
        rcases List.mem_append.mp hx' with hx' | hx'
        · exact ok.sub x hx'
        · rw [List.mem_singleton.mp hx']
          exact hp1
    · intro h
      obtain ⟨j, s⟩ := js
      have n1 : j ≠ [] := fun z => by have := h.len1; simp [z] at this
      have n2 : s ≠ [] := fun z => by have := h.len2; simp [z] at this
      obtain ⟨j0, a, rfl⟩ : ∃ q x, j = q ++ [x] := ⟨j.dropLast, j.getLast n1, (List.dropLast_concat_getLast n1).symm⟩
      obtain ⟨s0, b, rfl⟩ : ∃ q x, s = q ++ [x] := ⟨s.dropLast, s.getLast n2, (List.dropLast_concat_getLast n2).symm⟩
      have l1 : j0.length = n := by simpa using h.len1
      have l2 : s0.length = n := by simpa using h.len2
      have e : (j0 ++ [a]).zip (s0 ++ [b]) = j0.zip s0 ++ [(a, b)] := by
        rw [List.zip_append (by rw [l1, l2])]
        rfl
      have hsub : ∀ p ∈ j0.zip s0 ++ [(a, b)], p ∈ ps := fun p hp => h.sub p (by
        show p ∈ (j0 ++ [a]).zip (s0 ++ [b])
        rw [e]
        exact hp)
      have hup := up_snoc.mp h.up
      obtain ⟨d1, _, d3⟩ := List.nodup_append.mp h.nd
      have ok : LvlOk S U ps n (j0, s0) := ⟨l1, l2, hup.1, d1, fun p hp => hsub p (List.mem_append_left _ hp)⟩
      refine ⟨(j0, s0), mem_lvl.mpr ok, List.mem_map.mpr ⟨(a, b), List.mem_filter.mpr ⟨hsub _ (by simp), Bool.and_eq_true_iff.mpr ⟨?_, (goesUp_iff ok.up).mpr hup.2⟩⟩, rfl⟩⟩
      have : b ∉ s0 := fun z => d3 b z b (by simp) rfl
      simpa using this
def keyL (js : Lot) : Lot := (js.1, sortI js.2)
theorem LvlOk.in {S U : Int} {ps : List Pair} {n : Nat} {js : Lot} (h : LvlOk S U ps n js) (ok : PairsOk S U ps) : In S js.1 ∧ In U js.2 := by
  constructor
  · intro x hx
    obtain ⟨i, hi, rfl⟩ := List.getElem_of_mem hx
    have hi2 : i < js.2.length := by rw [h.len2, ← h.len1]; exact hi
    have hz : i < (js.1.zip js.2).length := by rw [List.length_zip]; omega
    have := ok.rng _ (h.sub _ (List.getElem_mem hz))
    rw [List.getElem_zip] at this
    exact this.1
  · intro x hx
    obtain ⟨i, hi, rfl⟩ := List.getElem_of_mem hx
    have hi2 : i < js.1.length := by rw [h.len1, ← h.len2]; exact hi
    have hz : i < (js.1.zip js.2).length := by rw [List.length_zip]; omega
    have := ok.rng _ (h.sub _ (List.getElem_mem hz))
    rw [List.getElem_zip] at this
    exact this.2
theorem sortI_up {r : Row} (h : r.Nodup) : Up (sortI r) := by
  have h1 := sortI_sorted r
  have h2 : (sortI r).Pairwise (· ≠ ·) := (sortI_perm r).nodup_iff.mpr h
  exact (h1.and h2).imp fun {a b} h => by
    obtain ⟨h3, h4⟩ := h
    omega
theorem LvlOk.lot {S U : Int} {ps : List Pair} {n : Nat} {js : Lot} (h : LvlOk S U ps n js) (ok : PairsOk S U ps) : LotOk S U n (keyL js) :=
  ⟨h.len1, by show (sortI js.2).length = n; rw [(sortI_perm js.2).length_eq, h.len2], h.up, sortI_up h.nd, (h.in ok).1, fun x hx => (h.in ok).2 x ((sortI_perm js.2).mem_iff.mp hx)⟩
theorem lvl_none {S U : Int} (hS : small S) {ps : List Pair} (ok : PairsOk S U ps) {n : Nat} (hn : 5 ≤ n) : lvl ps n = [] := by
  refine List.eq_nil_iff_forall_not_mem.mpr fun js hj => ?_
  have h := (mem_lvl (S := S) (U := U)).mp hj
  have := (h.lot ok).le4 hS
  omega
theorem lvl_next {ps : List Pair} {n : Nat} (h : lvl ps n = []) : ∀ m, n ≤ m → lvl ps m = [] := by
  intro m hm
  induction m with
  | zero =>
    have : n = 0 := by omega
    subst this
    exact h
  | succ m ih =>
    rcases Nat.eq_or_lt_of_le hm with e | e
    · rw [← e]; exact h
    · show growAll (lvl ps m) ps = []
      rw [ih (by omega)]
      rfl
theorem lvl_len {ps : List Pair} (h : ps.length ≤ 16) : ∀ n, (lvl ps n).length ≤ 16 ^ n
  | 0 => Nat.le_refl _
  | n + 1 => by
    have ih := lvl_len h n
    have h2 : (growAll (lvl ps n) ps).length ≤ (lvl ps n).length * 16 := by
      unfold growAll
      have key : ∀ L : List Lot, (L.flatMap fun js => grow1 js ps).length ≤ L.length * 16 := by
        intro L
        induction L with
        | nil => simp
        | cons a L ih =>
          rw [List.flatMap_cons, List.length_append, List.length_cons, Nat.succ_mul]
          have : (grow1 a ps).length ≤ 16 := by
            unfold grow1
            rw [List.length_map]
            exact Nat.le_trans (List.length_filter_le _ _) h
          omega
      exact key _
    show (growAll (lvl ps n) ps).length ≤ 16 ^ (n + 1)
    rw [Nat.pow_succ]
    omega
/-! ### the least untold -/
def tN (x : Nat × Lot) : PyData := .tuple [.int (x.1 : Int), tL x.2]
def ltL (a b : Lot) : Bool := PySem.W.dataLt (tL a) (tL b)
def minL (x : Lot) (xs : List Lot) : Lot := xs.foldl (fun a y => if ltL y a = true then y else a) x
def ltN (a b : Nat × Lot) : Bool := PySem.W.dataLt (tN a) (tN b)
def minN (x : Nat × Lot) (xs : List (Nat × Lot)) : Nat × Lot := xs.foldl (fun a y => if ltN y a = true then y else a) x
theorem minD_L (x : Lot) (xs : List Lot) : PySem.W.minD (tL x) (xs.map tL) = tL (minL x xs) := by
  unfold PySem.W.minD minL
  induction xs generalizing x with
  | nil => rfl
  | cons y ys ih =>
    rw [List.map_cons, List.foldl_cons, List.foldl_cons, ← ih]
    show List.foldl _ (if PySem.W.dataLt (tL y) (tL x) = true then tL y else tL x) _ = List.foldl _ (tL (if ltL y x = true then y else x)) _
    unfold ltL
    split <;> rfl
theorem minD_N (x : Nat × Lot) (xs : List (Nat × Lot)) : PySem.W.minD (tN x) (xs.map tN) = tN (minN x xs) := by
  unfold PySem.W.minD minN
  induction xs generalizing x with
  | nil => rfl
  | cons y ys ih =>
    rw [List.map_cons, List.foldl_cons, List.foldl_cons, ← ih]
    show List.foldl _ (if PySem.W.dataLt (tN y) (tN x) = true then tN y else tN x) _ = List.foldl _ (tN (if ltN y x = true then y else x)) _
    unfold ltN
    split <;> rfl
theorem alike_tI (r s : Row) : PySem.W.alike (tI r) (tI s) = true := by
  unfold tI
  rw [PySem.W.alike]
  exact PySem.W.alike_ints r s
theorem alike_tL (a b : Lot) : PySem.W.alike (tL a) (tL b) = true := by
  unfold tL
  rw [PySem.W.alike, PySem.W.alikeAll, PySem.W.alikeAll, PySem.W.alikeAll, alike_tI, alike_tI]
  rfl
theorem alike_tN (a b : Nat × Lot) : PySem.W.alike (tN a) (tN b) = true := by
  unfold tN
  rw [PySem.W.alike, PySem.W.alikeAll, PySem.W.alikeAll, PySem.W.alikeAll, alike_tL]
  rfl
end K11
/-! tables that the box makes -/
namespace K11
open PySem PySem.Spec PyProof.Rows L2 Evl
def Rpriced (S U : Int) (T : Lot → Option Row) : Prop := ∃ M, PrM S.toNat U.toNat M ∧ T = pricedT M (ones S U) (lots S U)
theorem Rpriced.whole {S U : Int} {T : Lot → Option Row} (hS : small S) (hU : small U) (h : Rpriced S U T) : Whole S U T := by
  obtain ⟨M, hM, rfl⟩ := h
  exact priced_whole hS hU hM
def spTab (P : Program) (w : World) (K : PySem.W.Frag) (N : Nat) (R : Int → Int → (Lot → Option Row) → Prop) : Sp := fun vs H Q _ => ∃ a S U, vs = [.ref a, .int S, .int U] ∧ Bx K H a ∧ small S ∧ small U ∧
  ∀ T p H', R S U T → H p = none → Fr K [a] H H' → Bx K H' a → DT P w K H' p N T → Q (.ref p) H'
section
variable {P : Program} {w : World} {K : PySem.W.Frag} {H H' H1 H2 : Hp} {σ : L2.St} {ta tb te tm tx : TE} {tA tr : TA} {D : Ends} {tz : TS} {a p : Addr} {x : Int} {ns : List Int} {Q : VK} {E : XK} {vs : List V} {v : V} {R : Int → Int → (Lot → Option Row) → Prop}
theorem spTab_len {N : Nat} (h : spTab P w K N R vs H Q E) : vs.length = 3 := by
  obtain ⟨_, _, _, rfl, _⟩ := h
  rfl
theorem ta_consE {Q : List V → Hp → Prop} (h : Ev te σ H v) (k : ∀ H1, Ex H H1 → tr σ H1 fun vs H2 => Q (v :: vs) H2) : tCons te tr σ H Q := h H (Ex.refl H) _ k
theorem mem_in {r o : Row} {n : Nat} (h : o ∈ ordN r n) : ∀ x ∈ o, x ∈ r := (mem_ordN.mp h).2.2
theorem et_eqI {i j : Int} (ha : EvD K ta σ H (.int i)) (hb : EvD K tb σ H (.int j)) : EvT (tTest (tOp (rEqD K) ta tb)) σ H (decide (i = j)) := by
  refine et_is (t_d (d_op ha hb (rd_eqD rfl rfl))) ?_
  show (i == j) = decide (i = j)
  exact (Bool.beq_eq_decide_eq i j)
end
theorem bestF_len (wt : Row → Int) (ps : List Row) : (bestF wt ps).2.length ≤ ps.length := by
  refine rev_ind (P := fun ps => (bestF wt ps).2.length ≤ ps.length) (Nat.zero_le _) (fun ps p ih => ?_) ps
  rw [bestF_snoc, List.length_append, List.length_singleton]
  cases e : bestF wt ps with
  | mk b f =>
    rw [e] at ih
    have ih' : f.length ≤ ps.length := ih
    cases b with
    | none => show 1 ≤ ps.length + 1; omega
    | some b =>
      unfold bstep
      by_cases c : b < wt p
      · simp only [if_pos c]
        show 1 ≤ ps.length + 1
        omega
      · simp only [if_neg c]
        by_cases c2 : wt p = b
        · simp only [if_pos c2]
          rw [List.length_append, List.length_singleton]
          omega
        · simp only [if_neg c2]
          omega
theorem bestF_le {wt : Row → Int} {ps : List Row} {i n : Nat} (h : ps.length ≤ 4 ^ n) (hn : n ≤ 4) : (bestF wt (ps.take i)).2.length ≤ 300 := by
  have h1 := bestF_len wt (ps.take i)
  rw [List.length_take] at h1
  have h2 : 4 ^ n ≤ 4 ^ 4 := Nat.pow_le_pow_right (by decide) hn
  omega
theorem whole_cells {S U : Int} (hS : small S) (hU : small U) {M : List Row} (hM : PrM S.toNat U.toNat M) {l : Lot} (hl : l ∈ lots S U) : (∀ s ∈ l.1, 0 ≤ s ∧ s < (M.length : Int)) ∧ (∀ row ∈ M, row.length = U.toNat) ∧ (∀ k ∈ l.2, 0 ≤ k ∧ k < (U.toNat : Int)) ∧ l.1.length = l.2.length ∧ l.2.length ≤ 4 := by
  obtain ⟨n, h2, ok⟩ := (mem_lots hS hU).mp hl
  have e1 : ((S.toNat : Nat) : Int) = S := Int.toNat_of_nonneg (by have := hS.1; omega)
  have e2 : ((U.toNat : Nat) : Int) = U := Int.toNat_of_nonneg (by have := hU.1; omega)
  refine ⟨fun s hs => ?_, hM.2.1, fun k hk => ?_, by rw [ok.len1, ok.len2], by rw [ok.len2]; exact ok.le4 hS⟩
  · rw [hM.1, e1]
    exact ok.in1 s hs
  · rw [e2]
    exact ok.in2 k hk
end K11
/-! best pairings, priced and drawn tables -/
namespace K11
open PySem PySem.Spec PyProof.Rows L2 Evl
section
variable {P : Program} {w : World} {K : PySem.W.Frag} {mg : Str → Option Value} {base : Heap}
theorem sc_law_best : FnScope ["_law_prices_here", "_law_lot", "_law_best_here", "_law_found", "_law_pairing", "_law_worth", "_law_sort", "_law_kind"] ["_law_prices_here", "_law_lot"] (defScope (top 39)) := ⟨rfl, rfl, rfl, by decide +kernel, rfl, by decide +kernel, by decide +kernel⟩
theorem bp_law_best : BindsP "_law_best" (top 39) ["_law_prices_here", "_law_lot"] := fun _ _ _ _ _ _ us hl => match us, hl with | [_, _], _ => rfl
theorem o_law_best (W : Gs K mg) : OkF CX0 P w K mg base 2 "_law_best" ["_law_prices_here", "_law_lot"] (spN K 2 fun ds es => ∃ (M : List Row) (l : Lot) (U : Nat), ds = [.list (M.map lI), tL l] ∧ (∀ s ∈ l.1, 0 ≤ s ∧ s < (M.length : Int)) ∧ (∀ row ∈ M, row.length = U) ∧ (∀ k ∈ l.2, 0 ≤ k ∧ k < (U : Int)) ∧ l.1.length = l.2.length ∧ l.2.length ≤ 4 ∧ es = (bestOf M l).map tI) := by
  refine ok_of W.n_law_best sc_law_best bp_law_best (fun vs H Q E h => spN_len h) (fun f cdv A outer s H vs Q E hr h => ?_)
  refine ⟨_, (PSs.nox
  (pss_cons (ps_par (i := 2) (j := 3) rfl sc_law_best.nd rfl rfl (by decide) rfl rfl (pa_cons pe_non (pa_cons (pe_lst pa_nil) pa_nil)) rfl)
  (pss_cons (ps_for PassesOwn.never rfl (k_pilist K (k_own (P := P) (w := w) (base := base) (o_law_orders W) (hr.mono (by decide)) pass0 (by rfl) (pa_cons (pe_ix (k_ixT K) (pv 1) pe_int (fun _ _ => rfl)) pa_nil))) (pg_name (i := 4) sc_law_best.nd rfl (.inl rfl))
  (pss_cons (ps_set (i := 5) sc_law_best.nd rfl (.inl rfl) (pe_callB (k_sum K rfl) (by rfl) W.f_sum boot_sum (pa_cons (pe_lc (own := [("_law_sort", 6), ("_law_kind", 7)]) rfl sc_law_best.nd (k_pizip K (by rfl) W.f_zip (pa_cons (pe_ix (k_ixT K) (pv 1) pe_int (fun _ _ => rfl)) (pa_cons (pv 4) pa_nil))) (blkOk_by (N := ["_law_prices_here", "_law_lot", "_law_best_here", "_law_found", "_law_pairing", "_law_worth", "_law_sort", "_law_kind"]) (sc := defScope (top 39)) (by decide +kernel)) (fun _ _ _ _ _ => (k_pgtup K (n := 2) rfl (pgs_cons (pg_name (i := 6) sc_law_best.nd rfl (.inl rfl)) (pgs_cons (pg_name (i := 7) sc_law_best.nd rfl (.inl rfl)) pgs_nil)))) (fun _ _ _ _ _ => pts_nil) (fun _ _ _ _ _ => (pe_ix (k_ixL K) (pe_ix (k_ixL K) (pv 0) (pv 6) (fun _ _ => rfl)) (pv 7) (fun _ _ => rfl)))) pa_nil)))
  (pss_cons (ps_if (PW.pt (pw_or (pt_cmpR oisN (pv 2) pe_non (nomark _)) (pw_or1 (pt_cmpR op_gt (pv 5) (pv 2) (nomark _))))) (pss_one (ps_par (i := 2) (j := 3) rfl sc_law_best.nd rfl rfl (by decide) rfl rfl (pa_cons (pv 5) (pa_cons (pe_lst pa_nil) pa_nil)) rfl)) pss_nil)
  (pss_one (ps_if (pt_cmpR (k_eqD K (room_u hr)) (pv 5) (pv 2) (nomark _)) (pss_one (ps_expr (pe_bm PySem.F.plainAttrs_list PySem.F.slot_list_append PySem.F.type_list_append mt_append (pv 3) (pa_cons (pv 4) pa_nil)))) pss_nil)))))
  (pss_one (ps_ret (pv 3)))))), ?_⟩
  obtain ⟨ds, es, hn, hd, ⟨M, l, U, rfl, hs, hM, hk, hl, h4, rfl⟩, q⟩ := h
  obtain ⟨v1, v2, rfl, d1, d2⟩ := dp2 hd
  refine q_par2 (ta_consE ev_c fun H1 e1 => ta_consN (K := K) d_lst0 fun fa xs0 H2 n2 e2 h2 dp2 => ⟨_, _, rfl, ?_⟩)
  have e12 := e1.trans e2
  refine q_forND (K := K) tI (orders l.2) (n_own (da_one (d_lot1 (d_var rfl (d2.ex e12)))) ⟨l.2, rfl, h4, rfl⟩) (flat_tIs _) fun p xs H3 np e3 hp dp =>
    ⟨fun i σ' H' => ∃ bv fa t w, σ' = [some v1, some v2, some bv, some (.ref fa), t, w, none, none] ∧ Ex H H' ∧ Tx K H3 H' ∧ H' p = some (.lst xs) ∧ fa ≠ p ∧ H fa = none ∧ Ls K H' fa ((bestF (worth M l.1) ((orders l.2).take i)).2.map tI) ∧ bv = (match (bestF (worth M l.1) ((orders l.2).take i)).1 with | none => V.non | some b => V.int b),
      ⟨_, fa, none, none, rfl, e12.trans e3, Tx.refl, hp, ne_of_none h2 np, fresh_back e1 n2, ⟨xs0, e3 _ _ h2, dp2.ex e3⟩, rfl⟩, ?_, ?_, ?_⟩
  · rintro i σ' H' ⟨bv, fa, t, w, rfl, e, tx, hp', _⟩
    exact ⟨hp', tx⟩
  · rintro i o x σ' H' ho ⟨bv, fa, t, w, rfl, e, tx, hp', nfp, nf, lf, hbv⟩ dx
    have om := List.mem_of_getElem? ho
    have ol : o.length = l.2.length := (mem_orders.mp om).1
    have oin := (mem_orders.mp om).2.2
    refine q_setD (K := K) (d_cb1 (da_one (n_is (es := ((l.1.zip o).map fun sk => cellM M sk.1 sk.2).map .int) (n_lcT tP (l.1.zip o) (i_zipI (da_two (d_lot0 (d_var rfl (d2.ex e))) (d_var rfl dx)) (by omega)) (fun _ => true) (fun sk => .int (cellM M sk.1 sk.2)) (by rw [List.length_zip]; omega) (fun _ _ _ => rfl) ?_) (by rw [filt_all, List.map_map]; rfl)).toD) cd_sum) fun vw H4 e4 dw => ?_
    · intro sk hsk y B H5 eB eB1 dy Q1 k
      refine tg_pair dy eB1 fun ys yk ds dk => ?_
      cases ds; cases dk
      have m1 := hs sk.1 (List.of_mem_zip hsk).1
      have m2 := hk sk.2 (oin _ (List.of_mem_zip hsk).2)
      have i1 : sk.1.toNat < M.length := by omega
      have i2 : sk.2.toNat < (M[sk.1.toNat]).length := by rw [hM _ (List.getElem_mem i1)]; omega
      refine k _ rfl et_yes fun _ => ?_
      have ec : cellM M sk.1 sk.2 = (M[sk.1.toNat])[sk.2.toNat] := by
        have em : M.getD sk.1.toNat [] = M[sk.1.toNat] := by
          rw [List.getD_eq_getElem?_getD, List.getElem?_eq_getElem i1]
          rfl
        unfold cellM
        rw [em, List.getD_eq_getElem?_getD, List.getElem?_eq_getElem i2]
        rfl
      rw [ec]
      exact d_ixI (ns := M[sk.1.toNat]) (d_op (d_var rfl (d1.ex (e.trans eB))) (d_var rfl (.int sk.1)) (rd_ixL (z := lI M[sk.1.toNat]) (atI_of m1.1 (by rw [List.getElem?_map, List.getElem?_eq_getElem i1]; rfl)))) (d_var rfl (.int sk.2)) (atI_of m2.1 (List.getElem?_eq_getElem i2))
    have ew : ((l.1.zip o).map fun sk => cellM M sk.1 sk.2).sum = worth M l.1 o := rfl
    rw [ew] at dw
    cases dw
    have etk : (orders l.2).take (i + 1) = (orders l.2).take i ++ [o] := take_succ_of ho
    have ebs := bestF_snoc (worth M l.1) ((orders l.2).take i) o
    rw [← etk] at ebs
    have hp4 := e4 _ _ hp'
    have sz : (bestF (worth M l.1) ((orders l.2).take i)).2.length ≤ 300 := bestF_le (ordN_len h4 _) h4
    cases eb : bestF (worth M l.1) ((orders l.2).take i) with
    | mk ob f =>
      rw [eb] at hbv lf ebs sz
      have lf4 := lf.ex e4
      have hN : ∃ nw : Bool, (∀ H5, EvT (tOr (tTest (tOp rIsN (tVar 2) (tC .non))) (tTest (tOp (rI0 fun i j => .bl (decide (j < i))) (tVar 5) (tVar 2)))) [some v1, some v2, some bv, some (.ref fa), some x, some (.int (worth M l.1 o)), none, none] H5 nw) ∧
          (nw = true → bstep (worth M l.1) (ob, f) o = (some (worth M l.1 o), [o])) ∧ (nw = false → ∃ b, ob = some b ∧ bv = .int b ∧ ¬ b < worth M l.1 o) := by
        cases ob with
        | none =>
          subst hbv
          exact ⟨true, fun H5 => et_is (et_or (b := false) (t_d (d_op (d_var (K := K) rfl .non) d_cn rd_isN)) fun z => Bool.noConfusion z) rfl, fun _ => rfl, fun z => Bool.noConfusion z⟩
        | some b =>
          subst hbv
          refine ⟨decide (b < worth M l.1 o), fun H5 => et_is (et_or (t_d (d_op (d_var (K := K) rfl (.int b)) d_cn rd_isN)) fun _ => t_d (d_op (d_var (K := K) rfl (.int (worth M l.1 o))) (d_var rfl (.int b)) rd_gt)) rfl, fun z => ?_, fun z => ⟨b, rfl, rfl, of_decide_eq_false z⟩⟩
          unfold bstep
          simp only [if_pos (of_decide_eq_true z)]
      obtain ⟨nw, tst, hy, hno⟩ := hN
      refine q_if (b := nw) (tst H4) (fun z H5 e5 => ?_) fun z H5 e5 => ?_
      · have hb := hy z
        refine s_par2 (ta_consE (ev_var rfl) fun H6 e6 => ta_consN (K := K) d_lst0 fun fb xs1 H7 n7 e7 h7 dp7 => ⟨_, _, rfl, ?_⟩)
        have e47 := (e5.trans e6).trans e7
        refine s_if (b := true) (et_is (et_eqI (K := K) (d_var rfl (.int (worth M l.1 o))) (d_var rfl (.int (worth M l.1 o)))) (decide_eq_true rfl)) (fun _ H8 e8 => ?_) fun z => Bool.noConfusion z
        have e48 := e47.trans e8
        have nfb : H fb = none := fresh_back (((e.trans e4).trans e5).trans e6) n7
        refine s_appD (K := K) (d := tI o) (⟨xs1, e8 _ _ h7, dp7.ex e8⟩ : Ls K H8 fb []) rfl (flat_tI _) (ev_var rfl) (d_var rfl (dx.ex (e4.trans e48))) (by decide) fun H9 w9 l9 => ?_
        have nfbp : fb ≠ p := fun z => by
          have := (e5.trans e6) _ _ hp4
          rw [← z, n7] at this
          cases this
        refine ⟨_, fb, _, _, rfl, w9.exB ((e.trans e4).trans e48) nfb, tx.trans ((L2.Ex.tx (e4.trans e48)).trans w9.tx), w9.at (e48 _ _ hp4) nfbp.symm, nfbp, nfb, l9.cg ?_, ?_⟩
        · rw [ebs, hb]
          rfl
        · rw [ebs, hb]
      · obtain ⟨b, rfl, rfl, c⟩ := hno z
        have hp5 := e5 _ _ hp4
        by_cases c2 : worth M l.1 o = b
        · have hb : bstep (worth M l.1) (some b, f) o = (some b, f ++ [o]) := by
            unfold bstep
            simp only [if_neg c, if_pos c2]
          refine s_if (b := true) (et_is (et_eqI (K := K) (d_var rfl (.int (worth M l.1 o))) (d_var rfl (.int b))) (decide_eq_true c2)) (fun _ H8 e8 => ?_) fun z => Bool.noConfusion z
          have e48 := e5.trans e8
          refine s_appD (K := K) (d := tI o) (lf4.ex e48) (flat_tIs _) (flat_tI _) (ev_var rfl) (d_var rfl (dx.ex (e4.trans e48))) (by rw [List.length_map]; omega) fun H9 w9 l9 => ?_
          refine ⟨_, fa, _, _, rfl, w9.exB ((e.trans e4).trans e48) nf, tx.trans ((L2.Ex.tx (e4.trans e48)).trans w9.tx), w9.at (e48 _ _ hp4) nfp.symm, nfp, nf, l9.cg ?_, ?_⟩
          · rw [ebs, hb]
            simp
          · rw [ebs, hb]
        · have hb : bstep (worth M l.1) (some b, f) o = (some b, f) := by
            unfold bstep
            simp only [if_neg c, if_neg c2]
          refine s_if (b := false) (et_is (et_eqI (K := K) (d_var rfl (.int (worth M l.1 o))) (d_var rfl (.int b))) (decide_eq_false c2)) (fun z => Bool.noConfusion z) fun _ H8 e8 => ?_
          have e48 := e5.trans e8
          refine ⟨_, fa, _, _, rfl, (e.trans e4).trans e48, tx.trans (L2.Ex.tx (e4.trans e48)), e48 _ _ hp4, nfp, nf, (lf4.ex e48).cg ?_, ?_⟩
          · rw [ebs, hb]
          · rw [ebs, hb]
  · rintro σ' H' ⟨bv, fa, t, w, rfl, e, tx, hp', nfp, nf, ⟨ys, hy, dy⟩, hbv⟩
    rw [List.take_length] at dy
    exact s_ret (ev_var rfl) fun H4 e4 => q fa ys H4 nf (e.trans e4) (e4 _ _ hy) (dy.ex e4)
theorem sc_law_priced : FnScope ["_law_box_here", "_law_sorts", "_law_kinds", "_law_prices_here", "_law_told", "_law_lot"] ["_law_box_here", "_law_sorts", "_law_kinds"] (defScope (top 40)) := ⟨rfl, rfl, rfl, by decide +kernel, rfl, by decide +kernel, by decide +kernel⟩
theorem bp_law_priced : BindsP "_law_priced" (top 40) ["_law_box_here", "_law_sorts", "_law_kinds"] := fun _ _ _ _ _ _ us hl => match us, hl with | [_, _, _], _ => rfl
theorem o_law_priced (W : Gs K mg) : OkF CX0 P w K mg base 3 "_law_priced" ["_law_box_here", "_law_sorts", "_law_kinds"] (spTab P w K 1000 Rpriced) := by
  refine ok_of W.n_law_priced sc_law_priced bp_law_priced (fun vs H Q E h => spTab_len h) (fun f cdv A outer s H vs Q E hr h => ?_)
  refine ⟨_, (PSs.nox
  (pss_cons (ps_par (i := 3) (j := 4) rfl sc_law_priced.nd rfl rfl (by decide) rfl rfl (pa_cons (k_own (P := P) (w := w) (base := base) (o_law_prices W) (hr.mono (by decide)) pass0 (by rfl) (pa_cons (pv 0) (pa_cons (pv 1) (pa_cons (pv 2) pa_nil)))) (pa_cons (k_own (P := P) (w := w) (base := base) (o_law_ones W) (hr.mono (by decide)) pass0 (by rfl) (pa_cons (pv 1) (pa_cons (pv 2) pa_nil))) pa_nil)) rfl)
  (pss_cons (ps_for PassesOwn.never rfl (k_pilist K (k_own (P := P) (w := w) (base := base) (o_law_lots W) (hr.mono (by decide)) pass0 (by rfl) (pa_cons (pv 1) (pa_cons (pv 2) pa_nil)))) (pg_name (i := 5) sc_law_priced.nd rfl (.inl rfl))
  (pss_one (k_nput K P w (room_n hr) (pv 4) (pv 5) (pe_ix (k_ixL K) (k_own (P := P) (w := w) (base := base) (o_law_best W) (hr.mono (by decide)) pass0 (by rfl) (pa_cons (pv 3) (pa_cons (pv 5) pa_nil))) pe_int (fun _ _ => rfl)) (by rfl))))
  (pss_one (ps_ret (pv 4)))))), ?_⟩
  obtain ⟨a, S, U, rfl, hb, hS, hU, q⟩ := h
  refine q_par2 ⟨_, rfl, _, rfl, _, rfl, a, S, U, rfl, hb, hS, hU, fun M v H1 hM f1 b1 dv => ⟨_, rfl, _, rfl, [.int S, .int U], ones S U, rfl, .cons (.int S) (.cons (.int U) .nil), ⟨S, U, rfl, hS, hU, rfl⟩, fun tp H2 np e2 dt => ⟨_, _, rfl, ?_⟩⟩⟩
  have a_tp : a ≠ tp := b1.off np
  have dv2 : Dp K H2 v (.list (M.map lI)) := (dv.ex off_ex).ex e2
  have sz := lots_len hS hU
  refine q_forND (K := K) tL (lots S U) (n_own (da_two (d_var rfl (.int S)) (d_var rfl (.int U))) ⟨S, U, rfl, hS, hU, rfl⟩) (flat_tLs _) fun p xs H3 n3 e3 hp dp =>
    ⟨fun i σ' H' => ∃ t, σ' = [some (.ref a), some (.int S), some (.int U), some v, some (.ref tp), t] ∧ Fr K [tp] H3 H' ∧ DT P w K H' tp (200 + i) (pricedT M (ones S U) ((lots S U).take i)), ⟨none, rfl, K11.Fr.refl, dt.ex e3⟩, ?_, ?_, ?_⟩
  · rintro i σ' H' ⟨t, rfl, f, d⟩
    exact ⟨f.at hp (by simpa using (dt.off n3).symm), f.1⟩
  · rintro i l x σ' H' hl ⟨t, rfl, f, d⟩ dx
    have hi : i < (lots S U).length := (List.getElem?_eq_some_iff.mp hl).1
    obtain ⟨c1, c2, c3, c4, c5⟩ := whole_cells hS hU hM (List.mem_of_getElem? hl)
    obtain ⟨n, h2, ok⟩ := (mem_lots hS hU).mp (List.mem_of_getElem? hl)
    obtain ⟨pb, rb, eb, _⟩ := best_head (M := M) ok.up2.nodup
    have dv' : Dp K H' v (.list (M.map lI)) := (dv.ex off_ex).ex (f.exB (e2.trans e3) (by simpa using np))
    have etk : (lots S U).take (i + 1) = (lots S U).take i ++ [l] := take_succ_of hl
    refine s_tput (K := K) (r := (bestOf M l).headD []) (d_op (n_own (da_two (d_var rfl dv') (d_var rfl dx)) ⟨M, l, U.toNat, rfl, c1, c2, c3, c4, c5, rfl⟩).toD d_ci (rd_ixL (by rw [eb]; exact atI_z))) (ev_var rfl) d (by omega) (d_var rfl dx) fun H4 w4 d4 => ⟨_, rfl, f.trans (Fr.wr w4 (by simp)), ?_⟩
    rw [etk, pricedT_snoc]
    exact d4
  · rintro σ' H' ⟨t, rfl, f, d⟩
    rw [List.take_length] at d
    refine s_ret (ev_var rfl) fun H4 e4 => q _ tp H4 ⟨M, hM, rfl⟩ ?_ ?_ (b1.ex (e2.trans e3) |>.fr f (by simpa using a_tp) |>.ex e4) ((d.ex e4).up (by omega))
    · cases hh : H tp with
      | none => rfl
      | some o =>
        have : tp ∉ [a] := by simpa using a_tp.symm
        rw [f1.at hh this] at np
        cases np
    · refine (f1.sub (S' := [a, tp]) (by simp)).trans ((K11.Fr.ex (e2.trans e3)).trans ((f.sub (by simp)).trans (K11.Fr.ex e4))) |>.cut fun c hc => ?_
      simp only [List.mem_cons, List.not_mem_nil, or_false] at hc ⊢
      rcases hc with hc | hc
      · exact .inl hc
      · refine .inr ?_
        subst hc
        cases hh : H c with
        | none => rfl
        | some o =>
          have : c ∉ [a] := by simpa using a_tp.symm
          rw [f1.at hh this] at np
          cases np
end
end K11
/-! fits called, entries put, ranges drawn -/
namespace K11
open PySem PySem.Spec PyProof.Rows L2 Evl
section
variable {P : Program} {w : World} {K : PySem.W.Frag} {H H' H1 H2 : Hp} {σ : L2.St} {ta tb tc te tm tx : TE} {tA tr : TA} {D : Ends} {tu tz : TS} {a p : Addr} {x : Int} {ns : List Int} {Q : VK} {E : XK} {vs : List V} {u v y : V} {n : Nat} {T : Lot → Option Row} {l : Lot} {r : Row} {S : List Addr}
theorem d_fits (ha : Ev ta σ H (.ref a)) (dt : DT P w K H a n T) (h1 : EvD K tb σ H (tL l)) (h2 : EvD K tc σ H (tI r)) (hl : r.length = l.1.length) (hr : r.length ≤ 10) (hl2 : l.2.length ≤ 10) (hT : ∀ i, i < r.length → (T (partL l r i)).isSome = true) :
    EvD K (tCall (spFits P w K) [] E0 (tCons ta (tCons tb (tCons tc tNil)))) σ H (.bool (fitsB T l r)) := fun H1 e1 Q q =>
  ha H1 e1 _ fun H2 e2 => h1 H2 (e1.trans e2) _ fun v1 H3 e3 d1 => h2 H3 ((e1.trans e2).trans e3) _ fun v2 H4 e4 d2 =>
    ⟨a, v1, v2, n, T, l, r, rfl, dt.ex (((e1.trans e2).trans e3).trans e4), d1.ex e4, d2, hl, hr, hl2, hT, fun H5 e5 => q _ H5 (((e2.trans e3).trans e4).trans e5) (.bl _)⟩
theorem put_at (hn : DT P w K H a n T) (hz : n ≤ 50000) (hy : Dp K H y (tL l)) (hv : Dp K H v (tI r)) (k : ∀ H', Wr K a H H' → DT P w K H' a (n + 1) (setTs T l r) → D.nx σ H') : sNPut P w K (tC (.ref a)) (tC y) (tC v) D σ H :=
  s_tput (K := K) (d_of ev_c hv) ev_c hn hz (d_of ev_c hy) k
theorem s_nputX {td ty tv : TE} (h : tv σ H fun v H1 => td σ H1 fun x H2 => ty σ H2 fun y H3 => sNPut P w K (tC x) (tC y) (tC v) D σ H3) : sNPut P w K td ty tv D σ H := h
theorem q_nputX {td ty tv : TE} (h : tv σ H fun v H1 => td σ H1 fun x H2 => ty σ H2 fun y H3 => sNPut P w K (tC x) (tC y) (tC v) { D with nx := tz D } σ H3) : tSeq (sNPut P w K td ty tv) tz D σ H := h
theorem s_retX (h : te σ H D.rt) : tRet te D σ H := h
theorem q_asgX {g : TG} (h : te σ H fun v H1 => g v σ H1 (tz D)) : tSeq (tAsg te g) tz D σ H := h
theorem s_asgX {g : TG} (h : te σ H fun v H1 => g v σ H1 D.nx) : tAsg te g D σ H := h
theorem fr_none (f : Fr K S H H') (n : H' p = none) (h : ∀ c ∈ S, H' c ≠ none) : H p = none := by
  cases e : H p with
  | none => rfl
  | some o =>
    rw [f.at e fun m => h p m n] at n
    cases n
theorem Bx.ne (h : Bx K H a) : H a ≠ none := by
  obtain ⟨_, _, _, xs, h1, _⟩ := h
  rw [h1]
  exact fun z => by cases z
theorem DT.ne (h : DT P w K H a n T) : H a ≠ none := by
  obtain ⟨φ, h1⟩ := h.some
  rw [h1]
  exact fun z => by cases z
theorem Ls.ne {ds : List PyData} (h : Ls K H a ds) : H a ≠ none := by
  obtain ⟨xs, h1, _⟩ := h
  rw [h1]
  exact fun z => by cases z
theorem q_forRX {j : Nat} {good : Int → Hp → Prop} (h : ∀ R : List V → Hp → Prop, (∀ m H1, good m H1 → R [.int m] H1) → tA σ H R) (hg : ∀ m H1, good m H1 → 0 ≤ m ∧ m ≤ 100000 ∧ ∃ Pv : Nat → L2.St → Hp → Prop, Pv 0 σ H1 ∧
      (∀ (i : Nat) σ' H', (i : Int) < m → Pv i σ' H' → tu { D with nx := Pv (i + 1), ct := Pv (i + 1), bk := tz D } (σ'.set j (some (.int (i : Int)))) H') ∧ ∀ σ' H', Pv m.toNat σ' H' → tz D σ' H') : tSeq (tFor (iRng1 tA) (gName j) tu) tz D σ H := by
  refine h _ fun m H1 gm => ?_
  obtain ⟨m0, m1, Pv, h0, hs, hd⟩ := hg m H1 gm
  refine ⟨m, rfl, by omega, by omega, for_range (D := { D with nx := tz D }) (lo := 0) (n := m.toNat) Pv h0 (fun i σ' H' hi p => ?_) hd⟩
  have e0 : (0 : Int) + (i : Int) = (i : Int) := Int.zero_add _
  show tu { D with nx := Pv (i + 1), ct := Pv (i + 1), bk := tz D } (σ'.set j (some (.int ((0 : Int) + (i : Int))))) H'
  rw [e0]
  exact hs i σ' H' (by omega) p
theorem lay_tIs : ∀ rs : List Row, PyData.canLayAll0 (rs.map tI) = true
  | [] => rfl
  | r :: rs => by rw [List.map_cons, PyData.canLayAll0, lay_tI, lay_tIs rs]; rfl
theorem dep_tIs : ∀ rs : List Row, PyData.depthAll (rs.map tI) ≤ 1
  | [] => Nat.zero_le _
  | r :: rs => by
    rw [List.map_cons, PyData.depthAll, dep_tI]
    have := dep_tIs rs
    omega
theorem shp_list {ds : List PyData} (h1 : PyData.canLayAll0 ds = true) (h2 : PyData.depthAll ds ≤ 60) : SeqAt.shaped (.list ds) = true := by
  unfold SeqAt.shaped
  rw [PyData.canLay0, h1, PyData.depth, decide_eq_true (show PyData.depthAll ds + 1 ≤ 64 by omega)]
  rfl
theorem shp_tIs (rs : List Row) : SeqAt.shaped (.list (rs.map tI)) = true := shp_list (lay_tIs rs) (by have := dep_tIs rs; omega)
theorem lay_tLs : ∀ rs : List Lot, PyData.canLayAll0 (rs.map tL) = true
  | [] => rfl
  | r :: rs => by rw [List.map_cons, PyData.canLayAll0, lay_tL, lay_tLs rs]; rfl
theorem dep_tLs : ∀ rs : List Lot, PyData.depthAll (rs.map tL) ≤ 2
  | [] => Nat.zero_le _
  | r :: rs => by
    rw [List.map_cons, PyData.depthAll, dep_tL]
    have := dep_tLs rs
    omega
theorem shp_tLs (rs : List Lot) : SeqAt.shaped (.list (rs.map tL)) = true := shp_list (lay_tLs rs) (by have := dep_tLs rs; omega)
theorem eqv_nil {α : Type} (f : α → PyData) (rs : List α) : PyData.eqv (.list (rs.map f)) (.list []) = rs.isEmpty := by
  cases rs with
  | nil => rfl
  | cons r rs => rfl
theorem et_nil {α : Type} {f : α → PyData} {rs : List α} (h : EvD K te σ H (.list (rs.map f))) (hs : SeqAt.shaped (.list (rs.map f)) = true) : EvT (tTest (tOp (rEqD K) te (tLst tNil))) σ H rs.isEmpty :=
  et_is (t_d (d_op h (EvN.toD d_lst0) (rd_eqD hs rfl))) (eqv_nil f rs)
theorem et_nnil {α : Type} {f : α → PyData} {rs : List α} (h : EvD K te σ H (.list (rs.map f))) (hs : SeqAt.shaped (.list (rs.map f)) = true) : EvT (tTest (tOp (rNeD K) te (tLst tNil))) σ H (!rs.isEmpty) :=
  et_is (t_d (d_op h (EvN.toD d_lst0) (rd_neD hs rfl))) (congrArg Bool.not (eqv_nil f rs))
end
theorem setTs_some {T : Lot → Option Row} {l l' : Lot} {r : Row} (h : (T l').isSome = true) : (setTs T l r l').isSome = true := by
  by_cases c : l' = l
  · rw [c, setTs_eq]
    rfl
  · rw [setTs_ne c]
    exact h
theorem setTs_back {T : Lot → Option Row} {l : Lot} {r q : Row} (h : T l = some q) : setTs (setTs T l r) l q = T := by
  funext l'
  by_cases c : l' = l
  · rw [c, setTs_eq, h]
  · rw [setTs_ne c, setTs_ne c]
end K11
/-! drawn and turned tables -/
namespace K11
open PySem PySem.Spec PyProof.Rows L2 Evl
section
variable {P : Program} {w : World} {K : PySem.W.Frag} {mg : Str → Option Value} {base : Heap}
theorem sc_law_drawn : FnScope ["_law_box_here", "_law_sorts", "_law_kinds", "_law_told", "_law_lot", "_law_fits_here", "_law_pairing"] ["_law_box_here", "_law_sorts", "_law_kinds"] (defScope (top 41)) := ⟨rfl, rfl, rfl, by decide +kernel, rfl, by decide +kernel, by decide +kernel⟩
theorem bp_law_drawn : BindsP "_law_drawn" (top 41) ["_law_box_here", "_law_sorts", "_law_kinds"] := fun _ _ _ _ _ _ us hl => match us, hl with | [_, _, _], _ => rfl
theorem o_law_drawn (W : Gs K mg) : OkF CX0 P w K mg base 4 "_law_drawn" ["_law_box_here", "_law_sorts", "_law_kinds"] (spTab P w K 2000 fun S U T => Whole S U T) := by
  refine ok_of W.n_law_drawn sc_law_drawn bp_law_drawn (fun vs H Q E h => spTab_len h) (fun f cdv A outer s H vs Q E hr h => ?_)
  refine ⟨_, (PSs.nox
  (pss_cons (ps_set (i := 3) sc_law_drawn.nd rfl (.inr rfl) (k_own (P := P) (w := w) (base := base) (o_law_ones W) (hr.mono (by decide)) pass0 (by rfl) (pa_cons (pv 1) (pa_cons (pv 2) pa_nil))))
  (pss_cons (ps_for PassesOwn.never rfl (k_pilist K (k_own (P := P) (w := w) (base := base) (o_law_lots W) (hr.mono (by decide)) pass0 (by rfl) (pa_cons (pv 1) (pa_cons (pv 2) pa_nil)))) (pg_name (i := 4) sc_law_drawn.nd rfl (.inr rfl))
  (pss_cons (ps_setLc (i := 5) (own := [("_law_pairing", 6)]) rfl sc_law_drawn.nd rfl rfl (by rfl) (k_pilist K (k_own (P := P) (w := w) (base := base) (o_law_orders W) (hr.mono (by decide)) pass0 (by rfl) (pa_cons (pe_ix (k_ixT K) (pv 4) pe_int (fun _ _ => rfl)) pa_nil))) (blkOk_by (N := ["_law_box_here", "_law_sorts", "_law_kinds", "_law_told", "_law_lot", "_law_fits_here", "_law_pairing"]) (sc := defScope (top 41)) (by decide +kernel)) (fun _ _ _ _ _ => (pg_name (i := 6) sc_law_drawn.nd rfl (.inl rfl))) (fun _ _ _ _ _ => (pts_one (pt_val (k_own (P := P) (w := w) (base := base) (o_law_fits W) (hr.mono (by decide)) pass0 (by rfl) (pa_cons (pv 3) (pa_cons (pv 4) (pa_cons (pv 6) pa_nil))))))) (fun _ _ _ _ _ => (pv 6)))
  (pss_cons (ps_if (pt_cmpR (k_eqD K (room_u hr)) (pv 5) (pe_lst pa_nil) (nomark _)) (pss_one (ps_ret (k_own (P := P) (w := w) (base := base) (o_law_priced W) (hr.mono (by decide)) pass0 (by rfl) (pa_cons (pv 0) (pa_cons (pv 1) (pa_cons (pv 2) pa_nil)))))) pss_nil)
  (pss_one (k_nput K P w (room_n hr) (pv 3) (pv 4) (k_own (P := P) (w := w) (base := base) (o_law_pick W) (hr.mono (by decide)) pass0 (by rfl) (pa_cons (pv 0) (pa_cons (pv 5) pa_nil))) (by rfl))))))
  (pss_one (ps_ret (pv 3)))))), ?_⟩
  obtain ⟨a, S, U, rfl, hb, hS, hU, q⟩ := h
  have sz := lots_len hS hU
  refine q_asgX ⟨_, rfl, _, rfl, [.int S, .int U], ones S U, rfl, .cons (.int S) (.cons (.int U) .nil), ⟨S, U, rfl, hS, hU, rfl⟩, fun tp H1 np e1 dt => ?_⟩
  have a_tp : a ≠ tp := hb.off np
  refine q_forND (K := K) tL (lots S U) (n_own (da_two (d_var rfl (.int S)) (d_var rfl (.int U))) ⟨S, U, rfl, hS, hU, rfl⟩) (flat_tLs _) fun p xs H2 n2 e2 hp dp =>
    ⟨fun i σ' H' => ∃ t u T, σ' = [some (.ref a), some (.int S), some (.int U), some (.ref tp), t, u, none] ∧ Fr K [a, tp] H2 H' ∧ Bx K H' a ∧ DT P w K H' tp (200 + i) T ∧ WholeUp S U T ((lots S U).take i), ⟨none, none, ones S U, rfl, K11.Fr.refl, hb.ex (e1.trans e2), dt.ex e2, ones_whole S U⟩, ?_, ?_, ?_⟩
  · rintro i σ' H' ⟨t, u, T, rfl, f, b, d, wh⟩
    exact ⟨f.at hp (by simp [(dt.off n2).symm, ((hb.ex e1).off n2).symm]), f.1⟩
  · rintro i l x σ' H' hl ⟨t, u, T, rfl, f, b, d, wh⟩ dx
    have hi : i < (lots S U).length := (List.getElem?_eq_some_iff.mp hl).1
    obtain ⟨n, h2, ok⟩ := (mem_lots hS hU).mp (List.mem_of_getElem? hl)
    have n4 := ok.le4 hS
    have lo2 : l.2.length ≤ 4 := by rw [ok.len2]; exact n4
    refine q_setN (K := K) (n_lcT tI (orders l.2) (i_list (n_own (da_one (d_lot1 (d_var rfl dx))) ⟨l.2, rfl, lo2, rfl⟩).toD) (fun o => fitsB T l o) tI (by have := ordN_len lo2 l.2.length; have h3 : 4 ^ l.2.length ≤ 4 ^ 4 := Nat.pow_le_pow_right (by decide) lo2; exact Nat.le_trans this (Nat.le_trans h3 (by decide))) (fun _ _ _ => flat_tI _) ?_) fun p5 xs5 H5 n5 e5 hp5 dp5 => ?_
    · intro o ho y B H6 eB eB1 dy Q1 k
      have om := mem_orders.mp ho
      exact k _ rfl (t_B (d_fits (ev_var rfl) (d.ex eB) (d_var rfl (dx.ex eB)) (d_var rfl dy) (by rw [om.1, ok.len2, ok.len1]) (by omega) (by omega) fun j hj => wh.part hS hU hl ho hj)) fun _ => d_var rfl dy
    have ls5 : Ls K H5 p5 (((orders l.2).filter fun o => fitsB T l o).map tI) := ⟨xs5, hp5, dp5⟩
    have b5 := b.ex e5
    have d5 := d.ex e5
    refine q_if (et_nil (d_var (K := K) rfl ls5.toD) (shp_tIs _)) (fun z H6 e6 => ?_) fun z H6 e6 => ?_
    · refine s_retX ⟨_, rfl, _, rfl, _, rfl, a, S, U, rfl, b5.ex e6, hS, hU, fun T2 p2 H7 hT2 np2 f7 b7 d7 => ?_⟩
      have f17 : Fr K [a, tp] H H7 := (K11.Fr.ex (e1.trans e2)).trans (f.trans ((K11.Fr.ex (e5.trans e6)).trans (f7.sub (by simp))))
      have np6 : H p2 = none := by
        refine fr_none ((K11.Fr.ex (e1.trans e2)).trans (f.trans (K11.Fr.ex (e5.trans e6)))) np2 fun c hc => ?_
        simp only [List.mem_cons, List.not_mem_nil, or_false] at hc
        rcases hc with hc | hc
        · exact hc ▸ (b5.ex e6).ne
        · exact hc ▸ (d5.ex e6).ne
      refine q T2 p2 H7 (hT2.whole hS hU) np6 (f17.cut fun c hc => ?_) b7 (d7.up (by decide))
      simp only [List.mem_cons, List.not_mem_nil, or_false] at hc ⊢
      rcases hc with hc | hc
      · exact .inl hc
      · exact .inr (hc ▸ np)
    · have hne : (orders l.2).filter (fun o => fitsB T l o) ≠ [] := fun z2 => by rw [z2] at z; exact Bool.noConfusion z
      have p5a : p5 ≠ a := (b.off n5).symm
      refine s_nputX (pick_call (K := K) rfl rfl (b5.ex e6) (ls5.ex e6) (flat_tIs _) p5a (by simpa using hne) (by
        rw [List.length_map]
        have h1 := List.length_filter_le (fun o => fitsB T l o) (orders l.2)
        have := ordN_len lo2 l.2.length
        have h3 : 4 ^ l.2.length ≤ 4 ^ 4 := Nat.pow_le_pow_right (by decide) lo2
        have h4 : (orders l.2).length ≤ 4 ^ 4 := Nat.le_trans this h3
        omega) fun dd v H7 hd f7 b7 dv => ⟨_, rfl, _, rfl, ?_⟩)
      obtain ⟨o, ho, rfl⟩ := List.mem_map.mp hd
      obtain ⟨ho1, ho2⟩ := List.mem_filter.mp ho
      have e56 := e5.trans e6
      refine put_at (K := K) (l := l) (r := o) ((d5.ex e6).fr f7 (by simpa using a_tp.symm)) (by omega) ((dx.ex e56).tx f7.1 (flat_tL l)) dv fun H8 w8 d8 => ⟨_, _, _, rfl, f.trans ((K11.Fr.ex e56).trans ((f7.sub (by simp)).trans (Fr.wr w8 (by simp)))), b7.fr (Fr.wr (S := [tp]) w8 (by simp)) (by simpa using a_tp), d8, wh.set hS hU hl ho1 ho2⟩
  · rintro σ' H' ⟨t, u, T, rfl, f, b, d, wh⟩
    rw [List.take_length] at wh
    refine s_ret (ev_var rfl) fun H4 e4 => q T tp H4 wh np ?_ (b.ex e4) ((d.ex e4).up (by omega))
    refine ((K11.Fr.ex (e1.trans e2)).trans (f.trans (K11.Fr.ex e4))).cut fun c hc => ?_
    simp only [List.mem_cons, List.not_mem_nil, or_false] at hc ⊢
    rcases hc with hc | hc
    · exact .inl hc
    · exact .inr (hc ▸ np)
theorem sc_law_turned : FnScope ["_law_box_here", "_law_sorts", "_law_kinds", "_law_told", "_law_lots_here", "_law_turn", "_law_lot", "_law_fits_here", "_law_pairing", "_law_elder", "_law_other"] ["_law_box_here", "_law_sorts", "_law_kinds"] (defScope (top 42)) := ⟨rfl, rfl, rfl, by decide +kernel, rfl, by decide +kernel, by decide +kernel⟩
theorem bp_law_turned : BindsP "_law_turned" (top 42) ["_law_box_here", "_law_sorts", "_law_kinds"] := fun _ _ _ _ _ _ us hl => match us, hl with | [_, _, _], _ => rfl
theorem o_law_turned (W : Gs K mg) : OkF CX0 P w K mg base 4 "_law_turned" ["_law_box_here", "_law_sorts", "_law_kinds"] (spTab P w K 2000 fun S U T => Whole S U T) := by
  refine ok_of W.n_law_turned sc_law_turned bp_law_turned (fun vs H Q E h => spTab_len h) (fun f cdv A outer s H vs Q E hr h => ?_)
  refine ⟨_, (PSs.nox
  (pss_cons (ps_asg (pe_tup (pa_cons (k_own (P := P) (w := w) (base := base) (o_law_priced W) (hr.mono (by decide)) pass0 (by rfl) (pa_cons (pv 0) (pa_cons (pv 1) (pa_cons (pv 2) pa_nil)))) (pa_cons (k_own (P := P) (w := w) (base := base) (o_law_lots W) (hr.mono (by decide)) pass0 (by rfl) (pa_cons (pv 1) (pa_cons (pv 2) pa_nil))) pa_nil))) (k_pgtup K (n := 2) rfl (pgs_cons (pg_name (i := 3) sc_law_turned.nd rfl (.inr rfl)) (pgs_cons (pg_name (i := 4) sc_law_turned.nd rfl (.inl rfl)) pgs_nil))))
  (pss_cons (ps_for PassesOwn.never rfl (pi_range1 (by rfl) W.f_range (pa_cons (pe_ifExp (pt_cmpR (k_neD K (room_u hr)) (pv 4) (pe_lst pa_nil) (nomark _)) (k_own (P := P) (w := w) (base := base) (o_law_take W) (hr.mono (by decide)) pass0 (by rfl) (pa_cons (pv 0) (pa_cons pe_int pa_nil))) pe_int) pa_nil)) (pg_name (i := 5) sc_law_turned.nd rfl (.inl rfl))
  (pss_cons (ps_set (i := 6) sc_law_turned.nd rfl (.inr rfl) (k_own (P := P) (w := w) (base := base) (o_law_pick W) (hr.mono (by decide)) pass0 (by rfl) (pa_cons (pv 0) (pa_cons (pv 4) pa_nil))))
  (pss_cons (ps_setLc (i := 7) (own := [("_law_pairing", 8)]) rfl sc_law_turned.nd rfl rfl (by rfl) (k_pilist K (k_own (P := P) (w := w) (base := base) (o_law_orders W) (hr.mono (by decide)) pass0 (by rfl) (pa_cons (pe_ix (k_ixT K) (pv 6) pe_int (fun _ _ => rfl)) pa_nil))) (blkOk_by (N := ["_law_box_here", "_law_sorts", "_law_kinds", "_law_told", "_law_lots_here", "_law_turn", "_law_lot", "_law_fits_here", "_law_pairing", "_law_elder", "_law_other"]) (sc := defScope (top 42)) (by decide +kernel)) (fun _ _ _ _ _ => (pg_name (i := 8) sc_law_turned.nd rfl (.inl rfl))) (fun _ _ _ _ _ => (pts_one (PW.pt (pw_and (pt_val (k_own (P := P) (w := w) (base := base) (o_law_fits W) (hr.mono (by decide)) pass0 (by rfl) (pa_cons (pv 3) (pa_cons (pv 6) (pa_cons (pv 8) pa_nil))))) (pw_and1 (pt_cmpR (k_neD K (room_u hr)) (pv 8) (k_nget K P w (room_n hr) (pv 3) (pv 6) (fun _ _ => rfl)) (nomark _))))))) (fun _ _ _ _ _ => (pv 8)))
  (pss_one (ps_if (pt_cmpR (k_neD K (room_u hr)) (pv 7) (pe_lst pa_nil) (nomark _)) (pss_cons (ps_set (i := 9) sc_law_turned.nd rfl (.inl rfl) (k_nget K P w (room_n hr) (pv 3) (pv 6) (fun _ _ => rfl)))
  (pss_cons (k_nput K P w (room_n hr) (pv 3) (pv 6) (k_own (P := P) (w := w) (base := base) (o_law_pick W) (hr.mono (by decide)) pass0 (by rfl) (pa_cons (pv 0) (pa_cons (pv 7) pa_nil))) (by rfl))
  (pss_one (ps_if (pt_cmpR (k_in K) pe_bl (pe_lc (own := [("_law_other", 10)]) rfl sc_law_turned.nd (k_pilist K (pv 4)) (blkOk_by (N := ["_law_box_here", "_law_sorts", "_law_kinds", "_law_told", "_law_lots_here", "_law_turn", "_law_lot", "_law_fits_here", "_law_pairing", "_law_elder", "_law_other"]) (sc := defScope (top 42)) (by decide +kernel)) (fun _ _ _ _ _ => (pg_name (i := 10) sc_law_turned.nd rfl (.inl rfl))) (fun _ _ _ _ _ => (pts_one (pt_cmpR op_eq (pe_callB (k_len K) (by rfl) W.f_len boot_len (pa_cons (pe_ix (k_ixT K) (pv 10) pe_int (fun _ _ => rfl)) pa_nil)) (pe_op op_add (pe_callB (k_len K) (by rfl) W.f_len boot_len (pa_cons (pe_ix (k_ixT K) (pv 6) pe_int (fun _ _ => rfl)) pa_nil)) pe_int) (nomark _)))) (fun _ _ _ _ _ => (k_own (P := P) (w := w) (base := base) (o_law_fits W) (hr.mono (by decide)) pass0 (by rfl) (pa_cons (pv 3) (pa_cons (pv 10) (pa_cons (k_nget K P w (room_n hr) (pv 3) (pv 10) (fun _ _ => rfl)) pa_nil)))))) (by rfl)) (pss_one (k_nput K P w (room_n hr) (pv 3) (pv 6) (pv 9) (by rfl))) pss_nil)))) pss_nil)))))
  (pss_one (ps_ret (pv 3)))))), ?_⟩
  obtain ⟨a, S, U, rfl, hb, hS, hU, q⟩ := h
  have sz := lots_len hS hU
  refine q_asgX ⟨_, rfl, _, rfl, _, rfl, a, S, U, rfl, hb, hS, hU, fun T0 tp H1 hT0 np f1 b1 dt => ⟨_, rfl, _, rfl, [.int S, .int U], (lots S U).map tL, rfl, .cons (.int S) (.cons (.int U) .nil), ⟨S, U, rfl, hS, hU, rfl⟩, fun lp xs H2 n2 e2 hlp dlp => ⟨sz_of (show 2 ≤ 100000 by decide), fun tt ntt => ⟨tt, _, rfl, st_of upd_same, rfl, _, _, rfl, _, _, rfl, rfl, ?_⟩⟩⟩⟩
  have e23 : Ex H2 (upd H2 tt (.tup [.ref tp, .ref lp])) := Ex.new ntt
  have a_tp : a ≠ tp := fun z => hb.ne (z ▸ np)
  have wh0 := hT0.whole hS hU
  have ll : Ls K (upd H2 tt (.tup [.ref tp, .ref lp])) lp ((lots S U).map tL) := ⟨xs, e23 _ _ hlp, dlp.ex e23⟩
  have lp_tp : lp ≠ tp := (dt.off n2).symm
  have lp_a : lp ≠ a := (b1.off n2).symm
  have e13 := e2.trans e23
  generalize upd H2 tt (.tup [.ref tp, .ref lp]) = H3 at e23 ll e13
  refine q_forRX (good := fun m H4 => 0 ≤ m ∧ m ≤ 3 ∧ (lots S U = [] → m = 0) ∧ Fr K [a] H3 H4 ∧ Bx K H4 a) (fun R hR => ?_) fun m H4 ⟨m0, m3, hm0, f4, b4⟩ => ⟨m0, by omega, fun i σ' H' => ∃ t l f o T n, σ' = [some (.ref a), some (.int S), some (.int U), some (.ref tp), some (.ref lp), t, l, f, none, o, none] ∧ Fr K [a, tp] H3 H' ∧ Bx K H' a ∧ DT P w K H' tp n T ∧ n ≤ 1000 + 2 * i ∧ Whole S U T,
    ⟨none, none, none, none, T0, 1000, rfl, f4.sub (by simp), b4, (dt.ex e13).fr f4 (by simpa using a_tp.symm), Nat.le_refl _, wh0⟩, ?_, ?_⟩
  · refine et_nnil (K := K) (f := tL) (rs := lots S U) (d_var rfl ll.toD) (shp_tLs _) H3 (Ex.refl _) _ fun H4 e4 => ?_
    cases hl : lots S U with
    | nil => exact hR 0 H4 ⟨Int.le_refl 0, by decide, fun _ => rfl, K11.Fr.ex e4, (b1.ex e13).ex e4⟩
    | cons l0 ls =>
      refine take_call (K := K) rfl ((b1.ex e13).ex e4) d_ci ⟨by decide, by decide⟩ fun r H5 r0 r1 f5 b5 => hR r H5 ⟨r0, by omega, fun z => ?_, (K11.Fr.ex e4).trans f5, b5⟩
      rw [hl] at z
      cases z
  · rintro i σ' H' hi ⟨t, l, f, o, T, n, rfl, fr, b, d, hn, wh⟩
    have i3 : i ≤ 2 := by omega
    have hne : lots S U ≠ [] := fun z => by
      have := hm0 z
      omega
    have ll' := ll.fr fr (by simp [lp_tp, lp_a]) (flat_tLs _)
    refine q_asgX (pick_call (K := K) rfl rfl b ll' (flat_tLs _) lp_a (by simpa using hne) (by rw [List.length_map]; omega) fun dd v H5 hd f5 b5 dv => ?_)
    obtain ⟨lt, hlt, rfl⟩ := List.mem_map.mp hd
    obtain ⟨k, h2, ok⟩ := (mem_lots hS hU).mp hlt
    have n4 := ok.le4 hS
    have lo2 : lt.2.length ≤ 4 := by rw [ok.len2]; exact n4
    have d5 := d.fr f5 (by simpa using a_tp.symm)
    obtain ⟨eld, he1, he2, he3⟩ := wh.lot lt hlt
    have ordsz : (orders lt.2).length ≤ 256 := by
      have := ordN_len lo2 lt.2.length
      have h3 : 4 ^ lt.2.length ≤ 4 ^ 4 := Nat.pow_le_pow_right (by decide) lo2
      exact Nat.le_trans this h3
    refine q_setN (K := K) (n_lcT tI (orders lt.2) (i_list (n_own (da_one (d_lot1 (d_var rfl dv))) ⟨lt.2, rfl, lo2, rfl⟩).toD) (fun o => fitsB T lt o && !decide (o = eld)) tI (by omega) (fun _ _ _ => flat_tI _) ?_) fun p5 xs5 H6 n6 e6 hp6 dp6 => ?_
    · intro o ho y B H7 eB eB1 dy Q1 k1
      have om := mem_orders.mp ho
      exact k1 _ rfl (et_and (t_B (d_fits (ev_var rfl) (d5.ex eB) (d_var rfl (dv.ex eB)) (d_var rfl dy) (by rw [om.1, ok.len2, ok.len1]) (by omega) (by omega) fun j hj => wh.partK hS hU hlt ho hj)) fun _ => t_d (d_op (d_var rfl dy) (d_tget (ev_var rfl) (d5.ex eB) (d_var rfl (dv.ex eB)) he1) rd_neI')) fun _ => d_var rfl dy
    have ls6 : Ls K H6 p5 (((orders lt.2).filter fun o => fitsB T lt o && !decide (o = eld)).map tI) := ⟨xs5, hp6, dp6⟩
    have b6 := b5.ex e6
    have d6 := d5.ex e6
    have fr6 : Fr K [a, tp] H3 H6 := fr.trans ((f5.sub (by simp)).trans (K11.Fr.ex e6))
    refine s_if (et_nnil (d_var (K := K) rfl ls6.toD) (shp_tIs _)) (fun z H7 e7 => ?_) fun z H7 e7 => ?_
    · have hne2 : (orders lt.2).filter (fun o => fitsB T lt o && !decide (o = eld)) ≠ [] := fun z2 => by rw [z2] at z; exact Bool.noConfusion z
      refine q_setD (K := K) (d_tget (ev_var rfl) (d6.ex e7) (d_var rfl (dv.ex (e6.trans e7))) he1) fun ve H8 e8 de => ?_
      have e78 := e7.trans e8
      have e68 := e6.trans e78
      refine q_nputX (pick_call (K := K) rfl rfl (b6.ex e78) (ls6.ex e78) (flat_tIs _) (b5.off n6).symm (by simpa using hne2) (by
        rw [List.length_map]
        have h1 := List.length_filter_le (fun o => fitsB T lt o && !decide (o = eld)) (orders lt.2)
        omega) fun dd2 v2 H9 hd2 f9 b9 dv2 => ⟨_, rfl, _, rfl, ?_⟩)
      obtain ⟨o2, ho2, rfl⟩ := List.mem_map.mp hd2
      obtain ⟨ho3, ho4⟩ := List.mem_filter.mp ho2
      have ho5 : fitsB T lt o2 = true := (Bool.and_eq_true_iff.mp ho4).1
      have dv9 : Dp K H9 v (tL lt) := (dv.ex e68).tx f9.1 (flat_tL lt)
      have de9 : Dp K H9 ve (tI eld) := de.tx f9.1 (flat_tI eld)
      refine put_at (K := K) (l := lt) (r := o2) ((d6.ex e78).fr f9 (by simpa using a_tp.symm)) (by omega) dv9 dv2 fun H10 w10 d10 => ?_
      have b10 : Bx K H10 a := b9.fr (Fr.wr (S := [tp]) w10 (by simp)) (by simpa using a_tp)
      have fr10 : Fr K [a, tp] H3 H10 := fr6.trans ((K11.Fr.ex e78).trans ((f9.sub (by simp)).trans (Fr.wr w10 (by simp))))
      have ll10 := ll.fr fr10 (by simp [lp_tp, lp_a]) (flat_tLs _)
      have dv10 : Dp K H10 v (tL lt) := dv9.tx w10.tx (flat_tL lt)
      have de10 : Dp K H10 ve (tI eld) := de9.tx w10.tx (flat_tI eld)
      have know : ∀ l' ∈ lots S U, l'.1.length = lt.1.length + 1 → ∃ q', setTs T lt o2 l' = some q' ∧ q' ∈ orders l'.2 ∧ ∀ j, j < q'.length → (setTs T lt o2 (partL l' q' j)).isSome = true := fun l' hl' hlen => by
        have hll : l' ≠ lt := fun z => by rw [z] at hlen; omega
        obtain ⟨q', h5, h6, _⟩ := wh.lot l' hl'
        exact ⟨q', by rw [setTs_ne hll]; exact h5, h6, fun j hj => setTs_some (wh.partK hS hU hl' h6 hj)⟩
      have comp := n_lcT (K := K) (H := H10) (α := Lot) (te := tCall (spFits P w K) [] E0 (tCons (tVar 3) (tCons (tVar 10) (tCons (tNGet P w K (tVar 3) (tVar 10)) tNil)))) (t := tTest (tOp rEq (tCB (rLenS K) (tCons (tOp (rIxT K) (tVar 10) (tC (.int 0))) tNil)) (tOp (rI0 fun i j => .int (i + j)) (tCB (rLenS K) (tCons (tOp (rIxT K) (tVar 6) (tC (.int 0))) tNil)) (tC (.int 1)))))
        (g := gName 10) (vs := [10]) (σ := [some (.ref a), some (.int S), some (.int U), some (.ref tp), some (.ref lp), some (.int (i : Int)), some v, some (.ref p5), none, some ve, none]) tL (lots S U) (i_list (d_var (i := 4) rfl ll10.toD)) (fun l' => decide ((l'.1.length : Int) = (lt.1.length : Int) + 1)) (fun l' => .bool (fitsB (setTs T lt o2) l' ((setTs T lt o2 l').getD []))) (by omega) (fun _ _ _ => rfl) ?_
      · refine s_if (t_d (d_op d_cb (n_is comp (List.map_map (f := fun l' => fitsB (setTs T lt o2) l' ((setTs T lt o2 l').getD [])) (g := PyData.bool)).symm).toD rd_isLB)) (fun z H11 e11 => ?_) fun z H11 e11 => ?_
        · refine s_tput (K := K) (l := lt) (r := eld) (d_var rfl (de10.ex e11)) (ev_var rfl) (d10.ex e11) (by omega) (d_var rfl (dv10.ex e11)) fun H12 w12 d12 => ?_
          have eb : setT (setTs T lt o2) lt eld = T := setTs_back he1
          rw [eb] at d12
          exact ⟨_, _, _, _, T, n + 2, rfl, fr10.trans ((K11.Fr.ex e11).trans (Fr.wr w12 (by simp))), (b10.ex e11).fr (Fr.wr (S := [tp]) w12 (by simp)) (by simpa using a_tp), d12, by omega, wh⟩
        · refine ⟨_, _, _, _, setTs T lt o2, n + 1, rfl, fr10.trans (K11.Fr.ex e11), b10.ex e11, d10.ex e11, by omega, wh.turn hS hU hlt ho3 ho5 fun l' hl' hlen => ?_⟩
          have z2 : false ∉ ((lots S U).filter fun l' => decide ((l'.1.length : Int) = (lt.1.length : Int) + 1)).map fun l' => fitsB (setTs T lt o2) l' ((setTs T lt o2 l').getD []) := of_decide_eq_false z
          cases hf : fitsB (setTs T lt o2) l' ((setTs T lt o2 l').getD []) with
          | true => rfl
          | false => exact absurd (List.mem_map.mpr ⟨l', List.mem_filter.mpr ⟨hl', decide_eq_true (by omega)⟩, hf⟩) z2
      · intro l' hl' y B H11 eB eB1 dy Q1 k1
        refine k1 _ rfl (t_d (d_op (d_lenI (d_lot0 (d_var rfl dy))) (d_op (d_lenI (d_lot0 (d_var rfl (dv10.ex eB)))) d_ci rd_add) rd_eqI)) fun hz => ?_
        have hlen : l'.1.length = lt.1.length + 1 := by
          have := of_decide_eq_true hz
          omega
        obtain ⟨q', hq1, hq2, hq3⟩ := know l' hl' hlen
        obtain ⟨k', h2', ok'⟩ := (mem_lots hS hU).mp hl'
        have k4 := ok'.le4 hS
        have om := mem_orders.mp hq2
        have eg : (setTs T lt o2 l').getD [] = q' := by rw [hq1]; rfl
        rw [eg]
        exact d_fits (K := K) (ev_var rfl) (d10.ex eB) (d_var rfl dy) (d_tget (ev_var rfl) (d10.ex eB) (d_var rfl dy) hq1) (by rw [om.1, ok'.len2, ok'.len1]) (by rw [om.1, ok'.len2]; omega) (by rw [ok'.len2]; omega) hq3
    · exact ⟨_, _, _, _, T, n, rfl, fr6.trans (K11.Fr.ex e7), b6.ex e7, d6.ex e7, by omega, wh⟩
  · rintro σ' H' ⟨t, l, f, o, T, n, rfl, fr, b, d, hn, wh⟩
    have hm : m.toNat ≤ 3 := by omega
    refine s_ret (ev_var rfl) fun H5 e5 => q T tp H5 wh np ?_ (b.ex e5) ((d.ex e5).up (by omega))
    refine ((f1.sub (S' := [a, tp]) (by simp)).trans ((K11.Fr.ex e13).trans (fr.trans (K11.Fr.ex e5)))).cut fun c hc => ?_
    simp only [List.mem_cons, List.not_mem_nil, or_false] at hc ⊢
    rcases hc with hc | hc
    · exact .inl hc
    · exact .inr (hc ▸ np)
end
end K11
/-! sorted(list of pairs); a comprehension that draws -/
namespace K11
open PySem PySem.Spec PyProof.Rows L2 Evl
def lePair (p q : Pair) : Bool := decide (p.1 < q.1 ∨ (p.1 = q.1 ∧ p.2 ≤ q.2))
def sortP (ps : List Pair) : List Pair := ps.mergeSort lePair
def rSortP (K : PySem.W.Frag) : List V → Hp → VK → Prop := fun vs H Q => ∃ (a : Addr) (ps : List Pair), vs = [V.ref a] ∧ Dp K H (.ref a) (.list (ps.map tP)) ∧ ps.length ≤ 100000 ∧
  ∀ (ys : List V) (p : Addr), H p = none → DpAll K H ys ((sortP ps).map tP) → Q (.ref p) (upd H p (.lst ys))
theorem each_vals {R : Value → V × Pair → Prop} (hR : ∀ v b, R v b → RelV b.1 v) : ∀ {out : List Value} {bs : List (V × Pair)}, PySem.W.EachIs R out bs → Vals (bs.map (·.1)) out
  | _, _, .nil => .nil
  | _, _, .cons h t => .cons (hR _ _ h) (each_vals hR t)
theorem k_sortedP (K : PySem.W.Frag) {X : Cx} (hu : X.A.units + 64 < cLine) (h : X.K = K := by rfl) : CallR X (.builtin "sorted") (rSortP K) := by
  subst h
  rintro pins s σ H vs us Q I r ⟨a, ps, rfl, hd, hz, q⟩
  obtain ⟨a', xs, e, hs, dxs⟩ := hd.list_of
  cases e
  obtain ⟨its, rv, hl, hz2⟩ := I.list hs
  rw [Vals.ref1 r]
  have key : ∀ (ps : List Pair) (xs : List V) (its : List Value), DpAll X.K H xs (ps.map tP) → Vals xs its → PySem.W.EachIs (fun v (b : V × Pair) => RelV b.1 v) its (xs.zip ps) ∧ PySem.W.EachIs (fun v (b : V × Pair) => ∃ as, Reads s.heap v (tP b.2) as) its (xs.zip ps) ∧ (∀ b ∈ xs.zip ps, Dp X.K H b.1 (tP b.2)) ∧ (xs.zip ps).map (·.2) = ps := by
    intro ps
    induction ps with
    | nil =>
      intro xs its h1 h2
      cases h1
      cases h2
      exact ⟨.nil, .nil, (fun b hb => by simp at hb), rfl⟩
    | cons p ps ih =>
      intro xs its h1 h2
      cases h1 with
      | cons a1 a2 =>
        cases h2 with
        | cons b1 b2 =>
          obtain ⟨c1, c2, c3, c4⟩ := ih _ _ a2 b2
          refine ⟨.cons b1 c1, .cons (Dp.reads I _ _ _ a1 b1) c2, fun b hb => ?_, by rw [List.zip_cons_cons, List.map_cons, c4]⟩
          rw [List.zip_cons_cons] at hb
          rcases List.mem_cons.mp hb with hb | hb
          · rw [hb]; exact a1
          · exact c3 b hb
  obtain ⟨k1, k2, k3, k4⟩ := key ps xs its dxs rv
  have lb : (xs.zip ps).length = ps.length := by rw [← congrArg List.length k4, List.length_map]
  have eLe : PySem.W.dataLe false (fun b : V × Pair => tP b.2) = fun p q => lePair p.2 q.2 := PySem.W.dataLe_ii (fun b : V × Pair => b.2.1) (fun b => b.2.2)
  refine PySem.W.sorted_data (enc := fun b : V × Pair => tP b.2) (vs := its) hl.isList k1 k2 (PySem.W.AllAlike.of fun _ _ => by simp [PySem.W.alike, PySem.W.alikeAll, tP]) (PySem.W.Sortable.tuples fun _ => ⟨_, _, rfl⟩) (by rw [lb, sizeLine_eq]; omega) (fun b _ => ?_) fun out hout eo => ?_
  · have : (tP b.2).depth = 1 := rfl
    rw [this]
    omega
  · rw [eLe] at eo
    obtain ⟨ep, he⟩ := sortedAll_at s.heap its out.toArray
    have rvo := each_vals (fun _ _ h => h) eo
    have lo : (((xs.zip ps).mergeSort fun p q => lePair p.2 q.2).map (·.1)).length ≤ sizeLine := by
      rw [List.length_map, List.length_mergeSort, lb, sizeLine_eq]
      omega
    have np := I.hok.fresh (Nat.le_succ s.heap.objs.size)
    have em : ((xs.zip ps).mergeSort fun p q => lePair p.2 q.2).map (·.2) = sortP ps := by
      have := List.map_mergeSort (r := fun p q : V × Pair => lePair p.2 q.2) (s := lePair) (f := fun b : V × Pair => b.2) (l := xs.zip ps) fun _ _ _ _ => rfl
      rw [this, k4]
      rfl
    have da : ∀ l : List (V × Pair), (∀ b ∈ l, Dp X.K H b.1 (tP b.2)) → DpAll X.K H (l.map (·.1)) ((l.map (·.2)).map tP) := fun l => by
      induction l with
      | nil => exact fun _ => .nil
      | cons b l ih => exact fun h => .cons (h b List.mem_cons_self) (ih fun c hc => h c (List.mem_cons_of_mem _ hc))
    have hda := da ((xs.zip ps).mergeSort fun p q => lePair p.2 q.2) fun b hb => k3 b (List.mem_mergeSort.mp hb)
    rw [em] at hda
    exact ⟨.ref _, upd H (s.heap.objs.size + 1) (.lst _), I.laid (t' := s.toks) (fun _ _ => sortedAll_old) (Nat.le_succ _) ⟨lo, out, ep, rvo, he⟩, (show Value.ref _ = Value.ref _ from rfl), q _ _ np hda⟩
theorem cn_sortedP {K : PySem.W.Frag} {ps : List Pair} (hz : ps.length ≤ 100000) : CN K (rSortP K) [.list (ps.map tP)] ((sortP ps).map tP) := fun vs H1 h Q q => by
  cases h with
  | cons h1 h2 =>
    cases h2
    obtain ⟨a, xs, rfl, sa, da⟩ := id h1.list_of
    exact ⟨a, ps, rfl, h1, hz, fun ys p np dy => q p ys _ np (Ex.new np) upd_same (dy.ex (Ex.new np))⟩
theorem k_bm (K : PySem.W.Frag) {X : Cx} {o e : Expr} {es : List Expr} {to : TE} {t : TA} {name : Str} {apos cpos : Pos} {T id : String} {r : V → List V → Hp → VK → Prop} (pa : PlainAttrs T) (slot : Slot T name id) (hty : typeOf (.builtin id) = pure (.type "method_descriptor")) (hm : MtR X id r) (ho : PE X o to) (ha : PA X (e :: es) t)
    (hK : X.K = K := by rfl) (hbase : attributeBase o name X.env (eval o X.env) = eval o X.env := by rfl)
    (hfew : ((backTo cpos (starEach (e :: es) X.env)).all (fun x => !x.1) && (backToKw cpos (keywordEach [] X.env)).all (fun x => x.1.isSome) && decide ((e :: es).length + ([] : List Keyword).length + (if ([] : List Keyword).isEmpty then 0 else 1) < 30)) = true := by rfl)
    (hline : (apos.endLine == cpos.line) = true := by rfl) (hs : starEach (e :: es) X.env = (false, eval e X.env) :: starEach es X.env := by rfl) (hplain : (backTo cpos (starEach es X.env)).any (·.1) = false := by rfl) :
    PE X (.Call (.Attribute o name apos) (e :: es) [] cpos) (tBM K T r to t) := by
  subst hK
  exact pe_bm pa slot hty hm ho ha hbase hfew hline hs hplain
theorem d_count {K : PySem.W.Frag} {H : Hp} {σ : L2.St} {ta tb : TE} {ns : List Int} {k : Int} (ha : EvD K ta σ H (.list (ns.map .int))) (hb : EvD K tb σ H (.int k)) : EvD K (tBM K "list" (rCntI K) ta (tCons tb tNil)) σ H (.int (ns.count k : Nat)) := fun H1 e1 Q q =>
  ha H1 e1 _ fun v H2 e2 hv => by
    obtain ⟨p, xs, rfl, sp, dp⟩ := hv.list_of
    have e := dp.ints
    subst e
    refine ⟨Or.inl ⟨rfl, _, sp⟩, hb H2 (e1.trans e2) _ fun u H3 e3 hu => ?_⟩
    rw [hu.int_of]
    exact ⟨p, ns, k, rfl, rfl, ex_l e3 sp, q _ H3 (e2.trans e3) (.int _)⟩
theorem if_yes {c : Bool} {A B : Prop} (hc : c = true) (h : A) : if c = true then A else B := by
  subst hc
  exact h
theorem if_no {c : Bool} {A B : Prop} (hc : c = false) (h : B) : if c = true then A else B := by
  subst hc
  exact h
theorem s_ifX {t : TT} {tu tw : TS} {D : Ends} {σ : L2.St} {H : Hp} (h : t σ H fun k H1 => if k = true then tu D σ H1 else tw D σ H1) : tIfS t tu tw D σ H := h
theorem q_ifX {t : TT} {tu tw tz : TS} {D : Ends} {σ : L2.St} {H : Hp} (h : t σ H fun k H1 => if k = true then tu { D with nx := tz D } σ H1 else tw { D with nx := tz D } σ H1) : tSeq (tIfS t tu tw) tz D σ H := h
theorem cutD_takeN {ds : List PyData} (n : Nat) : cutD ds none (some (n : Int)) = ds.take n := by
  unfold cutD
  rw [HT.sIx_nat, HT.sIx_none, Nat.sub_zero, List.drop_zero]
  rcases Nat.le_total n ds.length with h | h
  · rw [Nat.min_eq_left h]
  · rw [Nat.min_eq_right h, List.take_length, List.take_of_length_le h]
theorem eqv_tP (a b : Pair) : PyData.eqv (tP a) (tP b) = decide (a = b) := by
  obtain ⟨a1, a2⟩ := a
  obtain ⟨b1, b2⟩ := b
  show ((a1 == b1) && ((a2 == b2) && true)) = decide ((a1, a2) = (b1, b2))
  by_cases h1 : a1 = b1
  · by_cases h2 : a2 = b2
    · simp [h1, h2]
    · simp [h1, h2]
  · simp [h1]
theorem lay_tPs : ∀ rs : List Pair, PyData.canLayAll0 (rs.map tP) = true
  | [] => rfl
  | r :: rs => by rw [List.map_cons, PyData.canLayAll0, lay_tPs rs]; rfl
theorem dep_tPs : ∀ rs : List Pair, PyData.depthAll (rs.map tP) ≤ 1
  | [] => Nat.zero_le _
  | r :: rs => by
    rw [List.map_cons, PyData.depthAll]
    have := dep_tPs rs
    have h2 : (tP r).depth = 1 := rfl
    omega
theorem shp_tPs (rs : List Pair) : SeqAt.shaped (.list (rs.map tP)) = true := shp_list (lay_tPs rs) (by have := dep_tPs rs; omega)
theorem flat_tPs (rs : List Pair) : flatAll (rs.map tP) = true := flatAll_map0 fun r _ => rfl
/-! ### some pairs, the peeling -/
theorem every_fin : ∀ S ∈ [(1 : Int), 2, 3, 4], ∀ U ∈ [(1 : Int), 2, 3, 4], (everyP S U).Pairwise fun p q => p.1 < q.1 ∨ (p.1 = q.1 ∧ p.2 < q.2) := by decide +kernel
theorem every_ok {S U : Int} (hS : small S) (hU : small U) : PairsOk S U (everyP S U) := ⟨every_fin S (mem4 hS) U (mem4 hU), fun p hp => mem_everyP.mp hp⟩
theorem PairsOk.sub {S U : Int} {ps qs : List Pair} (h : PairsOk S U ps) (s : List.Sublist qs ps) : PairsOk S U qs := ⟨h.up.sublist s, fun p hp => h.rng p (s.mem hp)⟩
theorem sort_ok {S U : Int} {ps : List Pair} (hn : ps.Nodup) (hr : ∀ p ∈ ps, (0 ≤ p.1 ∧ p.1 < S) ∧ 0 ≤ p.2 ∧ p.2 < U) : PairsOk S U (sortP ps) := by
  have perm : (sortP ps).Perm ps := List.mergeSort_perm _ _
  have srt : (sortP ps).Pairwise fun p q => lePair p q = true := List.pairwise_mergeSort (le := lePair) (fun a b c h1 h2 => by unfold lePair at *; simp only [decide_eq_true_eq] at *; omega) (fun a b => by unfold lePair; simp only [Bool.or_eq_true, decide_eq_true_eq]; omega) ps
  refine ⟨?_, fun p hp => hr p (perm.mem_iff.mp hp)⟩
  have nd : (sortP ps).Pairwise (· ≠ ·) := perm.nodup_iff.mpr hn
  refine (srt.and nd).imp fun {p q} h => ?_
  obtain ⟨h1, h2⟩ := h
  unfold lePair at h1
  simp only [decide_eq_true_eq] at h1
  unfold ltPr
  by_cases e : p.1 = q.1 ∧ p.2 = q.2
  · exact absurd (Prod.ext e.1 e.2) h2
  · omega
def looseP (ps : List Pair) : List Pair := ps.filter fun p => decide (((ps.map (·.1)).count p.1 : Int) = 1) || decide (((ps.map (·.2)).count p.2 : Int) = 1)
def peel (ps : List Pair) : List Pair := ps.filter fun p => !((looseP ps).take 1).any fun z => decide (z = p)
def peels (ps : List Pair) : Nat → List Pair
  | 0 => ps
  | n + 1 => peel (peels ps n)
def noRing (ps : List Pair) : Bool := (peels ps ps.length).isEmpty
theorem peels_len (ps : List Pair) : ∀ n, (peels ps n).length ≤ ps.length
  | 0 => Nat.le_refl _
  | n + 1 => Nat.le_trans (List.length_filter_le _ _) (peels_len ps n)
def spSome (K : PySem.W.Frag) : Sp := fun vs H Q _ => ∃ a S U, vs = [.ref a, .int S, .int U] ∧ Bx K H a ∧ small S ∧ small U ∧
  ∀ ps p H', PairsOk S U ps → H p = none → Fr K [a] H H' → Bx K H' a → Ls K H' p (ps.map tP) → Q (.ref p) H'
theorem spSome_len {K : PySem.W.Frag} {vs : List V} {H : Hp} {Q : VK} {E : XK} (h : spSome K vs H Q E) : vs.length = 3 := by
  obtain ⟨_, _, _, rfl, _⟩ := h
  rfl
theorem upR_lenN (J : Nat) : (upR 0 (J : Int)).length = J := by
  unfold upR
  rw [List.length_map, List.length_range]
  omega
/-- [v for c in as if t], t draws from the box -/
theorem lc_box {K : PySem.W.Frag} {α : Type} {H : Hp} {σ : L2.St} {tl te : TE} {t : TT} {g : TG} {ws : List Nat} {a : Addr} {Q : VK} (en : α → PyData) (as : List α) (hi : EvN K tl σ H (as.map en)) (hfl : flatAll (as.map en) = true) (hb : Bx K H a) (v : α → PyData) (hv : ∀ c ∈ as, flat (v c) = true) (hz : as.length ≤ 40000)
    (hg : ∀ c ∈ as, ∀ x H1, Bx K H1 a → Dp K H1 x (en c) → ∀ Q1 : L2.St → Hp → Prop, (∀ σ2, wipe σ2 ws = wipe σ ws → (∀ Q2 : Bool → Hp → Prop, (∀ b H2, Fr K [a] H1 H2 → Bx K H2 a → Q2 b H2) → t σ2 H1 Q2) → (∀ H2, Fr K [a] H1 H2 → EvD K te σ2 H2 (v c)) → Q1 σ2 H1) → g x (wipe σ ws) H1 Q1)
    (k : ∀ p xs H' bs, List.Sublist bs as → H p = none → Fr K [a] H H' → Bx K H' a → H' p = some (.lst xs) → DpAll K H' xs (bs.map v) → Q (.ref p) H') : tLc (iList K tl) g t te ws σ H Q := by
  refine hi H (Ex.refl H) _ fun p0 xs0 H1 n0 e1 h0 d0 => ⟨p0, rfl, ⟨xs0, sq_of h0⟩, fun Dl hD => ?_⟩
  have ln : xs0.length = as.length := by rw [d0.len, List.length_map]
  have a_p0 : p0 ≠ a := (hb.off n0).symm
  have D_p0 : p0 ≠ Dl := fun z => by rw [z, hD] at h0; cases h0
  have a_D : a ≠ Dl := (hb.ex e1).off hD
  have hDH : H Dl = none := fresh_back e1 hD
  refine ⟨fun i m H' => m = as.length - i ∧ i ≤ as.length ∧ Fr K [a, Dl] (upd H1 Dl (.lst [])) H' ∧ Bx K H' a ∧ ∃ acc bs, H' Dl = some (.lst acc) ∧ List.Sublist bs (as.take i) ∧ DpAll K H' acc (bs.map v),
    ⟨as.length, by simp, Nat.zero_le _, K11.Fr.refl, hb.ex (e1.trans (Ex.new hD)), [], [], upd_same, List.Sublist.refl _, .nil⟩, ?_⟩
  rintro i m H' ⟨rfl, hil, f, b, acc, bs, hacc, hbs, dacc⟩
  have hp0 : H' p0 = some (.lst xs0) := f.at (by rw [upd_ne D_p0]; exact h0) (by simp [a_p0, D_p0])
  by_cases hlt : i < as.length
  · have hx : i < xs0.length := by omega
    refine .inr ⟨⟨xs0, xs0[i], sq_of hp0, by simp [hx]⟩, fun H'' => i + 1 ≤ as.length ∧ Fr K [a, Dl] (upd H1 Dl (.lst [])) H'' ∧ Bx K H'' a ∧ ∃ acc bs, H'' Dl = some (.lst acc) ∧ List.Sublist bs (as.take (i + 1)) ∧ DpAll K H'' acc (bs.map v), fun H'' pp => ⟨as.length - (i + 1), by omega, rfl, pp⟩, fun x H'' y => ?_⟩
    obtain ⟨rfl, y⟩ := y
    obtain ⟨d, hd, dd⟩ := d0.get (y xs0 (sq_of hp0))
    obtain ⟨c, hc, rfl⟩ := get_map hd
    have hm : c ∈ as := List.mem_of_getElem? hc
    have dx : Dp K H'' x (en c) := (dd.ex (Ex.new hD)).tx f.1 (flatAll_get hfl hd)
    have tk := take_succ_of hc
    refine hg c hm x H'' b dx _ fun σ2 hw ht he => ⟨hw, ht _ fun bb H2 f2 b2 => ?_⟩
    have hacc2 : H2 Dl = some (.lst acc) := f2.at hacc (by simpa using a_D.symm)
    have fl : flatAll (bs.map v) = true := flatAll_map0 fun z hz2 => hv z (List.mem_of_mem_take (hbs.mem hz2))
    have dacc2 := dacc.tx f2.1 fl
    have fA : Fr K [a, Dl] (upd H1 Dl (.lst [])) H2 := f.trans (f2.sub (by simp))
    cases bb with
    | true =>
      show te σ2 H2 fun y H4 => ∃ acc, H4 Dl = some (.lst acc) ∧ acc.length < sizeLine ∧ _
      refine he H2 f2 H2 (Ex.refl H2) _ fun y H3 e3 dy => ?_
      have h3 := e3 _ _ hacc2
      have tx : Tx K H3 (upd H3 Dl (.lst (acc ++ [y]))) := Tx.lst h3
      refine ⟨acc, h3, ?_, hlt, fA.trans ((K11.Fr.ex e3).trans (Fr.wr (Wr.of (Ex.refl H3) ⟨acc, h3⟩) (by simp))), ?_, acc ++ [y], bs ++ [c], upd_same, ?_, ?_⟩
      · have h9 := dacc.len
        rw [List.length_map] at h9
        have h10 := hbs.length_le
        rw [List.length_take] at h10
        exact sz_lt (by omega)
      · exact (b2.ex e3).fr (Fr.wr (S := [Dl]) (Wr.of (Ex.refl H3) ⟨acc, h3⟩) (by simp)) (by simpa using a_D)
      · rw [tk]
        exact hbs.append (List.Sublist.refl _)
      · rw [List.map_append]
        exact ((dacc2.ex e3).tx tx fl).app (.one (dy.tx tx (hv c hm)))
    | false =>
      exact ⟨hlt, fA, b2, acc, bs, hacc2, by rw [tk]; exact hbs.trans (List.sublist_append_left _ _), dacc2⟩
  · have e3 : i = as.length := by omega
    subst e3
    rw [List.take_length] at hbs
    refine .inl ⟨⟨xs0, sq_of hp0, by omega⟩, k Dl acc H' bs hbs hDH ?_ b hacc dacc⟩
    refine ((K11.Fr.ex (e1.trans (Ex.new hD))).trans f).cut fun c hc => ?_
    simp only [List.mem_cons, List.not_mem_nil, or_false] at hc ⊢
    rcases hc with hc | hc
    · exact .inl hc
    · exact .inr (hc ▸ hDH)
end K11
/-! some pairs, no ring -/
namespace K11
open PySem PySem.Spec PyProof.Rows L2 Evl
section
variable {P : Program} {w : World} {K : PySem.W.Frag} {mg : Str → Option Value} {base : Heap}
theorem sc_law_some : FnScope ["_law_box_here", "_law_sorts", "_law_kinds", "_law_chance", "_law_sort", "_law_kind", "_law_pairs", "_law_jobs", "_law_slots"] ["_law_box_here", "_law_sorts", "_law_kinds"] (defScope (top 45)) := ⟨rfl, rfl, rfl, by decide +kernel, rfl, by decide +kernel, by decide +kernel⟩
theorem bp_law_some : BindsP "_law_some" (top 45) ["_law_box_here", "_law_sorts", "_law_kinds"] := fun _ _ _ _ _ _ us hl => match us, hl with | [_, _, _], _ => rfl
theorem o_law_some (W : Gs K mg) : OkF CX0 P w K mg base 3 "_law_some" ["_law_box_here", "_law_sorts", "_law_kinds"] (spSome K) := by
  refine ok_of W.n_law_some sc_law_some bp_law_some (fun vs H Q E h => spSome_len h) (fun f cdv A outer s H vs Q E hr h => ?_)
  refine ⟨_, (PSs.nox
  (pss_cons (ps_if (pt_cmpR op_eq (k_own (P := P) (w := w) (base := base) (o_law_take W) (hr.mono (by decide)) pass0 (by rfl) (pa_cons (pv 0) (pa_cons pe_int pa_nil))) pe_int (nomark _)) (pss_cons (ps_set (i := 3) sc_law_some.nd rfl (.inr rfl) (pe_op op_add pe_int (k_own (P := P) (w := w) (base := base) (o_law_take W) (hr.mono (by decide)) pass0 (by rfl) (pa_cons (pv 0) (pa_cons pe_int pa_nil)))))
  (pss_one (ps_ret (pe_lc (own := [("_law_sort", 4), ("_law_kind", 5)]) rfl sc_law_some.nd (k_pilist K (k_own (P := P) (w := w) (base := base) (o_law_every W) (hr.mono (by decide)) pass0 (by rfl) (pa_cons (pv 1) (pa_cons (pv 2) pa_nil)))) (blkOk_by (N := ["_law_box_here", "_law_sorts", "_law_kinds", "_law_chance", "_law_sort", "_law_kind", "_law_pairs", "_law_jobs", "_law_slots"]) (sc := defScope (top 45)) (by decide +kernel)) (fun _ _ _ _ _ => (k_pgtup K (n := 2) rfl (pgs_cons (pg_name (i := 4) sc_law_some.nd rfl (.inl rfl)) (pgs_cons (pg_name (i := 5) sc_law_some.nd rfl (.inl rfl)) pgs_nil)))) (fun _ _ _ _ _ => (pts_one (pt_cmpR op_lt (k_own (P := P) (w := w) (base := base) (o_law_take W) (hr.mono (by decide)) pass0 (by rfl) (pa_cons (pv 0) (pa_cons pe_int pa_nil))) (pv 3) (nomark _)))) (fun _ _ _ _ _ => (pe_tup (pa_cons (pv 4) (pa_cons (pv 5) pa_nil)))))))) pss_nil)
  (pss_cons (ps_par3 (i := 6) (j := 7) (l := 8) rfl sc_law_some.nd rfl rfl rfl (by decide) (by decide) (by decide) rfl rfl rfl (pa_cons (pe_lst (pa_cons (pe_tup (pa_cons pe_int (pa_cons pe_int pa_nil))) pa_nil)) (pa_cons (pe_lst (pa_cons pe_int pa_nil)) (pa_cons (pe_lst (pa_cons pe_int pa_nil)) pa_nil))) rfl)
  (pss_cons (ps_while PassesOwn.never (PW.pt (pw_or (pt_cmpR op_lt (pe_callB (k_len K) (by rfl) W.f_len boot_len (pa_cons (pv 7) pa_nil)) (pv 1) (nomark _)) (pw_or1 (pt_cmpR op_lt (pe_callB (k_len K) (by rfl) W.f_len boot_len (pa_cons (pv 8) pa_nil)) (pv 2) (nomark _)))))
  (pss_one (ps_if (PW.pt (pw_or (pt_cmpR op_eq (pe_callB (k_len K) (by rfl) W.f_len boot_len (pa_cons (pv 8) pa_nil)) (pv 2) (nomark _)) (pw_or1 (PW.pt (pw_and (pt_cmpR op_lt (pe_callB (k_len K) (by rfl) W.f_len boot_len (pa_cons (pv 7) pa_nil)) (pv 1) (nomark _)) (pw_and1 (pt_cmpR op_eq (k_own (P := P) (w := w) (base := base) (o_law_take W) (hr.mono (by decide)) pass0 (by rfl) (pa_cons (pv 0) (pa_cons pe_int pa_nil))) pe_int (nomark _)))))))) (pss_cons (ps_expr (pe_bm PySem.F.plainAttrs_list PySem.F.slot_list_append PySem.F.type_list_append mt_append (pv 7) (pa_cons (pe_callB (k_len K) (by rfl) W.f_len boot_len (pa_cons (pv 7) pa_nil)) pa_nil)))
  (pss_one (ps_expr (pe_bm PySem.F.plainAttrs_list PySem.F.slot_list_append PySem.F.type_list_append mt_append (pv 6) (pa_cons (pe_tup (pa_cons (pe_ix (k_ixL K) (pv 7) (pe_un un_neg pe_int) (fun _ _ => rfl)) (pa_cons (k_own (P := P) (w := w) (base := base) (o_law_pick W) (hr.mono (by decide)) pass0 (by rfl) (pa_cons (pv 0) (pa_cons (pv 8) pa_nil))) pa_nil))) pa_nil))))) (pss_cons (ps_expr (pe_bm PySem.F.plainAttrs_list PySem.F.slot_list_append PySem.F.type_list_append mt_append (pv 8) (pa_cons (pe_callB (k_len K) (by rfl) W.f_len boot_len (pa_cons (pv 8) pa_nil)) pa_nil)))
  (pss_one (ps_expr (pe_bm PySem.F.plainAttrs_list PySem.F.slot_list_append PySem.F.type_list_append mt_append (pv 6) (pa_cons (pe_tup (pa_cons (k_own (P := P) (w := w) (base := base) (o_law_pick W) (hr.mono (by decide)) pass0 (by rfl) (pa_cons (pv 0) (pa_cons (pv 7) pa_nil))) (pa_cons (pe_ix (k_ixL K) (pv 8) (pe_un un_neg pe_int) (fun _ _ => rfl)) pa_nil))) pa_nil))))))))
  (pss_one (ps_ret (pe_callB (k_sortedP K (room_u hr)) (by rfl) W.f_sorted boot_sorted (pa_cons (pv 6) pa_nil)))))))), ?_⟩
  obtain ⟨a, S, U, rfl, hb, hS, hU, q⟩ := h
  obtain ⟨s1, s2⟩ := id hS
  obtain ⟨t1, t2⟩ := id hU
  refine take_call (K := K) rfl hb d_ci ⟨by decide, by decide⟩ fun r H1 r0 r1 f1 b1 => ⟨rfl, decide (V.int r = V.int 0), rfl, ?_⟩
  by_cases c : r = 0
  · subst c
    refine if_yes (decide_eq_true rfl) ?_
    refine take_call (K := K) rfl b1 d_ci ⟨by decide, by decide⟩ fun r2 H2 r20 r21 f2 b2 => ⟨_, _, rfl, rfl, ?_⟩
    have sz := everyP_len (S := S) (U := U) (by omega) (by omega)
    refine s_retX (lc_box (K := K) tP (everyP S U) (n_own (da_two (d_var rfl (.int S)) (d_var rfl (.int U))) ⟨S, U, rfl, hS, hU, rfl⟩) (flat_tPs _) b2 tP (fun _ _ => rfl) (by omega) (fun p hp x H3 b3 dx Q1 k => ?_) fun p xs H3 ps hps np f3 b3 hp dp => q ps p H3 ((every_ok hS hU).sub hps) ?_ (f1.trans (f2.trans f3)) b3 ⟨xs, hp, dp⟩)
    · refine tg_two dx fun x1 x2 d1 d2 => ?_
      cases d1; cases d2
      refine k _ rfl (fun Q2 q2 => ?_) fun H4 f4 => d_tup (da_two (d_var rfl (.int p.1)) (d_var rfl (.int p.2))) (show 2 ≤ 100000 by decide)
      exact take_call (K := K) rfl b3 d_ci ⟨by decide, by decide⟩ fun r3 H4 r30 r31 f4 b4 => ⟨_, rfl, _, _, rfl, rfl, _, rfl, q2 _ H4 f4 b4⟩
    · exact fr_none (f1.trans f2) np fun c hc => by
        have : c = a := by simpa using hc
        rw [this]
        exact b2.ne
  · have ne : ¬ (V.int r = V.int 0) := fun z => c (V.int.inj z)
    refine if_no (decide_eq_false ne) ?_
    refine q_par3 (ta_consN (K := K) (n_lst (da_one (d_tup (da_two d_ci d_ci) (show 2 ≤ 100000 by decide))) (show 1 ≤ 100000 by decide)) fun pl xs1 H2 n2 e2 h2 dp2 => ta_consN (K := K) (n_lst (da_one d_ci) (show 1 ≤ 100000 by decide)) fun jl xs2 H3 n3 e3 h3 dp3 => ta_consN (K := K) (n_lst (da_one d_ci) (show 1 ≤ 100000 by decide)) fun sl xs3 H4 n4 e4 h4 dp4 => ⟨_, _, _, rfl, ?_⟩)
    have e24 : Ex H1 H4 := (e2.trans e3).trans e4
    have a_pl : a ≠ pl := b1.off n2
    have a_jl : a ≠ jl := (b1.ex e2).off n3
    have a_sl : a ≠ sl := (b1.ex (e2.trans e3)).off n4
    have pl_jl : pl ≠ jl := ne_of_none h2 n3
    have pl_sl : pl ≠ sl := ne_of_none (e3 _ _ h2) n4
    have jl_sl : jl ≠ sl := ne_of_none h3 n4
    refine q_while (fun m σ' H' => ∃ (J L : Nat) (ps : List Pair), σ' = [some (.ref a), some (.int S), some (.int U), none, none, none, some (.ref pl), some (.ref jl), some (.ref sl)] ∧ Fr K [a, pl, jl, sl] H4 H' ∧ Bx K H' a ∧ Ls K H' pl (ps.map tP) ∧ Li K H' jl (upR 0 (J : Int)) ∧ Li K H' sl (upR 0 (L : Int)) ∧
        1 ≤ J ∧ (J : Int) ≤ S ∧ 1 ≤ L ∧ (L : Int) ≤ U ∧ ps.Nodup ∧ (∀ p ∈ ps, (0 ≤ p.1 ∧ p.1 < (J : Int)) ∧ 0 ≤ p.2 ∧ p.2 < (L : Int)) ∧ ps.length ≤ J + L ∧ m = 8 - (J + L)) 6
      ⟨1, 1, [(0, 0)], rfl, K11.Fr.refl, b1.ex e24, ⟨xs1, e4 _ _ (e3 _ _ h2), dp2.ex (e3.trans e4)⟩, ⟨xs2, e4 _ _ h3, dp3.ex e4⟩, ⟨xs3, h4, dp4⟩, by decide, by omega, by decide, by omega, by simp, by simp, by decide, rfl⟩ ?_
    rintro m σ' H' ⟨J, L, ps, rfl, f, b, lps, lj, ls, J1, JS, L1, LU, hnd, hrng, hlen, rfl⟩
    have lenJ : ∀ {H5 : Hp}, Ex H' H5 → EvD K (tCB (rLenS K) (tCons (tVar 7) tNil)) [some (.ref a), some (.int S), some (.int U), none, none, none, some (.ref pl), some (.ref jl), some (.ref sl)] H5 (.int (J : Int)) := fun {H5} e5 => by
      have h2 := d_lenL (K := K) (d_var (i := 7) (σ := [some (.ref a), some (.int S), some (.int U), none, none, none, some (.ref pl), some (.ref jl), some (.ref sl)]) rfl (lj.ex e5).toD)
      rw [List.length_map, upR_lenN] at h2
      exact h2
    have lenL : ∀ {H5 : Hp}, Ex H' H5 → EvD K (tCB (rLenS K) (tCons (tVar 8) tNil)) [some (.ref a), some (.int S), some (.int U), none, none, none, some (.ref pl), some (.ref jl), some (.ref sl)] H5 (.int (L : Int)) := fun {H5} e5 => by
      have h2 := d_lenL (K := K) (d_var (i := 8) (σ := [some (.ref a), some (.int S), some (.int U), none, none, none, some (.ref pl), some (.ref jl), some (.ref sl)]) rfl (ls.ex e5).toD)
      rw [List.length_map, upR_lenN] at h2
      exact h2
    refine ⟨decide ((J : Int) < S) || decide ((L : Int) < U), et_or (t_d (d_op (lenJ (Ex.refl _)) (d_var rfl (.int S)) rd_lt)) fun _ => t_d (d_op (lenL (Ex.refl _)) (d_var rfl (.int U)) rd_lt), fun z H5 e5 => ?_, fun z H5 e5 => ?_⟩
    · have hgo : (J : Int) < S ∨ (L : Int) < U := by simpa using z
      refine ⟨fun σ2 H2 => ∃ (J' L' : Nat) (ps : List Pair), J + L < J' + L' ∧ J + L < 8 ∧ σ2 = [some (.ref a), some (.int S), some (.int U), none, none, none, some (.ref pl), some (.ref jl), some (.ref sl)] ∧ Fr K [a, pl, jl, sl] H4 H2 ∧ Bx K H2 a ∧ Ls K H2 pl (ps.map tP) ∧ Li K H2 jl (upR 0 (J' : Int)) ∧ Li K H2 sl (upR 0 (L' : Int)) ∧
        1 ≤ J' ∧ (J' : Int) ≤ S ∧ 1 ≤ L' ∧ (L' : Int) ≤ U ∧ ps.Nodup ∧ (∀ p ∈ ps, (0 ≤ p.1 ∧ p.1 < (J' : Int)) ∧ 0 ≤ p.2 ∧ p.2 < (L' : Int)) ∧ ps.length ≤ J' + L', ?_, ?_⟩
      · rintro σ2 H2 ⟨J', L', ps', g1, g2, g3, g4, g5, g6, g7, g8, g9, g10, g11, g12, g13, g14, g15⟩
        exact ⟨8 - (J' + L'), by omega, J', L', ps', g3, g4, g5, g6, g7, g8, g9, g10, g11, g12, g13, g14, g15, rfl⟩
      have b5 := b.ex e5
      have lps5 := lps.ex e5
      have lj5 := lj.ex e5
      have ls5 := ls.ex e5
      have cond : ∀ Q2 : Bool → Hp → Prop, (∀ k H6, Fr K [a] H5 H6 → Bx K H6 a → (k = true → (J : Int) < S) → (k = false → (L : Int) < U) → Q2 k H6) →
          (tOr (tTest (tOp rEq (tCB (rLenS K) (tCons (tVar 8) tNil)) (tVar 2))) (tAnd (tTest (tOp (rI0 fun i j => .bl (decide (i < j))) (tCB (rLenS K) (tCons (tVar 7) tNil)) (tVar 1))) (tTest (tOp rEq (tCall (spTake K) [] E0 (tCons (tVar 0) (tCons (tC (.int 2)) tNil))) (tC (.int 0))))))
            [some (.ref a), some (.int S), some (.int U), none, none, none, some (.ref pl), some (.ref jl), some (.ref sl)] H5 Q2 := fun Q2 q2 => by
        refine (t_d (d_op (lenL e5) (d_var (K := K) rfl (.int U)) rd_eqI)) H5 (Ex.refl _) _ fun H6 e6 => ?_
        by_cases c1 : (L : Int) = U
        · rw [decide_eq_true c1]
          exact q2 true H6 (K11.Fr.ex e6) (b5.ex e6) (fun _ => by omega) fun z => Bool.noConfusion z
        · rw [decide_eq_false c1]
          refine (t_d (d_op (lenJ (e5.trans e6)) (d_var (K := K) rfl (.int S)) rd_lt)) H6 (Ex.refl _) _ fun H7 e7 => ?_
          by_cases c2 : (J : Int) < S
          · rw [decide_eq_true c2]
            refine take_call (K := K) rfl (b5.ex (e6.trans e7)) d_ci ⟨by decide, by decide⟩ fun r8 H8 _ _ f8 b8 => ⟨rfl, _, rfl, ?_⟩
            exact q2 _ H8 ((K11.Fr.ex (e6.trans e7)).trans f8) b8 (fun _ => c2) fun _ => by omega
          · rw [decide_eq_false c2]
            exact q2 false H7 (K11.Fr.ex (e6.trans e7)) (b5.ex (e6.trans e7)) (fun z => Bool.noConfusion z) fun _ => by omega
      refine s_ifX (cond _ fun k H6 f6 b6 hT hF => ?_)
      have lps6 : Ls K H6 pl (ps.map tP) := lps5.fr f6 (by simpa using a_pl.symm) (flat_tPs _)
      have lj6 : Li K H6 jl (upR 0 (J : Int)) := lj5.fr f6 (by simpa using a_jl.symm) (flat_I _)
      have ls6 : Li K H6 sl (upR 0 (L : Int)) := ls5.fr f6 (by simpa using a_sl.symm) (flat_I _)
      have lenJ6 : EvD K (tCB (rLenS K) (tCons (tVar 7) tNil)) [some (.ref a), some (.int S), some (.int U), none, none, none, some (.ref pl), some (.ref jl), some (.ref sl)] H6 (.int (J : Int)) := by
        have h2 := d_lenL (K := K) (d_var (i := 7) (σ := [some (.ref a), some (.int S), some (.int U), none, none, none, some (.ref pl), some (.ref jl), some (.ref sl)]) rfl lj6.toD)
        rw [List.length_map, upR_lenN] at h2
        exact h2
      have lenL6 : EvD K (tCB (rLenS K) (tCons (tVar 8) tNil)) [some (.ref a), some (.int S), some (.int U), none, none, none, some (.ref pl), some (.ref jl), some (.ref sl)] H6 (.int (L : Int)) := by
        have h2 := d_lenL (K := K) (d_var (i := 8) (σ := [some (.ref a), some (.int S), some (.int U), none, none, none, some (.ref pl), some (.ref jl), some (.ref sl)]) rfl ls6.toD)
        rw [List.length_map, upR_lenN] at h2
        exact h2
      have f46 : Fr K [a, pl, jl, sl] H4 H6 := f.trans ((K11.Fr.ex e5).trans (f6.sub (by simp)))
      have szJ : (upR 0 (J : Int)).length = J := upR_lenN J
      have szL : (upR 0 (L : Int)).length = L := upR_lenN L
      cases k with
      | true =>
        have hJ := hT rfl
        refine if_yes rfl ?_
        refine q_appD (K := K) (d := .int (J : Int)) lj6 (flat_I _) rfl (ev_var rfl) lenJ6 (by rw [List.length_map]; omega) fun H7 w7 l7 => ?_
        have fr7 : Fr K [jl] H6 H7 := Fr.wr w7 (by simp)
        have lps7 := lps6.fr fr7 (by simpa using pl_jl) (flat_tPs _)
        have ls7 := ls6.fr fr7 (by simpa using jl_sl.symm) (flat_I _)
        have b7 := b6.fr fr7 (by simpa using a_jl)
        have lj7 : Li K H7 jl (upR 0 ((J + 1 : Nat) : Int)) := l7.cg (by rw [upR_succ, List.map_append]; rfl)
        obtain ⟨xp, hxp, dxp⟩ := id lps7
        refine ⟨_, rfl, Or.inl ⟨rfl, _, sq_of hxp⟩, ?_⟩
        refine (d_ixI (K := K) (d_var rfl lj7.toD) d_neg1 (x := (J : Int)) (by rw [upR_succ]; exact atI_last)).int H7 (Ex.refl _) _ fun H8 e8 => ?_
        refine pick_call (K := K) rfl rfl (b7.ex e8) (ls7.ex e8) (flat_I _) a_sl.symm (fun z => by have := congrArg List.length z; rw [List.length_map, szL] at this; simp at this; omega) (by rw [List.length_map]; omega) fun dd v9 H9 hd f9 b9 dv9 => ⟨sz_of (show 2 ≤ 100000 by decide), fun t9 nt9 => ?_⟩
        obtain ⟨y, hy, rfl⟩ := List.mem_map.mp hd
        cases dv9
        obtain ⟨y0, y1⟩ := mem_upR.mp hy
        have hp9 : H9 pl = some (.lst xp) := f9.at (e8 _ _ hxp) (by simpa using a_pl.symm)
        have e10 : Ex H9 (upd H9 t9 (.tup [.int (J : Int), .int y])) := Ex.new nt9
        have hp10 := e10 _ _ hp9
        have lxp := dxp.len
        rw [List.length_map] at lxp
        refine ⟨pl, _, _, rfl, rfl, hp10, sz_lt (by omega), ?_⟩
        have t11 := Tx.lst (K := K) (o := .lst (xp ++ [.ref t9])) hp10
        have w11 : Wr K pl (upd H9 t9 (.tup [.int (J : Int), .int y])) (upd (upd H9 t9 (.tup [.int (J : Int), .int y])) pl (.lst (xp ++ [.ref t9]))) := Wr.of (Ex.refl _) ⟨xp, hp10⟩
        have f11 : Fr K [a, pl] H7 (upd (upd H9 t9 (.tup [.int (J : Int), .int y])) pl (.lst (xp ++ [.ref t9]))) := (K11.Fr.ex e8).trans ((f9.sub (by simp)).trans ((K11.Fr.ex e10).trans (Fr.wr w11 (by simp))))
        refine ⟨J + 1, L, ps ++ [((J : Int), y)], by omega, by omega, rfl, f46.trans ((fr7.sub (by simp)).trans (f11.sub (by simp; try omega))), (b9.ex e10).fr (Fr.wr (S := [pl]) w11 (by simp)) (by simpa using a_pl), ⟨_, upd_same, ?_⟩, lj7.fr f11 (by simp [a_jl.symm, pl_jl.symm]) (flat_I _), ls7.fr f11 (by simp [a_sl.symm, pl_sl.symm]) (flat_I _), by omega, by omega, L1, LU, ?_, ?_, ?_⟩
        · rw [List.map_append]
          exact ((dxp.tx ((L2.Ex.tx e8).trans (f9.1.trans (L2.Ex.tx e10))) (flat_tPs _)).tx t11 (flat_tPs _)).app (.one (Dp.tx (.tup (st_of upd_same) (.cons (.int _) (.cons (.int _) .nil))) t11 rfl))
        · refine List.nodup_append.mpr ⟨hnd, by simp, fun x hx z hz => ?_⟩
          rw [List.mem_singleton.mp hz]
          intro e
          have := hrng x hx
          rw [e] at this
          simp only at this
          omega
        · intro p hp
          rcases List.mem_append.mp hp with hp | hp
          · have := hrng p hp
            omega
          · rw [List.mem_singleton.mp hp]
            simp only
            omega
        · rw [List.length_append, List.length_singleton]
          omega
      | false =>
        have hL := hF rfl
        refine if_no rfl ?_
        refine q_appD (K := K) (d := .int (L : Int)) ls6 (flat_I _) rfl (ev_var rfl) lenL6 (by rw [List.length_map]; omega) fun H7 w7 l7 => ?_
        have fr7 : Fr K [sl] H6 H7 := Fr.wr w7 (by simp)
        have lps7 := lps6.fr fr7 (by simpa using pl_sl) (flat_tPs _)
        have lj7 := lj6.fr fr7 (by simpa using jl_sl) (flat_I _)
        have b7 := b6.fr fr7 (by simpa using a_sl)
        have ls7 : Li K H7 sl (upR 0 ((L + 1 : Nat) : Int)) := l7.cg (by rw [upR_succ, List.map_append]; rfl)
        obtain ⟨xp, hxp, dxp⟩ := id lps7
        refine ⟨_, rfl, Or.inl ⟨rfl, _, sq_of hxp⟩, ?_⟩
        refine pick_call (K := K) rfl rfl b7 lj7 (flat_I _) a_jl.symm (fun z => by have := congrArg List.length z; rw [List.length_map, szJ] at this; simp at this; omega) (by rw [List.length_map]; omega) fun dd v9 H9 hd f9 b9 dv9 => ?_
        obtain ⟨y, hy, rfl⟩ := List.mem_map.mp hd
        cases dv9
        obtain ⟨y0, y1⟩ := mem_upR.mp hy
        have ls9 := ls7.fr f9 (by simpa using a_sl.symm) (flat_I _)
        refine (d_ixI (K := K) (d_var rfl ls9.toD) d_neg1 (x := (L : Int)) (by rw [upR_succ]; exact atI_last)).int H9 (Ex.refl _) _ fun H8 e8 => ⟨sz_of (show 2 ≤ 100000 by decide), fun t9 nt9 => ?_⟩
        have hp9 : H8 pl = some (.lst xp) := e8 _ _ (f9.at hxp (by simpa using a_pl.symm))
        have e10 : Ex H8 (upd H8 t9 (.tup [.int y, .int (L : Int)])) := Ex.new nt9
        have hp10 := e10 _ _ hp9
        have lxp := dxp.len
        rw [List.length_map] at lxp
        refine ⟨pl, _, _, rfl, rfl, hp10, sz_lt (by omega), ?_⟩
        have t11 := Tx.lst (K := K) (o := .lst (xp ++ [.ref t9])) hp10
        have w11 : Wr K pl (upd H8 t9 (.tup [.int y, .int (L : Int)])) (upd (upd H8 t9 (.tup [.int y, .int (L : Int)])) pl (.lst (xp ++ [.ref t9]))) := Wr.of (Ex.refl _) ⟨xp, hp10⟩
        have f11 : Fr K [a, pl] H7 (upd (upd H8 t9 (.tup [.int y, .int (L : Int)])) pl (.lst (xp ++ [.ref t9]))) := (f9.sub (by simp)).trans ((K11.Fr.ex (e8.trans e10)).trans (Fr.wr w11 (by simp)))
        refine ⟨J, L + 1, ps ++ [(y, (L : Int))], by omega, by omega, rfl, f46.trans ((fr7.sub (by simp)).trans (f11.sub (by simp; try omega))), (b9.ex (e8.trans e10)).fr (Fr.wr (S := [pl]) w11 (by simp)) (by simpa using a_pl), ⟨_, upd_same, ?_⟩, lj7.fr f11 (by simp [a_jl.symm, pl_jl.symm]) (flat_I _), ls7.fr f11 (by simp [a_sl.symm, pl_sl.symm]) (flat_I _), J1, JS, by omega, by omega, ?_, ?_, ?_⟩
        · rw [List.map_append]
          exact ((dxp.tx (f9.1.trans (L2.Ex.tx (e8.trans e10))) (flat_tPs _)).tx t11 (flat_tPs _)).app (.one (Dp.tx (.tup (st_of upd_same) (.cons (.int _) (.cons (.int _) .nil))) t11 rfl))
        · refine List.nodup_append.mpr ⟨hnd, by simp, fun x hx z hz => ?_⟩
          rw [List.mem_singleton.mp hz]
          intro e
          have := hrng x hx
          rw [e] at this
          simp only at this
          omega
        · intro p hp
          rcases List.mem_append.mp hp with hp | hp
          · have := hrng p hp
            omega
          · rw [List.mem_singleton.mp hp]
            simp only
            omega
        · rw [List.length_append, List.length_singleton]
          omega
    · have hend : ¬ ((J : Int) < S) ∧ ¬ ((L : Int) < U) := by simpa using z
      have lps5 := lps.ex e5
      refine s_retN (K := K) (n_cb1 (da_one (d_var rfl lps5.toD)) (cn_sortedP (by omega))) fun p xs H6 np e6 hp dp => q (sortP ps) p H6 (sort_ok hnd fun p hp => ?_) ?_ ?_ (b.ex (e5.trans e6)) ⟨xs, hp, dp⟩
      · have := hrng p hp
        omega
      · have f14 : Fr K [a, pl, jl, sl] H1 H5 := (K11.Fr.ex e24).trans (f.trans (K11.Fr.ex e5))
        refine fr_none (f1.trans (f14.cut (S' := [a]) fun c hc => ?_)) np fun c hc => ?_
        · simp only [List.mem_cons, List.not_mem_nil, or_false] at hc ⊢
          rcases hc with hc | hc | hc | hc
          · exact .inl hc
          · exact .inr (hc ▸ n2)
          · exact .inr (hc ▸ fresh_back e2 n3)
          · exact .inr (hc ▸ fresh_back (e2.trans e3) n4)
        · have : c = a := by simpa using hc
          rw [this]
          exact (b.ex e5).ne
      · have f14 : Fr K [a, pl, jl, sl] H1 H6 := (K11.Fr.ex e24).trans (f.trans (K11.Fr.ex (e5.trans e6)))
        refine f1.trans (f14.cut (S' := [a]) fun c hc => ?_)
        simp only [List.mem_cons, List.not_mem_nil, or_false] at hc ⊢
        rcases hc with hc | hc | hc | hc
        · exact .inl hc
        · exact .inr (hc ▸ n2)
        · exact .inr (hc ▸ fresh_back e2 n3)
        · exact .inr (hc ▸ fresh_back (e2.trans e3) n4)
theorem sc_law_no_ring : FnScope ["_law_pairs", "_law_left", "_law_turn", "_law_sides", "_law_one", "_law_other", "_law_loose", "_law_pair"] ["_law_pairs"] (defScope (top 48)) := ⟨rfl, rfl, rfl, by decide +kernel, rfl, by decide +kernel, by decide +kernel⟩
theorem bp_law_no_ring : BindsP "_law_no_ring" (top 48) ["_law_pairs"] := fun _ _ _ _ _ _ us hl => match us, hl with | [_], _ => rfl
theorem o_law_no_ring (W : Gs K mg) : OkF CX0 P w K mg base 1 "_law_no_ring" ["_law_pairs"] (spD K 1 fun ds d => ∃ ps : List Pair, ds = [.list (ps.map tP)] ∧ ps.length ≤ 1000 ∧ d = .bool (noRing ps)) := by
  refine ok_of W.n_law_no_ring sc_law_no_ring bp_law_no_ring (fun vs H Q E h => spD_len h) (fun f cdv A outer s H vs Q E hr h => ?_)
  refine ⟨_, (PSs.nox
  (pss_cons (ps_set (i := 1) sc_law_no_ring.nd rfl (.inl rfl) (pe_callTy (k_list K) (by rfl) W.f_list boot_list (pa_cons (pv 0) pa_nil)))
  (pss_cons (ps_for PassesOwn.never rfl (pi_range1 (by rfl) W.f_range (pa_cons (pe_callB (k_len K) (by rfl) W.f_len boot_len (pa_cons (pv 0) pa_nil)) pa_nil)) (pg_name (i := 2) sc_law_no_ring.nd rfl (.inl rfl))
  (pss_cons (ps_set (i := 3) sc_law_no_ring.nd rfl (.inr rfl) (pe_lst (pa_cons (pe_lc (own := [("_law_one", 4), ("_law_other", 5)]) rfl sc_law_no_ring.nd (k_pilist K (pv 1)) (blkOk_by (N := ["_law_pairs", "_law_left", "_law_turn", "_law_sides", "_law_one", "_law_other", "_law_loose", "_law_pair"]) (sc := defScope (top 48)) (by decide +kernel)) (fun _ _ _ _ _ => (k_pgtup K (n := 2) rfl (pgs_cons (pg_name (i := 4) sc_law_no_ring.nd rfl (.inl rfl)) (pgs_cons (pg_name (i := 5) sc_law_no_ring.nd rfl (.inl rfl)) pgs_nil)))) (fun _ _ _ _ _ => pts_nil) (fun _ _ _ _ _ => (pv 4))) (pa_cons (pe_lc (own := [("_law_one", 4), ("_law_other", 5)]) rfl sc_law_no_ring.nd (k_pilist K (pv 1)) (blkOk_by (N := ["_law_pairs", "_law_left", "_law_turn", "_law_sides", "_law_one", "_law_other", "_law_loose", "_law_pair"]) (sc := defScope (top 48)) (by decide +kernel)) (fun _ _ _ _ _ => (k_pgtup K (n := 2) rfl (pgs_cons (pg_name (i := 4) sc_law_no_ring.nd rfl (.inl rfl)) (pgs_cons (pg_name (i := 5) sc_law_no_ring.nd rfl (.inl rfl)) pgs_nil)))) (fun _ _ _ _ _ => pts_nil) (fun _ _ _ _ _ => (pv 5))) pa_nil))))
  (pss_cons (ps_set (i := 6) sc_law_no_ring.nd rfl (.inr rfl) (pe_lc (own := [("_law_pair", 7)]) rfl sc_law_no_ring.nd (k_pilist K (pv 1)) (blkOk_by (N := ["_law_pairs", "_law_left", "_law_turn", "_law_sides", "_law_one", "_law_other", "_law_loose", "_law_pair"]) (sc := defScope (top 48)) (by decide +kernel)) (fun _ _ _ _ _ => (pg_name (i := 7) sc_law_no_ring.nd rfl (.inl rfl))) (fun _ _ _ _ _ => (pts_one (PW.pt (pw_or (pt_cmpR op_eq (k_bm K PySem.F.plainAttrs_list PySem.F.slot_list_count PySem.F.type_list_count (k_lcount K) (pe_ix (k_ixL K) (pv 3) pe_int (fun _ _ => rfl)) (pa_cons (pe_ix (k_ixT K) (pv 7) pe_int (fun _ _ => rfl)) pa_nil)) pe_int (nomark _)) (pw_or1 (pt_cmpR op_eq (k_bm K PySem.F.plainAttrs_list PySem.F.slot_list_count PySem.F.type_list_count (k_lcount K) (pe_ix (k_ixL K) (pv 3) pe_int (fun _ _ => rfl)) (pa_cons (pe_ix (k_ixT K) (pv 7) pe_int (fun _ _ => rfl)) pa_nil)) pe_int (nomark _))))))) (fun _ _ _ _ _ => (pv 7))))
  (pss_one (ps_setLc (i := 1) (own := [("_law_pair", 7)]) rfl sc_law_no_ring.nd rfl rfl (by rfl) (k_pilist K (pv 1)) (blkOk_by (N := ["_law_pairs", "_law_left", "_law_turn", "_law_sides", "_law_one", "_law_other", "_law_loose", "_law_pair"]) (sc := defScope (top 48)) (by decide +kernel)) (fun _ _ _ _ _ => (pg_name (i := 7) sc_law_no_ring.nd rfl (.inl rfl))) (fun _ _ _ _ _ => (pts_one (pt_cmpR (k_ninD K (room_v hr)) (pv 7) (pe_slice (k_slL K) (pv 6) po_none (po_some pe_int)) (by rfl)))) (fun _ _ _ _ _ => (pv 7)))))))
  (pss_one (ps_ret (pe_cmpR (k_eqD K (room_u hr)) (pv 1) (pe_lst pa_nil) (nomark _))))))), ?_⟩
  obtain ⟨ds, d, hn, hd, ⟨ps, rfl, hz, rfl⟩, q⟩ := h
  obtain ⟨v, rfl, dv⟩ := dp1 hd
  refine q_setN (K := K) (n_cb1 (da_one (d_var rfl dv)) cn_listL) fun p0 xs0 H1 n0 e1 h0 dp0 => ?_
  have hlen : EvD K (tCB (rLenS K) (tCons (tVar 0) tNil)) [some v, some (.ref p0), none, none, none, none, none, none] H1 (.int (ps.length : Int)) := by
    have h2 := d_lenL (K := K) (d_var (i := 0) (σ := [some v, some (.ref p0), none, none, none, none, none, none]) rfl (dv.ex e1))
    rw [List.length_map] at h2
    exact h2
  refine q_forR1 (ev_of_int hlen) (by omega) (fun i σ' H' => ∃ u t s l, σ' = [some v, some u, t, s, none, none, l, none] ∧ Ex H H' ∧ Dp K H' u (.list ((peels ps i).map tP))) (fun H2 e2 => ⟨_, none, none, none, rfl, e1.trans e2, .lst (sq_of (e2 _ _ h0)) (dp0.ex e2)⟩) ?_ ?_
  · rintro i σ' H' hi ⟨u, t, s, l, rfl, e, du⟩
    have ln := peels_len ps i
    generalize hqs : peels ps i = qs at du ln
    have side : ∀ (H5 : Hp) (j : Nat) (f : Pair → Int) (σ : L2.St), σ[1]? = some (some u) → Ex H' H5 → (∀ p ∈ qs, ∀ B H6, Ex H5 B → ∀ x y, Dp K B x (.int p.1) → Dp K B y (.int p.2) → EvD K (tVar j) (((wipe σ [4, 5]).set 4 (some x)).set 5 (some y)) B (.int (f p))) → (∀ x y, wipe (((wipe σ [4, 5]).set 4 (some x)).set 5 (some y)) [4, 5] = wipe σ [4, 5]) →
        EvD K (tLc (iList K (tVar 1)) (gTup K 2 (gCons (gName 4) (gCons (gName 5) gNil))) tYes (tVar j) [4, 5]) σ H5 (.list ((qs.map f).map .int)) := fun H5 j f σ hs e5 hv hw => by
      refine EvN.toD (n_is (n_lcT tP qs (i_list (d_var hs (du.ex e5))) (fun _ => true) (fun p => .int (f p)) (by omega) (fun _ _ _ => rfl) ?_) (by rw [filt_all, List.map_map]; rfl))
      intro p hp x B H6 eB eB1 dx Q1 k
      exact tg_pair dx eB1 fun x1 x2 d1 d2 => k _ (hw x1 x2) et_yes fun _ => hv p hp B H6 eB x1 x2 d1 d2
    refine q_setD (K := K) (n_lst (da_two (side H' 4 (·.1) _ rfl (Ex.refl _) (fun p _ B H6 _ x y dx dy => d_var rfl dx) fun _ _ => rfl) (side H' 5 (·.2) _ rfl (Ex.refl _) (fun p _ B H6 _ x y dx dy => d_var rfl dy) fun _ _ => rfl)) (show 2 ≤ 100000 by decide)).toD fun vs H2 e2 ds => ?_
    refine q_setN (K := K) (n_lcT tP qs (i_list (d_var rfl (du.ex e2))) (fun p => decide (((qs.map (·.1)).count p.1 : Int) = 1) || decide (((qs.map (·.2)).count p.2 : Int) = 1)) tP (by omega) (fun _ _ _ => rfl) ?_) fun p3 xs3 H3 n3 e3 h3 dp3 => ?_
    · intro p hp x B H6 eB eB1 dx Q1 k
      have c0 : EvD K (tOp (rIxL K) (tVar 3) (tC (.int 0))) [some v, some u, some (.int (i : Int)), some vs, none, none, l, some x] B (lI (qs.map (·.1))) := d_op (d_var rfl (ds.ex eB)) d_ci (rd_ixL atI_z)
      have c1 : EvD K (tOp (rIxL K) (tVar 3) (tC (.int 1))) [some v, some u, some (.int (i : Int)), some vs, none, none, l, some x] B (lI (qs.map (·.2))) := d_op (d_var rfl (ds.ex eB)) d_ci (rd_ixL atI_one)
      exact k _ rfl (et_or (t_d (d_op (d_count c0 (d_op (d_var rfl dx) d_ci (rd_ixT atI_z))) d_ci rd_eqI)) fun _ => t_d (d_op (d_count c1 (d_op (d_var rfl dx) d_ci (rd_ixT atI_one))) d_ci rd_eqI)) fun _ => d_var rfl dx
    have e23 := e2.trans e3
    refine s_setN (K := K) (n_lcT tP qs (i_list (d_var rfl (du.ex e23))) (fun p => !((looseP qs).take 1).any fun z => decide (z = p)) tP (by omega) (fun _ _ _ => rfl) ?_) fun p4 xs4 H4 n4 e4 h4 dp4 => ⟨_, _, _, _, rfl, e.trans (e23.trans e4), ?_⟩
    · intro p hp x B H6 eB eB1 dx Q1 k
      refine k _ rfl (et_is (t_d (d_op (d_var rfl dx) (n_slL (d_var rfl ((Dp.lst (sq_of h3) dp3).ex eB)) o_none (o_some (K := K) d_ci) (es := ((looseP qs).take 1).map tP) ?_).toD (rd_niD rfl (shp_tPs _)))) ?_) fun _ => d_var rfl dx
      · have := cutD_takeN (ds := (looseP qs).map tP) 1
        rw [List.map_take]
        exact this
      · congr 1
        rw [List.any_map]
        refine congrArg (List.any ((looseP qs).take 1)) (funext fun z => ?_)
        exact eqv_tP z p
    · show Dp K H4 _ (.list ((peel (peels ps i)).map tP))
      rw [hqs]
      exact .lst (sq_of h4) dp4
  · rintro σ' H' ⟨u, t, s, l, rfl, e, du⟩
    rw [Int.toNat_natCast] at du
    exact s_retD (d_is (d_op (d_var rfl du) (EvN.toD d_lst0) (rd_eqD (shp_tPs _) rfl)) (congrArg PyData.bool (eqv_nil tP _))) fun v2 H2 e2 hv => q v2 H2 (e.trans e2) hv
end
end K11
/-! comprehensions that make lists; min of data -/
namespace K11
open PySem PySem.Spec PyProof.Rows L2 Evl
/-- an element of a list: a list made since B, not p -/
def Made (K : PySem.W.Frag) (B : Hp) (p : Addr) (H : Hp) (x : V) (ds : List PyData) : Prop := ∃ q ws, x = .ref q ∧ B q = none ∧ q ≠ p ∧ H q = some (.lst ws) ∧ DpAll K H ws ds ∧ flatAll ds = true
abbrev MadeAll (K : PySem.W.Frag) (B : Hp) (p : Addr) (H : Hp) : List V → List (List PyData) → Prop := Paired (Made K B p H)
section
variable {K : PySem.W.Frag} {B H H' H1 H2 : Hp} {σ : L2.St} {ta tb te tx tl : TE} {t u : TT} {tA : TA} {α : Type} {p : Addr} {x : V} {ds : List PyData} {dss : List (List PyData)} {xs : List V} {S : List Addr}
theorem Made.fr (h : Made K B p H x ds) (f : Fr K S H H') (hs : ∀ c ∈ S, B c ≠ none ∨ c = p) : Made K B p H' x ds := by
  obtain ⟨q, ws, rfl, n, ne, hq, hd, fl⟩ := h
  refine ⟨q, ws, rfl, n, ne, f.at hq fun m => ?_, hd.tx f.1 fl, fl⟩
  rcases hs q m with z | z
  · exact z n
  · exact ne z
theorem MadeAll.fr (h : MadeAll K B p H xs dss) (f : Fr K S H H') (hs : ∀ c ∈ S, B c ≠ none ∨ c = p) : MadeAll K B p H' xs dss := Paired.mapP h fun _ _ m => m.fr f hs
theorem off_tx (h : ∀ c ∈ S, ∃ ys, H c = some (.lst ys)) : Tx K H (off S H) := fun a zs q => by
  rcases q with (q | ⟨o, q⟩) | q
  · refine .inl (.inl (off_at (fun m => ?_) q))
    obtain ⟨ys, e⟩ := h a m
    rw [e] at q
    cases q
  · refine .inl (.inr ⟨o, off_at (fun m => ?_) q⟩)
    obtain ⟨ys, e⟩ := h a m
    rw [e] at q
    cases q
  · exact .inr q
theorem Made.offD (h : Made K B p H x ds) (hs : ∀ c ∈ S, (B c ≠ none ∨ c = p) ∧ ∃ ys, H c = some (.lst ys)) : Dp K (off S H) x (.list ds) := by
  obtain ⟨q, ws, rfl, n, ne, hq, hd, fl⟩ := h
  refine .lst (sq_of (off_at (fun m => ?_) hq)) (hd.tx (off_tx fun c m => (hs c m).2) fl)
  rcases (hs q m).1 with z | z
  · exact z n
  · exact ne z
theorem MadeAll.offD (hs : ∀ c ∈ S, (B c ≠ none ∨ c = p) ∧ ∃ ys, H c = some (.lst ys)) : ∀ {xs : List V} {dss : List (List PyData)}, MadeAll K B p H xs dss → DpAll K (off S H) xs (dss.map .list)
  | _, _, .nil => .nil
  | _, _, .cons h t => .cons (h.offD hs) (MadeAll.offD hs t)
/-- [[a, b] for c in as if f] -/
theorem n_lcL {wi : TI} {g : TG} {vs : List Nat} (en : α → PyData) (as : List α) (hi : EvI K wi σ H (as.map en)) (f : α → Bool) (v : α → List PyData) (hz : as.length ≤ 90000) (hfl : ∀ a ∈ as, f a = true → flatAll (v a) = true) (hlv : ∀ a ∈ as, (v a).length ≤ 1000)
    (hg : ∀ a ∈ as, ∀ x B H1, Ex H B → Ex B H1 → Dp K B x (en a) → ∀ Q : L2.St → Hp → Prop, (∀ σ2, wipe σ2 vs = wipe σ vs → EvT t σ2 B (f a) → (f a = true → EvDA K tA σ2 B (v a)) → Q σ2 H1) → g x (wipe σ vs) H1 Q) :
    ∀ H1, Ex H H1 → ∀ Q : VK, (∀ p xs H2, H1 p = none → Ex H1 H2 → H2 p = some (.lst xs) → MadeAll K H1 p H2 xs ((as.filter f).map v) → Q (.ref p) H2) → tLc wi g t (tLst tA) vs σ H1 Q := fun H1 e Q q => hi H1 e _ fun J H2 e2 wk Dl hD => by
  have lm : (as.map en).length = as.length := List.length_map en
  have hD1 := fresh_back e2 hD
  refine ⟨fun i m H' => m = as.length - i ∧ i ≤ as.length ∧ Ex H2 H' ∧ ∃ acc, H' Dl = some (.lst acc) ∧ MadeAll K H1 Dl H' acc (((as.take i).filter f).map v), ⟨as.length, by simp, Nat.zero_le _, Ex.new hD, [], upd_same, .nil⟩, ?_⟩
  rintro i m H' ⟨rfl, hil, ex, acc, hacc, da⟩
  by_cases hlt : i < as.length
  · have hlt' : i < (as.map en).length := by rw [lm]; exact hlt
    refine .inr ⟨(wk.1 i H' hlt' ex).1, fun H'' => i + 1 ≤ as.length ∧ Ex H2 H'' ∧ ∃ acc, H'' Dl = some (.lst acc) ∧ MadeAll K H1 Dl H'' acc (((as.take (i + 1)).filter f).map v), fun H'' p => ⟨as.length - (i + 1), by omega, rfl, p⟩, fun x H'' y => ?_⟩
    obtain ⟨e4, d, hd, dx⟩ := (wk.1 i H' hlt' ex).2 x H'' y
    obtain ⟨a, ha, rfl⟩ := get_map hd
    have hm : a ∈ as := List.mem_of_getElem? ha
    have exB : Ex H (cut H2 H' H'') := (e.trans e2).trans (cut_keep e4 ex)
    have tk := take_succ_of ha
    have lacc : acc.length ≤ i := by
      have h1 := Paired.length da
      have h2 : (((as.take i).filter f).map v).length ≤ (as.take i).length := by rw [List.length_map]; exact List.length_filter_le _ _
      rw [List.length_take] at h2
      omega
    refine hg a hm x _ H'' exB cut_ex dx _ fun σ2 hw ht he => ⟨hw, ht H'' cut_ex _ fun H3 e5 => ?_⟩
    cases hf : f a with
    | true =>
      refine if_yes rfl ?_
      refine he hf H3 (cut_ex.trans e5) _ fun ws H4 e6 dw => ⟨sz_of (by rw [dw.len]; have := hlv a hm; omega), fun q hq => ?_⟩
      have e7 : Ex H4 (upd H4 q (.lst ws)) := Ex.new hq
      have e47 := ((e4.trans e5).trans e6).trans e7
      have exD := e47 _ _ hacc
      have fl := hfl a hm hf
      have qD : q ≠ Dl := fun z => by
        have := ((e4.trans e5).trans e6) _ _ hacc
        rw [← z, hq] at this
        cases this
      have q1 : H1 q = none := fresh_back (((e2.trans ex).trans e4).trans (e5.trans e6)) hq
      have wD : Wr K Dl (upd H4 q (.lst ws)) (upd (upd H4 q (.lst ws)) Dl (.lst (acc ++ [.ref q]))) := Wr.of (Ex.refl _) ⟨acc, exD⟩
      refine ⟨acc, exD, sz_lt (by omega), hlt, Ex.mut (ex.trans e47) hD, acc ++ [.ref q], upd_same, ?_⟩
      rw [tk, List.filter_append, List.map_append, filt_yes hf]
      have hmk : Made K H1 Dl (upd H4 q (.lst ws)) (.ref q) (v a) := ⟨q, ws, rfl, q1, qD, upd_same, dw.ex e7, fl⟩
      exact Paired.snoc ((da.fr (K11.Fr.ex (S := []) e47) (by simp)).fr (Fr.wr (S := [Dl]) wD (by simp)) (by simp)) (hmk.fr (Fr.wr (S := [Dl]) wD (by simp)) (by simp))
    | false =>
      refine ⟨hlt, (ex.trans e4).trans e5, acc, e5 _ _ (e4 _ _ hacc), ?_⟩
      rw [tk, List.filter_append, List.map_append, filt_no hf, List.map_nil, List.append_nil]
      exact da.fr (K11.Fr.ex (S := []) (e4.trans e5)) (by simp)
  · have e3 : i = as.length := by omega
    subst e3
    rw [List.take_length] at da
    have st := wk.2 H' ex
    rw [lm] at st
    exact .inl ⟨st, q Dl acc H' hD1 (e2.trans ex) hacc da⟩
end
/-! ### min -/
def rMinD (K : PySem.W.Frag) : List V → Hp → VK → Prop := fun vs H Q => ∃ (a : Addr) (d : PyData) (ds : List PyData), vs = [V.ref a] ∧ Dp K H (.ref a) (.list (d :: ds)) ∧ PySem.W.AlikeAll (d :: ds) ∧ PyData.depthAll (d :: ds) ≤ 20 ∧ PyData.canLayAll0 (d :: ds) = true ∧
  ∀ v, Dp K H v (PySem.W.minD d ds) → Q v H
theorem minD_mem (d : PyData) : ∀ ds : List PyData, PySem.W.minD d ds ∈ d :: ds := fun ds => by
  unfold PySem.W.minD
  induction ds generalizing d with
  | nil => exact List.mem_cons_self
  | cons e ds ih =>
    rw [List.foldl_cons]
    split
    · exact List.mem_cons_of_mem _ (ih e)
    · rcases List.mem_cons.mp (ih d) with h | h
      · rw [h]; exact List.mem_cons_self
      · exact List.mem_cons_of_mem _ (List.mem_cons_of_mem _ h)
theorem lay_mem : ∀ {ds : List PyData} {d : PyData}, PyData.canLayAll0 ds = true → d ∈ ds → d.canLay0 = true
  | e :: ds, d, h, hd => by
    rw [PyData.canLayAll0, Bool.and_eq_true] at h
    rcases List.mem_cons.mp hd with z | z
    · rw [z]; exact h.1
    · exact lay_mem h.2 z
theorem k_minD (K : PySem.W.Frag) {X : Cx} (hc : X.calm = true) (hu : X.A.units + 64 < cLine) (h : X.K = K := by rfl) : CallR X (.builtin "min") (rMinD K) := by
  subst h
  rintro pins s σ H vs us Q I r ⟨a, d, ds, rfl, hd, al, dep, lay, q⟩
  obtain ⟨a', xs, e, hs, dxs⟩ := hd.list_of
  cases e
  obtain ⟨its, rv, hl, _⟩ := I.list hs
  rw [Vals.ref1 r]
  obtain ⟨as, rs⟩ := Dp.readsAll I (d :: ds) xs its dxs rv
  refine PySem.W.min_list_data (I.ok.hd hc) hl.isList (by simpa using rs) al (by omega) fun i v h' tk bs hi hr hk => ?_
  have hi' : its[i]? = some v := by simpa using hi
  have lx := rv.length
  have hil : i < its.length := (List.getElem?_eq_some_iff.mp hi').1
  obtain ⟨x, hx⟩ : ∃ x, xs[i]? = some x := ⟨xs[i]'(by omega), List.getElem?_eq_getElem (by omega)⟩
  obtain ⟨u, hu2, ru⟩ := rv.get hx
  rw [hi'] at hu2
  cases hu2
  obtain ⟨di, hdi, ddi⟩ := dxs.get hx
  have I2 := I.kept (t' := tk) hk
  obtain ⟨cs, rd2⟩ := Dp.reads I2 di x _ ddi ru
  have e2 := (PySem.Reads.unique hr _ _ rd2).1
  exact ⟨x, H, I2, ru, q x (by rw [e2]; exact ddi)⟩
end K11
/-! the least untold lot, told twice -/
namespace K11
open PySem
theorem ltN_eq (a b : Nat × Lot) : ltN a b = if a.1 = b.1 then (if a.2 = b.2 then false else ltL a.2 b.2) else decide (a.1 < b.1) := by
  unfold ltN tN ltL
  rw [PySem.W.dataLt_pair (by simp [PySem.W.alike]) (alike_tL _ _), PySem.W.dataLt_int, eqv_tL, PyData.eqv]
  by_cases h : a.1 = b.1
  · rw [if_pos h, if_pos (by simp [h])]
    by_cases h2 : a.2 = b.2
    · rw [if_pos h2, if_pos (decide_eq_true h2)]
    · rw [if_neg h2, if_neg (by simp [h2])]
  · have h' : ¬ ((a.1 : Int) = (b.1 : Int)) := by omega
    rw [if_neg h, if_neg (by simp [h'])]
    exact decide_eq_decide.mpr (by omega)
theorem minN_block (n : Nat) : ∀ (xs : List Lot) (x : Lot), minN (n, x) (xs.map fun l => (n, l)) = (n, minL x xs)
  | [], _ => rfl
  | y :: xs, x => by
    have e1 : minN (n, x) ((y :: xs).map fun l => (n, l)) = minN (if ltN (n, y) (n, x) = true then (n, y) else (n, x)) (xs.map fun l => (n, l)) := rfl
    have e2 : minL x (y :: xs) = minL (if ltL y x = true then y else x) xs := rfl
    rw [e1, e2, ltN_eq, if_pos rfl]
    by_cases h : y = x
    · subst h
      rw [if_pos rfl, if_neg (by decide)]
      have : (if ltL y y = true then y else y) = y := by split <;> rfl
      rw [this]
      exact minN_block n xs y
    · rw [if_neg h]
      by_cases h2 : ltL y x = true
      · rw [if_pos h2, if_pos h2]
        exact minN_block n xs y
      · rw [if_neg h2, if_neg h2]
        exact minN_block n xs x
theorem minN_later {n : Nat} {x : Lot} : ∀ {ys : List (Nat × Lot)}, (∀ y ∈ ys, n < y.1) → minN (n, x) ys = (n, x)
  | [], _ => rfl
  | y :: ys, h => by
    have hy := h y List.mem_cons_self
    have e : minN (n, x) (y :: ys) = minN (if ltN y (n, x) = true then y else (n, x)) ys := rfl
    rw [e, ltN_eq, if_neg (show ¬ y.1 = n by omega), if_neg (by simp; omega)]
    exact minN_later fun z hz => h z (List.mem_cons_of_mem _ hz)
theorem minN_app (x : Nat × Lot) (xs ys : List (Nat × Lot)) : minN x (xs ++ ys) = minN (minN x xs) ys := by
  unfold minN
  rw [List.foldl_append]
/-- is not told -/
def bad (T : Lot → Option Row) (js : Lot) : Bool := !decide (T (keyL js) = some js.2)
def uL (T : Lot → Option Row) (ps : List Pair) (n : Nat) : List Lot := ((lvl ps n).filter (bad T)).map keyL
def untoldN (T : Lot → Option Row) (ps : List Pair) (N : Nat) : List (Nat × Lot) := ((foundUp ps N).filter (bad T)).map fun js => (js.1.length, keyL js)
def minOpt : List (Nat × Lot) → Option Lot
  | [] => none
  | x :: xs => some (minN x xs).2
def firstU (T : Lot → Option Row) (ps : List Pair) : Nat → Nat → Option Lot
  | 0, _ => none
  | k + 1, n => match uL T ps n with
    | [] => firstU T ps k (n + 1)
    | x :: xs => some (minL x xs)
def blocks (T : Lot → Option Row) (ps : List Pair) : Nat → Nat → List (Nat × Lot)
  | 0, _ => []
  | k + 1, n => ((uL T ps n).map fun l => (n, l)) ++ blocks T ps k (n + 1)
theorem blocks_ge {T : Lot → Option Row} {ps : List Pair} : ∀ {k n : Nat}, ∀ y ∈ blocks T ps k n, n ≤ y.1
  | 0, _, y, hy => nomatch hy
  | k + 1, n, y, hy => by
    rcases List.mem_append.mp hy with hy | hy
    · obtain ⟨l, _, rfl⟩ := List.mem_map.mp hy
      exact Nat.le_refl n
    · have := blocks_ge y hy
      omega
theorem min_blocks {T : Lot → Option Row} {ps : List Pair} : ∀ {k n : Nat}, minOpt (blocks T ps k n) = firstU T ps k n
  | 0, _ => rfl
  | k + 1, n => by
    show minOpt (((uL T ps n).map fun l => (n, l)) ++ blocks T ps k (n + 1)) = _
    unfold firstU
    cases e : uL T ps n with
    | nil => exact min_blocks
    | cons x xs =>
      show some (minN (n, x) ((xs.map fun l => (n, l)) ++ blocks T ps k (n + 1))).2 = some (minL x xs)
      rw [minN_app, minN_block, minN_later fun y hy => by have := blocks_ge y hy; omega]
theorem blocks_snoc {T : Lot → Option Row} {ps : List Pair} : ∀ {k n : Nat}, blocks T ps (k + 1) n = blocks T ps k n ++ (uL T ps (n + k)).map fun l => (n + k, l)
  | 0, n => by simp [blocks]
  | k + 1, n => by
    have ih := blocks_snoc (T := T) (ps := ps) (k := k) (n := n + 1)
    have e : n + 1 + k = n + (k + 1) := by omega
    show ((uL T ps n).map fun l => (n, l)) ++ blocks T ps (k + 1) (n + 1) = (((uL T ps n).map fun l => (n, l)) ++ blocks T ps k (n + 1)) ++ _
    rw [ih, e, List.append_assoc]
theorem lvl_lens {ps : List Pair} {n : Nat} {js : Lot} (h : js ∈ lvl ps n) : js.1.length = n := ((mem_lvl (S := 0) (U := 0)).mp h).len1
theorem untold_blocks (T : Lot → Option Row) (ps : List Pair) : ∀ N, untoldN T ps N = blocks T ps (N + 1) 0
  | 0 => by
    show ((lvl ps 0).filter (bad T)).map (fun js => (js.1.length, keyL js)) = (((lvl ps 0).filter (bad T)).map keyL).map (fun l => (0, l)) ++ []
    rw [List.append_nil, List.map_map]
    exact List.map_congr_left fun js hj => by
      have := lvl_lens (List.mem_filter.mp hj).1
      show (js.1.length, keyL js) = (0, keyL js)
      rw [this]
  | N + 1 => by
    have ih := untold_blocks T ps N
    rw [blocks_snoc, ← ih, Nat.zero_add]
    show ((foundUp ps N ++ lvl ps (N + 1)).filter (bad T)).map _ = _
    rw [List.filter_append, List.map_append]
    refine congrArg _ ?_
    unfold uL
    rw [List.map_map]
    exact List.map_congr_left fun js hj => by
      have := lvl_lens (List.mem_filter.mp hj).1
      show (js.1.length, keyL js) = (N + 1, keyL js)
      rw [this]
theorem due_eq (T : Lot → Option Row) (ps : List Pair) (N : Nat) : minOpt (untoldN T ps N) = firstU T ps (N + 1) 0 := by
  rw [untold_blocks, min_blocks]
theorem firstU_at {T : Lot → Option Row} {ps : List Pair} {x : Lot} {xs : List Lot} : ∀ {k n m : Nat}, (∀ j, n ≤ j → j < m → uL T ps j = []) → uL T ps m = x :: xs → n ≤ m → m < n + k → firstU T ps k n = some (minL x xs)
  | 0, n, m, _, _, h1, h2 => by omega
  | k + 1, n, m, h, hm, h1, h2 => by
    unfold firstU
    by_cases e : n = m
    · subst e
      rw [hm]
    · rw [h n (Nat.le_refl n) (by omega)]
      exact firstU_at (fun j a b => h j (by omega) b) hm (by omega) (by omega)
theorem firstU_none {T : Lot → Option Row} {ps : List Pair} : ∀ {k n : Nat}, (∀ j, n ≤ j → j < n + k → uL T ps j = []) → firstU T ps k n = none
  | 0, _, _ => rfl
  | k + 1, n, h => by
    unfold firstU
    rw [h n (Nat.le_refl n) (by omega)]
    exact firstU_none fun j a b => h j (by omega) (by omega)
/-- none untold: all told -/
theorem all_told {T : Lot → Option Row} {ps : List Pair} : ∀ {k n : Nat}, firstU T ps k n = none → ∀ j, n ≤ j → j < n + k → uL T ps j = []
  | 0, n, _, j, h1, h2 => by omega
  | k + 1, n, h, j, h1, h2 => by
    unfold firstU at h
    cases e : uL T ps n with
    | nil =>
      rw [e] at h
      by_cases e2 : j = n
      · rw [e2]; exact e
      · exact all_told h j (by omega) (by omega)
    | cons x xs =>
      rw [e] at h
      cases h
/-- what is due -/
def due (T : Lot → Option Row) (ps : List Pair) : Option Lot := firstU T ps 5 1
theorem uL_zero {T : Lot → Option Row} {ps : List Pair} (h : T ([], []) = some []) : uL T ps 0 = [] := by
  have e : keyL ([], []) = ([], []) := by simp [keyL, sortI]
  unfold uL
  show ([([], [])].filter (bad T)).map keyL = []
  have : bad T ([], []) = false := by
    unfold bad
    rw [e, h]
    rfl
  rw [List.filter_cons, if_neg (by rw [this]; decide)]
  rfl
theorem due_law {T : Lot → Option Row} {ps : List Pair} (h : T ([], []) = some []) : minOpt (untoldN T ps 5) = due T ps := by
  rw [due_eq]
  show firstU T ps 6 0 = _
  unfold firstU
  rw [uL_zero h]
  rfl
end K11
/-! lists of lists; min called -/
namespace K11
open PySem PySem.Spec PyProof.Rows L2 Evl
def tW (js : Lot) : PyData := .list [tI js.1, tI js.2]
def tWK (js : Lot) : PyData := .list [tL (keyL js), tI js.2]
theorem k_pgunl (K : PySem.W.Frag) {X : Cx} {es : List Expr} {kk n : Nat} {t : TGs} {pos : Pos} (hc : X.calm = true) (hs : PGs X es t) (hn : (assignEach es X.env).length = n := by rfl) (hst : (assignEach es X.env).findIdx? (·.1) = none := by rfl) (h : X.K = K := by rfl) : PG X (.Tuple es kk pos) (gUnl K n t) := by
  subst h
  exact pg_unl hc hs hn hst
section
variable {P : Program} {w : World} {K : PySem.W.Frag} {B H H' H1 H2 : Hp} {σ : L2.St} {ta tb te tx tl : TE} {t u : TT} {tA tr : TA} {α : Type} {p : Addr} {x : V} {ds : List PyData} {d e : PyData} {xs : List V} {S : List Addr} {D : Ends} {tu tz : TS} {g : TG}
theorem ug_pair {i j : Nat} {Q : L2.St → Hp → Prop} (h : Dp K H x (.list [d, e])) (hx : Ex H H1) (k : ∀ a b, Dp K H a d → Dp K H b e → Q ((σ.set i (some a)).set j (some b)) H1) : gUnl K 2 (gCons (gName i) (gCons (gName j) gNil)) x σ H1 Q := by
  obtain ⟨p, xs, rfl, sp, dp⟩ := h.list_of
  obtain ⟨a, b, rfl, h1, h2⟩ := dp2 dp
  exact ⟨p, _, rfl, ex_l hx sp, rfl, _, _, rfl, _, _, rfl, rfl, k _ _ h1 h2⟩
theorem n_lstL (h : EvDA K tA σ H ds) (fl : flatAll ds = true) (hz : ds.length ≤ 1000) : ∀ H1, Ex H H1 → ∀ Q : VK, (∀ p xs H2, H1 p = none → Ex H1 H2 → H2 p = some (.lst xs) → MadeAll K H1 p H2 xs [ds] → Q (.ref p) H2) → tLst (tCons (tLst tA) tNil) σ H1 Q := fun H1 e Q q =>
  h H1 e _ fun ws H2 e2 dw => ⟨sz_of (by rw [dw.len]; omega), fun r hr => ⟨sz_of (show 1 ≤ 100000 by decide), fun p hp => by
    have e3 : Ex H2 (upd H2 r (.lst ws)) := Ex.new hr
    have e4 : Ex (upd H2 r (.lst ws)) (upd (upd H2 r (.lst ws)) p (.lst [.ref r])) := Ex.new hp
    have ne : r ≠ p := fun z => by rw [← z, upd_same] at hp; cases hp
    refine q p _ _ (fresh_back (e2.trans e3) hp) ((e2.trans e3).trans e4) upd_same (.cons ⟨r, ws, rfl, fresh_back e2 hr, ne, e4 _ _ upd_same, dw.ex (e3.trans e4), fl⟩ .nil)⟩⟩
theorem ta_consX {Q : List V → Hp → Prop} (h : te σ H fun v H1 => tr σ H1 fun vs H2 => Q (v :: vs) H2) : tCons te tr σ H Q := h
/-- over a tracked list in a slot -/
theorem q_forXD {j : Nat} (hs : σ[j]? = some (some (.ref p))) (hp : H p = some (.lst xs)) (Pv : Nat → L2.St → Hp → Prop) (h0 : Pv 0 σ H) (hk : ∀ i σ' H', Pv i σ' H' → H' p = some (.lst xs))
    (h2 : ∀ i x σ' H', xs[i]? = some x → Pv i σ' H' → g x σ' H' fun σ2 H2 => tu { D with nx := Pv (i + 1), ct := Pv (i + 1), bk := tz D } σ2 H2) (h3 : ∀ σ' H', Pv xs.length σ' H' → tz D σ' H') : tSeq (tFor (iList K (tVar j)) g tu) tz D σ H :=
  ⟨_, hs, p, rfl, ⟨xs, sq_of hp⟩, for_list (D := { D with nx := tz D }) Pv h0 (fun i σ' H' _ pv => sq_of (hk i σ' H' pv)) h2 h3⟩
theorem cd_minN {x : Nat × Lot} {xs : List (Nat × Lot)} : CD K (rMinD K) [.list ((x :: xs).map tN)] (tN (minN x xs)) := fun vs H1 h Q q => by
  obtain ⟨v, rfl, h1⟩ := dp1 h
  obtain ⟨a, ys, rfl, sa, da⟩ := id h1.list_of
  refine ⟨a, tN x, xs.map tN, rfl, h1, ⟨fun y hy z hz => ?_, fun y hy => ?_⟩, ?_, ?_, fun v hv => q v H1 (Ex.refl _) ?_⟩
  · obtain ⟨y', _, rfl⟩ := List.mem_map.mp (show y ∈ (x :: xs).map tN from hy)
    obtain ⟨z', _, rfl⟩ := List.mem_map.mp (show z ∈ (x :: xs).map tN from hz)
    exact alike_tN _ _
  · obtain ⟨y', _, rfl⟩ := List.mem_map.mp (show y ∈ (x :: xs).map tN from hy)
    exact fun z => by cases z
  · have key : ∀ l : List (Nat × Lot), PyData.depthAll (l.map tN) ≤ 3 := fun l => by
      induction l with
      | nil => exact Nat.zero_le _
      | cons y l ih =>
        rw [List.map_cons, PyData.depthAll]
        have : (tN y).depth = 3 := by
          unfold tN
          rw [PyData.depth, PyData.depthAll, PyData.depthAll, PyData.depthAll, dep_tL]
          rfl
        omega
    have := key (x :: xs)
    rw [List.map_cons] at this
    omega
  · have key : ∀ l : List (Nat × Lot), PyData.canLayAll0 (l.map tN) = true := fun l => by
      induction l with
      | nil => rfl
      | cons y l ih =>
        rw [List.map_cons, PyData.canLayAll0, ih]
        unfold tN
        rw [PyData.canLay0, PyData.canLayAll0, PyData.canLayAll0, lay_tL]
        rfl
    exact key (x :: xs)
  · rw [minD_N] at hv
    exact hv
theorem cd_minL {x : Lot} {xs : List Lot} : CD K (rMinD K) [.list ((x :: xs).map tL)] (tL (minL x xs)) := fun vs H1 h Q q => by
  obtain ⟨v, rfl, h1⟩ := dp1 h
  obtain ⟨a, ys, rfl, sa, da⟩ := id h1.list_of
  refine ⟨a, tL x, xs.map tL, rfl, h1, ⟨fun y hy z hz => ?_, fun y hy => ?_⟩, ?_, ?_, fun v hv => q v H1 (Ex.refl _) ?_⟩
  · obtain ⟨y', _, rfl⟩ := List.mem_map.mp (show y ∈ (x :: xs).map tL from hy)
    obtain ⟨z', _, rfl⟩ := List.mem_map.mp (show z ∈ (x :: xs).map tL from hz)
    exact alike_tL _ _
  · obtain ⟨y', _, rfl⟩ := List.mem_map.mp (show y ∈ (x :: xs).map tL from hy)
    exact fun z => by cases z
  · have := dep_tLs (x :: xs)
    rw [List.map_cons] at this
    omega
  · exact lay_tLs (x :: xs)
  · rw [minD_L] at hv
    exact hv
end
theorem lay_tWs : ∀ rs : List Lot, PyData.canLayAll0 (rs.map tW) = true
  | [] => rfl
  | r :: rs => by
    rw [List.map_cons, PyData.canLayAll0, lay_tWs rs, tW, PyData.canLay0, PyData.canLayAll0, PyData.canLayAll0, lay_tI, lay_tI]
    rfl
theorem dep_tWs : ∀ rs : List Lot, PyData.depthAll (rs.map tW) ≤ 2
  | [] => Nat.zero_le _
  | r :: rs => by
    rw [List.map_cons, PyData.depthAll, tW, PyData.depth, PyData.depthAll, PyData.depthAll, dep_tI, dep_tI]
    have := dep_tWs rs
    have e : PyData.depthAll [] = 0 := rfl
    omega
theorem shp_tWs (rs : List Lot) : SeqAt.shaped (.list (rs.map tW)) = true := shp_list (lay_tWs rs) (by have := dep_tWs rs; omega)
theorem lay_tNs : ∀ rs : List (Nat × Lot), PyData.canLayAll0 (rs.map tN) = true
  | [] => rfl
  | r :: rs => by
    rw [List.map_cons, PyData.canLayAll0, lay_tNs rs, tN, PyData.canLay0, PyData.canLayAll0, PyData.canLayAll0, lay_tL]
    rfl
theorem dep_tNs : ∀ rs : List (Nat × Lot), PyData.depthAll (rs.map tN) ≤ 3
  | [] => Nat.zero_le _
  | r :: rs => by
    rw [List.map_cons, PyData.depthAll, tN, PyData.depth, PyData.depthAll, PyData.depthAll, dep_tL]
    have := dep_tNs rs
    have e : PyData.depthAll [] = 0 := rfl
    have e2 : (PyData.int (r.1 : Int)).depth = 0 := rfl
    omega
theorem shp_tNs (rs : List (Nat × Lot)) : SeqAt.shaped (.list (rs.map tN)) = true := shp_list (lay_tNs rs) (by have := dep_tNs rs; omega)
theorem found_len {ps : List Pair} (h : ps.length ≤ 16) (h5 : lvl ps 5 = []) : (foundUp ps 5).length ≤ 69905 := by
  have l0 := lvl_len h 0
  have l1 := lvl_len h 1
  have l2 := lvl_len h 2
  have l3 := lvl_len h 3
  have l4 := lvl_len h 4
  have e : (foundUp ps 5).length = (lvl ps 0).length + (lvl ps 1).length + (lvl ps 2).length + (lvl ps 3).length + (lvl ps 4).length + (lvl ps 5).length := by
    simp only [foundUp, List.length_append]
  rw [e, h5]
  simp only [List.length_nil]
  omega
theorem foundUp_len {ps : List Pair} (h : ps.length ≤ 16) : ∀ n, (foundUp ps n).length ≤ 2 * 16 ^ n
  | 0 => by show 1 ≤ 2; decide
  | n + 1 => by
    show (foundUp ps n ++ lvl ps (n + 1)).length ≤ _
    rw [List.length_append]
    have h1 := foundUp_len h n
    have h2 := lvl_len h (n + 1)
    have h3 : 16 ^ (n + 1) = 16 ^ n * 16 := by rw [Nat.pow_succ]
    omega
theorem foundUp_end {ps : List Pair} {i : Nat} (h : lvl ps i = []) : ∀ n, i ≤ n → foundUp ps n = foundUp ps i
  | 0, hn => by
    have : i = 0 := by omega
    rw [this]
  | n + 1, hn => by
    rcases Nat.eq_or_lt_of_le hn with e | e
    · rw [← e]
    · show foundUp ps n ++ lvl ps (n + 1) = _
      rw [lvl_next h (n + 1) hn, List.append_nil]
      exact foundUp_end h n (by omega)
end K11
/-! pairings within pairs, by levels; the least untold lot -/
namespace K11
open PySem PySem.Spec PyProof.Rows L2 Evl
theorem foundUp_mono (ps : List Pair) {m : Nat} : ∀ {n : Nat}, m ≤ n → (foundUp ps m).length ≤ (foundUp ps n).length
  | 0, h => by rw [show m = 0 by omega]; exact Nat.le_refl _
  | n + 1, h => by
    rcases Nat.eq_or_lt_of_le h with e | e
    · rw [← e]; exact Nat.le_refl _
    · have := foundUp_mono ps (m := m) (n := n) (by omega)
      show _ ≤ (foundUp ps n ++ lvl ps (n + 1)).length
      rw [List.length_append]
      omega
theorem off_in3 {K : PySem.W.Frag} {H H1 : Hp} {S S' : List Addr} {vs : List V} {ds : List PyData} (h : DpAll K (off S H) vs ds) (e : Ex H H1) (n : ∀ c ∈ S', c ∈ S ∨ H c = none) : DpAll K (off S' H1) vs ds := (h.ex (off_more n)).ex (off_ext e)
theorem foundUp_lens {S U : Int} (hS : small S) {ps : List Pair} (ok : PairsOk S U ps) {js : Lot} : ∀ {n : Nat}, js ∈ foundUp ps n → js.2.length < 64
  | 0, h => by
    have := mem_lvl (S := S) (U := U).mp (show js ∈ lvl ps 0 from h)
    have := this.len2
    omega
  | n + 1, h => by
    rcases List.mem_append.mp (show js ∈ foundUp ps n ++ lvl ps (n + 1) from h) with h | h
    · exact foundUp_lens hS ok h
    · have l := (mem_lvl (S := S) (U := U)).mp h
      have l2 := l.len2
      by_cases h5 : 5 ≤ n + 1
      · rw [lvl_none hS ok h5] at h
        cases h
      · omega
section
variable {K : PySem.W.Frag} {H : Hp} {σ : L2.St} {te : TE} {D : Ends} {tz : TS} {l : Addr} {xs : List V} {j : Nat}
theorem s_extX (ha : σ[j]? = some (some (.ref l))) (hl : H l = some (.lst xs)) (h : te σ H fun v H1 => rExtend (.ref l) [v] H1 fun _ H2 => D.nx σ H2) : tDrop (tBM K "list" rExtend (tVar j) (tCons te tNil)) D σ H := ⟨_, ha, Or.inl ⟨rfl, xs, sq_of hl⟩, h⟩
theorem q_extX (ha : σ[j]? = some (some (.ref l))) (hl : H l = some (.lst xs)) (h : te σ H fun v H1 => rExtend (.ref l) [v] H1 fun _ H2 => tz D σ H2) : tSeq (tDrop (tBM K "list" rExtend (tVar j) (tCons te tNil))) tz D σ H := s_extX (D := { D with nx := tz D }) ha hl h
end
def dueD : Option Lot → PyData
  | none => .none
  | some l => tL l
def spUnt (P : Program) (w : World) (K : PySem.W.Frag) : Sp := fun vs H Q _ => ∃ a v n T S U ps, vs = [V.ref a, v] ∧ DT P w K H a n T ∧ Dp K H v (.list (ps.map tP)) ∧ small S ∧ small U ∧ PairsOk S U ps ∧ T ([], []) = some [] ∧ (∀ js ∈ foundUp ps 5, (T (keyL js)).isSome = true) ∧ ∀ u H', Ex H H' → Dp K H' u (dueD (due T ps)) → Q u H'
theorem spUnt_len {P : Program} {w : World} {K : PySem.W.Frag} {vs : List V} {H : Hp} {Q : VK} {E : XK} (h : spUnt P w K vs H Q E) : vs.length = 2 := by
  obtain ⟨a, v, n, T, S, U, ps, rfl, _⟩ := h
  rfl
section
variable {P : Program} {w : World} {K : PySem.W.Frag} {mg : Str → Option Value} {base : Heap}
theorem sc_law_within : FnScope ["_law_pairs", "_law_found", "_law_grown", "_law_longer", "_law_jobs", "_law_row", "_law_x", "_law_y"] ["_law_pairs"] (defScope (top 44)) := ⟨rfl, rfl, rfl, by decide +kernel, rfl, by decide +kernel, by decide +kernel⟩
theorem bp_law_within : BindsP "_law_within" (top 44) ["_law_pairs"] := fun _ _ _ _ _ _ us hl => match us, hl with | [_], _ => rfl
theorem o_law_within (W : Gs K mg) : OkF CX0 P w K mg base 1 "_law_within" ["_law_pairs"] (spD K 1 fun ds d => ∃ (S U : Int) (ps : List Pair), ds = [.list (ps.map tP)] ∧ small S ∧ small U ∧ PairsOk S U ps ∧ d = .list ((foundUp ps 5).map tWK)) := by
  refine ok_of W.n_law_within sc_law_within bp_law_within (fun vs H Q E h => spD_len h) (fun f cdv A outer s H vs Q E hr h => ?_)
  refine ⟨_, (PSs.nox
  (pss_cons (ps_par (i := 1) (j := 2) rfl sc_law_within.nd rfl rfl (by decide) rfl rfl (pa_cons (pe_lst (pa_cons (pe_lst (pa_cons (pe_tup pa_nil) (pa_cons (pe_tup pa_nil) pa_nil))) pa_nil)) (pa_cons (pe_lst (pa_cons (pe_lst (pa_cons (pe_tup pa_nil) (pa_cons (pe_tup pa_nil) pa_nil))) pa_nil)) pa_nil)) rfl)
  (pss_cons (ps_while PassesOwn.never (pt_cmpR (k_neD K (room_u hr)) (pv 2) (pe_lst pa_nil) (nomark _))
  (pss_cons (ps_set (i := 3) sc_law_within.nd rfl (.inl rfl) (pe_lst pa_nil))
  (pss_cons (ps_for PassesOwn.never rfl (k_pilist K (pv 2)) (k_pgunl K (n := 2) rfl (pgs_cons (pg_name (i := 4) sc_law_within.nd rfl (.inr rfl)) (pgs_cons (pg_name (i := 5) sc_law_within.nd rfl (.inr rfl)) pgs_nil)))
  (pss_one (ps_expr (pe_bm PySem.F.plainAttrs_list PySem.F.slot_list_extend PySem.F.type_list_extend mt_extend (pv 3) (pa_cons (pe_lc (own := [("_law_x", 6), ("_law_y", 7)]) rfl sc_law_within.nd (k_pilist K (pv 0)) (blkOk_by (N := ["_law_pairs", "_law_found", "_law_grown", "_law_longer", "_law_jobs", "_law_row", "_law_x", "_law_y"]) (sc := defScope (top 44)) (by decide +kernel)) (fun _ _ _ _ _ => (k_pgtup K (n := 2) rfl (pgs_cons (pg_name (i := 6) sc_law_within.nd rfl (.inl rfl)) (pgs_cons (pg_name (i := 7) sc_law_within.nd rfl (.inl rfl)) pgs_nil)))) (fun _ _ _ _ _ => (pts_one (PW.pt (pw_and (pt_cmpR (k_nin K) (pv 7) (pv 5) (by rfl)) (pw_and1 (PW.pt (pw_or (pt_cmpR (k_eqD K (room_u hr)) (pv 4) (pe_tup pa_nil) (nomark _)) (pw_or1 (pt_cmpR op_gt (pv 6) (pe_ix (k_ixT K) (pv 4) (pe_un un_neg pe_int) (fun _ _ => rfl)) (nomark _)))))))))) (fun _ _ _ _ _ => (pe_lst (pa_cons (pe_op (k_catA K) (pv 4) (pe_tup (pa_cons (pv 6) pa_nil))) (pa_cons (pe_op (k_catA K) (pv 5) (pe_tup (pa_cons (pv 7) pa_nil))) pa_nil))))) pa_nil)))))
  (pss_cons (ps_expr (pe_bm PySem.F.plainAttrs_list PySem.F.slot_list_extend PySem.F.type_list_extend mt_extend (pv 1) (pa_cons (pv 3) pa_nil)))
  (pss_one (ps_set (i := 2) sc_law_within.nd rfl (.inl rfl) (pv 3)))))))
  (pss_one (ps_ret (pe_lc (own := [("_law_jobs", 4), ("_law_row", 5)]) rfl sc_law_within.nd (k_pilist K (pv 1)) (blkOk_by (N := ["_law_pairs", "_law_found", "_law_grown", "_law_longer", "_law_jobs", "_law_row", "_law_x", "_law_y"]) (sc := defScope (top 44)) (by decide +kernel)) (fun _ _ _ _ _ => (k_pgunl K (n := 2) rfl (pgs_cons (pg_name (i := 4) sc_law_within.nd rfl (.inl rfl)) (pgs_cons (pg_name (i := 5) sc_law_within.nd rfl (.inl rfl)) pgs_nil)))) (fun _ _ _ _ _ => pts_nil) (fun _ _ _ _ _ => (pe_lst (pa_cons (pe_tup (pa_cons (pv 4) (pa_cons (pe_callTy (k_tup K) (by rfl) W.f_tuple boot_tuple (pa_cons (pe_callB (k_sortedT K) (by rfl) W.f_sorted boot_sorted (pa_cons (pv 5) pa_nil)) pa_nil)) pa_nil))) (pa_cons (pv 5) pa_nil)))))))))), ?_⟩
  obtain ⟨ds, d, hn, hd, ⟨S, U, ps, rfl, hS, hU, ok, rfl⟩, q⟩ := h
  obtain ⟨v1, rfl, dv⟩ := dp1 hd
  have lps := ok.len hS hU
  have l5 : lvl ps 5 = [] := lvl_none hS ok (Nat.le_refl 5)
  have szF : ∀ i, i ≤ 5 → (foundUp ps i).length ≤ 69905 := fun i hi => Nat.le_trans (foundUp_mono ps hi) (found_len lps l5)
  have lvlOk : ∀ {n : Nat} {js : Lot}, js ∈ lvl ps n → LvlOk S U ps n js := fun h => mem_lvl.mp h
  refine q_par2 (ta_consX (n_lstL (K := K) (ds := [tI [], tI []]) (da_two d_tI_nil d_tI_nil) rfl (by decide) H (Ex.refl H) _ fun f xf H1 nf e1 hf mf => ta_consX (n_lstL (K := K) (ds := [tI [], tI []]) (da_two d_tI_nil d_tI_nil) rfl (by decide) H1 (Ex.refl H1) _ fun g xg H2 ng e2 hg mg => ⟨_, _, rfl, ?_⟩)))
  have f_g : f ≠ g := ne_of_none hf ng
  have df : DpAll K (off [f, g] H2) xf ((lvl ps 0).map tW) := off_in3 (mf.offD (S := [f]) fun c hc => ⟨.inr (by simpa using hc), xf, by rw [show c = f by simpa using hc]; exact hf⟩) e2 fun c hc => by
    simp only [List.mem_cons, List.not_mem_nil, or_false] at hc ⊢
    rcases hc with hc | hc
    · exact .inl hc
    · exact .inr (hc ▸ ng)
  have dg : DpAll K (off [f, g] H2) xg ((lvl ps 0).map tW) := mg.offD (S := [f, g]) fun c hc => by
    simp only [List.mem_cons, List.not_mem_nil, or_false] at hc
    rcases hc with hc | hc
    · subst hc
      exact ⟨.inl (by rw [hf]; exact nofun), xf, e2 _ _ hf⟩
    · subst hc
      exact ⟨.inr rfl, xg, hg⟩
  refine q_while (fun m σ' H' => ∃ (i : Nat) (f g : Addr) (xf xg : List V) (l t u : Option V), σ' = [some v1, some (.ref f), some (.ref g), l, t, u, none, none] ∧ m = 6 - i ∧ i ≤ 5 ∧ H f = none ∧ H g = none ∧ f ≠ g ∧ Ex H H' ∧ H' f = some (.lst xf) ∧ H' g = some (.lst xg) ∧ DpAll K (off [f, g] H') xf ((foundUp ps i).map tW) ∧ DpAll K (off [f, g] H') xg ((lvl ps i).map tW)) 6
    ⟨0, f, g, xf, xg, none, none, none, rfl, rfl, by decide, nf, fresh_back e1 ng, f_g, e1.trans e2, e2 _ _ hf, hg, df, dg⟩ ?_
  rintro m σ' H' ⟨i, f, g, xf, xg, l, t, u, rfl, rfl, hi5, nf, ng, f_g, e, hf, hg, df, dg⟩
  refine ⟨!(lvl ps i).isEmpty, et_nnil (K := K) (f := tW) (rs := lvl ps i) (d_var rfl (.lst (sq_of hg) (dg.ex off_ex))) (shp_tWs _), fun z H5 e5 => ?_, fun z H5 e5 => ?_⟩
  · have hne : lvl ps i ≠ [] := fun z2 => by rw [z2] at z; exact Bool.noConfusion z
    have hi4 : i ≤ 4 := by
      refine Nat.le_of_not_lt fun h => hne (lvl_none hS ok h)
    refine ⟨fun σ2 H2 => ∃ (f g : Addr) (xf xg : List V) (l t u : Option V), σ2 = [some v1, some (.ref f), some (.ref g), l, t, u, none, none] ∧ H f = none ∧ H g = none ∧ f ≠ g ∧ Ex H H2 ∧ H2 f = some (.lst xf) ∧ H2 g = some (.lst xg) ∧ DpAll K (off [f, g] H2) xf ((foundUp ps (i + 1)).map tW) ∧ DpAll K (off [f, g] H2) xg ((lvl ps (i + 1)).map tW), ?_, ?_⟩
    · rintro σ2 H2 ⟨f', g', xf', xg', l', t', u', h1, h2, h3, h4, h5, h6, h7, h8, h9⟩
      exact ⟨6 - (i + 1), by omega, i + 1, f', g', xf', xg', l', t', u', h1, rfl, by omega, h2, h3, h4, h5, h6, h7, h8, h9⟩
    have hf5 := e5 _ _ hf
    have hg5 := e5 _ _ hg
    refine q_setN (K := K) d_lst0 fun l xl0 H6 nl e6 hl dl => ?_
    have f_l : f ≠ l := ne_of_none hf5 nl
    have g_l : g ≠ l := ne_of_none hg5 nl
    have nl0 := fresh_back (e.trans e5) nl
    have e56 := e5.trans e6
    have nlH : H' l = none := fresh_back e5 nl
    have up3 : ∀ c ∈ [f, g, l], c ∈ [f, g] ∨ H' c = none := fun c hc => by
      simp only [List.mem_cons, List.not_mem_nil, or_false] at hc ⊢
      rcases hc with hc | hc | hc
      · exact .inl (.inl hc)
      · exact .inl (.inr hc)
      · exact .inr (hc ▸ nlH)
    have df6 := off_in3 df e56 up3
    have dg6 := off_in3 dg e56 up3
    have hf6 := e6 _ _ hf5
    have hg6 := e6 _ _ hg5
    have lxg : xg.length = (lvl ps i).length := by rw [dg.len, List.length_map]
    have szL : (foundUp ps i).length + (growAll (lvl ps i) ps).length ≤ 69905 := by
      have h1 := szF (i + 1) (by omega)
      have h2 : foundUp ps (i + 1) = foundUp ps i ++ growAll (lvl ps i) ps := rfl
      rw [h2, List.length_append] at h1
      exact h1
    refine q_forXD (K := K) (xs := xg) rfl hg6 (fun j σ2 H2 => ∃ (t u : Option V) (xl : List V), σ2 = [some v1, some (.ref f), some (.ref g), some (.ref l), t, u, none, none] ∧ Fr K [l] H6 H2 ∧ H2 l = some (.lst xl) ∧ DpAll K (off [f, g, l] H2) xl ((growAll ((lvl ps i).take j) ps).map tW)) ⟨_, _, xl0, rfl, K11.Fr.refl, hl, ?_⟩ (fun j σ2 H2 ⟨_, _, _, _, fr, _⟩ => fr.at hg6 (by simpa using g_l)) ?_ ?_
    · have : xl0 = [] := by cases dl; rfl
      rw [this]
      exact .nil
    · rintro j x σ2 H2 hx ⟨t, u, xl, rfl, fr, hxl, dxl⟩
      have fr3 : Fr K [f, g, l] H6 H2 := fr.sub (by simp)
      obtain ⟨dj, hdj, dx⟩ := dg6.get hx
      obtain ⟨js, hjs, rfl⟩ := get_map hdj
      have jok := lvlOk (List.mem_of_getElem? hjs)
      have len1 := jok.len1
      have len2 := jok.len2
      have dx2 : Dp K H2 x (tW js) := (dx.ex fr3.offE).ex off_ex
      have eG : growAll ((lvl ps i).take (j + 1)) ps = growAll ((lvl ps i).take j) ps ++ grow1 js ps := fm_take hjs
      have sz : (growAll ((lvl ps i).take (j + 1)) ps).length ≤ (growAll (lvl ps i) ps).length := take_fm_len
      rw [eG, List.length_append] at sz
      have lxl : xl.length = (growAll ((lvl ps i).take j) ps).length := by rw [dxl.len, List.length_map]
      have exH2 : Ex H H2 := fr.exB (e.trans e56) (by simpa using nl0)
      have dvH : Dp K H2 v1 (.list (ps.map tP)) := dv.ex exH2
      refine ug_pair dx2 (Ex.refl H2) fun a b da db => ?_
      refine s_extX (K := K) rfl hxl (n_lcL (K := K) tP ps (i_list (d_var rfl dvH)) (goes js) (fun p => [tI (js.1 ++ [p.1]), tI (js.2 ++ [p.2])]) (by omega) (fun p _ _ => by rw [flatAll, flatAll, flat_tI, flat_tI]; rfl) (fun _ _ => by show 2 ≤ 1000; decide) ?_ H2 (Ex.refl H2) _ fun q' ys H3 nq e3 hq made => ?_)
      · intro p hp y B H4 eB eB1 dy Q1 k
        refine tg_pair dy eB1 fun a2 b2 d1 d2 => ?_
        cases d1; cases d2
        refine k _ rfl (et_and (t_d (d_op (d_var rfl (.int p.2)) (d_var rfl (db.ex eB)) rd_niT)) fun _ => et_is (et_or (b := goesUp js.1 p.1) (t_d (d_op (d_var rfl (da.ex eB)) d_tI_nil rd_eqI')) fun z => ?_) (goesUp_or js.1 p.1)) fun _ => da_two (d_snoc (d_var rfl (da.ex eB)) (d_var rfl (.int p.1)) (by omega)) (d_snoc (d_var rfl (db.ex eB)) (d_var rfl (.int p.2)) (by omega))
        have hne : js.1 ≠ [] := of_decide_eq_false z
        obtain ⟨z2, hz2⟩ : ∃ z2, js.1.getLast? = some z2 := ⟨_, List.getLast?_eq_getLast hne⟩
        have eg : goesUp js.1 p.1 = decide (z2 < p.1) := by
          unfold goesUp
          rw [hz2]
        rw [eg]
        exact t_d (d_op (d_var rfl (.int p.1)) (d_atI (d_var rfl (da.ex eB)) d_neg1 (last_at hz2)) rd_gt)
      · have hf2 := fr.at hf6 (show f ∉ [l] by simpa using f_l)
        have hg2 := fr.at hg6 (show g ∉ [l] by simpa using g_l)
        have md := made.offD (S := [f, g, l]) fun c hc => by
          simp only [List.mem_cons, List.not_mem_nil, or_false] at hc
          rcases hc with hc | hc | hc
          · subst hc
            exact ⟨.inl (by rw [hf2]; exact nofun), _, e3 _ _ hf2⟩
          · subst hc
            exact ⟨.inl (by rw [hg2]; exact nofun), _, e3 _ _ hg2⟩
          · subst hc
            exact ⟨.inl (by rw [hxl]; exact nofun), _, e3 _ _ hxl⟩
        have ly := md.len
        have eys : (((ps.filter (goes js)).map fun p => [tI (js.1 ++ [p.1]), tI (js.2 ++ [p.2])]).map PyData.list) = (grow1 js ps).map tW := by
          unfold grow1
          rw [List.map_map, List.map_map]
          rfl
        rw [eys] at md ly
        rw [List.length_map] at ly
        have w4 : Wr K l H3 (upd H3 l (.lst (xl ++ ys))) := Wr.of (Ex.refl _) ⟨xl, e3 _ _ hxl⟩
        have fr4 : Fr K [f, g, l] H3 (upd H3 l (.lst (xl ++ ys))) := Fr.wr w4 (by simp)
        refine ⟨l, q', xl, ys, rfl, rfl, e3 _ _ hxl, hq, sz_of (by omega), _, _, xl ++ ys, rfl, fr.trans ((K11.Fr.ex e3).trans (Fr.wr w4 (by simp))), upd_same, ?_⟩
        rw [eG, List.map_append]
        exact ((dxl.ex (off_ext e3)).ex fr4.offE).app (md.ex fr4.offE)
    · rintro σ2 H2 ⟨t, u, xl, rfl, fr, hxl, dxl⟩
      rw [lxg, List.take_length] at dxl
      have fr3 : Fr K [f, g, l] H6 H2 := fr.sub (by simp)
      have hf2 := fr.at hf6 (show f ∉ [l] by simpa using f_l)
      have exH2 : Ex H H2 := fr.exB (e.trans e56) (by simpa using nl0)
      have df2 := df6.ex fr3.offE
      have lf := df2.len
      have lx := dxl.len
      rw [List.length_map] at lf lx
      have szf := szF i hi5
      refine q_extX (K := K) rfl hf2 ⟨_, rfl, f, l, xf, xl, rfl, rfl, hf2, hxl, sz_of (by omega), ?_⟩
      have w4 : Wr K f H2 (upd H2 f (.lst (xf ++ xl))) := Wr.of (Ex.refl _) ⟨xf, hf2⟩
      have fr4 : Fr K [f, g, l] H2 (upd H2 f (.lst (xf ++ xl))) := Fr.wr w4 (by simp)
      have lss : ∀ c ∈ [f, l], c ∈ [f, g, l] := by simp
      refine ⟨_, rfl, f, l, xf ++ xl, xl, _, _, _, rfl, nf, nl0, f_l, w4.exB exH2 nf, upd_same, w4.at hxl f_l.symm, ?_, (dxl.ex fr4.offE).ex (off_less lss)⟩
      have eF : foundUp ps (i + 1) = foundUp ps i ++ growAll (lvl ps i) ps := rfl
      rw [eF, List.map_append]
      exact ((df2.app dxl).ex fr4.offE).ex (off_less lss)
  · have he : lvl ps i = [] := List.isEmpty_iff.mp (by simpa using z)
    have eF := foundUp_end he 5 hi5
    rw [← eF] at df
    have szf := szF 5 (Nat.le_refl 5)
    refine s_retX (n_lcL (K := K) tW (foundUp ps 5) (i_list (d_var rfl (.lst (sq_of (e5 _ _ hf)) ((df.ex off_ex).ex e5)))) (fun _ => true) (fun js => [tL (keyL js), tI js.2]) (by omega) (fun js _ _ => by rw [flatAll, flatAll, flat_tI, flat_tL]; rfl) (fun _ _ => by show 2 ≤ 1000; decide) ?_ H5 (Ex.refl H5) _ fun p ys H6 np e6 hp made => q _ H6 ((e.trans e5).trans e6) ?_)
    · intro js hjs y B H7 eB eB1 dy Q1 k
      refine ug_pair dy eB1 fun a b da db => ?_
      have l4 : js.2.length < 64 := foundUp_lens hS ok hjs
      exact k _ rfl et_yes fun _ => da_two (d_tL (l := keyL js) (d_var rfl da) (d_cb1 (da_one (n_cb1 (da_one (d_var rfl db)) (cn_sortedT l4)).toD) cd_tupL)) (d_var rfl db)
    · rw [filt_all] at made
      have md := made.offD (S := []) (by simp)
      refine .lst (sq_of hp) ?_
      have := md.ex off_ex
      rw [List.map_map] at this
      exact this
theorem sc_law_untold : FnScope ["_law_told", "_law_pairs", "_law_lots_here", "_law_lot", "_law_row"] ["_law_told", "_law_pairs"] (defScope (top 47)) := ⟨rfl, rfl, rfl, by decide +kernel, rfl, by decide +kernel, by decide +kernel⟩
theorem bp_law_untold : BindsP "_law_untold" (top 47) ["_law_told", "_law_pairs"] := fun _ _ _ _ _ _ us hl => match us, hl with | [_, _], _ => rfl
theorem o_law_untold (W : Gs K mg) : OkF CX0 P w K mg base 2 "_law_untold" ["_law_told", "_law_pairs"] (spUnt P w K) := by
  refine ok_of W.n_law_untold sc_law_untold bp_law_untold (fun vs H Q E h => spUnt_len h) (fun f cdv A outer s H vs Q E hr h => ?_)
  refine ⟨_, (PSs.nox
  (pss_cons (ps_setLc (i := 2) (own := [("_law_lot", 3), ("_law_row", 4)]) rfl sc_law_untold.nd rfl rfl (by rfl) (k_pilist K (k_own (P := P) (w := w) (base := base) (o_law_within W) (hr.mono (by decide)) pass0 (by rfl) (pa_cons (pv 1) pa_nil))) (blkOk_by (N := ["_law_told", "_law_pairs", "_law_lots_here", "_law_lot", "_law_row"]) (sc := defScope (top 47)) (by decide +kernel)) (fun _ _ _ _ _ => (k_pgunl K (n := 2) rfl (pgs_cons (pg_name (i := 3) sc_law_untold.nd rfl (.inl rfl)) (pgs_cons (pg_name (i := 4) sc_law_untold.nd rfl (.inl rfl)) pgs_nil)))) (fun _ _ _ _ _ => (pts_one (pt_cmpR (k_neD K (room_u hr)) (k_nget K P w (room_n hr) (pv 0) (pv 3) (fun _ _ => rfl)) (pv 4) (nomark _)))) (fun _ _ _ _ _ => (pe_tup (pa_cons (pe_callB (k_len K) (by rfl) W.f_len boot_len (pa_cons (pe_ix (k_ixT K) (pv 3) pe_int (fun _ _ => rfl)) pa_nil)) (pa_cons (pv 3) pa_nil)))))
  (pss_one (ps_ret (pe_ifExp (pt_cmpR (k_neD K (room_u hr)) (pv 2) (pe_lst pa_nil) (nomark _)) (pe_ix (k_ixT K) (pe_callB (k_minD K rfl (room_u hr)) (by rfl) W.f_min boot_min (pa_cons (pv 2) pa_nil)) pe_int (fun _ _ => rfl)) pe_non))))), ?_⟩
  obtain ⟨a, v, n, T, S, U, ps, rfl, dt, dv, hS, hU, ok, h0, ht, q⟩ := h
  have lps := ok.len hS hU
  have sz := found_len lps (lvl_none hS ok (Nat.le_refl 5))
  have hl : ∀ js ∈ foundUp ps 5, ∃ r, T (keyL js) = some r := fun js hj => Option.isSome_iff_exists.mp (ht js hj)
  refine q_setN (K := K) (n_is (n_lcT tWK (foundUp ps 5) (i_list (d_own (da_one (d_var rfl dv)) ⟨S, U, ps, rfl, hS, hU, ok, rfl⟩)) (bad T) (fun js => tN (js.1.length, keyL js)) (by omega) (fun js _ _ => by unfold tN; show flatAll [_, _] = true; rw [flatAll, flatAll, flat_tL]; rfl) ?_) (es := (untoldN T ps 5).map tN) ?_) fun p xs H1 np e1 hp dp => ?_
  · intro js hjs x B H1 eB eB1 dx Q1 k
    obtain ⟨r, hr⟩ := hl js hjs
    refine ug_pair dx eB1 fun x1 x2 d1 d2 => ?_
    refine k _ rfl (et_is (t_d (d_op (d_tget (ev_var rfl) (dt.ex eB) (d_var rfl d1) hr) (d_var rfl d2) rd_neI')) ?_) fun _ => d_tup (da_two (d_lenI (d_lot0 (l := keyL js) (d_var rfl d1))) (d_var rfl d1)) (show 2 ≤ 100000 by decide)
    unfold bad
    rw [hr]
    simp
  · unfold untoldN
    rw [List.map_map]
    rfl
  · refine s_retD (d_if (d := dueD (due T ps)) (et_nnil (K := K) (f := tN) (rs := untoldN T ps 5) (d_var rfl (.lst (sq_of hp) dp)) (shp_tNs _)) (fun z => ?_) fun z => ?_) fun u H2 e2 du => q u H2 (e1.trans e2) du
    · cases hu : untoldN T ps 5 with
      | nil => rw [hu] at z; cases z
      | cons y ys =>
        have hd : due T ps = some (minN y ys).2 := by
          rw [← due_law h0, hu]
          rfl
        rw [hd]
        rw [hu] at dp
        exact d_op (d_cb1 (da_one (d_var rfl (.lst (sq_of hp) dp))) cd_minN) d_ci (rd_ixT atI_one)
    · cases hu : untoldN T ps 5 with
      | cons y ys => rw [hu] at z; cases z
      | nil =>
        have hd : due T ps = none := by
          rw [← due_law h0, hu]
          rfl
        rw [hd]
        exact d_cn
end
end K11
/-! own exceptions whose __init__ calls the base's: made, raised -/
namespace PySem
namespace K11S
open PySem.W PySem.Calls PyProof.Rows PySem.HandSPX
abbrev exT : List Value := [.type "Exception", .type "BaseException", .type "object"]
/-- what the written part says of the class at C, of its __init__ at fI -/
structure SupT (K : Frag) (file0 : Str) (st : Stmt) (C fI : Addr) : Prop where
  ini : excInitIn K C exT "Exception.__new__" = true
  ovr : excOver K C exT = true
  sa : findIn K (.ref C) "__setattr__" = some (some (.builtin "object.__setattr__"))
  ga : findIn K (.ref C) "__getattribute__" = some (some (.builtin "BaseException.__getattribute__"))
  gg : findIn K (.ref C) "__getattr__" = some none
  noN : findIn K (.ref C) "at" = some none
  tk : takerIn K C "at" = some none
  iC : findIn K (.ref C) "__init__" = some (some (.ref fI))
  fnI : typeIn K (.ref fI) = some (.type "function")
  kC : keepIn K (.ref C) = true
  exC : subIn K (.ref C) (.type "BaseException") = some true
  exE : subIn K (.ref C) (.type "Exception") = some true
  tyC : typeIn K (.ref C) = some (.type "type")
  hdC : hasDictIn K C = true
  sup : ks_superIn K C C "__init__" = some (some (.builtin "Exception.__init__"))
  slf : mroIn K C (.ref C) = some true
  opq : nsIn K cStatics "thirdparty.any" = some none
  fn : ∃ (oc cl ccl kV doc pm ct z : Value) (od cld cdd an : Option Addr) (q file : Str) (cda cc T : Addr) (osl csl ccs : Array (Option Value)) (vs : Array Value) (tf : Tok) (oT : Obj) (nT : Nat),
    K.lookup fI = some ⟨oc, od, .func (fnX "__init__" q (L2.defArgs st) (L2.defBody st) (L2.defScope st) [("__class__", cc)] (.ref T) kV doc pm an (.ref cda) ct), osl⟩ ∧ codeIn K (.ref cda) q = true ∧
    K.lookup T = some oT ∧ oT.data = .seq #[z] nT ∧ K.lookup cda = some ⟨ccl, cdd, .fields vs, ccs⟩ ∧ vs[2]? = some (.str file tf) ∧ (file0 == file) = true ∧ K.lookup cc = some ⟨cl, cld, .cell (some (.ref C)), csl⟩
section
open Builtin Builtin.ObjectAttr
variable {prog : Program} {w : World} {A : Around} {E : Value → Shared → Prop} {R : Result → Shared → Prop} {K : Frag} {hp : Heap} {g : Array GenState} {d : Drawn} {t : Nat} {os : OsState}
theorem osa_ex {name : Str} {tk : Tok} {v : Value} {x C : Addr} {fv : Array Value} (X : K.In hp) (hx : hp.get? x = some { cls := .ref C, data := .fields fv }) (hm : excOver K C exT = true) (hh : hasDictIn K C = true) (ha : takerIn K C name = some none)
    (hq : ∀ h' tk' dx, (∀ b o, b ≠ x → hp.get? b = some o → h'.get? b = some o) → hp.objs.size ≤ dx → dx ≠ x → h'.get? x = some { cls := .ref C, dict := some dx, data := .fields fv } →
      h'.Ns1 dx (fun y => if y = name then some v else none) → R (.ok (.ret .none)) ⟨h', g, d, tk', os⟩) :
    codeAny (model prog w) A (.call (.builtin "object.__setattr__") ⟨[.ref x, .str name tk, v], []⟩) R ⟨hp, g, d, t, os⟩ := by
  have hxs : x ≠ hp.objs.size := Nat.ne_of_lt (Heap.lt_size hx)
  obtain ⟨cd, hc, hd'⟩ := any_some hh
  refine osa_openX (od := none) (ox := { cls := .ref C, data := .fields fv }) F.store_Exception X ⟨hx, rfl, rfl, trivial⟩ hm ha fun b => ?_
  show wpAny _ _ (storeInOwnDict (.ref x) (.ref C) (.str name tk) name v b) _ _ _
  have hcls : Looks (model prog w) hp (classData C) cd := looks_clsIn X hc
  obtain ⟨nm, bs, mro, ns, qn, hd, sn, sb, ab, col, del⟩ := cd
  dsimp only at hd'
  subst hd'
  unfold storeInOwnDict ownDictForStores
  repeat (first | with_reducible refine store_in_new ?_ ?_ | with_reducible refine wpAny_loadPart_at hx ?_ | with_reducible refine hcls.at ?_ | wp_step)
  · exact ⟨_, #[], _, (Heap.get?_update_ne _ _ _ _ hxs.symm).trans (Heap.get?_push_at rfl rfl), rfl, fun e he => absurd he (by simp), fun _ => rfl⟩
  · exact fun h2 tk2 ns2 rest => hq h2 tk2 hp.objs.size (fun b o other there => (rest.2 b (Nat.ne_of_lt (Heap.lt_size there))).trans ((Heap.get?_update_ne _ _ _ _ other).trans (Heap.get?_push_of_some _ there))) (Nat.le_refl _) hxs.symm
      ((rest.2 x hxs).trans (Heap.get?_update_self _ (Heap.get?_push_of_some _ hx) rfl)) ns2
/-- what __init__ leaves of a fresh exception at x -/
structure IniE (h h' : Heap) (x C dx t1 : Addr) (v : Value) : Prop where
  keep : ∀ b o, b ≠ x → h.get? b = some o → h'.get? b = some o
  obj : h'.get? x = some { cls := .ref C, dict := some dx, data := .fields #[.ref t1, .none, .none, .none, .bool false, .none] }
  dbig : h.objs.size ≤ dx
  dne : dx ≠ x
  ns : h'.Ns1 dx (fun y => if y = "at" then some v else none)
theorem sup_init3 {C fI x t0 : Addr} {mg mb : Str → Option Value} {v : Value} (T : SupT K prog.main.file (L2.inClass (K11.top 3) 0) C fI) (htop : (prog.main.scope.names.lookup ("super" : Str)).isSome = false) {s : Shared} (X : K.In s.heap) (hlim : s.heap.NoLimit) (hG : s.heap.Ns mainGlobals mg) (hB : s.heap.Ns builtinsNs mb)
    (nG : mg "super" = none) (nB : mb "super" = some (.type "super")) (hx : s.heap.get? x = some (excO C t0)) (hnx : K.lookup x = none) (hroom : A.depth < recursionLimit)
    (hq : ∀ h' tk dx t1, IniE s.heap h' x C dx t1 v → R (.ok (.ret .none)) { s with heap := h', toks := tk }) :
    codeAny (model prog w) A (.call (.ref fI) ⟨[.ref x, v], []⟩) R s := by
  obtain ⟨oc, cl, ccl, kV, doc, pm, ct, z, od, cld, cdd, an, q, file, cda, cc, T0, osl, csl, ccs, vs, tf, oT, nT, ho, hcd, hT, hTd, hcda, hvs, hfile, hcell⟩ := T.fn
  obtain ⟨nm, N', qn, bs, bm, hdct, sn, sub, ab, col, dd, k0, k1, k2, k3, k5, hC, hTy⟩ := excInit_of X T.ini
  obtain ⟨cd, hcl, hd'⟩ := any_some T.hdC
  have hbd : ∃ k, bindArgs (fnX "__init__" q (L2.defArgs (L2.inClass (K11.top 3) 0)) (L2.defBody (L2.inClass (K11.top 3) 0)) (L2.defScope (L2.inClass (K11.top 3) 0)) [("__class__", cc)] (.ref T0) kV doc pm an (.ref cda) ct) ⟨[.ref x, v], []⟩ = seqItems? (.ref T0) >>= k ∧ k (some #[z]) = pure [(("self" : Str), .ref x), (("at" : Str), v)] := ⟨_, rfl, rfl⟩
  obtain ⟨kk, e1, e2⟩ := hbd
  have hsup : alongIn K "__init__" ((cd.mro.dropWhile (· != .ref C)).drop 1) = some (some (.builtin "Exception.__init__")) := by
    have h := T.sup
    unfold ks_superIn at h
    rw [hcl] at h
    exact h
  obtain ⟨hp, g, d, t, os⟩ := s
  refine ks_codeAny_call_defAt (fd := fnX "__init__" q (L2.defArgs (L2.inClass (K11.top 3) 0)) (L2.defBody (L2.inClass (K11.top 3) 0)) (L2.defScope (L2.inClass (K11.top 3) 0)) [("__class__", cc)] (.ref T0) kV doc pm an (.ref cda) ct) (body := L2.defBody (L2.inClass (K11.top 3) 0)) (binds := [(("self" : Str), .ref x), (("at" : Str), v)]) hroom (X _ _ ho) rfl hlim (codeRec_of X hcd) rfl
    (L2.BindsTo.of_looks fun M => by rw [e1]; exact L2.looks_items X hT hTd (.of_pure e2)) (show ∀ x ∈ (L2.defScope (L2.inClass (K11.top 3) 0)).names, x.2 ≠ .cell by decide +kernel) (fun y hy => ?_) (fun h₁ hn k => ?_) rfl rfl rfl
  · rcases List.mem_cons.mp hy with rfl | hy
    · rfl
    · rcases List.mem_cons.mp hy with rfl | hy
      · rfl
      · cases hy
  have X1 : K.In h₁ := X.keeps k
  have hx1 := k _ _ hx
  have Ix : InstAt h₁ x (excO C t0) C none := ⟨hx1, rfl, rfl, trivial⟩
  have hxC : x ≠ C := ks_ne X1 Ix hcl
  have hC1 := k _ _ hC
  have hxL : hp.objs.size ≠ x := Nat.ne_of_gt (Heap.lt_size hx)
  have hgt : hp.objs.size < h₁.objs.size := hn.lt
  refine ks_wpAt_execs_cons (ks_wpAt_Expr_any (ks_wpAt_MethodCall ?_))
  refine ks_wpAt_super_base (f := fI) rfl rfl (by decide) rfl (X1 _ _ ho) rfl rfl rfl (X1 _ _ hcda) rfl hvs hfile htop ?_
  refine ks_loadName_global rfl rfl (loadGlobal_builtin (hG.keeps k) nG (hB.keeps k) nB ⟨rfl, ?_⟩)
  refine wpAny_loadName_free rfl rfl rfl ⟨_, X1 _ _ hcell, rfl⟩ ?_
  refine wpAny_loadName_local rfl rfl hn rfl ?_
  refine ks_wpAny_isType_cls hC1 rfl ⟨rfl, ?_⟩
  refine ks_wpAny_call_super hC1 rfl hx1 rfl (fun c e => nomatch e) (looks_mroIn X1 T.slf) (fun h2 hso k2 => ?_)
  have X2 : K.In h2 := X1.keeps k2
  have hx2 := k2 _ _ hx1
  have Ix2 : InstAt h2 x (excO C t0) C none := ⟨hx2, rfl, rfl, trivial⟩
  refine ESX.getMethod_super hso (looks_opaque X2 T.opq) (l₀ := cd.mro) (fun A Q E s k q => wpAny_bind ((looks_clsIn X2 hcl) A _ E s k (wpAny_pure q))) rfl X2 hsup hxC (by decide) (Ix2.type.andThen (looks_subIn X2 T.exE)) ?_
  have k3 : ∀ b o, h2.get? b = some o → (h2.push (ESX.bw x)).get? b = some o := fun b o e => Heap.get?_push_of_some _ e
  have hu : (h2.push (ESX.bw x)).get? h2.objs.size = some (ESX.bw x) := Heap.get?_push_at rfl rfl
  refine ESX.callWith_bound (x := x) (spliced_more (Calls.Constant_str (spliced_none ⟨hu, ?_⟩)))
  refine ESX.call_bw (k3 _ _ (k2 _ _ hC1)) (k3 _ _ hx2) hu (by rw [sizeLine_eq]; exact (by decide : 1 ≤ 16777216)) (fun h4 t1 k4 hx4 => ?_)
  have kk4 : ∀ b o, b ≠ x → h₁.get? b = some o → h4.get? b = some o := fun b o n e => k4 b o n (k3 _ _ (k2 _ _ e))
  have hn4 := hn.at fun o e => kk4 _ o hxL e
  have X4 : K.In h4 := fun a o e => kk4 a o (fun z => by rw [z, hnx] at e; cases e) (X1 a o e)
  refine ks_wpAt_execs_cons (ks_wpAt_Assign_Attr ?_)
  refine wpAt_of_wpAny (ESX.ldL (v := v) hn4 rfl (ESX.ldL (v := .ref x) hn4 rfl ?_))
  refine set_plain X4 (ox := excO C t1) (od := none) ⟨hx4, rfl, rfl, trivial⟩ T.sa ?_
  refine osa_ex X4 hx4 T.ovr T.hdC T.tk (fun h5 tk5 dx k5 dn dne hx5 hn5 => ?_)
  refine wpAt_of_wpAny (wpAny_execs_nil (hq h5 tk5 dx t1 ⟨fun b o n e => k5 b o n (kk4 b o n (k b o e)), hx5, ?_, dne, hn5⟩))
  obtain ⟨oL, _, _, hoL, _⟩ := hn4
  exact Nat.le_of_lt (Nat.lt_of_lt_of_le (Heap.lt_size hoL) dn)
theorem sup_init4 {C fI x t0 : Addr} {mg mb : Str → Option Value} {v : Value} (T : SupT K prog.main.file (L2.inClass (K11.top 4) 0) C fI) (htop : (prog.main.scope.names.lookup ("super" : Str)).isSome = false) {s : Shared} (X : K.In s.heap) (hlim : s.heap.NoLimit) (hG : s.heap.Ns mainGlobals mg) (hB : s.heap.Ns builtinsNs mb)
    (nG : mg "super" = none) (nB : mb "super" = some (.type "super")) (hx : s.heap.get? x = some (excO C t0)) (hnx : K.lookup x = none) (hroom : A.depth < recursionLimit)
    (hq : ∀ h' tk dx t1, IniE s.heap h' x C dx t1 v → R (.ok (.ret .none)) { s with heap := h', toks := tk }) :
    codeAny (model prog w) A (.call (.ref fI) ⟨[.ref x, v], []⟩) R s := by
  obtain ⟨oc, cl, ccl, kV, doc, pm, ct, z, od, cld, cdd, an, q, file, cda, cc, T0, osl, csl, ccs, vs, tf, oT, nT, ho, hcd, hT, hTd, hcda, hvs, hfile, hcell⟩ := T.fn
  obtain ⟨nm, N', qn, bs, bm, hdct, sn, sub, ab, col, dd, k0, k1, k2, k3, k5, hC, hTy⟩ := excInit_of X T.ini
  obtain ⟨cd, hcl, hd'⟩ := any_some T.hdC
  have hbd : ∃ k, bindArgs (fnX "__init__" q (L2.defArgs (L2.inClass (K11.top 4) 0)) (L2.defBody (L2.inClass (K11.top 4) 0)) (L2.defScope (L2.inClass (K11.top 4) 0)) [("__class__", cc)] (.ref T0) kV doc pm an (.ref cda) ct) ⟨[.ref x, v], []⟩ = seqItems? (.ref T0) >>= k ∧ k (some #[z]) = pure [(("self" : Str), .ref x), (("at" : Str), v)] := ⟨_, rfl, rfl⟩
  obtain ⟨kk, e1, e2⟩ := hbd
  have hsup : alongIn K "__init__" ((cd.mro.dropWhile (· != .ref C)).drop 1) = some (some (.builtin "Exception.__init__")) := by
    have h := T.sup
    unfold ks_superIn at h
    rw [hcl] at h
    exact h
  obtain ⟨hp, g, d, t, os⟩ := s
  refine ks_codeAny_call_defAt (fd := fnX "__init__" q (L2.defArgs (L2.inClass (K11.top 4) 0)) (L2.defBody (L2.inClass (K11.top 4) 0)) (L2.defScope (L2.inClass (K11.top 4) 0)) [("__class__", cc)] (.ref T0) kV doc pm an (.ref cda) ct) (body := L2.defBody (L2.inClass (K11.top 4) 0)) (binds := [(("self" : Str), .ref x), (("at" : Str), v)]) hroom (X _ _ ho) rfl hlim (codeRec_of X hcd) rfl
    (L2.BindsTo.of_looks fun M => by rw [e1]; exact L2.looks_items X hT hTd (.of_pure e2)) (show ∀ x ∈ (L2.defScope (L2.inClass (K11.top 4) 0)).names, x.2 ≠ .cell by decide +kernel) (fun y hy => ?_) (fun h₁ hn k => ?_) rfl rfl rfl
  · rcases List.mem_cons.mp hy with rfl | hy
    · rfl
    · rcases List.mem_cons.mp hy with rfl | hy
      · rfl
      · cases hy
  have X1 : K.In h₁ := X.keeps k
  have hx1 := k _ _ hx
  have Ix : InstAt h₁ x (excO C t0) C none := ⟨hx1, rfl, rfl, trivial⟩
  have hxC : x ≠ C := ks_ne X1 Ix hcl
  have hC1 := k _ _ hC
  have hxL : hp.objs.size ≠ x := Nat.ne_of_gt (Heap.lt_size hx)
  have hgt : hp.objs.size < h₁.objs.size := hn.lt
  refine ks_wpAt_execs_cons (ks_wpAt_Expr_any (ks_wpAt_MethodCall ?_))
  refine ks_wpAt_super_base (f := fI) rfl rfl (by decide) rfl (X1 _ _ ho) rfl rfl rfl (X1 _ _ hcda) rfl hvs hfile htop ?_
  refine ks_loadName_global rfl rfl (loadGlobal_builtin (hG.keeps k) nG (hB.keeps k) nB ⟨rfl, ?_⟩)
  refine wpAny_loadName_free rfl rfl rfl ⟨_, X1 _ _ hcell, rfl⟩ ?_
  refine wpAny_loadName_local rfl rfl hn rfl ?_
  refine ks_wpAny_isType_cls hC1 rfl ⟨rfl, ?_⟩
  refine ks_wpAny_call_super hC1 rfl hx1 rfl (fun c e => nomatch e) (looks_mroIn X1 T.slf) (fun h2 hso k2 => ?_)
  have X2 : K.In h2 := X1.keeps k2
  have hx2 := k2 _ _ hx1
  have Ix2 : InstAt h2 x (excO C t0) C none := ⟨hx2, rfl, rfl, trivial⟩
  refine ESX.getMethod_super hso (looks_opaque X2 T.opq) (l₀ := cd.mro) (fun A Q E s k q => wpAny_bind ((looks_clsIn X2 hcl) A _ E s k (wpAny_pure q))) rfl X2 hsup hxC (by decide) (Ix2.type.andThen (looks_subIn X2 T.exE)) ?_
  have k3 : ∀ b o, h2.get? b = some o → (h2.push (ESX.bw x)).get? b = some o := fun b o e => Heap.get?_push_of_some _ e
  have hu : (h2.push (ESX.bw x)).get? h2.objs.size = some (ESX.bw x) := Heap.get?_push_at rfl rfl
  refine ESX.callWith_bound (x := x) (spliced_more (Calls.Constant_str (spliced_none ⟨hu, ?_⟩)))
  refine ESX.call_bw (k3 _ _ (k2 _ _ hC1)) (k3 _ _ hx2) hu (by rw [sizeLine_eq]; exact (by decide : 1 ≤ 16777216)) (fun h4 t1 k4 hx4 => ?_)
  have kk4 : ∀ b o, b ≠ x → h₁.get? b = some o → h4.get? b = some o := fun b o n e => k4 b o n (k3 _ _ (k2 _ _ e))
  have hn4 := hn.at fun o e => kk4 _ o hxL e
  have X4 : K.In h4 := fun a o e => kk4 a o (fun z => by rw [z, hnx] at e; cases e) (X1 a o e)
  refine ks_wpAt_execs_cons (ks_wpAt_Assign_Attr ?_)
  refine wpAt_of_wpAny (ESX.ldL (v := v) hn4 rfl (ESX.ldL (v := .ref x) hn4 rfl ?_))
  refine set_plain X4 (ox := excO C t1) (od := none) ⟨hx4, rfl, rfl, trivial⟩ T.sa ?_
  refine osa_ex X4 hx4 T.ovr T.hdC T.tk (fun h5 tk5 dx k5 dn dne hx5 hn5 => ?_)
  refine wpAt_of_wpAny (wpAny_execs_nil (hq h5 tk5 dx t1 ⟨fun b o n e => k5 b o n (kk4 b o n (k b o e)), hx5, ?_, dne, hn5⟩))
  obtain ⟨oL, _, _, hoL, _⟩ := hn4
  exact Nat.le_of_lt (Nat.lt_of_lt_of_le (Heap.lt_size hoL) dn)
/-- a made exception -/
structure OwnE (h h' : Heap) (e C d : Addr) (v : Value) : Prop where
  keep : ∀ b o, h.get? b = some o → h'.get? b = some o
  new : h.objs.size ≤ e
  obj : ∃ oe vs, h'.get? e = some oe ∧ oe.cls = .ref C ∧ oe.dict = some d ∧ oe.data = .fields vs ∧ vs[1]? = some .none
  dbig : h.objs.size ≤ d
  dne : d ≠ e
  ns : h'.Ns1 d (fun y => if y = "at" then some v else none)
theorem sup_made3 {C fI : Addr} {mg mb : Str → Option Value} {v : Value} (T : SupT K prog.main.file (L2.inClass (K11.top 3) 0) C fI) (htop : (prog.main.scope.names.lookup ("super" : Str)).isSome = false) {s : Shared} (X : K.In s.heap) (hlim : s.heap.NoLimit) (hG : s.heap.Ns mainGlobals mg) (hB : s.heap.Ns builtinsNs mb)
    (nG : mg "super" = none) (nB : mb "super" = some (.type "super")) (hroom : A.depth + 1 < recursionLimit) (hq : ∀ h' tk e d, OwnE s.heap h' e C d v → R (.ok (.ret (.ref e))) { s with heap := h', toks := tk }) :
    codeAny (model prog w) A (.call (.ref C) ⟨[v], []⟩) R s := by
  obtain ⟨nm, N, q, bs, bm, hdct, sn, sub, ab, col, dd, k0, k1, k2, k3, k5, hC, hTy⟩ := excInit_of X T.ini
  obtain ⟨hp, g, dr, tk, os⟩ := s
  have k : ∀ b o, hp.get? b = some o → ((hp.push (kdv_tup [v])).push (excO C hp.objs.size)).get? b = some o := fun b o e => Heap.get?_push_of_some _ (Heap.get?_push_of_some _ e)
  have hget : ((hp.push (kdv_tup [v])).push (excO C hp.objs.size)).get? (hp.objs.size + 1) = some (excO C hp.objs.size) := by heap_get
  have hnx : K.lookup (hp.objs.size + 1) = none := by
    cases e : K.lookup (hp.objs.size + 1) with
    | none => rfl
    | some o =>
      have z : hp.get? (hp.objs.size + 1) = some o := X _ _ e
      exact absurd (Nat.lt_of_succ_lt (Heap.lt_size z)) (Nat.lt_irrefl _)
  refine call_own F.excBase_Exception hTy hC (looks_findIn X T.iC) (fun self => bind_fn X self T.fnI) (by rw [sizeLine_eq]; exact (by decide : 1 ≤ 16777216)) ?_
  refine sup_init3 (s := ⟨(hp.push (kdv_tup [v])).push (excO C hp.objs.size), g, dr, tk, os⟩) T htop (X.keeps k) (hlim.keeps k) (hG.keeps k) (hB.keeps k) nG nB hget hnx ?_ fun h' tk' dx t1 ⟨k', hx, dn, dne, hns⟩ => ?_
  · show A.depth + 1 < recursionLimit
    exact hroom
  · have old : ∀ b o, hp.get? b = some o → h'.get? b = some o := fun b o e => k' b o (Nat.ne_of_lt (Nat.lt_succ_of_lt (Heap.lt_size e))) (k b o e)
    have z : hp.objs.size + 1 + 1 ≤ dx := by
      have q := dn
      rw [Heap.size_push, Heap.size_push] at q
      exact q
    exact ⟨rfl, hq h' tk' (hp.objs.size + 1) dx ⟨old, Nat.le_succ _, ⟨_, _, hx, rfl, rfl, rfl, rfl⟩, Nat.le_trans (Nat.le_trans (Nat.le_succ _) (Nat.le_succ _)) z, dne, hns⟩⟩
theorem sup_made4 {C fI : Addr} {mg mb : Str → Option Value} {v : Value} (T : SupT K prog.main.file (L2.inClass (K11.top 4) 0) C fI) (htop : (prog.main.scope.names.lookup ("super" : Str)).isSome = false) {s : Shared} (X : K.In s.heap) (hlim : s.heap.NoLimit) (hG : s.heap.Ns mainGlobals mg) (hB : s.heap.Ns builtinsNs mb)
    (nG : mg "super" = none) (nB : mb "super" = some (.type "super")) (hroom : A.depth + 1 < recursionLimit) (hq : ∀ h' tk e d, OwnE s.heap h' e C d v → R (.ok (.ret (.ref e))) { s with heap := h', toks := tk }) :
    codeAny (model prog w) A (.call (.ref C) ⟨[v], []⟩) R s := by
  obtain ⟨nm, N, q, bs, bm, hdct, sn, sub, ab, col, dd, k0, k1, k2, k3, k5, hC, hTy⟩ := excInit_of X T.ini
  obtain ⟨hp, g, dr, tk, os⟩ := s
  have k : ∀ b o, hp.get? b = some o → ((hp.push (kdv_tup [v])).push (excO C hp.objs.size)).get? b = some o := fun b o e => Heap.get?_push_of_some _ (Heap.get?_push_of_some _ e)
  have hget : ((hp.push (kdv_tup [v])).push (excO C hp.objs.size)).get? (hp.objs.size + 1) = some (excO C hp.objs.size) := by heap_get
  have hnx : K.lookup (hp.objs.size + 1) = none := by
    cases e : K.lookup (hp.objs.size + 1) with
    | none => rfl
    | some o =>
      have z : hp.get? (hp.objs.size + 1) = some o := X _ _ e
      exact absurd (Nat.lt_of_succ_lt (Heap.lt_size z)) (Nat.lt_irrefl _)
  refine call_own F.excBase_Exception hTy hC (looks_findIn X T.iC) (fun self => bind_fn X self T.fnI) (by rw [sizeLine_eq]; exact (by decide : 1 ≤ 16777216)) ?_
  refine sup_init4 (s := ⟨(hp.push (kdv_tup [v])).push (excO C hp.objs.size), g, dr, tk, os⟩) T htop (X.keeps k) (hlim.keeps k) (hG.keeps k) (hB.keeps k) nG nB hget hnx ?_ fun h' tk' dx t1 ⟨k', hx, dn, dne, hns⟩ => ?_
  · show A.depth + 1 < recursionLimit
    exact hroom
  · have old : ∀ b o, hp.get? b = some o → h'.get? b = some o := fun b o e => k' b o (Nat.ne_of_lt (Nat.lt_succ_of_lt (Heap.lt_size e))) (k b o e)
    have z : hp.objs.size + 1 + 1 ≤ dx := by
      have q := dn
      rw [Heap.size_push, Heap.size_push] at q
      exact q
    exact ⟨rfl, hq h' tk' (hp.objs.size + 1) dx ⟨old, Nat.le_succ _, ⟨_, _, hx, rfl, rfl, rfl, rfl⟩, Nat.le_trans (Nat.le_trans (Nat.le_succ _) (Nat.le_succ _)) z, dne, hns⟩⟩
end
end K11S
end PySem
namespace K11
open PySem PySem.Spec PyProof.Rows L2
/-- an own exception of one value, made -/
structure ExcOk (P : Program) (w : World) (K : PySem.W.Frag) (mg : Str → Option Value) (nm : Str) (C : Addr) : Prop where
  gC : mg nm = some (.ref C)
  kC : PySem.W.keepIn K (.ref C) = true
  xf : XfC K C
  noN : PySem.W.findIn K (.ref C) "at" = some none
  tyC : PySem.W.typeIn K (.ref C) = some (.type "type")
  made : ∀ {A : Around} {R : Result → Shared → Prop} {s : Shared} {mb : Str → Option Value} {v : Value}, K.In s.heap → s.heap.NoLimit → s.heap.Ns mainGlobals mg → s.heap.Ns builtinsNs mb → mb "super" = some (.type "super") → A.depth + 1 < recursionLimit →
    (∀ h' tk e d, PySem.K11S.OwnE s.heap h' e C d v → R (.ok (.ret (.ref e))) { s with heap := h', toks := tk }) → codeAny (model P w) A (.call (.ref C) ⟨[v], []⟩) R s
theorem exc3 {P : Program} {w : World} {K : PySem.W.Frag} {mg : Str → Option Value} {C fI : Addr} (g : mg "InvalidBook" = some (.ref C)) (nG : mg "super" = none) (T : PySem.K11S.SupT K P.main.file (inClass (top 3) 0) C fI) (htop : (P.main.scope.names.lookup ("super" : Str)).isSome = false) : ExcOk P w K mg "InvalidBook" C :=
  ⟨g, T.kC, ⟨T.ga, T.gg, T.exC, T.hdC⟩, T.noN, T.tyC, fun X hl hG hB nB hr hq => PySem.K11S.sup_made3 T htop X hl hG hB nG nB hr hq⟩
theorem exc4 {P : Program} {w : World} {K : PySem.W.Frag} {mg : Str → Option Value} {C fI : Addr} (g : mg "InvalidPairs" = some (.ref C)) (nG : mg "super" = none) (T : PySem.K11S.SupT K P.main.file (inClass (top 4) 0) C fI) (htop : (P.main.scope.names.lookup ("super" : Str)).isSome = false) : ExcOk P w K mg "InvalidPairs" C :=
  ⟨g, T.kC, ⟨T.ga, T.gg, T.exC, T.hdC⟩, T.noN, T.tyC, fun X hl hG hB nB hr hq => PySem.K11S.sup_made4 T htop X hl hG hB nG nB hr hq⟩
theorem relO_at {v : V} {v' : Value} (r : RelV v v') (f : Str) : RelO (List.lookup f [(("at" : Str), v)]) (if f = "at" then some v' else none) := by
  by_cases hw : f = "at"
  · subst hw
    rw [if_pos rfl]
    have q : List.lookup ("at" : Str) [(("at" : Str), v)] = some v := by simp [List.lookup]
    rw [q]
    exact r
  · rw [if_neg hw]
    have qw : (f == ("at" : Str)) = false := by simpa using hw
    have q2 : List.lookup f [(("at" : Str), v)] = none := by simp [List.lookup, qw]
    rw [q2]
    trivial
section
variable {X : Cx} {C : Addr} {nm : Str}
/-- C(e) -/
def tMkS (C : Addr) (ta : TA) : L2.St → Hp → XK → Prop := fun σ H Q => ta σ H fun vs H1 => ∃ v, vs = [v] ∧ ∀ d, H1 d = none → Q (.ref C) (some d) (upd H1 d (.xd [(("at" : Str), v)]))
theorem pmk_sup {a : Expr} {ta : TA} {p pos : Pos} {k : Nat} (T : ExcOk X.prog X.w X.K X.mg nm C) (hr : Room k X.A) (ha : PA X [a] ta) (hg : Gl X nm) (hdb : (nm == ("__debug__" : Str)) = false := by decide)
    (he : starEach (a :: []) X.env = (false, eval a X.env) :: starEach [] X.env := by rfl) (hpl : (backTo pos (starEach [] X.env)).any (·.1) = false := by rfl) :
    PMk X (.Call (.Name nm p) [a] [] pos) (tMkS C ta) := by
  intro pins s σ H Q I h
  refine wpAny_Call_Name_kw (ld_glob I hg T.gC ?_ hdb)
  refine PySem.W.callWith_K (h₀ := X.base) I.ok.mod.kin T.kC (thn (ha.run pos pins s σ H _ I h) fun us s1 hh => ?_) he hpl
  obtain ⟨vs, H1, I1, r1, v, ev, q1⟩ := hh
  subst ev
  refine ⟨I1.kIn, ?_⟩
  cases r1 with
  | cons rv rn =>
    rename_i v' us'
    cases rn
    show wpAny _ _ (call (.ref C) [v']) _ _ _
    have hlim := I1.nolimit
    obtain ⟨mb, hb1, hb2⟩ := I1.mod.blt
    have hG := I1.mod.glob.keeps I1.bk
    have hB := hb1.keeps I1.bk
    obtain ⟨hp, g, dr, tk, os⟩ := s1
    refine wpAny_call (T.made I1.kIn hlim hG hB ((hb2 "super" (by decide)).trans PyProof.Rows.Boot.«super») (by have := hr.dp; omega) fun h' tk' e d M => ?_)
    show MkP X pins σ Q (.ref e) ⟨h', g, dr, tk', os⟩
    obtain ⟨oe, fv, hoe, hc, hd, hdat, h1⟩ := M.obj
    have hns := M.ns
    obtain ⟨G', g1, g2⟩ := restrict h' fun b => decide (b ≠ e)
    have gk : ∀ b, b ≠ e → G'.get? b = h'.get? b := fun b hb => g1 b (decide_eq_true hb)
    have ge : G'.get? e = none := g2 e (by simp)
    have old : ∀ b o, hp.get? b = some o → G'.get? b = some o := fun b o q => (gk b (Nat.ne_of_lt (Nat.lt_of_lt_of_le (Heap.lt_size q) M.new))).trans (M.keep b o q)
    have ob : ObjOk X.prog X.w (upd H1 d (.xd [(("at" : Str), v)])) G' d (.xd [(("at" : Str), v)]) :=
      ⟨_, hns.at (fun o q => (gk d M.dne).trans q), fun f => relO_at rv f⟩
    have J : Inv X pins σ (upd H1 d (.xd [(("at" : Str), v)])) ⟨G', g, dr, tk', os⟩ := I1.laid (t' := tk') old M.dbig ob
    refine ⟨e, oe, fv, ⟨G', g, dr, tk', os⟩, _, .ref C, some d, rfl, J, fun b o q => ?_, ge, hoe, ⟨hc, hd⟩, hdat, h1, ?_, rfl, I1.bare, raises_own T.xf.exC T.tyC, q1 d (I1.hok.fresh M.dbig)⟩
    · by_cases hb : b = e
      · have q' : G'.get? b = some o := q
        rw [hb, ge] at q'; cases q'
      · exact (gk b hb).symm.trans q
    · rw [upd_ne (Ne.symm M.dne)]
      exact I1.hok.fresh M.new
/-- raise C(e) -/
def tRaiseS (C : Addr) (W : WX) (ta : TA) : TS := fun _ σ H => tMkS C ta σ H fun cls d H' => W cls d σ H'
theorem ps_raiseS {a : Expr} {ta : TA} {W : WX} {p pos pos2 : Pos} {k : Nat} (hc : X.calm = true) (T : ExcOk X.prog X.w X.K X.mg nm C) (hr : Room k X.A) (tk : Takes X W) (ha : PA X [a] ta) (hg : Gl X nm) (hdb : (nm == ("__debug__" : Str)) = false := by decide)
    (he : starEach (a :: []) X.env = (false, eval a X.env) :: starEach [] X.env := by rfl) (hpl : (backTo pos (starEach [] X.env)).any (·.1) = false := by rfl) :
    PS X (.Raise (some (.Call (.Name nm p) [a] [] pos)) none pos2) (tRaiseS C W ta) := ps_raise hc tk (pmk_sup T hr ha hg hdb he hpl)
end
end K11
/-! try with clauses 'except x as n', all of one n -/
namespace K11
open PySem PySem.Spec PyProof.Rows L2
abbrev Cl : Type := Value × (Addr → Value → Option Addr → TS)
def endsAs (i : Nat) (D : Ends) : Ends := { nx := fun σ' H' => D.nx (σ'.set i none) H', rt := D.rt, bk := fun σ' H' => D.bk (σ'.set i none) H', ct := fun σ' H' => D.ct (σ'.set i none) H' }
/-- what the clauses wish of an exception of the body -/
def wAll (K : PySem.W.Frag) (i : Nat) (Wout : WX) (D : Ends) : List Cl → WX
  | [] => Wout
  | q :: r => fun cls d σ H => ∃ b, PySem.W.exmOne K cls q.1 = some b ∧ (b = true → ∀ a, H a = none → q.2 a cls d (endsAs i D) (σ.set i (some (.ref a))) H) ∧ (b = false → wAll K i Wout D r cls d σ H)
inductive ClsAs (X : Cx) (n : Str) : List ExceptHandler → List Cl → Prop
  | nil : ClsAs X n [] []
  | cons {x : Str} {c : Value} {ts : Addr → Value → Option Addr → TS} {b₀ : Stmt} {suite : List Stmt} {np pos' : Pos} {hds : List ExceptHandler} {l : List Cl} (hc : Names X x c)
      (hsu : ∀ (a : Addr) (oe : Obj) (cls : Value) (d : Option Addr) (pn : List (Addr × Obj)), Zc cls d oe → (∃ vs, oe.data = .fields vs) → PSs (X.suite a ((a, oe) :: pn)) (b₀ :: suite) (ts a cls d)) (r : ClsAs X n hds l) :
      ClsAs X n (.ExceptHandler (some (.Name x np)) (some n) (b₀ :: suite) pos' :: hds) ((c, ts) :: l)
section
variable {X : Cx} {n : Str} {i : Nat} {body : List Stmt} {h₀ : ExceptHandler} {hds : List ExceptHandler} {l : List Cl} {pos : Pos} {tb : WX → TS} {Wout : WX}
theorem ps_tryAll (hs : X.stack = X.env :: X.outer) (hf : X.env.frame = some X.env.locals) (hN : X.N.Nodup) (hi : X.N[i]? = some n) (hln : X.env.kindOf n = some .local) (tk : Takes X Wout)
    (hb : ∀ (W : WX) (pn : List (Addr × Obj)) (xe : Value → Shared → Prop), Takes (X.tr pn xe) W → PassesOwn (model X.prog X.w) X.A X.env xe → PSs (X.tr pn xe) body (tb W))
    (hh : ClsAs X n (h₀ :: hds) l) : PS X (.Try body (h₀ :: hds) [] [] pos) (fun D σ H => tb (wAll X.K i Wout D l) D σ H) := by
  refine ⟨fun pins s σ H D I h => ?_⟩
  have ok := I.ok
  have frs_eq : X.A.frames = some (X.env :: X.outer) := by rw [ok.frames, hs]
  have loc : Loc X.env.scope n := .inl hln
  refine wpAny_Try_except ?_
  refine wpAny_mono ((hb (wAll X.K i Wout D l) (X.pn ++ pins) (fun e s₁ => wpAny (model X.prog X.w) X.A (noteFrame e X.env) (fun _ s₂ => wpAny (model X.prog X.w) X.A (setFlight e none) (fun _ s₃ =>
    wpAny (model X.prog X.w) X.A (handleBy e X.env (h₀ :: hds)) (SP X pins D) X.xe s₃) X.xe s₂) X.xe s₁) (fun u s' xx => ?_) PassesOwn.looking).run [] s σ H D (I.toTry _) h) (fun f s1 hsp => ?_) (fun e s1 he => he)
  · obtain ⟨a, B, sI, pins', σ', H', cls, d, rfl, J', nb, up, sky, na, os, ag, wish⟩ := xx
    have J : Inv X pins σ' H' sI := J'.ofTry ok
    have skyE : Sky B (X.env :: X.outer) a (Zc cls d) X.env.locals s'.heap := by rw [← hs]; exact sky
    show wpAny (model X.prog X.w) X.A (noteFrame (.ref a) X.env) _ _ _
    refine Sky.land Zc.steady frs_eq hf skyE fun h3 fl3 up3 => ?_
    have J3 : Inv X pins σ' H' { s' with heap := h3 } := J.landed nb fl3.1 (up.trans up3) os ag
    obtain ⟨oe3, vs3, he3, hz3, hd3⟩ := fl3.there
    have offF : ∀ {h : Heap} {o : Obj} {vs : Array Value}, h.FunFrames B (X.env :: X.outer) → h.get? a = some o → o.data = .fields vs → a ∉ frs (X.env :: X.outer) := fun {h o vs} ff e dd hm => by
      obtain ⟨_, o2, e2, hnf⟩ := ff.mem hm
      rw [e] at e2; cases e2
      exact hnf _ dd
    have offA := offF fl3.2.2.1 he3 hd3
    have offL : a ≠ X.env.locals := fun z => offA (List.mem_filterMap.mpr ⟨X.env, List.mem_cons_self, by rw [hf, z]⟩)
    have offS : a ∉ X.fs := fun hm => by
      obtain ⟨e, he, q⟩ := List.mem_filterMap.mp hm
      exact offA (List.mem_filterMap.mpr ⟨e, List.mem_cons_of_mem _ he, q⟩)
    have S3 := J3.suite he3 hd3 na offL offS
    have go : ∀ {hds2 : List ExceptHandler} {l2 : List Cl}, ClsAs X n hds2 l2 → wAll X.K i Wout D l2 cls d σ' H' →
        wpAny (model X.prog X.w) X.A (handleBy (.ref a) X.env hds2) (SP X pins D) X.xe { s' with heap := h3 } := by
      intro hds2 l2 hk
      induction hk with
      | nil =>
        intro wish
        refine wpAny_handleBy_nil ?_
        obtain ⟨k1, k2, k3, oe, vs, T, oT, ts', he, hz, hd, h1, hr⟩ := id fl3
        unfold PySem.passOn
        refine wpAny_bind (wpAny_field he hd h1 ?_)
        rw [if_neg (show ¬ ((Value.ref T == Value.none) = true) from by simp)]
        have last : wpAny (model X.prog X.w) X.A (setFlight (.ref a) X.env.frame) (fun _ s4 => wpAny (model X.prog X.w) X.A (throw (.ref a) : Sem Flow) (SP X pins D) X.xe s4) X.xe { s' with heap := h3 } := by
          rw [hf]
          refine HandSPX.setFlight_upZ fl3 fun h4 hh4 up4 => wpAny_throw (tk _ _ ?_)
          exact ⟨a, B, sI, pins, σ', H', cls, d, rfl, J, nb, (up.trans up3).trans up4, .inr (.inr (by rw [hs]; exact hh4)), na, os, ag, wish⟩
        first
          | exact wpAny_bind (wpAny_pure (wpAny_bind last))
          | exact wpAny_bind last
      | @cons x c ts b₀ suite np pos' hds3 l3 hc hsu r ih =>
        intro wish
        obtain ⟨b, hb1, hyes, hno⟩ := wish
        refine wpAny_handleBy_cons (codeAny_handlers_test ?_) (by intro q; cases q)
        have LT : PySem.W.Looks (model X.prog X.w) h3 (typeOf (.ref a)) cls := fun A Q E s k q => wpAny_typeOf_ref (k _ _ he3) (by rw [hz3.1]; exact q)
        have LM := PySem.W.exm_one (M := model X.prog X.w) (J3.kIn) LT hb1
        have look : ∀ {Q : Value → Shared → Prop} {E : Value → Shared → Prop}, Q c { s' with heap := h3 } → wpAny (model X.prog X.w) (X.A.mark (some (.ref a))) (eval (.Name x np) X.env) Q E { s' with heap := h3 } := fun {Q E} q => by
          obtain ⟨hg, hdbg, hm | ⟨hm, hv, hnn⟩⟩ := hc
          · exact ld_glob (X := X.suite a ((a, oe3) :: (X.pn ++ pins))) S3 hg hm q hdbg
          · exact ld_blt (X := X.suite a ((a, oe3) :: (X.pn ++ pins))) S3 hg hm hv q hnn hdbg
        refine look (LM.here ?_)
        cases b with
        | true =>
          refine codeAny_handlers_suite_as ?_
          refine HandSPX.lands_againZ fl3 fun h4 fl4 up4 => ?_
          have J4 : Inv X pins σ' H' { s' with heap := h4 } := J.landed nb fl4.1 ((up.trans up3).trans up4) os ag
          obtain ⟨oe4, vs4, he4, hz4, hd4⟩ := fl4.there
          have S4 := J4.suite he4 hd4 na offL offS
          refine store_ok (X := X.suite a ((a, oe4) :: (X.pn ++ pins))) (v := .ref a) S4 hN hi loc rfl (fun s5 S5 => ?_) (.inr hln)
          refine wpAny_mono ((hsu a oe4 cls d (X.pn ++ pins) hz4 ⟨_, hd4⟩).run [] s5 _ H' _ S5 (hyes rfl a na)) (fun f s6 hsp => ?_) (fun _ _ z => False.elim z)
          have gone : ∀ {σ6 : L2.St} {H6 : Hp} {Q : Shared → Prop}, Inv (X.suite a ((a, oe4) :: (X.pn ++ pins))) [] σ6 H6 s6 → (∀ s7, Inv X pins (σ6.set i none) H6 s7 → Q s7) →
              wpAny (model X.prog X.w) X.A (do bindName X.env n .none; unbindBehindTheSuite X.env n pos') (fun _ s7 => Q s7) X.xe s6 := fun {σ6 H6 Q} S6 hq => gone_ok (S6.unsuite ok) hN hi hln hq
          rcases f with u | _ | _ | _
          case ret => exact let ⟨_, _, _, S6, r6, q6⟩ := hsp; gone S6 fun _ J7 => ⟨_, _, _, J7, r6, q6⟩
          all_goals exact let ⟨_, _, S6, q6⟩ := hsp; gone S6 fun _ J7 => ⟨_, _, J7, q6⟩
        | false =>
          show wpAny _ X.A (handleBy (.ref a) X.env hds3) _ _ _
          exact ih (hno rfl)
    exact go hh wish
  · rcases f with u | _ | _ | _
    case ret => exact let ⟨v, σ2, H2, J2, r, q⟩ := hsp; ⟨v, σ2, H2, J2.ofTry ok, r, q⟩
    case next => exact let ⟨σ2, H2, J2, q⟩ := hsp; wpAny_execs_nil ⟨σ2, H2, J2.ofTry ok, q⟩
    all_goals exact let ⟨σ2, H2, J2, q⟩ := hsp; ⟨σ2, H2, J2.ofTry ok, q⟩
end
end K11
/-! enumerate of a tuple, of a list or a tuple -/
namespace PySem
namespace K11S
open Sem (wp)
theorem new_enum {v : Value} {ob : Obj} {Hp : Heap → Prop} (B : Begins v ob Hp) :
    Meets (Builtin.«enumerate.__new__» ⟨[.type "enumerate", v], []⟩) (fun _ R s => Hp s.heap ∧
      R (.ok (.ret (.ref (s.heap.push ob).objs.size))) { s with heap := (s.heap.push ob).push { cls := .type "enumerate", data := .fields #[.none, .bool false, .ref s.heap.objs.size, rawInt 0, .none, .none] } }) :=
  .of_wp fun prog w A R s hs => by
    obtain ⟨hp, g, d, tk, os⟩ := s
    obtain ⟨h1, hs⟩ := hs
    have subE := sub_enumerate
    have goes : ∀ {A' : Around} {E : Value → Shared → Prop} {Q : Value → Shared → Prop}, Q (.ref hp.objs.size) ⟨hp.push ob, g, d, tk, os⟩ → wpAny (model prog w) A' (pyIter v) Q E ⟨hp, g, d, tk, os⟩ :=
      fun q => B.iter prog w _ _ ⟨hp, g, d, tk, os⟩ _ h1 q
    wp_walk using goes
    refine wpAny_stack_any fun st => wpAny_pure ?_
    split
    · rename_i c _ _ _ _ _
      cases (c == Value.type "enumerate")
      · wp_walk using goes
        exact ⟨_, rfl, hs⟩
      · wp_walk using goes
        exact ⟨_, rfl, hs⟩
    · wp_walk using goes
      exact ⟨_, rfl, hs⟩
section
variable {prog : Program} {w : World} {A : Around} {E : Value → Shared → Prop} {s : Shared}
theorem call_enum {v : Value} {ob : Obj} {Hp : Heap → Prop} {Q : Value → Shared → Prop} (B : Begins v ob Hp) (h1 : Hp s.heap)
    (h : ∀ h', IsEnum h' (s.heap.objs.size + 1) s.heap.objs.size 0 .none → h'.get? s.heap.objs.size = some ob → h'.objs.size = s.heap.objs.size + 2 →
      (∀ b u, s.heap.get? b = some u → h'.get? b = some u) → Q (.ref (s.heap.objs.size + 1)) { s with heap := h' }) :
    wpAny (model prog w) A (call (.type "enumerate") [v]) Q E s := by
  refine callType_new F.called_enumerate (by decide) (F.typeCall_enumerate_1 _) (F.newCall_enumerate_1 _) (fun obj => F.args_object_init_2 obj _) F.entry_enumerate_new (new_enum B) ⟨h1, ?_⟩
  have z1 : (s.heap.push ob).objs.size = s.heap.objs.size + 1 := Heap.size_push ..
  show _ ∧ _
  rw [z1]
  have at1 : IsEnum ((s.heap.push ob).push { cls := .type "enumerate", data := .fields #[.none, .bool false, .ref s.heap.objs.size, rawInt 0, .none, .none] }) (s.heap.objs.size + 1) s.heap.objs.size 0 .none := by
    have z := Heap.get?_push_size (s.heap.push ob) (o := { cls := .type "enumerate", data := .fields #[.none, .bool false, .ref s.heap.objs.size, rawInt 0, .none, .none] }) rfl
    rw [z1] at z
    exact z
  exact ⟨⟨_, at1, rfl⟩, h _ at1 (Heap.get?_push_of_some _ (Heap.get?_push_size _ B.free)) (by rw [Heap.size_push, z1]) fun b u y => Heap.get?_push_of_some _ (Heap.get?_push_of_some _ y)⟩
end
end K11S
end PySem
namespace K11
open PySem PySem.Spec PyProof.Rows L2 Evl
/-- the tuple at a, each item in a new pair -/
def IteT (K : PySem.W.Frag) (a : Addr) : It :=
  ⟨fun i H => ∃ (xs : List V) (x : V), SqT K H a xs ∧ xs[i]? = some x, fun i H v H' => ∃ T x, v = .ref T ∧ H T = none ∧ H' = upd H T (.tup [.int (i : Nat), x]) ∧ ∀ xs, SqT K H a xs → xs[i]? = some x, fun i H => ∃ xs : List V, SqT K H a xs ∧ xs.length = i⟩
theorem turn_enumT {P : Program} {w : World} {K : PySem.W.Frag} {elts : List Expr} {kk : Nat} {tpos : Pos} (a e it : Addr) (hai : a ≠ it) (hea : e ≠ a) :
    Turn P w K (.Tuple elts kk tpos) (IteT K a) [e, it] e (fun i h => (∃ old, IsEnum h e it ((i : Nat) : Int) old) ∧ h.IsTupleIter it a i ∧ e ≠ it) where
  mem := by simp
  obj := fun i h st b hb => by
    obtain ⟨⟨old, he⟩, ⟨o, ho, hc, hd⟩, _⟩ := st
    rcases (show b = e ∨ b = it by simpa using hb) with rfl | rfl
    · exact ⟨_, he, fun _ c => nomatch c⟩
    · exact ⟨o, ho, fun _ c => nomatch hd.symm.trans c⟩
  keep := fun i h h' st k => let ⟨⟨old, he⟩, hi, hne⟩ := st; ⟨⟨old, k e (by simp) _ he⟩, hi.at fun o q => k it (by simp) o q, hne⟩
  item := by
    rintro X rfl rfl rfl hc i pins s σ H E I hf ⟨⟨old, he⟩, hit, hne⟩ ⟨xs, x, hq, hx⟩
    obtain ⟨its, rv, tp, _⟩ := I.tuple hq
    obtain ⟨u, hu, ru⟩ := rv.get hx
    have hi : i < its.length := (List.getElem?_eq_some_iff.mp hu).1
    have hel : e < s.heap.objs.size := Heap.lt_size he
    have hil : it < s.heap.objs.size := by obtain ⟨_, q, _⟩ := hit; exact Heap.lt_size q
    refine wpAny_pyNext_enum_itemD (Draws.tuple (A := X.A.in1) (show X.A.in1.handled = none from I.ok.hd hc) it a hai its.toArray) he ⟨hit, tp⟩ (by simpa using hi) hne (by simp [hne, hea]) fun y h' tk hy ho hit' hT hsz hk => ?_
    have ey : y = u := by
      have h1 : its.toArray[i]? = some y := hy
      have h2 : its.toArray[i]? = some u := by simpa using hu
      rw [h1] at h2
      exact Option.some.inj h2
    subst ey
    refine ⟨_, rfl, wpAny_letOwnedTupleGo_enum (s := { s with heap := h', toks := tk + 1 }) ho fun h'' he' sb => ?_⟩
    have hT2 : h''.get? s.heap.objs.size = some { cls := .type "tuple", data := .seq #[.int i tk, y] } := (sb.2 _ (Nat.ne_of_gt hel)).trans hT
    have fresh : ObjOk X.prog X.w (upd H s.heap.objs.size (.tup [.int (i : Nat), x])) h'' s.heap.objs.size (.tup [.int (i : Nat), x]) :=
      ⟨by show 2 ≤ sizeLine; decide, [.int i tk, y], .cons ⟨_, rfl⟩ (.cons ru .nil), ⟨_, hT2, rfl, _, rfl⟩⟩
    have I1 : Inv X pins σ (upd H s.heap.objs.size (.tup [.int (i : Nat), x])) { s with heap := h'', toks := tk + 1 } :=
      I.turnedNew (ch := [e, it]) (fun b ob hb q => (sb.2 b (fun z => hb (by simp [z]))).trans (hk b ob (fun z => hb (by simp [z])) (fun z => hb (by simp [z])) q)) hf (Nat.le_refl _) fresh
    refine ⟨.ref s.heap.objs.size, _, I1, rfl, ⟨_, x, rfl, I.hok.fresh (Nat.le_refl _), rfl, fun ys hy => by rw [I.tuple_inj hy hq]; exact hx⟩, ⟨⟨y, ?_⟩, hit'.1.at fun o q => (sb.2 it (Ne.symm hne)).trans q, hne⟩, fun b hb => ?_⟩
    · have e1 : ((i + 1 : Nat) : Int) = (i : Int) + 1 := by omega
      rw [e1]
      exact he'
    · have hb' : b < s.heap.objs.size := by
        rcases (show b = e ∨ b = it by simpa using hb) with z | z
        · rw [z]; exact hel
        · rw [z]; exact hil
      rw [upd_ne (Nat.ne_of_lt hb')]
      exact (hf b hb).1
  done := by
    rintro X rfl rfl rfl hc i pins s σ H E I hf ⟨⟨old, he⟩, hit, hne⟩ ⟨xs, hq, hx⟩
    obtain ⟨its, rv, tp, _⟩ := I.tuple hq
    obtain ⟨f0, f1, f2, f3, f4, f5⟩ := hf it (by simp)
    have hl := rv.length
    have el : i = its.toArray.size := by simp; omega
    subst el
    exact wpAny_pyNext_enum_endD (Draws.tuple (A := X.A.in1) (show X.A.in1.handled = none from I.ok.hd hc) it a hai its.toArray) he ⟨hit, tp⟩ fun h' eb => ⟨rfl, I.turned (t' := s.toks) (fun b o hb q => eb b o hb q) f0 f1 f3 f4 f5⟩
  self := fun A i s Q E st h => let ⟨⟨_, he⟩, _⟩ := st; wpAny_pyIter_enum he h
/-- enumerate(e), a list or a tuple -/
def iEnumA (K : PySem.W.Frag) (ta : TA) : TI := fun σ H R => ta σ H fun vs H1 => ∃ a xs, vs = [.ref a] ∧ ((SqL K H1 a xs ∧ R (Ite K a) H1) ∨ (SqT K H1 a xs ∧ R (IteT K a) H1))
theorem pi_enumA {X : Cx} {e : Expr} {ta : TA} {p pos tpos : Pos} {elts : List Expr} {kk : Nat} (hg : Gl X "enumerate") (hm : X.mg "enumerate" = none) (ha : PA X [e] ta) (hs : starEach [e] X.env = [(false, eval e X.env)] := by rfl) :
    PI X (.Tuple elts kk tpos) (.Call (.Name "enumerate" p) [e] [] pos) (iEnumA X.K ta) := by
  refine ⟨fun pins s σ H R I h => ?_⟩
  refine Call_ (ld_blt I hg hm boot_enumerate (PyProof.Rows.callWith_type1 (thn (ha.run pos pins s σ H _ I h) fun us s1 ⟨vs, H1, I1, r1, q1⟩ => ?_) hs rfl))
  obtain ⟨a, xs, ex, q⟩ := q1
  subst ex
  cases r1 with
  | cons r rr =>
    cases rr
    cases r
    rcases q with ⟨hq, q⟩ | ⟨hq, q⟩
    · obtain ⟨its, rv, p', hz⟩ := I1.list hq
      refine call_enumerate_list p'.isList fun h' he hit hsz hk => wpAny_pyIter_enum he ?_
      have I2 : Inv X pins σ H1 { s1 with heap := h' } := I1.kept (t' := s1.toks) hk
      refine ⟨s1.heap.objs.size + 1, [s1.heap.objs.size + 1, s1.heap.objs.size], _, _, H1, rfl, I2, turn_enum a (s1.heap.objs.size + 1) s1.heap.objs.size, ⟨⟨.none, he⟩, hit, Nat.succ_ne_self _⟩, fun b hb => ?_, q⟩
      rcases (show b = s1.heap.objs.size + 1 ∨ b = s1.heap.objs.size by simpa using hb) with z | z
      · rw [z]; exact I1.fpOk (Nat.le_succ _) (I1.hok.fresh (Nat.le_succ _))
      · rw [z]; exact I1.fpOk (Nat.le_refl _) (I1.hok.fresh (Nat.le_refl _))
    · obtain ⟨its, rv, p', hz⟩ := I1.tuple hq
      have hal : a < s1.heap.objs.size := by obtain ⟨_, q, _⟩ := id p'; exact Heap.lt_size q
      refine PySem.K11S.call_enum (begins_tuple a its.toArray) p' fun h' he hit hsz hk => wpAny_pyIter_enum he ?_
      have I2 : Inv X pins σ H1 { s1 with heap := h' } := I1.kept (t' := s1.toks) hk
      refine ⟨s1.heap.objs.size + 1, [s1.heap.objs.size + 1, s1.heap.objs.size], _, _, H1, rfl, I2, turn_enumT a (s1.heap.objs.size + 1) s1.heap.objs.size (Nat.ne_of_lt hal) (Nat.ne_of_gt (Nat.lt_succ_of_lt hal)), ⟨⟨.none, he⟩, ⟨_, hit, rfl, rfl⟩, Nat.succ_ne_self _⟩, fun b hb => ?_, q⟩
      rcases (show b = s1.heap.objs.size + 1 ∨ b = s1.heap.objs.size by simpa using hb) with z | z
      · rw [z]; exact I1.fpOk (Nat.le_succ _) (I1.hok.fresh (Nat.le_succ _))
      · rw [z]; exact I1.fpOk (Nat.le_refl _) (I1.hok.fresh (Nat.le_refl _))
section
variable {K : PySem.W.Frag} {H : Hp} {σ : L2.St} {tA : TA} {ds : List PyData}
theorem wk_enumT {p : Addr} {xs : List V} (sp : SqT K H p xs) (dp : DpAll K H xs ds) : WkD K (IteT K p) (enumD 0 ds) H := by
  have hl := enumD_len 0 ds
  refine ⟨fun i H' hi e' => ?_, fun H' e' => ⟨xs, ex_t e' sp, by rw [dp.len, hl]⟩⟩
  have hx : i < xs.length := by rw [dp.len, ← hl]; exact hi
  refine ⟨⟨xs, xs[i], ex_t e' sp, by simp [hx]⟩, fun x H'' y => ?_⟩
  obtain ⟨T, y, rfl, nT, rfl, fy⟩ := y
  obtain ⟨d, hd, dd⟩ := dp.get (fy xs (ex_t e' sp))
  refine ⟨Ex.new nT, _, enumD_get 0 ds i d hd, .tup (st_of (by rw [cut_new nT, upd_same])) ?_⟩
  have e0 : ((0 + i : Nat) : Int) = (i : Int) := by omega
  rw [e0]
  exact .cons (.int _) (.cons (dd.ex (cut_keep (Ex.new nT) e')) .nil)
/-- the items of a list or of a tuple -/
def seqOf : PyData → Option (List PyData)
  | .list ds => some ds
  | .tuple ds => some ds
  | _ => none
theorem i_enumA {d : PyData} (h : EvDA K tA σ H [d]) (hd : seqOf d = some ds) : EvI K (iEnumA K tA) σ H (enumD 0 ds) := fun H1 a R q => h H1 a _ fun vs H2 e hv => by
  obtain ⟨v, rfl, h1⟩ := dp1 hv
  cases d with
  | list es =>
    cases hd
    obtain ⟨p, xs, rfl, sp, dp⟩ := h1.list_of
    exact ⟨p, xs, rfl, .inl ⟨sp, q _ H2 e (wk_enumL sp dp)⟩⟩
  | tuple es =>
    cases hd
    obtain ⟨p, xs, rfl, sp, dp⟩ := h1.tup_of
    exact ⟨p, xs, rfl, .inr ⟨sp, q _ H2 e (wk_enumT sp dp)⟩⟩
  | _ => cases hd
end
/-! ### calls by keywords alone -/
/-- a def that keeps its promise, called by place or by all its names -/
def OkK (CX : CXT) (P : Program) (w : World) (K : PySem.W.Frag) (mg : Str → Option Value) (base : Heap) (k : Nat) (x : Str) (ps : List Str) (sp : Sp) : Prop :=
  ∃ f fd, mg x = some (.ref f) ∧ PySem.W.keepIn K (.ref f) = true ∧ Binds K fd ps [] ∧ (∀ (s : Shared) (us : List Value), us.length = ps.length → BindsTo s fd ⟨[], ps.zip us⟩ (ps.zip us)) ∧ FnOk P w K mg base CX k f fd ps sp
section
variable {P : Program} {w : World} {K : PySem.W.Frag} {mg : Str → Option Value} {base : Heap} {x : Str} {st : Stmt} {N ps : List Str} {sp : Sp} {k : Nat} {CX : CXT}
theorem OkK.toF (o : OkK CX P w K mg base k x ps sp) : OkF CX P w K mg base k x ps sp := by
  obtain ⟨f, fd, h1, h2, h3, _, h4⟩ := o
  exact ⟨f, fd, h1, h2, h3, h4⟩
def BindsN (x : Str) (st : Stmt) (ps : List Str) : Prop := ∀ (kV doc pm : Value) (an : Option Addr) (cdv ct : Value) (us : List Value), us.length = ps.length → bindArgs (PySem.W.fnOf x x (defArgs st) (defBody st) (defScope st) .none kV doc pm an cdv ct) ⟨[], ps.zip us⟩ = pure (ps.zip us)
theorem okK_of (n : Nm K mg x st) (S : FnScope N ps (defScope st)) (hb : BindsP x st ps) (hn : BindsN x st ps) (len : ∀ vs H Q E, sp vs H Q E → vs.length = ps.length)
    (hbody : ∀ (f : Addr) (cdv : Value) (A : Around) (outer : List Env) (s : Shared) (H : Hp) (vs : List V) (Q : VK) (E : XK), Room k (A.deeper (envOfC x (defScope st) s.heap.objs.size f cdv)) → sp vs H Q E →
      ∃ t, PSs (cxOf CX P w K mg base N x (defScope st) f cdv A outer s H E) (defBody st) t ∧ t { nx := fun _ H' => Q .non H', rt := Q } (start N vs) H) : OkK CX P w K mg base (k + 1) x ps sp := by
  obtain ⟨f, fd, hm, F⟩ := n
  refine ⟨f, fd, hm, F.kp, F.bindsN hb, fun s us hl => ?_, F.ok S len (hbody f)⟩
  obtain ⟨oc, od, dV, kV, doc, pm, an, cdv, ct, osl, rfl, lk, hcd, hD, hK⟩ := F.ex
  rcases hD with ⟨_, rfl⟩ | ⟨e, _⟩
  · exact BindsTo.of_eq (hn kV doc pm an cdv ct us hl)
  · exact absurd rfl e
end
section
variable {X : Cx} {x : Str} {ps : List Str} {sp : Sp} {k : Nat} {CX : CXT} {E : XK} {kws : List Keyword} {tk : TA} {p pos : Pos}
theorem pe_ownN (o : OkK CX X.prog X.w X.K X.mg X.base k x ps sp) (hr : Room k X.A) (hx : Passes CX X E) (hg : Gl X x) (hkw : PK X kws tk) (hall : (backToKw pos (keywordEach kws X.env)).all (·.1.isSome) = true := by rfl)
    (hks : (backToKw pos (keywordEach kws X.env)).filterMap (·.1) = ps := by rfl) (hdb : (x == ("__debug__" : Str)) = false := by decide)
    (hpl : ((backTo pos (starEach [] X.env)).any (·.1) || (backToKw pos (keywordEach kws X.env)).any (·.1.isNone)) = false := by rfl) : PE X (.Call (.Name x p) [] kws pos) (tCall sp [] E tk) := by
  obtain ⟨f, fd, h1, h2, h3, h5, h4⟩ := o
  refine ⟨fun pins s σ H Q I h => ?_⟩
  refine wpAny_Call_Name_kw (ld_glob I hg h1 ?_ hdb)
  refine PySem.W.callWith_KW0 (h₀ := X.base) I.ok.mod.kin h2 hall ?_ hpl
  refine thn (hkw.run pos pins s σ H _ I h) fun ws s2 ⟨zs, H2, I2, rz, q2⟩ => ⟨I2.kIn, ?_⟩
  rw [hks]
  have q3 : sp zs H2 Q E := by
    have q3 : sp (zs ++ []) H2 Q E := q2
    rw [List.append_nil] at q3
    exact q3
  have hl : ws.length = ps.length := by rw [← rz.length]; exact h4.len _ _ _ _ q3
  refine wpAny_call (codeAny_mono (h4.run X.A X.stack s2 H2 ⟨[], ps.zip ws⟩ ws zs Q E hr I2.env0 (h5 s2 ws hl) rz q3) fun r s' hq => ?_)
  cases r with
  | error e => exact hx pins σ H2 s2 e s' I2 hq
  | ok fl =>
    cases fl with
    | ret u => exact I2.after hq
    | next => exact False.elim hq
    | brk => exact False.elim hq
    | cont => exact False.elim hq
end
/-! ### o.f as one of several targets -/
def gFld (K : PySem.W.Frag) (to : TE) (f : Str) : TG := fun y σ H Q => to σ H fun x H2 => ∃ a C dx fs, x = .ref a ∧ H2 a = some (.ins C dx fs) ∧ Cls K C ∧ NoAttr K C f ∧ fs.length < 1000 ∧ Q σ (upd H2 a (.ins C dx (putF f y fs)))
theorem pg_fld {X : Cx} {o : Expr} {to : TE} {f : Str} {pos : Pos} (ho : PE X o to) : PG X (.Attribute o f pos) (gFld X.K to f) := by
  refine ⟨fun pins s σ H v u Q I r h => ?_⟩
  rw [arm_assign_Attribute]
  refine wpAny_bind (wpAny_holding (thn (ho.run pins s σ H _ I h) fun ov s1 ⟨x, H1, I1, r1, a, C, dx, fs, ex, ea, c, n, l, q⟩ => ?_))
  subst ex
  obtain rfl : ov = Value.ref a := r1
  refine wpAny_bind (wpAny_standAt (wpAny_bind (wpAny_holding ?_)))
  exact setattr_ok I1 ea c n l r fun s3 I3 => wpAny_release ⟨σ, _, I3, q⟩
/-! ### sources that are a list or a tuple -/
section
variable {X : Cx} {K : PySem.W.Frag}
theorem PI.or {tg it : Expr} {w1 w2 : TI} (h1 : PI X tg it w1) (h2 : PI X tg it w2) : PI X tg it (fun σ H R => w1 σ H R ∨ w2 σ H R) :=
  ⟨fun pins s σ H R I h => h.elim (fun q => h1.run pins s σ H R I q) fun q => h2.run pins s σ H R I q⟩
def iSeq (K : PySem.W.Frag) (te : TE) : TI := fun σ H R => iList K te σ H R ∨ iTup K te σ H R
theorem k_piseq (K : PySem.W.Frag) {tg e : Expr} {te : TE} (he : PE X e te) (h : X.K = K := by rfl) : PI X tg e (iSeq K te) := by subst h; exact PI.or (pi_list he) (pi_tup he)
theorem k_pienumA (K : PySem.W.Frag) {e : Expr} {ta : TA} {p pos tpos : Pos} {elts : List Expr} {kk : Nat} (hg : Gl X "enumerate") (hm : X.mg "enumerate" = none) (ha : PA X [e] ta) (hs : starEach [e] X.env = [(false, eval e X.env)] := by rfl) (h : X.K = K := by rfl) :
    PI X (.Tuple elts kk tpos) (.Call (.Name "enumerate" p) [e] [] pos) (iEnumA K ta) := by subst h; exact pi_enumA hg hm ha hs
def rIxA (K : PySem.W.Frag) : R2 := fun x y H Q => rIxL K x y H Q ∨ rIxT K x y H Q
theorem k_ixA (K : PySem.W.Frag) (h : X.K = K := by rfl) : IxR X (rIxA K) := by subst h; exact IxR.or ix_list ix_tup
end
section
variable {K : PySem.W.Frag} {H B : Hp} {σ : L2.St} {te : TE} {ds : List PyData} {d z : PyData} {i : Int}
theorem rd_ixA (hd : seqOf d = some ds) (h : atI ds i = some z) : RD K (rIxA K) d (.int i) z := fun x y H1 hx hy Q q => by
  cases d with
  | list es =>
    cases hd
    exact .inl (rd_ixL h x y H1 hx hy Q q)
  | tuple es =>
    cases hd
    exact .inr (rd_ixT h x y H1 hx hy Q q)
  | _ => cases hd
theorem i_seq (h : EvD K te σ H d) (hd : seqOf d = some ds) : EvI K (iSeq K te) σ H ds := fun H1 a R q => by
  cases d with
  | list es =>
    cases hd
    exact .inl (i_list h H1 a R q)
  | tuple es =>
    cases hd
    exact .inr (i_tup h H1 a R q)
  | _ => cases hd
theorem cd_lenA (hd : seqOf d = some ds) : CD K (rLenS K) [d] (.int (ds.length : Int)) := by
  cases d with
  | list es =>
    cases hd
    exact cd_lenL
  | tuple es =>
    cases hd
    exact cd_lenT
  | _ => cases hd
theorem cd_tupA (hd : seqOf d = some ds) : CD K (rTupS K) [d] (.tuple ds) := by
  cases d with
  | list es =>
    cases hd
    exact cd_tupL
  | tuple es =>
    cases hd
    exact cd_tupT
  | _ => cases hd
theorem ib_enumA {j : Nat} {v : V} (h : σ[j]? = some (some v)) (hv : Dp K B v d) (hd : seqOf d = some ds) : EvIB K (iEnumA K (tCons (tVar j) tNil)) σ B (enumD 0 ds) := fun H1 a R q => by
  cases d with
  | list es =>
    cases hd
    obtain ⟨p, xs, rfl, sp, dp⟩ := hv.list_of
    exact ⟨_, h, p, xs, rfl, .inl ⟨ex_l a sp, q _ H1 (Ex.refl _) (wk_enumL sp dp)⟩⟩
  | tuple es =>
    cases hd
    obtain ⟨p, xs, rfl, sp, dp⟩ := hv.tup_of
    exact ⟨_, h, p, xs, rfl, .inr ⟨ex_t a sp, q _ H1 (Ex.refl _) (wk_enumT sp dp)⟩⟩
  | _ => cases hd
/-- a loop over what B knows -/
theorem s_forIB {D : Ends} {wi : TI} {g : TG} {tu : TS} (hB : Ex B H) (h : EvIB K wi σ B ds)
    (k : ∀ H1, Ex H H1 → ∃ Pv : Nat → L2.St → Hp → Prop, Pv 0 σ H1 ∧ (∀ i σ' H', Pv i σ' H' → Ex B H') ∧
      (∀ i d x σ' H' H'', ds[i]? = some d → Pv i σ' H' → Ex H' H'' → Dp K (cut B H' H'') x d → g x σ' H'' fun σ2 H2 => tu { D with nx := Pv (i + 1), ct := Pv (i + 1), bk := D.nx } σ2 H2) ∧ ∀ σ' H', Pv ds.length σ' H' → D.nx σ' H') : tFor wi g tu D σ H :=
  h H hB _ fun J H1 e wk => by
    obtain ⟨Pv, h0, hk, hs, hd⟩ := k H1 e
    refine ⟨fun i m σ' H' => m = ds.length - i ∧ i ≤ ds.length ∧ Pv i σ' H', ⟨ds.length, by simp, Nat.zero_le _, h0⟩, ?_⟩
    rintro i m σ' H' ⟨rfl, hil, pv⟩
    have ex := hk i σ' H' pv
    by_cases hlt : i < ds.length
    · refine .inr ⟨(wk.1 i H' hlt ex).1, Pv (i + 1), fun σ2 H2 p => ⟨ds.length - (i + 1), by omega, rfl, hlt, p⟩, fun x H'' y => ?_⟩
      obtain ⟨e4, d, hdd, dx⟩ := (wk.1 i H' hlt ex).2 x H'' y
      exact hs i d x σ' H' H'' hdd pv e4 dx
    · have el : i = ds.length := by omega
      subst el
      exact .inl ⟨wk.2 H' ex, hd σ' H' pv⟩
theorem q_forIB {D : Ends} {wi : TI} {g : TG} {tu tz : TS} (hB : Ex B H) (h : EvIB K wi σ B ds)
    (k : ∀ H1, Ex H H1 → ∃ Pv : Nat → L2.St → Hp → Prop, Pv 0 σ H1 ∧ (∀ i σ' H', Pv i σ' H' → Ex B H') ∧
      (∀ i d x σ' H' H'', ds[i]? = some d → Pv i σ' H' → Ex H' H'' → Dp K (cut B H' H'') x d → g x σ' H'' fun σ2 H2 => tu { D with nx := Pv (i + 1), ct := Pv (i + 1), bk := tz D } σ2 H2) ∧ ∀ σ' H', Pv ds.length σ' H' → tz D σ' H') : tSeq (tFor wi g tu) tz D σ H :=
  s_forIB (D := { D with nx := tz D }) hB h k
end
/-! ### the class Book, the exceptions -/
structure Bk (K : PySem.W.Frag) (mg : Str → Option Value) (C fI : Addr) : Prop where
  g : mg "Book" = some (.ref C)
  cl : Cls K C
  n1 : NoAttr K C "sorts"
  n2 : NoAttr K C "kinds"
  n3 : NoAttr K C "pairings"
  n4 : NoAttr K C "by_lot"
  n5 : NoAttr K C "known_round"
  mkr : Mk K C fI
  ha : PySem.W.findIn K (.ref C) "__class__" = some (some (.builtin "object.__class__"))
  hn : PySem.W.specialIn K (.builtin "object.__class__") "__get__" = some (some (.builtin "getset_descriptor.__get__"))
  htk : PySem.W.takesIn K (.builtin "object.__class__") = some true
  hm : PySem.W.mroIn K C (.type "object") = some true
  y : PySem.W.kitOne K (.ref C) (.ref C) = some true
  no : PySem.W.kitOne K (.type "NoneType") (.ref C) = some false
structure Es (P : Program) (w : World) (K : PySem.W.Frag) (mg : Str → Option Value) (C fI B1 B2 : Addr) : Prop where
  bk : Bk K mg C fI
  ib : ExcOk P w K mg "InvalidBook" B1
  ip : ExcOk P w K mg "InvalidPairs" B2
  x22 : PySem.W.exmOne K (.ref B2) (.ref B2) = some true
  x12 : PySem.W.exmOne K (.ref B1) (.ref B2) = some false
  x11 : PySem.W.exmOne K (.ref B1) (.ref B1) = some true
/-- a Book at b -/
structure BkAt (C : Addr) (H : Hp) (b : Addr) (S U : Int) (D : Addr) : Prop where
  ex : ∃ dx fs, H b = some (.ins C dx fs) ∧ fs.lookup ("sorts" : Str) = some (.int S) ∧ fs.lookup ("kinds" : Str) = some (.int U) ∧ fs.lookup ("by_lot" : Str) = some (.ref D)
theorem BkAt.mono {C b D : Addr} {H H' : Hp} {S U : Int} (h : BkAt C H b S U D) (e : H' b = H b) : BkAt C H' b S U D := by
  obtain ⟨dx, fs, h1, h2⟩ := h.ex
  exact ⟨dx, fs, e.trans h1, h2⟩
theorem BkAt.up {C b D : Addr} {H H' : Hp} {S U : Int} (h : BkAt C H b S U D) (e : Ex H H') : BkAt C H' b S U D := by
  obtain ⟨dx, fs, h1, h2⟩ := h.ex
  exact ⟨dx, fs, e _ _ h1, h2⟩
theorem BkAt.fr {K : PySem.W.Frag} {L : List Addr} {C b D : Addr} {H H' : Hp} {S U : Int} (h : BkAt C H b S U D) (f : Fr K L H H') (n : b ∉ L) : BkAt C H' b S U D := by
  obtain ⟨dx, fs, h1, h2⟩ := h.ex
  exact ⟨dx, fs, f.at h1 n, h2⟩
section
variable {K : PySem.W.Frag} {mg : Str → Option Value} {C fI b D : Addr} {H : Hp} {σ : L2.St} {te : TE} {S U : Int}
theorem d_sorts (B : Bk K mg C fI) (h : Ev te σ H (.ref b)) (hb : BkAt C H b S U D) : EvD K (tFld K te "sorts") σ H (.int S) := d_int fun H1 e Q q => by
  obtain ⟨dx, fs, h1, h2, h3, h4⟩ := hb.ex
  exact h H1 e _ fun H2 e2 => ⟨b, C, dx, fs, _, rfl, (e.trans e2) _ _ h1, B.cl, B.n1, h2, q H2 e2⟩
theorem d_kinds (B : Bk K mg C fI) (h : Ev te σ H (.ref b)) (hb : BkAt C H b S U D) : EvD K (tFld K te "kinds") σ H (.int U) := d_int fun H1 e Q q => by
  obtain ⟨dx, fs, h1, h2, h3, h4⟩ := hb.ex
  exact h H1 e _ fun H2 e2 => ⟨b, C, dx, fs, _, rfl, (e.trans e2) _ _ h1, B.cl, B.n2, h3, q H2 e2⟩
theorem ev_byLot (B : Bk K mg C fI) (h : Ev te σ H (.ref b)) (hb : BkAt C H b S U D) : Ev (tFld K te "by_lot") σ H (.ref D) := fun H1 e Q q => by
  obtain ⟨dx, fs, h1, h2, h3, h4⟩ := hb.ex
  exact h H1 e _ fun H2 e2 => ⟨b, C, dx, fs, _, rfl, (e.trans e2) _ _ h1, B.cl, B.n4, h4, q H2 e2⟩
theorem et_book (B : Bk K mg C fI) (h : Ev te σ H (.ref b)) (hb : BkAt C H b S U D) : EvT (tB (tCB (rIsi K) (tCons te (tCons (tC (.ref C)) tNil)))) σ H true := fun H1 e Q q => by
  obtain ⟨dx, fs, h1, h2⟩ := hb.ex
  exact h H1 e _ fun H2 e2 => ⟨_, _, _, _, _, rfl, .own C, .base (.ins ((e.trans e2) _ _ h1) B.cl B.ha B.hn B.htk B.hm), B.y, true, rfl, q H2 e2⟩
theorem et_nobook (B : Bk K mg C fI) (h : Ev te σ H .non) : EvT (tB (tCB (rIsi K) (tCons te (tCons (tC (.ref C)) tNil)))) σ H false := fun H1 e Q q =>
  h H1 e _ fun H2 e2 => ⟨_, _, _, _, _, rfl, .own C, .base .non, B.no, false, rfl, q H2 e2⟩
end
end K11
/-! books, pairs, deals -/
namespace K11
open PySem PySem.Spec PyProof.Rows L2 Evl
theorem passF {X : Cx} : Passes (L2.CX X.prog X.w) X (fun _ _ _ => False) := fun _ _ _ _ _ _ _ ⟨_, _, _, _, _, _, _, _, _, _, _, _, z⟩ => z.elim
/-- an exception of the class at B with at = n leaves, some heap behind H -/
def raisesAt (H : Hp) (E : XK) (B : Addr) (n : Int) : Prop := ∀ H' d0, Ex H H' → H' d0 = none → E (.ref B) (some d0) (upd H' d0 (.xd [(("at" : Str), .int n)]))
theorem raisesAt.up {H H1 : Hp} {E : XK} {B : Addr} {n : Int} (h : raisesAt H E B n) (e : Ex H H1) : raisesAt H1 E B n := fun H' d0 e' nd => h H' d0 (e.trans e') nd
def spNB (C B1 : Addr) : Sp := fun vs H Q E => ∃ v, vs = [v] ∧ ((v = .non ∧ raisesAt H E B1 (-1)) ∨ ∃ b S U D, v = .ref b ∧ BkAt C H b S U D ∧ ∀ H', Ex H H' → Q v H')
theorem spNB_len {C B1 : Addr} {vs : List V} {H : Hp} {Q : VK} {E : XK} (h : spNB C B1 vs H Q E) : vs.length = 1 := by
  obtain ⟨v, rfl, _⟩ := h
  rfl
/-- numbered -/
def enL {α : Type} : Nat → List α → List (Int × α)
  | _, [] => []
  | n, x :: xs => ((n : Int), x) :: enL (n + 1) xs
theorem enL_D {α : Type} (f : α → PyData) : ∀ (n : Nat) (xs : List α), enumD n (xs.map f) = (enL n xs).map fun x => .tuple [.int x.1, f x.2]
  | _, [] => rfl
  | n, x :: xs => by
    rw [List.map_cons, enumD, enL, List.map_cons, enL_D f (n + 1) xs]
def dealP (rows : List (List Int)) : List Pair := (enL 0 rows).flatMap fun x => ((enL 0 x.2).filter fun y => decide (0 < y.2)).map fun y => (x.1, y.1)
section
variable {P : Program} {w : World} {K : PySem.W.Frag} {mg : Str → Option Value} {base : Heap}
theorem sc_need_book : FnScope ["value"] ["value"] (defScope (top 22)) := ⟨rfl, rfl, rfl, by decide +kernel, rfl, by decide +kernel, by decide +kernel⟩
theorem bp_need_book : BindsP "need_book" (top 22) ["value"] := fun _ _ _ _ _ _ us hl => match us, hl with | [_], _ => rfl
theorem o_need_book (W : Gs K mg) {C fI B1 B2 : Addr} (Ew : Es P w K mg C fI B1 B2) : OkF (L2.CX P w) P w K mg base 1 "need_book" ["value"] (spNB C B1) := by
  refine ok_of W.n_need_book sc_need_book bp_need_book (fun vs H Q E h => spNB_len h) (fun f cdv A outer s H vs Q E hr h => ?_)
  refine ⟨_, (pss_cons (ps_if (pt_not (pt_val (pe_callB (k_isi K) (by rfl) W.f_isinstance boot_isinstance (pa_cons (pv 0) (pa_cons (pe_glob (v := .ref C) (by rfl) Ew.bk.g rfl) pa_nil))))) (pss_one (ps_raiseS rfl Ew.ib hr (takes_of rfl rfl rfl rfl) (pa_cons (pe_un un_neg pe_int) pa_nil) (by rfl))) pss_nil)
  (pss_one (ps_ret (pv 0)))), ?_⟩
  obtain ⟨v, rfl, ⟨rfl, q⟩ | ⟨b, S, U, D, rfl, hb, q⟩⟩ := h
  · refine q_if (et_not (et_nobook Ew.bk (ev_var rfl))) (fun _ H1 e1 => ?_) fun z => Bool.noConfusion z
    exact ⟨_, rfl, _, rfl, fun d nd => q H1 d e1 nd⟩
  · refine q_if (et_not (et_book Ew.bk (ev_var rfl) hb)) (fun z => Bool.noConfusion z) fun _ H1 e1 => ?_
    exact s_ret (ev_var rfl) fun H2 e2 => q H2 (e1.trans e2)
theorem sc_deal_pairs : FnScope ["deal", "sort", "row", "kind", "number"] ["deal"] (defScope (top 24)) := ⟨rfl, rfl, rfl, by decide +kernel, rfl, by decide +kernel, by decide +kernel⟩
theorem bp_deal_pairs : BindsP "deal_pairs" (top 24) ["deal"] := fun _ _ _ _ _ _ us hl => match us, hl with | [_], _ => rfl
theorem bn_deal_pairs : BindsN "deal_pairs" (top 24) ["deal"] := fun _ _ _ _ _ _ us hl => match us, hl with | [_], _ => rfl
theorem oK_deal_pairs (W : Gs K mg) : OkK CX0 P w K mg base 1 "deal_pairs" ["deal"] (spD K 1 fun ds d => ∃ (e : PyData) (rows : List (List Int)), ds = [e] ∧ seqOf e = some (rows.map lI) ∧ (dealP rows).length ≤ 40000 ∧ d = .tuple ((dealP rows).map tP)) := by
  refine okK_of W.n_deal_pairs sc_deal_pairs bp_deal_pairs bn_deal_pairs (fun vs H Q E h => spD_len h) (fun f cdv A outer s H vs Q E hr h => ?_)
  refine ⟨_, (PSs.nox
  (pss_one (ps_ret (pe_callTy (k_tup K) (by rfl) W.f_tuple boot_tuple (pa_cons (pe_lc2 (own := [("sort", 1), ("row", 2), ("kind", 3), ("number", 4)]) (vs1 := [3, 4]) rfl sc_deal_pairs.nd (k_pienumA K (by rfl) W.f_enumerate (pa_cons (pv 0) pa_nil)) (blkOk_by (N := ["deal", "sort", "row", "kind", "number"]) (sc := defScope (top 24)) (by decide +kernel)) (by decide) (fun _ _ _ _ _ => (k_pgtup K (n := 2) rfl (pgs_cons (pg_name (i := 1) sc_deal_pairs.nd rfl (.inl rfl)) (pgs_cons (pg_name (i := 2) sc_deal_pairs.nd rfl (.inl rfl)) pgs_nil)))) (fun _ _ _ _ _ => pts_nil) (fun _ _ _ _ _ => (k_pienum K (by rfl) W.f_enumerate (pa_cons (pv 2) pa_nil))) (fun _ _ _ _ _ => (k_pgtup K (n := 2) rfl (pgs_cons (pg_name (i := 3) sc_deal_pairs.nd rfl (.inl rfl)) (pgs_cons (pg_name (i := 4) sc_deal_pairs.nd rfl (.inl rfl)) pgs_nil)))) (fun _ _ _ _ _ => (pts_one (pt_cmpR op_gt (pv 4) pe_int (nomark _)))) (fun _ _ _ _ _ => (pe_tup (pa_cons (pv 1) (pa_cons (pv 3) pa_nil))))) pa_nil))))), ?_⟩
  obtain ⟨ds, d, hn, hd, ⟨e, rows, rfl, hs, hz, rfl⟩, q⟩ := h
  obtain ⟨v, rfl, dv⟩ := dp1 hd
  have eL : (lcT (enL 0 rows) (fun x => enL 0 x.2) (fun _ y => decide (0 < y.2)) fun x y => tP (x.1, y.1)) = (dealP rows).map tP := by
    unfold lcT dealP
    rw [List.map_flatMap]
    simp only [List.map_map]
    rfl
  refine s_retD (d_cb1 (da_one (n_is (n_lc2T (K := K) (fun x : Int × List Int => .tuple [.int x.1, lI x.2]) (fun y : Int × Int => .tuple [.int y.1, .int y.2]) (enL 0 rows) (by rw [← enL_D lI 0 rows]; exact i_enumA (da_one (d_var rfl dv)) hs) (fun x => enL 0 x.2) (fun _ y => decide (0 < y.2)) (fun x y => tP (x.1, y.1)) (by rw [eL, List.length_map]; exact hz) (fun _ _ _ _ _ => rfl) ?_) eL).toD) cd_tupL) fun u H2 e2 du => q u H2 e2 du
  intro x hx y B H1 eB eB1 dy Q1 k
  refine tg_pair dy eB1 fun a b da db => ?_
  refine k _ rfl (by rw [← enL_D PyData.int 0 x.2]; exact ib_enumL rfl db) fun c hc z B2 H3 eB2 eB3 dz Q2 k2 => ?_
  refine tg_pair dz eB3 fun a2 b2 da2 db2 => ?_
  exact k2 _ rfl (t_d (d_op (d_var rfl db2) d_ci rd_gt)) fun _ => d_tup (da_two (d_var rfl (da.ex eB2)) (d_var rfl da2)) (show 2 ≤ 100000 by decide)
theorem o_deal_pairs (W : Gs K mg) : OkF CX0 P w K mg base 1 "deal_pairs" ["deal"] (spD K 1 fun ds d => ∃ (e : PyData) (rows : List (List Int)), ds = [e] ∧ seqOf e = some (rows.map lI) ∧ (dealP rows).length ≤ 40000 ∧ d = .tuple ((dealP rows).map tP)) := (oK_deal_pairs W).toF
end
end K11
/-! pairs as they are passed -/
namespace K11
open PySem PySem.Spec PyProof.Rows L2 Evl
/-- an element that is the pair p -/
def GoodEl (p : Pair) (d : PyData) : Prop := seqOf d = some [.int p.1, .int p.2]
abbrev GoodAll : List Pair → List PyData → Prop := Paired GoodEl
/-- an element that is refused behind the pairs qs -/
def BadEl (S U : Int) (qs : List Pair) (d : PyData) : Prop := noD d ∧ (seqOf d = none ∨ ∃ es, seqOf d = some es ∧ (es.length ≠ 2 ∨ ∃ x y, es = [x, y] ∧ noD x ∧ noD y ∧
  (isBelowD S x = false ∨ (isBelowD S x = true ∧ isBelowD U y = false) ∨ ∃ p ∈ qs, x = .int p.1 ∧ y = .int p.2)))
theorem seq_is {d : PyData} (h : noD d) : isSeqD d = (seqOf d).isSome := by cases d <;> rfl
theorem noD_of {d : PyData} {ds : List PyData} (h : seqOf d = some ds) : noD d := by
  cases d <;> first | exact True.intro | cases h
theorem key_tP {p q : Pair} (h : keyD (tP p) = keyD (tP q)) : p = q := by
  unfold tP at h
  simp [keyD, keyDs] at h
  exact Prod.ext h.1 h.2
theorem kdep_tP (p : Pair) : (keyD (tP p)).depth ≤ 8 := by
  unfold tP
  simp [keyD, keyDs, NestedKey.depth, NestedKey.depthAll]
def spNP (K : PySem.W.Frag) (C B1 B2 : Addr) : Sp := fun vs H Q E => ∃ vb v, vs = [vb, v] ∧ ((vb = .non ∧ raisesAt H E B1 (-1)) ∨ ∃ b S U D d, vb = .ref b ∧ BkAt C H b S U D ∧ Dp K H v d ∧ noD d ∧
  ((seqOf d = none ∧ raisesAt H E B2 (-1)) ∨ ∃ gs qs tl, seqOf d = some (gs ++ tl) ∧ (gs ++ tl).length ≤ 1000 ∧ GoodAll qs gs ∧ qs.Nodup ∧ (∀ p ∈ qs, (0 ≤ p.1 ∧ p.1 < S) ∧ 0 ≤ p.2 ∧ p.2 < U) ∧
    ((tl = [] ∧ ∀ u H', Ex H H' → Dp K H' u (.tuple ((sortP qs).map tP)) → Q u H') ∨ ∃ bad rest, tl = bad :: rest ∧ BadEl S U qs bad ∧ raisesAt H E B2 gs.length)))
theorem spNP_len {K : PySem.W.Frag} {C B1 B2 : Addr} {vs : List V} {H : Hp} {Q : VK} {E : XK} (h : spNP K C B1 B2 vs H Q E) : vs.length = 2 := by
  obtain ⟨vb, v, rfl, _⟩ := h
  rfl
theorem good_len {qs : List Pair} {gs : List PyData} (h : GoodAll qs gs) : qs.length = gs.length := Paired.length h
theorem fresh_take {α : Type} : ∀ {l : List α} {i : Nat} {x : α}, l.Nodup → l[i]? = some x → x ∉ l.take i
  | [], _, _, _, e => by simp at e
  | a :: l, 0, x, _, _ => by simp
  | a :: l, i + 1, x, h, e => by
    rw [List.take_succ_cons]
    intro hm
    have e' : l[i]? = some x := by simpa using e
    rcases List.mem_cons.mp hm with rfl | hm
    · exact (List.nodup_cons.mp h).1 (List.mem_of_getElem? e')
    · exact fresh_take (List.nodup_cons.mp h).2 e' hm
theorem good_get : ∀ {qs : List Pair} {gs : List PyData} {i : Nat} {p : Pair}, GoodAll qs gs → qs[i]? = some p → ∃ d, gs[i]? = some d ∧ GoodEl p d
  | _, _, 0, _, .cons h _, e => ⟨_, rfl, by rw [← Option.some.inj e]; exact h⟩
  | _, _, i + 1, _, .cons _ t, e => good_get (i := i) t e
  | _, _, _, _, .nil, e => by simp at e
theorem good_zip : ∀ {qs : List Pair} {gs : List PyData}, GoodAll qs gs → (gs.zip qs).map (·.1) = gs ∧ (gs.zip qs).map (·.2) = qs ∧ ∀ x ∈ gs.zip qs, GoodEl x.2 x.1
  | _, _, .nil => ⟨rfl, rfl, fun _ h => nomatch h⟩
  | _, _, .cons h t => by
    obtain ⟨a, b, c⟩ := good_zip t
    refine ⟨congrArg (List.cons _) a, congrArg (List.cons _) b, fun x hx => ?_⟩
    rcases List.mem_cons.mp hx with rfl | hx
    · exact h
    · exact c x hx
section
variable {P : Program} {w : World} {K : PySem.W.Frag} {mg : Str → Option Value} {base : Heap}
theorem sc_need_pairs : FnScope ["book", "value", "met", "at", "pair"] ["book", "value"] (defScope (top 25)) := ⟨rfl, rfl, rfl, by decide +kernel, rfl, by decide +kernel, by decide +kernel⟩
theorem bp_need_pairs : BindsP "need_pairs" (top 25) ["book", "value"] := fun _ _ _ _ _ _ us hl => match us, hl with | [_, _], _ => rfl
theorem bn_need_pairs : BindsN "need_pairs" (top 25) ["book", "value"] := fun _ _ _ _ _ _ us hl => match us, hl with | [_, _], _ => rfl
theorem oK_need_pairs (W : Gs K mg) {C fI B1 B2 : Addr} (Ew : Es P w K mg C fI B1 B2) : OkK (L2.CX P w) P w K mg base 4 "need_pairs" ["book", "value"] (spNP K C B1 B2) := by
  refine okK_of W.n_need_pairs sc_need_pairs bp_need_pairs bn_need_pairs (fun vs H Q E h => spNP_len h) (fun f cdv A outer s H vs Q E hr h => ?_)
  refine ⟨_, (pss_cons (ps_expr (k_own (P := P) (w := w) (base := base) (o_need_book W Ew) (hr.mono (by decide)) (passes_call (takes_of rfl rfl rfl rfl) fun _ _ _ _ h => h) (by rfl) (pa_cons (pv 0) pa_nil)))
  (pss_cons (ps_if (pt_not (pt_val (k_own (P := P) (w := w) (base := base) (o_is_sequence W) (hr.mono (by decide)) pass0 (by rfl) (pa_cons (pv 1) pa_nil)))) (pss_one (ps_raiseS rfl Ew.ip hr (takes_of rfl rfl rfl rfl) (pa_cons (pe_un un_neg pe_int) pa_nil) (by rfl))) pss_nil)
  (pss_cons (ps_set (i := 2) sc_need_pairs.nd rfl (.inl rfl) (k_nnew K P w))
  (pss_cons (ps_for (passes_of rfl) rfl (k_pienumA K (by rfl) W.f_enumerate (pa_cons (pv 1) pa_nil)) (k_pgtup K (n := 2) rfl (pgs_cons (pg_name (i := 3) sc_need_pairs.nd rfl (.inl rfl)) (pgs_cons (pg_name (i := 4) sc_need_pairs.nd rfl (.inl rfl)) pgs_nil)))
  (pss_cons (ps_if (PW.pt (pw_or (pt_not (pt_val (k_own (P := P) (w := w) (base := base) (o_is_sequence W) (hr.mono (by decide)) pass0 (by rfl) (pa_cons (pv 4) pa_nil)))) (pw_or (pt_cmpR op_ne (pe_callB (k_len K) (by rfl) W.f_len boot_len (pa_cons (pv 4) pa_nil)) pe_int (nomark _)) (pw_or1 (pt_not (pt_val (k_own (P := P) (w := w) (base := base) (o_is_below W) (hr.mono (by decide)) pass0 (by rfl) (pa_cons (pe_ix (k_ixA K) (pv 4) pe_int (fun _ _ => rfl)) (pa_cons (pe_fld (pv 0) (by rfl)) pa_nil))))))))) (pss_one (ps_raiseS rfl Ew.ip hr (takes_of rfl rfl rfl rfl) (pa_cons (pv 3) pa_nil) (by rfl))) pss_nil)
  (pss_cons (ps_if (PW.pt (pw_or (pt_not (pt_val (k_own (P := P) (w := w) (base := base) (o_is_below W) (hr.mono (by decide)) pass0 (by rfl) (pa_cons (pe_ix (k_ixA K) (pv 4) pe_int (fun _ _ => rfl)) (pa_cons (pe_fld (pv 0) (by rfl)) pa_nil))))) (pw_or1 (pt_cmp (pc_nin (room_n hr) (pe_callTy (k_tup K) (by rfl) W.f_tuple boot_tuple (pa_cons (pv 4) pa_nil)) (pv 2)))))) (pss_one (ps_raiseS rfl Ew.ip hr (takes_of rfl rfl rfl rfl) (pa_cons (pv 3) pa_nil) (by rfl))) pss_nil)
  (pss_one (k_nput K P w (room_n hr) (pv 2) (pe_callTy (k_tup K) (by rfl) W.f_tuple boot_tuple (pa_cons (pv 4) pa_nil)) (pv 3) (by rfl))))))
  (pss_one (ps_ret (pe_callTy (k_tup K) (by rfl) W.f_tuple boot_tuple (pa_cons (pe_callB (k_sortedP K (room_u hr)) (by rfl) W.f_sorted boot_sorted (pa_cons (pe_lc (own := [("pair", 4)]) rfl sc_need_pairs.nd (k_piseq K (pv 1)) (blkOk_by (N := ["book", "value", "met", "at", "pair"]) (sc := defScope (top 25)) (by decide +kernel)) (fun _ _ _ _ _ => (pg_name (i := 4) sc_need_pairs.nd rfl (.inl rfl))) (fun _ _ _ _ _ => pts_nil) (fun _ _ _ _ _ => (pe_callTy (k_tup K) (by rfl) W.f_tuple boot_tuple (pa_cons (pv 4) pa_nil)))) pa_nil)) pa_nil)))))))), ?_⟩
  obtain ⟨vb, v, rfl, ⟨rfl, q⟩ | ⟨b, S, U, D, d, rfl, hb, dv, hd, hq⟩⟩ := h
  · exact ⟨_, rfl, _, rfl, .inl ⟨rfl, q⟩⟩
  refine ⟨_, rfl, _, rfl, .inr ⟨b, S, U, D, rfl, hb, fun H0 e0 => ?_⟩⟩
  have isq : ∀ {σ : L2.St} {H1 : Hp} {x : V} {d : PyData} {i : Nat}, σ[i]? = some (some x) → Dp K H1 x d → noD d → EvT (tNot (tB (tCall (spD K 1 (Rone (fun x => .bool (isSeqD x)) noD)) [] E0 (tCons (tVar i) tNil)))) σ H1 (!(seqOf d).isSome) := fun {σ H1 x d i} hs hx hn => by
    rw [← seq_is hn]
    exact et_not (t_B (d_own (da_one (d_var hs hx)) ⟨d, rfl, hn, rfl⟩))
  rcases hq with ⟨hn, q⟩ | ⟨gs, qs, tl, hds, hlen, hg, hnd, hrng, hend⟩
  · refine q_if (isq (i := 1) rfl (dv.ex e0) hd) (fun _ H1 e1 => ?_) fun z => by rw [hn] at z; cases z
    exact ⟨_, rfl, _, rfl, fun d0 nd => q H1 d0 (e0.trans e1) nd⟩
  have hsq : (seqOf d).isSome = true := by rw [hds]; rfl
  refine q_if (isq (i := 1) rfl (dv.ex e0) hd) (fun z => by rw [hsq] at z; cases z) fun _ H2 e2 => ?_
  have e02 := e0.trans e2
  change tSeq (tAsg (tNNew P w K) (gName 2)) _ _ _ _
  refine q_asgX ?_
  refine fun m H3 nm e3 dm => ?_
  have lg := good_len hg
  have lgs : gs.length ≤ 1000 := by rw [List.length_append] at hlen; omega
  refine q_forIB (K := K) (B := H2) e3 (ib_enumA (j := 1) rfl (dv.ex e02) hds) fun H4 e4 => ⟨fun i σ' H' => ∃ t u G, σ' = [some (.ref b), some v, some (.ref m), t, u] ∧ i ≤ gs.length ∧ Ex H2 H' ∧ DN P w K H' m i G ∧ ∀ p : Pair, (G (keyD (tP p))).isSome = decide (p ∈ qs.take i),
    ⟨none, none, _, rfl, Nat.zero_le _, e3.trans e4, dm.ex e4, fun p => by simp⟩, fun i σ' H' ⟨_, _, _, _, _, h, _⟩ => h, ?_, ?_⟩
  · rintro i d1 x σ' H' H'' hdi ⟨t, u, G, rfl, hi, ex, dn, hG⟩ e5 dx
    obtain ⟨di, hdi2, rfl⟩ : ∃ di, (gs ++ tl)[i]? = some di ∧ d1 = .tuple [.int (i : Int), di] := by
      have hl : i < (gs ++ tl).length := by
        have := (List.getElem?_eq_some_iff.mp hdi).1
        rw [enumD_len] at this
        exact this
      have h1 := enumD_get 0 (gs ++ tl) i ((gs ++ tl)[i]'hl) (List.getElem?_eq_getElem hl)
      rw [hdi] at h1
      refine ⟨_, List.getElem?_eq_getElem hl, ?_⟩
      have h2 := Option.some.inj h1
      rw [h2]
      have e0 : ((0 + i : Nat) : Int) = (i : Int) := by omega
      rw [e0]
    refine tg_two (dx.ex cut_ex) fun a pb da db => ?_
    cases da
    have exH : Ex H H'' := (e02.trans ex).trans e5
    have hb5 := hb.up exH
    have dn5 := dn.ex e5
    have eS : ∀ {H1 : Hp}, Ex H'' H1 → EvD K (tFld K (tVar 0) "sorts") [some (.ref b), some v, some (.ref m), some (.int (i : Int)), some pb] H1 (.int S) := fun e => d_sorts Ew.bk (ev_var rfl) (hb5.up e)
    have eU : ∀ {H1 : Hp}, Ex H'' H1 → EvD K (tFld K (tVar 0) "kinds") [some (.ref b), some v, some (.ref m), some (.int (i : Int)), some pb] H1 (.int U) := fun e => d_kinds Ew.bk (ev_var rfl) (hb5.up e)
    by_cases hlt : i < gs.length
    · have hgi : gs[i]? = some di := by rw [← hdi2, List.getElem?_append_left hlt]
      obtain ⟨p, hp⟩ : ∃ p, qs[i]? = some p := ⟨qs[i]'(by omega), List.getElem?_eq_getElem (by omega)⟩
      obtain ⟨di', hdi', hgd⟩ := good_get hg hp
      rw [hgi] at hdi'
      cases hdi'
      have hpm : p ∈ qs := List.mem_of_getElem? hp
      obtain ⟨⟨p1, p2⟩, p3, p4⟩ := hrng p hpm
      have hes : seqOf di = some [.int p.1, .int p.2] := hgd
      have hnew : p ∉ qs.take i := fresh_take hnd hp
      refine q_if (b := false) (et_is (et_or (isq (i := 4) rfl db (noD_of hes)) fun _ => et_or (t_d (d_op (d_cb1 (da_one (d_var rfl db)) (cd_lenA hes)) d_ci rd_neI)) fun _ => et_not (t_B (d_own (da_two (d_op (d_var rfl db) d_ci (rd_ixA hes atI_z)) (eS (Ex.refl _))) ⟨_, S, rfl, True.intro, rfl⟩))) ?_) (fun z => Bool.noConfusion z) fun _ H6 e6 => ?_
      · rw [hes]
        simp [isBelowD, p1, p2]
      refine q_if (b := false) (et_is (et_or (et_not (t_B (d_own (da_two (d_op (d_var rfl (db.ex e6)) d_ci (rd_ixA hes atI_one)) (eU e6)) ⟨_, U, rfl, True.intro, rfl⟩))) fun _ => t_B (d_nin (ev_var rfl) (dn5.ex e6) (d_cb1 (da_one (d_var rfl (db.ex e6))) (cd_tupA hes)) rfl (kdep_tP p))) ?_) (fun z => Bool.noConfusion z) fun _ H7 e7 => ?_
      · have := hG p
        rw [decide_eq_false hnew] at this
        rw [show (G (keyD (.tuple [.int p.1, .int p.2]))).isSome = false from this]
        simp [isBelowD, p3, p4]
      · refine s_nput (K := K) (d := .int (i : Int)) (d_var rfl (.int _)) rfl (ev_var rfl) (dn5.ex (e6.trans e7)) (by omega) (d_cb1 (da_one (d_var rfl (db.ex (e6.trans e7)))) (cd_tupA hes)) rfl (kdep_tP p) fun H8 w8 d8 => ⟨_, _, _, rfl, hlt, w8.exB ((ex.trans e5).trans (e6.trans e7)) nm, d8, fun p' => ?_⟩
        show (if keyD (tP p') = keyD (tP p) then some (PyData.int (i : Int)) else G (keyD (tP p'))).isSome = _
        by_cases hpp : p' = p
        · rw [hpp, if_pos rfl, take_succ_of hp]
          simp
        · rw [if_neg (fun z => hpp (key_tP z)), hG p', take_succ_of hp]
          have : p' ∈ qs.take i ++ [p] ↔ p' ∈ qs.take i := by simp [hpp]
          exact decide_eq_decide.mpr this.symm
    · have hi0 : i = gs.length := by omega
      subst hi0
      rcases hend with ⟨rfl, _⟩ | ⟨bad, rest, rfl, hbad, q⟩
      · rw [List.append_nil] at hdi2
        exact absurd (List.getElem?_eq_some_iff.mp hdi2).1 (Nat.lt_irrefl _)
      have hbi : bad = di := by
        rw [List.getElem?_append_right (Nat.le_refl _), Nat.sub_self] at hdi2
        exact Option.some.inj hdi2
      subst hbi
      obtain ⟨hnb, hb2⟩ := hbad
      have out : ∀ {H6 : Hp}, Ex H'' H6 → (tCons (tVar 3) tNil) [some (.ref b), some v, some (.ref m), some (.int (gs.length : Int)), some pb] H6 fun vs H1 => ∃ v, vs = [v] ∧ ∀ d, H1 d = none → E (.ref B2) (some d) (upd H1 d (.xd [(("at" : Str), v)])) := fun e6 => ⟨_, rfl, _, rfl, fun d0 nd => q _ d0 (exH.trans e6) nd⟩
      rcases hb2 with hns | ⟨es, hes, hb3⟩
      · refine q_if (b := true) (et_is (et_or (b := true) (isq (i := 4) rfl db hnb) fun z => by rw [hns] at z; cases z) (by rw [hns]; rfl)) (fun _ H6 e6 => out e6) fun z => Bool.noConfusion z
      by_cases h2 : es.length = 2
      · obtain ⟨x, y, rfl, hnx, hny, hc⟩ := hb3.resolve_left (fun z => z h2)
        rcases hc with hx0 | hc
        · refine q_if (b := true) (et_is (et_or (isq (i := 4) rfl db hnb) fun _ => et_or (t_d (d_op (d_cb1 (da_one (d_var rfl db)) (cd_lenA hes)) d_ci rd_neI)) fun _ => et_not (t_B (d_own (da_two (d_op (d_var rfl db) d_ci (rd_ixA hes atI_z)) (eS (Ex.refl _))) ⟨_, S, rfl, hnx, rfl⟩))) (by rw [hes, hx0]; rfl)) (fun _ H6 e6 => out e6) fun z => Bool.noConfusion z
        · have hx1 : isBelowD S x = true := by
            rcases hc with ⟨hx1, _⟩ | ⟨p, hp, rfl, rfl⟩
            · exact hx1
            · obtain ⟨⟨p1, p2⟩, p3, p4⟩ := hrng p hp
              simp [isBelowD, p1, p2]
          refine q_if (b := false) (et_is (et_or (isq (i := 4) rfl db hnb) fun _ => et_or (t_d (d_op (d_cb1 (da_one (d_var rfl db)) (cd_lenA hes)) d_ci rd_neI)) fun _ => et_not (t_B (d_own (da_two (d_op (d_var rfl db) d_ci (rd_ixA hes atI_z)) (eS (Ex.refl _))) ⟨_, S, rfl, hnx, rfl⟩))) (by rw [hes, hx1]; rfl)) (fun z => Bool.noConfusion z) fun _ H6 e6 => ?_
          rcases hc with ⟨_, hy0⟩ | ⟨p, hp, rfl, rfl⟩
          · refine q_if (b := true) (et_is (et_or (b := true) (et_not (t_B (d_own (da_two (d_op (d_var rfl (db.ex e6)) d_ci (rd_ixA hes atI_one)) (eU e6)) ⟨_, U, rfl, hny, rfl⟩))) fun z => by rw [hy0] at z; cases z) (by rw [hy0]; rfl)) (fun _ H7 e7 => out (e6.trans e7)) fun z => Bool.noConfusion z
          · refine q_if (b := true) (et_is (et_or (et_not (t_B (d_own (da_two (d_op (d_var rfl (db.ex e6)) d_ci (rd_ixA hes atI_one)) (eU e6)) ⟨_, U, rfl, True.intro, rfl⟩))) fun _ => t_B (d_nin (ev_var rfl) (dn5.ex e6) (d_cb1 (da_one (d_var rfl (db.ex e6))) (cd_tupA hes)) rfl (kdep_tP p))) ?_) (fun _ H7 e7 => out (e6.trans e7)) fun z => Bool.noConfusion z
            have := hG p
            rw [← lg, List.take_length, decide_eq_true hp] at this
            rw [show (G (keyD (.tuple [.int p.1, .int p.2]))).isSome = true from this, Bool.or_true]
      · refine q_if (b := true) (et_is (et_or (isq (i := 4) rfl db hnb) fun _ => et_or (b := true) (t_d (d_op (d_cb1 (da_one (d_var rfl db)) (cd_lenA hes)) d_ci rd_neI)) fun z => ?_) ?_) (fun _ H6 e6 => out e6) fun z => Bool.noConfusion z
        · exfalso
          simp at z
          omega
        · rw [hes]
          simp
  · rintro σ' H' ⟨t, u, G, rfl, hi, ex, dn, hG⟩
    rcases hend with ⟨rfl, q⟩ | ⟨bad, rest, rfl, _, _⟩
    · rw [List.append_nil] at hds hlen
      obtain ⟨z1, z2, z3⟩ := good_zip hg
      have exH := e02.trans ex
      refine s_retD (d_cb1 (da_one (n_cb1 (da_one (n_is (n_lcT (K := K) (fun x : PyData × Pair => x.1) (gs.zip qs) (i_seq (d_var rfl (dv.ex exH)) (by rw [z1]; exact hds)) (fun _ => true) (fun x => tP x.2) (by rw [List.length_zip]; omega) (fun _ _ _ => rfl) ?_) (es := qs.map tP) ?_).toD) (cn_sortedP (by omega))).toD) cd_tupL) fun u2 H6 e6 du => q u2 H6 (exH.trans e6) du
      · intro x hx y B H1 eB eB1 dy Q1 k
        exact k _ rfl et_yes fun _ => d_cb1 (da_one (d_var rfl dy)) (cd_tupA (z3 x hx))
      · rw [filt_all]
        have : (gs.zip qs).map (fun x => tP x.2) = ((gs.zip qs).map (·.2)).map tP := by rw [List.map_map]; rfl
        rw [this, z2]
    · rw [enumD_len, List.length_append, List.length_cons] at hi
      omega
theorem o_need_pairs (W : Gs K mg) {C fI B1 B2 : Addr} (Ew : Es P w K mg C fI B1 B2) : OkF (L2.CX P w) P w K mg base 4 "need_pairs" ["book", "value"] (spNP K C B1 B2) := (oK_need_pairs W Ew).toF
end
end K11
/-! the least untold lot, told by the program -/
namespace K11
open PySem PySem.Spec PyProof.Rows L2 Evl
/-- a Book at b whose table is T, pairs ps as they are passed -/
structure Ask (P : Program) (w : World) (K : PySem.W.Frag) (C : Addr) (H : Hp) (b : Addr) (v : V) (S U : Int) (T : Lot → Option Row) (ps : List Pair) : Prop where
  ex : ∃ D d n qs gs, BkAt C H b S U D ∧ DT P w K H D n T ∧ Dp K H v d ∧ noD d ∧ seqOf d = some gs ∧ GoodAll qs gs ∧ qs.Nodup ∧ sortP qs = ps ∧ ∀ p ∈ qs, (0 ≤ p.1 ∧ p.1 < S) ∧ 0 ≤ p.2 ∧ p.2 < U
  sS : small S
  sU : small U
  ok : PairsOk S U ps
  told : ∀ n js, js ∈ lvl ps n → (T (keyL js)).isSome = true
def spUL (P : Program) (w : World) (K : PySem.W.Frag) (C : Addr) (R : (Lot → Option Row) → List Pair → PyData) : Sp := fun vs H Q _ => ∃ b v S U T ps, vs = [V.ref b, v] ∧ Ask P w K C H b v S U T ps ∧ ∀ u H', Ex H H' → Dp K H' u (R T ps) → Q u H'
theorem spUL_len {P : Program} {w : World} {K : PySem.W.Frag} {C : Addr} {R : (Lot → Option Row) → List Pair → PyData} {vs : List V} {H : Hp} {Q : VK} {E : XK} (h : spUL P w K C R vs H Q E) : vs.length = 2 := by
  obtain ⟨b, v, S, U, T, ps, rfl, _⟩ := h
  rfl
theorem Ask.up {P : Program} {w : World} {K : PySem.W.Frag} {C : Addr} {H H' : Hp} {b : Addr} {v : V} {S U : Int} {T : Lot → Option Row} {ps : List Pair} (h : Ask P w K C H b v S U T ps) (e : Ex H H') : Ask P w K C H' b v S U T ps := by
  obtain ⟨⟨D, d, n, qs, gs, hb, dt, dv, r⟩, hS, hU, ok, told⟩ := h
  exact ⟨⟨D, d, n, qs, gs, hb.up e, dt.ex e, dv.ex e, r⟩, hS, hU, ok, told⟩
theorem d_ul {P : Program} {w : World} {K : PySem.W.Frag} {C : Addr} {H : Hp} {σ : L2.St} {b : Addr} {v : V} {S U : Int} {T : Lot → Option Row} {ps : List Pair} {R : (Lot → Option Row) → List Pair → PyData} {E : XK} {te tf : TE}
    (h1 : Ev te σ H (.ref b)) (h2 : Ev tf σ H v) (a : Ask P w K C H b v S U T ps) : EvD K (tCall (spUL P w K C R) [] E (tCons te (tCons tf tNil))) σ H (R T ps) := fun H1 e Q q =>
  h1 H1 e _ fun H2 e2 => h2 H2 (e.trans e2) _ fun H3 e3 => ⟨b, v, S, U, T, ps, rfl, a.up ((e.trans e2).trans e3), fun u H' e' du => q u H' ((e2.trans e3).trans e') du⟩
section
variable {P : Program} {w : World} {K : PySem.W.Frag} {mg : Str → Option Value} {base : Heap}
theorem sc_untold_lot : FnScope ["book", "pairs", "pairings", "lots", "jobs", "slots", "lot"] ["book", "pairs"] (defScope (top 27)) := ⟨rfl, rfl, rfl, by decide +kernel, rfl, by decide +kernel, by decide +kernel⟩
theorem bp_untold_lot : BindsP "untold_lot" (top 27) ["book", "pairs"] := fun _ _ _ _ _ _ us hl => match us, hl with | [_, _], _ => rfl
theorem bn_untold_lot : BindsN "untold_lot" (top 27) ["book", "pairs"] := fun _ _ _ _ _ _ us hl => match us, hl with | [_, _], _ => rfl
theorem oK_untold_lot (W : Gs K mg) {C fI B1 B2 : Addr} (Ew : Es P w K mg C fI B1 B2) : OkK CX0 P w K mg base 5 "untold_lot" ["book", "pairs"] (spUL P w K C fun T ps => dueD (due T ps)) := by
  refine okK_of W.n_untold_lot sc_untold_lot bp_untold_lot bn_untold_lot (fun vs H Q E h => spUL_len h) (fun f cdv A outer s H vs Q E hr h => ?_)
  refine ⟨_, (PSs.nox
  (pss_cons (ps_par (i := 1) (j := 2) rfl sc_untold_lot.nd rfl rfl (by decide) rfl rfl (pa_cons (k_own (P := P) (w := w) (base := base) (o_need_pairs W Ew) (hr.mono (by decide)) passF (by rfl) (pa_cons (pv 0) (pa_cons (pv 1) pa_nil))) (pa_cons (pe_lst (pa_cons (pe_tup (pa_cons (pe_tup pa_nil) (pa_cons (pe_tup pa_nil) pa_nil))) pa_nil)) pa_nil)) rfl)
  (pss_cons (ps_while PassesOwn.never (pt_cmpR op_gt (pe_callB (k_len K) (by rfl) W.f_len boot_len (pa_cons (pv 2) pa_nil)) pe_int (nomark _))
  (pss_cons (ps_set (i := 2) sc_untold_lot.nd rfl (.inl rfl) (k_own (P := P) (w := w) (base := base) (o_longer_pairings W) (hr.mono (by decide)) pass0 (by rfl) (pa_cons (pv 2) (pa_cons (pv 1) pa_nil))))
  (pss_cons (ps_set (i := 3) sc_untold_lot.nd rfl (.inl rfl) (pe_lst pa_nil))
  (pss_cons (ps_for PassesOwn.never rfl (k_pilist K (pv 2)) (k_pgtup K (n := 2) rfl (pgs_cons (pg_name (i := 4) sc_untold_lot.nd rfl (.inl rfl)) (pgs_cons (pg_name (i := 5) sc_untold_lot.nd rfl (.inl rfl)) pgs_nil)))
  (pss_cons (ps_set (i := 6) sc_untold_lot.nd rfl (.inl rfl) (pe_tup (pa_cons (pv 4) (pa_cons (pe_callTy (k_tup K) (by rfl) W.f_tuple boot_tuple (pa_cons (pe_callB (k_sortedT K) (by rfl) W.f_sorted boot_sorted (pa_cons (pv 5) pa_nil)) pa_nil)) pa_nil))))
  (pss_one (ps_if (pt_cmpR (k_neD K (room_u hr)) (k_nget K P w (room_n hr) (pe_fld (pv 0) (by rfl)) (pv 6) (fun _ _ => rfl)) (pv 5) (nomark _)) (pss_one (ps_expr (pe_bm PySem.F.plainAttrs_list PySem.F.slot_list_append PySem.F.type_list_append mt_append (pv 3) (pa_cons (pv 6) pa_nil)))) pss_nil))))
  (pss_one (ps_if (pt_cmpR op_gt (pe_callB (k_len K) (by rfl) W.f_len boot_len (pa_cons (pv 3) pa_nil)) pe_int (nomark _)) (pss_one (ps_ret (pe_callB (k_minD K rfl (room_u hr)) (by rfl) W.f_min boot_min (pa_cons (pv 3) pa_nil)))) pss_nil))))))
  (pss_one (ps_ret pe_non))))), ?_⟩
  obtain ⟨b, v, S, U, T, ps, rfl, ⟨⟨D, d, n, qs, gs, hb, dt, dv, hd, hds, hg, hnd, hsort, hrng⟩, hS, hU, ok, told⟩, q⟩ := h
  have lps := ok.len hS hU
  have lq : qs.length = ps.length := by
    rw [← hsort]
    unfold sortP
    rw [List.length_mergeSort]
  have lg := good_len hg
  refine q_par2 ⟨_, rfl, _, rfl, _, _, rfl, .inr ⟨b, S, U, D, d, rfl, hb, dv, hd, .inr ⟨gs, qs, [], by rw [List.append_nil]; exact hds, by rw [List.append_nil]; omega, hg, hnd, hrng, .inl ⟨rfl, fun u H1 e1 du => ?_⟩⟩⟩⟩
  rw [hsort] at du
  refine ta_consN (K := K) (n_lst (da_one (d_tL (l := ([], [])) d_tI_nil d_tI_nil)) (show 1 ≤ 100000 by decide)) fun p0 xs0 H2 np0 e2 hp0 dp0 => ⟨_, _, rfl, ?_⟩
  have e02 := e1.trans e2
  have l5 : lvl ps 5 = [] := lvl_none hS ok (Nat.le_refl 5)
  refine q_while (fun m σ' H' => ∃ (i : Nat) (p : Addr) (xs : List V) (l t s r : Option V), σ' = [some (.ref b), some u, some (.ref p), l, t, s, r] ∧ m = 6 - i ∧ i ≤ 5 ∧ Ex H1 H' ∧ H' p = some (.lst xs) ∧ DpAll K H' xs ((lvl ps i).map tL) ∧ ∀ j, 1 ≤ j → j < i + 1 → uL T ps j = []) 6
    ⟨0, p0, xs0, none, none, none, none, rfl, rfl, by decide, e2, hp0, dp0, fun j h1 h2 => by omega⟩ ?_
  rintro m σ' H' ⟨i, p, xs, l, t, s2, r, rfl, rfl, hi5, ex, hp, dp, hno⟩
  refine ⟨decide ((0 : Int) < ((lvl ps i).length : Int)), t_d (d_op (d_is (d_lenL (d_var rfl (.lst (sq_of hp) dp))) (by rw [List.length_map])) d_ci rd_gt), fun z H5 e5 => ?_, fun z H5 e5 => ?_⟩
  · have hne : lvl ps i ≠ [] := fun z2 => by rw [z2] at z; simp at z
    have hi4 : i ≤ 4 := Nat.le_of_not_lt fun h => hne (lvl_none hS ok h)
    have szL : (growAll (lvl ps i) ps).length ≤ 69905 := by
      have h1 := Nat.le_trans (foundUp_mono ps (show i + 1 ≤ 5 by omega)) (found_len lps l5)
      have h2 : foundUp ps (i + 1) = foundUp ps i ++ growAll (lvl ps i) ps := rfl
      rw [h2, List.length_append] at h1
      omega
    refine ⟨fun σ2 H2 => ∃ (p : Addr) (xs : List V) (l t s r : Option V), σ2 = [some (.ref b), some u, some (.ref p), l, t, s, r] ∧ Ex H1 H2 ∧ H2 p = some (.lst xs) ∧ DpAll K H2 xs ((lvl ps (i + 1)).map tL) ∧ ∀ j, 1 ≤ j → j < i + 1 + 1 → uL T ps j = [], ?_, ?_⟩
    · rintro σ2 H2 ⟨p', xs', l', t', s', r', h1, h2, h3, h4, h5⟩
      exact ⟨6 - (i + 1), by omega, i + 1, p', xs', l', t', s', r', h1, rfl, by omega, h2, h3, h4, h5⟩
    refine q_setN (K := K) (n_own (da_two (d_var rfl ((Dp.lst (sq_of hp) dp).ex e5)) (d_var rfl (du.ex (ex.trans e5)))) ⟨lvl ps i, ps, rfl, by omega, fun js hj => ?_, rfl⟩) fun p6 xs6 H6 n6 e6 hp6 dp6 => ?_
    · have o := (mem_lvl (S := S) (U := U)).mp hj
      rw [o.len1, o.len2]
      omega
    refine q_setN (K := K) d_lst0 fun lo xs7 H7 n7 e7 hl7 dl7 => ?_
    have ex7 : Ex H1 H7 := ((ex.trans e5).trans e6).trans e7
    have n71 : H1 lo = none := fresh_back ((ex.trans e5).trans e6) n7
    have p6_lo : p6 ≠ lo := ne_of_none hp6 n7
    refine q_forXD (K := K) (xs := xs6) rfl (e7 _ _ hp6) (fun j σ2 H2 => ∃ (t s r : Option V), σ2 = [some (.ref b), some u, some (.ref p6), some (.ref lo), t, s, r] ∧ Fr K [lo] H7 H2 ∧ Ls K H2 lo (((((lvl ps (i + 1)).take j).filter (bad T)).map keyL).map tL)) ⟨_, _, _, rfl, K11.Fr.refl, ⟨xs7, hl7, dl7⟩⟩ (fun j σ2 H2 ⟨_, _, _, _, fr, _⟩ => fr.at (e7 _ _ hp6) (by simpa using p6_lo)) ?_ ?_
    · rintro j x σ2 H2 hx ⟨t, s3, r, rfl, fr, ll⟩
      obtain ⟨dj, hdj, dx⟩ := dp6.get hx
      obtain ⟨js, hjs, rfl⟩ := get_map hdj
      have hjm : js ∈ lvl ps (i + 1) := List.mem_of_getElem? hjs
      have o := (mem_lvl (S := S) (U := U)).mp hjm
      have l2 := o.len2
      have hj' : (lvl ps (i + 1))[j]? = some js := hjs
      obtain ⟨row, hrow⟩ := Option.isSome_iff_exists.mp (told _ js hjm)
      have dx2 : Dp K H2 x (tL js) := (dx.ex e7).tx fr.1 (flat_tL js)
      have exH2 : Ex H1 H2 := fr.exB ex7 (by simpa using n71)
      have exHH : Ex H H2 := e1.trans exH2
      have sz1 : (((lvl ps (i + 1)).take (j + 1)).filter (bad T)).length ≤ 69905 := by
        have h1 := List.length_filter_le (bad T) ((lvl ps (i + 1)).take (j + 1))
        have h2 : ((lvl ps (i + 1)).take (j + 1)).length ≤ (lvl ps (i + 1)).length := by rw [List.length_take]; exact Nat.min_le_right _ _
        exact Nat.le_trans h1 (Nat.le_trans h2 szL)
      refine tg_two dx2 fun a c da dc => ?_
      refine q_setD (K := K) (d_tL (l := keyL js) (d_var rfl da) (d_cb1 (da_one (n_cb1 (da_one (d_var rfl dc)) (cn_sortedT (by omega))).toD) cd_tupL)) fun vl H3 e3 dl => ?_
      refine s_if (b := bad T js) (et_is (t_d (d_op (d_tget (ev_byLot Ew.bk (ev_var rfl) (hb.up (exHH.trans e3))) (dt.ex (exHH.trans e3)) (d_var rfl dl) hrow) (d_var rfl (dc.ex e3)) rd_neI')) ?_) (fun z H4 e4 => ?_) fun z H4 e4 => ?_
      · unfold bad
        rw [hrow]
        simp
      · refine s_appD (K := K) (d := tL (keyL js)) (ll.ex (e3.trans e4)) (flat_tLs _) (flat_tL _) (ev_var rfl) (d_var rfl (dl.ex e4)) ?_ fun H8 w8 l8 => ⟨_, _, _, rfl, fr.trans ((K11.Fr.ex (e3.trans e4)).trans (Fr.wr w8 (by simp))), l8.cg ?_⟩
        · rw [List.length_map, List.length_map]
          have h1 : (((lvl ps (i + 1)).take j).filter (bad T)).length ≤ (((lvl ps (i + 1)).take (j + 1)).filter (bad T)).length := by
            rw [take_succ_of hj', List.filter_append, List.length_append]
            omega
          omega
        · rw [take_succ_of hj', List.filter_append, filt_yes z]
          simp
      · refine ⟨_, _, _, rfl, fr.trans (K11.Fr.ex (e3.trans e4)), (ll.ex (e3.trans e4)).cg ?_⟩
        rw [take_succ_of hj', List.filter_append, filt_no z, List.append_nil]
    · rintro σ2 H2 ⟨t, s3, r, rfl, fr, ll⟩
      have lx6 : xs6.length = (lvl ps (i + 1)).length := by rw [dp6.len, List.length_map]; rfl
      rw [lx6, List.take_length] at ll
      have exH2 : Ex H1 H2 := fr.exB ex7 (by simpa using n71)
      have llu : Ls K H2 lo ((uL T ps (i + 1)).map tL) := ll
      refine s_if (b := decide ((0 : Int) < ((uL T ps (i + 1)).length : Int))) (t_d (d_op (d_is (d_lenL (d_var rfl llu.toD)) (by rw [List.length_map])) d_ci rd_gt)) (fun z H3 e3 => ?_) fun z H3 e3 => ?_
      · cases hu : uL T ps (i + 1) with
        | nil => rw [hu] at z; simp at z
        | cons y ys =>
          rw [hu] at llu
          have hdue : due T ps = some (minL y ys) := firstU_at (fun j h1 h2 => hno j h1 h2) hu (by omega) (by omega)
          refine s_retD (d_cb1 (da_one (d_var rfl (llu.ex e3).toD)) cd_minL) fun v9 H9 e9 d9 => q v9 H9 ((e1.trans exH2).trans (e3.trans e9)) ?_
          show Dp K H9 v9 (dueD (due T ps))
          rw [hdue]
          exact d9
      · have hu0 : uL T ps (i + 1) = [] := by
          cases hu : uL T ps (i + 1) with
          | nil => rfl
          | cons y ys => rw [hu] at z; simp at z
        refine ⟨p6, xs6, _, _, _, _, rfl, exH2.trans e3, e3 _ _ (fr.at (e7 _ _ hp6) (by simpa using p6_lo)), ((dp6.ex e7).tx fr.1 (flat_tLs _)).ex e3, fun j h1 h2 => ?_⟩
        rcases Nat.lt_or_ge j (i + 1) with h | h
        · exact hno j h1 h
        · have : j = i + 1 := by omega
          rw [this]
          exact hu0
  · have he : lvl ps i = [] := by
      cases hl : lvl ps i with
      | nil => rfl
      | cons y ys => rw [hl] at z; simp at z
    have hdue : due T ps = none := firstU_none fun j h1 h2 => by
      rcases Nat.lt_or_ge j (i + 1) with h | h
      · exact hno j h1 h
      · unfold uL
        rw [lvl_next he j (by omega)]
        rfl
    refine s_retD (K := K) d_cn fun v9 H9 e9 d9 => q v9 H9 (((e1.trans ex).trans e5).trans e9) ?_
    show Dp K H9 v9 (dueD (due T ps))
    rw [hdue]
    exact d9
theorem o_untold_lot (W : Gs K mg) {C fI B1 B2 : Addr} (Ew : Es P w K mg C fI B1 B2) : OkF CX0 P w K mg base 5 "untold_lot" ["book", "pairs"] (spUL P w K C fun T ps => dueD (due T ps)) := (oK_untold_lot W Ew).toF
theorem sc_is_calm : FnScope ["book", "pairs"] ["book", "pairs"] (defScope (top 28)) := ⟨rfl, rfl, rfl, by decide +kernel, rfl, by decide +kernel, by decide +kernel⟩
theorem bp_is_calm : BindsP "is_calm" (top 28) ["book", "pairs"] := fun _ _ _ _ _ _ us hl => match us, hl with | [_, _], _ => rfl
theorem bn_is_calm : BindsN "is_calm" (top 28) ["book", "pairs"] := fun _ _ _ _ _ _ us hl => match us, hl with | [_, _], _ => rfl
theorem oK_is_calm (W : Gs K mg) {C fI B1 B2 : Addr} (Ew : Es P w K mg C fI B1 B2) : OkK CX0 P w K mg base 6 "is_calm" ["book", "pairs"] (spUL P w K C fun T ps => .bool (due T ps).isNone) := by
  refine okK_of W.n_is_calm sc_is_calm bp_is_calm bn_is_calm (fun vs H Q E h => spUL_len h) (fun f cdv A outer s H vs Q E hr h => ?_)
  refine ⟨_, (PSs.nox
  (pss_one (ps_ret (pe_cmpR oisN (k_own (P := P) (w := w) (base := base) (o_untold_lot W Ew) (hr.mono (by decide)) pass0 (by rfl) (pa_cons (pv 0) (pa_cons (pv 1) pa_nil))) pe_non (nomark _))))), ?_⟩
  obtain ⟨b, v, S, U, T, ps, rfl, ask, q⟩ := h
  refine s_retD (d_is (d_op (d_ul (R := fun T ps => dueD (due T ps)) (ev_var rfl) (ev_var rfl) ask) d_cn rd_isN) ?_) fun u H2 e2 du => q u H2 e2 du
  show PyData.bool (isNon (dueD (due T ps))) = .bool (due T ps).isNone
  cases due T ps <;> rfl
theorem o_is_calm (W : Gs K mg) {C fI B1 B2 : Addr} (Ew : Es P w K mg C fI B1 B2) : OkF CX0 P w K mg base 6 "is_calm" ["book", "pairs"] (spUL P w K C fun T ps => .bool (due T ps).isNone) := (oK_is_calm W Ew).toF
end
end K11
/-! enumerate over zip of a tuple and a list: the pairs stay out -/
namespace PySem
namespace K11S
open Sem (wp)
/-- a zip whose tuple may be out -/
abbrev ZRec (h : Heap) (z TI TO : Addr) (u : Value) (f : Bool) : Prop :=
  h.get? z = some { cls := .type "zip", dict := none, data := .fields #[u, .bool f, .bool false, .ref TI, .ref TO], slots := #[] }
def ZSt (h : Heap) (z TI TO : Addr) : Prop := ∃ u f, ZRec h z TI TO u f ∧ (u = .none ∨ ∃ T : Addr, u = rawInt T)
section
variable {prog : Program} {w : World} {A : Around} {E : Value → Shared → Prop} {s : Shared} {z TI TO i1 i2 : Addr} {fp1 fp2 : List Addr} {n1 n2 i : Nat} {P1 P2 : Nat → Value → Prop} {St1 St2 : Nat → Heap → Prop} {a1 a2 u : Value} {f : Bool}
theorem zip_free {Q : Bool → Shared → Prop} (hz : ZRec s.heap z TI TO u f) (hu : u = .none ∨ ∃ T : Addr, u = rawInt T) (h1 : Q true s)
    (h2 : ∀ (T : Addr) h', u = rawInt T → ZRec h' z TI TO u true → Heap.SameBut z s.heap h' → Q false { s with heap := h' }) : wpAny (model prog w) A (Builtin.SmallTypes.ownedTupleIsFree (.ref z)) Q E s := by
  unfold Builtin.SmallTypes.ownedTupleIsFree
  rcases hu with rfl | ⟨T, rfl⟩
  · exact wpAny_bind (wpAny_field hz rfl (x := .none) rfl (wpAny_pure h1))
  · refine wpAny_bind (wpAny_field hz rfl (x := rawInt T) rfl ?_)
    show wpAny _ _ (loadIfAlive ((T : Int).toNat) >>= _) _ _ _
    rw [Int.toNat_natCast]
    refine wpAny_bind ?_
    have go : ∀ {R : Option Obj → Shared → Prop}, R (s.heap.get? T) s → wpAny (model prog w) A (loadIfAlive T) R E s := fun r => fun _ _ _ => r
    refine go ?_
    cases s.heap.get? T with
    | none =>
      simp only [Option.isNone_none, if_true]
      exact wpAny_pure h1
    | some oT =>
      simp only [Option.isNone_some, Bool.false_eq_true, if_false]
      refine wpAny_bind (wpAny_field hz rfl (x := .bool f) rfl ?_)
      cases f with
      | true =>
        rw [if_neg (show ¬ ((Value.bool true != Value.bool true) = true) from Bool.false_ne_true)]
        exact wpAny_pure (h2 T s.heap rfl hz (Heap.SameBut.refl _ _))
      | false =>
        rw [if_pos (show (Value.bool false != Value.bool true) = true from rfl)]
        exact wpAny_bind (wpAny_setField_rec hz (by simp) fun h₁ hz₁ hs₁ => wpAny_pure (h2 T h₁ rfl hz₁ hs₁))
theorem zip_item {Q : Value → Shared → Prop} (S : ZipSep2 z TI TO i1 i2 fp1 fp2) (D1 : Draws prog w A i1 fp1 n1 P1 St1) (D2 : Draws prog w A i2 fp2 n2 P2 St2)
    (hz : ZSt s.heap z TI TO) (hTI : IsTupOf2 s.heap TI (.ref i1) (.ref i2)) (hTO : IsTupOf2 s.heap TO a1 a2) (st1 : St1 i s.heap) (st2 : St2 i s.heap) (hlt1 : i < n1) (hlt2 : i < n2)
    (hQ : ∀ x1 x2 h' tk b1 b2, P1 i x1 → P2 i x2 → ZSt h' z TI TO → IsTupOf2 h' TO b1 b2 → St1 (i + 1) h' → St2 (i + 1) h' → IsTupOf2 h' s.heap.objs.size x1 x2 → h'.objs.size = s.heap.objs.size + 1 →
      (∀ c o, c ≠ z → c ≠ TO → c ≠ i1 → c ≠ i2 → s.heap.get? c = some o → h'.get? c = some o) → Q (.ref s.heap.objs.size) { s with heap := h', toks := tk }) :
    wpAny (model prog w) A (Builtin.«zip.__next__» ⟨[.ref z], []⟩) (fun fin s' => ∃ v, fin = .done (.ret v) ∧ Q v s') E s := by
  obtain ⟨hp, g, d, kA, os⟩ := s
  obtain ⟨u, f, hz, hu⟩ := hz
  show wpAny _ _ (field (.ref z) 2 >>= _) _ _ _
  refine wpAny_bind (wpAny_field hz rfl (x := .bool false) rfl ?_)
  show wpAny _ _ (field (.ref z) 3 >>= _) _ _ _
  refine wpAny_bind (wpAny_field hz rfl (x := .ref TI) rfl ?_)
  refine wpAny_bind (wpAny_seqItems hTI rfl ?_)
  show wpAny _ _ (Builtin.SmallTypes.ownedTupleIsFree (.ref z) >>= _) _ _ _
  refine wpAny_bind (zip_free hz hu ?_ fun T gA eu zA sA => ?_)
  · simp only [if_true]
    refine wpAny_bind (wpAny_rule ?_)
    refine wpAny_bind (wpAny_field hz rfl (x := .ref TO) rfl ?_)
    refine wpAny_bind (wpAny_setField_rec hz (by simp) fun gA (zA : ZRec gA z TI TO .ellipsis f) (sA : Heap.SameBut z hp gA) => ?_)
    refine wpAny_bind ?_
    simp only [List.zipIdx_cons, List.zipIdx_nil, List.forIn_cons, List.forIn_nil]
    refine wpAny_bind (wpAny_bind (wpAny_onRaise ?_))
    show wpAny _ _ (Builtin.SmallTypes.nextOf (.ref i1) >>= _) _ _ ⟨gA, g, d, kA, os⟩
    refine wpAny_bind (D1.item i _ _ _ hlt1 (D1.over st1 sA S.zf1) fun x1 gB kB px ix (sB : Heap.SameBut i1 gA gB) => wpAny_pure ?_)
    have uB : IsTupOf2 gB TO a1 a2 := sB.extBut _ _ S.Ti1 (sA.extBut _ _ S.TOz hTO)
    refine wpAny_bind (wpAny_seqItems (s := ⟨gB, g, d, kB, os⟩) uB rfl ?_)
    refine wpAny_bind (updateSeq_IsTupOf2 (s := ⟨gB, g, d, kB, os⟩) uB fun gC (uC : IsTupOf2 gC TO x1 a2) (sC : Heap.SameBut TO gB gC) => ?_)
    refine wpAny_bind (wpAny_letGo (wpAny_pure ?_))
    refine wpAny_bind (wpAny_bind (wpAny_onRaise ?_))
    show wpAny _ _ (Builtin.SmallTypes.nextOf (.ref i2) >>= _) _ _ ⟨gC, g, d, kB, os⟩
    refine wpAny_bind (D2.item i _ _ _ hlt2 (D2.over (D2.over (D2.over st2 sA S.zf2) sB S.sep1_2) sC S.Tf2) fun x2 gD kC py iy (sD : Heap.SameBut i2 gC gD) => wpAny_pure ?_)
    have uD : IsTupOf2 gD TO x1 a2 := sD.extBut _ _ S.Ti2 uC
    refine wpAny_bind (wpAny_seqItems (s := ⟨gD, g, d, kC, os⟩) uD rfl ?_)
    refine wpAny_bind (updateSeq_IsTupOf2 (s := ⟨gD, g, d, kC, os⟩) uD fun gE (uE : IsTupOf2 gE TO x1 x2) (sE : Heap.SameBut TO gD gE) => ?_)
    refine wpAny_bind (wpAny_letGo (wpAny_pure (wpAny_pure ?_)))
    refine wpAny_bind (wpAny_seqItems (s := ⟨gE, g, d, kC, os⟩) uE rfl ?_)
    refine wpAny_bind (wpAny_newTuple ?_)
    have hsz : gE.objs.size = hp.objs.size := by rw [sE.1, sD.1, sC.1, sB.1, sA.1]
    have zE : ZRec gE z TI TO .ellipsis f := sE.extBut _ _ S.TOz.symm (sD.extBut _ _ S.zi2 (sC.extBut _ _ S.TOz.symm (sB.extBut _ _ S.zi1 zA)))
    have kept : ∀ c o, c ≠ z → c ≠ TO → c ≠ i1 → c ≠ i2 → hp.get? c = some o → gE.get? c = some o := fun c o cz cT c1 c2 e =>
      sE.extBut _ _ cT (sD.extBut _ _ c2 (sC.extBut _ _ cT (sB.extBut _ _ c1 (sA.extBut _ _ cz e))))
    have jx : St1 (i + 1) gE := D1.over (D1.over (D1.over ix sC S.Tf1) sD S.sep2_1) sE S.Tf1
    have jy : St2 (i + 1) gE := D2.over iy sE S.Tf2
    have zlt : z < gE.objs.size := Heap.lt_size zE
    show wpAny _ _ (Builtin.SmallTypes.ownedTupleHandOut (.ref z) (.ref gE.objs.size) >>= _) _ _ ⟨gE.push { cls := .type "tuple", data := .seq #[x1, x2] }, g, d, kC, os⟩
    refine wpAny_bind ?_
    unfold Builtin.SmallTypes.ownedTupleHandOut
    have hz6 : ZRec (gE.push { cls := .type "tuple", data := .seq #[x1, x2] }) z TI TO .ellipsis f := Heap.get?_push_of_some _ zE
    refine wpAny_bind (wpAny_setField_rec hz6 (by simp) fun h7 (hz7 : ZRec h7 z TI TO (rawInt gE.objs.size) f) (hs7 : Heap.SameBut z (gE.push { cls := .type "tuple", data := .seq #[x1, x2] }) h7) => ?_)
    refine wpAny_setField_rec hz7 (by simp) fun h8 (hz8 : ZRec h8 z TI TO (rawInt gE.objs.size) false) (hs8 : Heap.SameBut z h7 h8) => ?_
    have up : ∀ c o, c ≠ z → gE.get? c = some o → h8.get? c = some o := fun c o c1 e => hs8.extBut _ _ c1 (hs7.extBut _ _ c1 (Heap.get?_push_of_some _ e))
    have hT8 : IsTupOf2 h8 gE.objs.size x1 x2 := hs8.extBut _ _ (Nat.ne_of_gt zlt) (hs7.extBut _ _ (Nat.ne_of_gt zlt) (Heap.get?_push_size _ rfl))
    have size8 : h8.objs.size = gE.objs.size + 1 := by rw [hs8.1, hs7.1, Heap.size_push]
    rw [hsz] at hz8 hT8 size8
    refine wpAny_pure ⟨_, rfl, ?_⟩
    show Q (.ref gE.objs.size) ⟨h8, g, d, kC, os⟩
    rw [hsz]
    exact hQ x1 x2 h8 kC x1 x2 px py ⟨_, _, hz8, .inr ⟨_, rfl⟩⟩ (up _ _ S.TOz uE) (D1.frame _ _ _ jx fun b hb o e => up b o (fun q => S.zf1 (q ▸ hb)) e) (D2.frame _ _ _ jy fun b hb o e => up b o (fun q => S.zf2 (q ▸ hb)) e) hT8 size8
      fun c o cz cT c1 c2 e => up c o cz (kept c o cz cT c1 c2 e)
  · simp only [Bool.false_eq_true, if_false]
    replace sA : Heap.SameBut z hp gA := sA
    refine wpAny_bind ?_
    rw [← Array.forIn_toList]
    simp only [List.forIn_cons, List.forIn_nil]
    refine wpAny_bind (wpAny_bind (wpAny_holding ?_))
    show wpAny _ _ (Builtin.SmallTypes.nextOf (.ref i1) >>= _) _ _ ⟨gA, g, d, kA, os⟩
    refine wpAny_bind (D1.item i _ _ _ hlt1 (D1.over st1 sA S.zf1) fun x1 gB kB px ix (sB : Heap.SameBut i1 gA gB) => wpAny_pure ?_)
    refine wpAny_pure ?_
    refine wpAny_bind (wpAny_bind (wpAny_holding ?_))
    show wpAny _ _ (Builtin.SmallTypes.nextOf (.ref i2) >>= _) _ _ ⟨gB, g, d, kB, os⟩
    refine wpAny_bind (D2.item i _ _ _ hlt2 (D2.over (D2.over st2 sA S.zf2) sB S.sep1_2) fun x2 gD kC py iy (sD : Heap.SameBut i2 gB gD) => wpAny_pure ?_)
    refine wpAny_pure (wpAny_pure ?_)
    show wpAny _ _ (newTuple [x1, x2] >>= _) _ _ ⟨gD, g, d, kC, os⟩
    refine wpAny_bind (wpAny_newTuple ?_)
    have hsz : gD.objs.size = hp.objs.size := by rw [sD.1, sB.1, sA.1]
    have zE : ZRec gD z TI TO u true := sD.extBut _ _ S.zi2 (sB.extBut _ _ S.zi1 zA)
    have kept : ∀ c o, c ≠ z → c ≠ i1 → c ≠ i2 → hp.get? c = some o → gD.get? c = some o := fun c o cz c1 c2 e => sD.extBut _ _ c2 (sB.extBut _ _ c1 (sA.extBut _ _ cz e))
    have jx : St1 (i + 1) gD := D1.over ix sD S.sep2_1
    have up : ∀ c o, gD.get? c = some o → (gD.push { cls := .type "tuple", data := .seq #[x1, x2] }).get? c = some o := fun c o e => Heap.get?_push_of_some _ e
    refine wpAny_pure ⟨_, rfl, ?_⟩
    show Q (.ref gD.objs.size) _
    have hT8 : IsTupOf2 (gD.push { cls := .type "tuple", data := .seq #[x1, x2] }) gD.objs.size x1 x2 := Heap.get?_push_size _ rfl
    have size8 : (gD.push { cls := .type "tuple", data := .seq #[x1, x2] }).objs.size = gD.objs.size + 1 := Heap.size_push ..
    rw [hsz] at hT8 size8 ⊢
    exact hQ x1 x2 _ kC a1 a2 px py ⟨_, _, up _ _ zE, .inr ⟨T, eu⟩⟩ (up _ _ (kept _ _ S.TOz S.Ti1 S.Ti2 hTO)) (D1.frame _ _ _ jx fun b hb o e => up b o e) (D2.frame _ _ _ iy fun b hb o e => up b o e) hT8 size8
      fun c o cz cT c1 c2 e => up c o (kept c o cz c1 c2 e)
theorem zip_end {Q : Fin → Shared → Prop} (S : ZipSep2 z TI TO i1 i2 fp1 fp2) (D1 : Draws prog w A i1 fp1 n1 P1 St1) (D2 : Draws prog w A i2 fp2 n2 P2 St2)
    (hz : ZSt s.heap z TI TO) (hTI : IsTupOf2 s.heap TI (.ref i1) (.ref i2)) (st1 : St1 n1 s.heap)
    (hE : ∀ h' tk e, (∀ c o, c ≠ z → c ≠ TO → c ≠ i1 → c ≠ i2 → s.heap.get? c = some o → h'.get? c = some o) → (∃ o, h'.get? e = some o ∧ o.cls = .type "StopIteration") → E (.ref e) { s with heap := h', toks := tk }) :
    wpAny (model prog w) A (Builtin.«zip.__next__» ⟨[.ref z], []⟩) Q E s := by
  obtain ⟨hp, g, d, kA, os⟩ := s
  obtain ⟨u, f, hz, hu⟩ := hz
  show wpAny _ _ (field (.ref z) 2 >>= _) _ _ _
  refine wpAny_bind (wpAny_field hz rfl (x := .bool false) rfl ?_)
  show wpAny _ _ (field (.ref z) 3 >>= _) _ _ _
  refine wpAny_bind (wpAny_field hz rfl (x := .ref TI) rfl ?_)
  refine wpAny_bind (wpAny_seqItems hTI rfl ?_)
  show wpAny _ _ (Builtin.SmallTypes.ownedTupleIsFree (.ref z) >>= _) _ _ _
  refine wpAny_bind (zip_free hz hu ?_ fun T gA eu zA sA => ?_)
  · simp only [if_true]
    refine wpAny_bind (wpAny_rule ?_)
    refine wpAny_bind (wpAny_field hz rfl (x := .ref TO) rfl ?_)
    refine wpAny_bind (wpAny_setField_rec hz (by simp) fun gA (zA : ZRec gA z TI TO .ellipsis f) (sA : Heap.SameBut z hp gA) => ?_)
    refine wpAny_bind ?_
    simp only [List.zipIdx_cons, List.zipIdx_nil, List.forIn_cons, List.forIn_nil]
    refine wpAny_bind (wpAny_bind (wpAny_onRaise ?_))
    show wpAny _ _ (Builtin.SmallTypes.nextOf (.ref i1) >>= _) _ _ ⟨gA, g, d, kA, os⟩
    refine wpAny_bind (D1.done ⟨gA, g, d, kA, os⟩ _ _ (D1.over st1 sA S.zf1) fun q e (hq : Heap.ExtBut i1 gA q) he => ?_)
    obtain ⟨oe, hoe, hce⟩ := he
    replace hoe : q.get? e = some oe := hoe
    have hzq : ZRec q z TI TO .ellipsis f := hq _ _ S.zi1 zA
    have hez : e ≠ z := fun x => by subst x; rw [hzq] at hoe; cases hoe; simp at hce
    refine wpAny_setField_rec (s := ⟨q, g, d, kA, os⟩) hzq (by simp) fun q' _ hq' => ?_
    replace hq' : Heap.SameBut z q q' := hq'
    exact hE q' kA e (fun c o cz cT c1 c2 x => hq'.extBut _ _ cz (hq _ _ c1 (sA.extBut _ _ cz x))) ⟨oe, hq'.extBut _ _ hez hoe, hce⟩
  · simp only [Bool.false_eq_true, if_false]
    replace sA : Heap.SameBut z hp gA := sA
    refine wpAny_bind ?_
    rw [← Array.forIn_toList]
    simp only [List.forIn_cons, List.forIn_nil]
    refine wpAny_bind (wpAny_bind (wpAny_holding ?_))
    show wpAny _ _ (Builtin.SmallTypes.nextOf (.ref i1) >>= _) _ _ ⟨gA, g, d, kA, os⟩
    refine wpAny_bind (D1.done ⟨gA, g, d, kA, os⟩ _ _ (D1.over st1 sA S.zf1) fun q e hq he => ?_)
    exact hE q kA e (fun c o cz cT c1 c2 x => hq _ _ c1 (sA.extBut _ _ cz x)) he
theorem next_zip {Q : Value → Shared → Prop} (hz : ZSt s.heap z TI TO) (h : wpAny (model prog w) A.in1 (Builtin.«zip.__next__» ⟨[.ref z], []⟩) (fun fin s' => ∃ v, fin = .done (.ret v) ∧ Q v s') E s) :
    wpAny (model prog w) A (Builtin.SmallTypes.nextOf (.ref z)) Q E s := by
  obtain ⟨u, f, hz, _⟩ := hz
  have hT : s.TypeIs (.ref z) "zip" := ⟨_, hz, rfl⟩
  unfold Builtin.SmallTypes.nextOf
  refine wpAny_bind (wpAny_callSpecial?_slot (name := Str.ofString "__next__") hT F.slot_zip_next (wpAny_call_entry F.slot_zip_next hT F.entry_zip_next ?_ (F.args_zip_next_1 _)))
  exact wpAny_mono h (fun fin s' ⟨v, e, q⟩ => ⟨v, e, wpAny_pure q⟩) fun _ _ x => x
/-- enumerate's turn over such a zip -/
theorem enum_item {e : Addr} {c : Int} {old : Value} {Q : Value → Shared → Prop} (S : ZipSep2 z TI TO i1 i2 fp1 fp2) (D1 : Draws prog w A.in1 i1 fp1 n1 P1 St1) (D2 : Draws prog w A.in1 i2 fp2 n2 P2 St2)
    (he : IsEnum s.heap e z c old) (hz : ZSt s.heap z TI TO) (hTI : IsTupOf2 s.heap TI (.ref i1) (.ref i2)) (hTO : IsTupOf2 s.heap TO a1 a2) (st1 : St1 i s.heap) (st2 : St2 i s.heap) (hlt1 : i < n1) (hlt2 : i < n2)
    (ez : e ≠ z) (eTI : e ≠ TI) (eTO : e ≠ TO) (ei1 : e ≠ i1) (ei2 : e ≠ i2) (ef1 : e ∉ fp1) (ef2 : e ∉ fp2)
    (hQ : ∀ x1 x2 h' tk b1 b2, P1 i x1 → P2 i x2 → IsEnumOut h' e z (c + 1) (.ref s.heap.objs.size) (s.heap.objs.size + 1) → ZSt h' z TI TO → IsTupOf2 h' TI (.ref i1) (.ref i2) → IsTupOf2 h' TO b1 b2 → St1 (i + 1) h' → St2 (i + 1) h' →
      IsTupOf2 h' s.heap.objs.size x1 x2 → h'.get? (s.heap.objs.size + 1) = some { cls := .type "tuple", data := .seq #[.int c tk, .ref s.heap.objs.size] } →
      (∀ b o, b ≠ e → b ≠ z → b ≠ TO → b ≠ i1 → b ≠ i2 → s.heap.get? b = some o → h'.get? b = some o) → Q (.ref (s.heap.objs.size + 1)) { s with heap := h', toks := tk + 1 }) :
    wpAny (model prog w) A (Builtin.«enumerate.__next__» ⟨[.ref e], []⟩) (fun fin s' => ∃ v, fin = .done (.ret v) ∧ Q v s') E s := by
  obtain ⟨hp, g, d, tk₀, os⟩ := s
  show wpAny _ _ (field (.ref e) 2 >>= _) _ _ _
  refine wpAny_bind (wpAny_field he rfl (x := .ref z) rfl ?_)
  refine wpAny_bind (next_zip hz (zip_item S D1 D2 hz hTI hTO st1 st2 hlt1 hlt2 fun x1 x2 h₁ tk b1 b2 px py hz₁ hTO₁ s1 s2 hT₁ size₁ (kept₁ : ∀ c o, c ≠ z → c ≠ TO → c ≠ i1 → c ≠ i2 → hp.get? c = some o → h₁.get? c = some o) => ?_))
  have he₁ : IsEnum h₁ e z c old := kept₁ _ _ ez eTO ei1 ei2 he
  have hTI₁ : IsTupOf2 h₁ TI (.ref i1) (.ref i2) := kept₁ _ _ S.TIz S.TITO S.TIi1 S.TIi2 hTI
  show wpAny _ _ (field (.ref e) 3 >>= _) _ _ ⟨h₁, g, d, tk, os⟩
  refine wpAny_bind (wpAny_field he₁ rfl (x := rawInt c) rfl ?_)
  show wpAny _ _ (field (.ref e) 4 >>= _) _ _ ⟨h₁, g, d, tk, os⟩
  refine wpAny_bind (wpAny_field he₁ rfl (x := .none) rfl ?_)
  show wpAny _ _ (mkInt c >>= _) _ _ ⟨h₁, g, d, tk, os⟩
  refine wpAny_bind (wpAny_mkInt ?_)
  show wpAny _ _ (setField (.ref e) 3 (rawInt (c + 1)) >>= _) _ _ ⟨h₁, g, d, tk + 1, os⟩
  refine wpAny_bind (wpAny_setField_rec he₁ (by simp) fun h₂ (he₂ : IsEnum h₂ e z (c + 1) old) (hs₂ : Heap.SameBut e h₁ h₂) => ?_)
  show wpAny _ _ (setField (.ref e) 4 .none >>= _) _ _ ⟨h₂, g, d, tk + 1, os⟩
  refine wpAny_bind (wpAny_setField_rec he₂ (by simp) fun h₃ (he₃ : IsEnum h₃ e z (c + 1) old) (hs₃ : Heap.SameBut e h₂ h₃) => ?_)
  show wpAny _ _ (newTuple [.int c tk, .ref hp.objs.size] >>= _) _ _ ⟨h₃, g, d, tk + 1, os⟩
  refine wpAny_bind (wpAny_newTuple ?_)
  have size₃ : h₃.objs.size = hp.objs.size + 1 := by rw [hs₃.1, hs₂.1]; exact size₁
  have he₄ : IsEnum (h₃.push { cls := .type "tuple", data := .seq #[.int c tk, .ref hp.objs.size] }) e z (c + 1) old := Heap.get?_push_of_some _ he₃
  have ht₄ : (h₃.push { cls := .type "tuple", data := .seq #[.int c tk, .ref hp.objs.size] }).get? (hp.objs.size + 1) = some { cls := .type "tuple", data := .seq #[.int c tk, .ref hp.objs.size] } := by rw [← size₃]; exact Heap.get?_push_size _ rfl
  have up₄ : ∀ b o, b ≠ e → h₁.get? b = some o → (h₃.push { cls := .type "tuple", data := .seq #[.int c tk, .ref hp.objs.size] }).get? b = some o := fun b o hb y => Heap.get?_push_of_some _ (hs₃.extBut b o hb (hs₂.extBut b o hb y))
  show wpAny _ _ (Builtin.SmallTypes.ownedTupleIsFree (.ref e) >>= _) _ _ ⟨h₃.push { cls := .type "tuple", data := .seq #[.int c tk, .ref hp.objs.size] }, g, d, tk + 1, os⟩
  generalize h₃.push { cls := .type "tuple", data := .seq #[.int c tk, .ref hp.objs.size] } = h₄ at he₄ ht₄ up₄
  refine wpAny_bind ?_
  unfold Builtin.SmallTypes.ownedTupleIsFree
  refine wpAny_bind (wpAny_field he₄ rfl (x := .none) rfl (wpAny_pure ?_))
  simp only [if_true]
  refine wpAny_bind (wpAny_rule ?_)
  refine wpAny_bind (wpAny_field he₄ rfl (x := old) rfl ?_)
  refine wpAny_bind (wpAny_setField_rec he₄ (by simp) fun h₅ (he₅ : IsEnum h₅ e z (c + 1) (.ref hp.objs.size)) (hs₅ : Heap.SameBut e h₄ h₅) => ?_)
  show wpAny _ _ (Builtin.SmallTypes.ownedTupleHandOut (.ref e) (.ref h₃.objs.size) >>= _) _ _ ⟨h₅, g, d, tk + 1, os⟩
  refine wpAny_bind ?_
  unfold Builtin.SmallTypes.ownedTupleHandOut
  refine wpAny_bind (wpAny_setField_rec he₅ (by simp) fun h₆ (he₆ : IsEnumOut h₆ e z (c + 1) (.ref hp.objs.size) h₃.objs.size) (hs₆ : Heap.SameBut e h₅ h₆) => ?_)
  refine wpAny_setField_rec he₆ (by simp) fun h₇ (he₇ : IsEnumOut h₇ e z (c + 1) (.ref hp.objs.size) h₃.objs.size) (hs₇ : Heap.SameBut e h₆ h₇) => ?_
  have up₇ : ∀ b o, b ≠ e → h₁.get? b = some o → h₇.get? b = some o := fun b o hb y => hs₇.extBut b o hb (hs₆.extBut b o hb (hs₅.extBut b o hb (up₄ b o hb y)))
  have hel : e < hp.objs.size := Heap.lt_size he
  have e_T : hp.objs.size ≠ e := Nat.ne_of_gt hel
  have e_T2 : hp.objs.size + 1 ≠ e := Nat.ne_of_gt (Nat.lt_succ_of_lt hel)
  have fin7 : ∃ v, (Fin.done (.ret (.ref h₃.objs.size)) : Fin) = .done (.ret v) ∧ Q v ⟨h₇, g, d, tk + 1, os⟩ := by
    refine ⟨_, rfl, ?_⟩
    rw [size₃] at he₇ ⊢
    obtain ⟨zu, zf, hz5, hzu⟩ := hz₁
    exact hQ x1 x2 h₇ tk b1 b2 px py he₇ ⟨zu, zf, up₇ _ _ ez.symm hz5, hzu⟩ (up₇ _ _ eTI.symm hTI₁) (up₇ _ _ eTO.symm hTO₁) (D1.frame _ _ _ s1 fun b hb o y => up₇ b o (fun q => ef1 (q ▸ hb)) y) (D2.frame _ _ _ s2 fun b hb o y => up₇ b o (fun q => ef2 (q ▸ hb)) y)
      (up₇ _ _ e_T hT₁) (hs₇.extBut _ _ e_T2 (hs₆.extBut _ _ e_T2 (hs₅.extBut _ _ e_T2 ht₄))) fun b o be bz bT b1' b2' y => up₇ b o be (kept₁ b o bz bT b1' b2' y)
  exact wpAny_bind (wpAny_letGo (wpAny_pure fin7))
theorem enum_end {e : Addr} {c : Int} {old : Value} {Q : Option Value → Shared → Prop} (S : ZipSep2 z TI TO i1 i2 fp1 fp2) (D1 : Draws prog w A.in1.in1 i1 fp1 n1 P1 St1) (D2 : Draws prog w A.in1.in1 i2 fp2 n2 P2 St2)
    (he : IsEnum s.heap e z c old) (hz : ZSt s.heap z TI TO) (hTI : IsTupOf2 s.heap TI (.ref i1) (.ref i2)) (st1 : St1 n1 s.heap)
    (hQ : ∀ h' tk, (∀ b o, b ≠ z → b ≠ TO → b ≠ i1 → b ≠ i2 → s.heap.get? b = some o → h'.get? b = some o) → Q none { s with heap := h', toks := tk }) : wpAny (model prog w) A (pyNext (.ref e)) Q E s := by
  have hT : s.TypeIs (.ref e) "enumerate" := ⟨_, he, rfl⟩
  unfold pyNext
  refine wpAny_bind (wpAny_attempt (wpAny_callSpecial?_slot (name := Str.ofString "__next__") hT F.slot_enumerate_next
    (wpAny_call_entry F.slot_enumerate_next hT F.entry_enumerate_next ?_ (F.args_enumerate_next_1 _))))
  show wpAny _ _ (field (.ref e) 2 >>= _) _ _ _
  refine wpAny_bind (wpAny_field he rfl (x := .ref z) rfl ?_)
  obtain ⟨zu, zf, hz5, hzu⟩ := id hz
  have hTz : s.TypeIs (.ref z) "zip" := ⟨_, hz5, rfl⟩
  refine wpAny_bind ?_
  unfold Builtin.SmallTypes.nextOf
  refine wpAny_bind (wpAny_callSpecial?_slot (name := Str.ofString "__next__") hTz F.slot_zip_next (wpAny_call_entry F.slot_zip_next hTz F.entry_zip_next ?_ (F.args_zip_next_1 _)))
  refine zip_end S D1 D2 hz hTI st1 fun h' tk x hk hx => ?_
  obtain ⟨o, ho, hc⟩ := hx
  refine wpAny_bind (wpAny_isInstance (T := "StopIteration") (b := true) ⟨o, ho, hc⟩ isSubtype_stop ?_)
  exact wpAny_pure (hQ _ _ hk)
end
theorem new_enumZ (z TI TO : Addr) :
    Meets (Builtin.«enumerate.__new__» ⟨[.type "enumerate", .ref z], []⟩) (fun _ R s => IsZip s.heap z TI TO .none ∧
      R (.ok (.ret (.ref s.heap.objs.size))) { s with heap := s.heap.push { cls := .type "enumerate", data := .fields #[.none, .bool false, .ref z, rawInt 0, .none, .none] } }) :=
  .of_wp fun prog w A R s hs => by
    obtain ⟨hp, g, d, tk, os⟩ := s
    obtain ⟨h1, hs⟩ := hs
    have subE := sub_enumerate
    have goes : ∀ {A' : Around} {E : Value → Shared → Prop} {Q : Value → Shared → Prop}, Q (.ref z) ⟨hp, g, d, tk, os⟩ → wpAny (model prog w) A' (pyIter (.ref z)) Q E ⟨hp, g, d, tk, os⟩ :=
      fun q => wpAny_pyIter_zip h1 q
    wp_walk using goes
    refine wpAny_stack_any fun st => wpAny_pure ?_
    split
    · rename_i c _ _ _ _ _
      cases (c == Value.type "enumerate")
      · wp_walk using goes
        exact ⟨_, rfl, hs⟩
      · wp_walk using goes
        exact ⟨_, rfl, hs⟩
    · wp_walk using goes
      exact ⟨_, rfl, hs⟩
section
variable {prog : Program} {w : World} {A : Around} {E : Value → Shared → Prop} {s : Shared}
theorem call_enumZ {z TI TO : Addr} {Q : Value → Shared → Prop} (hz : IsZip s.heap z TI TO .none)
    (h : ∀ h', IsEnum h' s.heap.objs.size z 0 .none → (∀ b u, s.heap.get? b = some u → h'.get? b = some u) → Q (.ref s.heap.objs.size) { s with heap := h' }) :
    wpAny (model prog w) A (call (.type "enumerate") [.ref z]) Q E s := by
  refine callType_new F.called_enumerate (by decide) (F.typeCall_enumerate_1 _) (F.newCall_enumerate_1 _) (fun obj => F.args_object_init_2 obj _) F.entry_enumerate_new (new_enumZ z TI TO) ⟨hz, ?_⟩
  have at1 : IsEnum (s.heap.push { cls := .type "enumerate", data := .fields #[.none, .bool false, .ref z, rawInt 0, .none, .none] }) s.heap.objs.size z 0 .none := Heap.get?_push_size _ rfl
  exact ⟨⟨_, at1, rfl⟩, h _ at1 fun b u y => Heap.get?_push_of_some _ y⟩
end
end K11S
end PySem
namespace K11
open PySem PySem.Spec PyProof.Rows L2 Evl
theorem turned2 {X : Cx} {pins : List (Addr × Obj)} {σ : L2.St} {H : Hp} {s : Shared} {h' : Heap} {t' : Nat} {ch : List Addr} {T T2 : Addr} {o1 o2 : HO} (I : Inv X pins σ H s) (k : ∀ b o, b ∉ ch → s.heap.get? b = some o → h'.get? b = some o) (hf : ∀ b ∈ ch, FpOk X pins H b)
    (hT : s.heap.objs.size ≤ T) (uE : s.heap.objs.size ≤ T2) (ne : T ≠ T2) (n1 : ObjOk X.prog X.w (upd (upd H T o1) T2 o2) h' T o1) (n2 : ObjOk X.prog X.w (upd (upd H T o1) T2 o2) h' T2 o2) : Inv X pins σ (upd (upd H T o1) T2 o2) { s with heap := h', toks := t' } := by
  have m1 : H T = none := I.hok.fresh hT
  have m2 : H T2 = none := I.hok.fresh uE
  have old : ∀ {b : Addr} {u : HO}, H b = some u → upd (upd H T o1) T2 o2 b = some u := fun {b u} e => by rw [upd_ne (ne_of_none e m2), upd_ne (ne_of_none e m1)]; exact e
  have nit : ∀ b u, H b = some u → b ∉ ch := fun b u e z => by
    have q := (hf b z).1
    rw [q] at e
    cases e
  refine I.step (g' := s.gens) (d' := s.drawn) (ch := ch) (fun b hb => ⟨(hf b hb).2.2.2.1, (hf b hb).2.1, (hf b hb).2.2.2.2.1, (hf b hb).2.2.2.2.2⟩) (fun b o _ _ hc e _ => k b o hc e) (fun b o _ _ hc e _ => ⟨o.slots, k b o hc e⟩)
    (fun b o _ e n => ?_) (fun b o hc e => ⟨o, k b o hc e⟩) (fun b xs e => old e) (fun b o u e => old e) (fun b ps e => ⟨#[], ?_⟩) (fun m hm => ?_) (fun b u e => ?_) I.bare
  · have lt := Heap.lt_size e
    rw [upd_ne (Nat.ne_of_lt (Nat.lt_of_lt_of_le lt uE)), upd_ne (Nat.ne_of_lt (Nat.lt_of_lt_of_le lt hT))]
    exact n
  · rw [old e]
    simp
  · obtain ⟨o, es, ep, ho, r⟩ := hm
    exact ⟨o, es, ep, k _ o (fun z => (hf _ z).2.1 rfl) ho, r⟩
  · by_cases hb2 : b = T2
    · subst hb2
      rw [upd_same] at e
      cases e
      exact n2
    · rw [upd_ne hb2] at e
      by_cases hb : b = T
      · subst hb
        rw [upd_same] at e
        cases e
        exact n1
      · rw [upd_ne hb] at e
        refine (I.hok b u e).stay (fun c v hc q => k c v ?_ q) (fun c q => old q) fun c xs q => old q
        rcases hc with z | z
        · rw [z]; exact nit b u e
        · exact nit c _ z
end K11
/-! for i, (x, y) in enumerate(zip(tuple, list)) -/
namespace K11
open PySem PySem.Spec PyProof.Rows L2 Evl
theorem turned0 {X : Cx} {pins : List (Addr × Obj)} {σ : L2.St} {H : Hp} {s : Shared} {h' : Heap} {t' : Nat} {ch : List Addr} (I : Inv X pins σ H s) (k : ∀ b o, b ∉ ch → s.heap.get? b = some o → h'.get? b = some o) (hf : ∀ b ∈ ch, FpOk X pins H b) : Inv X pins σ H { s with heap := h', toks := t' } := by
  have nit : ∀ b u, H b = some u → b ∉ ch := fun b u e z => by
    have q := (hf b z).1
    rw [q] at e
    cases e
  refine I.step (g' := s.gens) (d' := s.drawn) (ch := ch) (fun b hb => ⟨(hf b hb).2.2.2.1, (hf b hb).2.1, (hf b hb).2.2.2.2.1, (hf b hb).2.2.2.2.2⟩) (fun b o _ _ hc e _ => k b o hc e) (fun b o _ _ hc e _ => ⟨o.slots, k b o hc e⟩)
    (fun b o _ e n => n) (fun b o hc e => ⟨o, k b o hc e⟩) (fun b xs e => e) (fun b o u e => e) (fun b ps e => ⟨#[], by rw [e]; simp⟩) (fun m hm => ?_) (fun b u e => ?_) I.bare
  · obtain ⟨o, es, ep, ho, r⟩ := hm
    exact ⟨o, es, ep, k _ o (fun z => (hf _ z).2.1 rfl) ho, r⟩
  · refine (I.hok b u e).stay (fun c v hc q => k c v ?_ q) (fun c q => q) fun c xs q => q
    rcases hc with z | z
    · rw [z]; exact nit b u e
    · exact nit c _ z
def IteZ (K : PySem.W.Frag) (a b : Addr) : It :=
  ⟨fun i H => ∃ (xs ys : List V) (x y : V), SqT K H a xs ∧ SqL K H b ys ∧ xs[i]? = some x ∧ ys[i]? = some y,
    fun i H v H' => ∃ T T2 x y, v = .ref T2 ∧ H T = none ∧ H T2 = none ∧ T ≠ T2 ∧ H' = upd (upd H T (.tup [x, y])) T2 (.tup [.int (i : Nat), .ref T]) ∧ (∀ xs, SqT K H a xs → xs[i]? = some x) ∧ ∀ ys, SqL K H b ys → ys[i]? = some y,
    fun i H => ∃ xs ys : List V, SqT K H a xs ∧ SqL K H b ys ∧ xs.length = i ∧ i ≤ ys.length⟩
theorem turn_enumZ {P : Program} {w : World} {K : PySem.W.Frag} {elts : List Expr} {kk : Nat} {tpos : Pos} {a b e z TI TO i1 i2 : Addr} (S : ZipSep2 z TI TO i1 i2 [i1, a] [i2, b]) (ez : e ≠ z) (eTI : e ≠ TI) (eTO : e ≠ TO) (ei1 : e ≠ i1) (ei2 : e ≠ i2) (ea : e ≠ a) (eb : e ≠ b) (a1 : a ≠ i1) (b2 : b ≠ i2) :
    Turn P w K (.Tuple elts kk tpos) (IteZ K a b) [e, z, TI, TO, i1, i2] e (fun i h => (∃ old, IsEnum h e z ((i : Nat) : Int) old) ∧ PySem.K11S.ZSt h z TI TO ∧ IsTupOf2 h TI (.ref i1) (.ref i2) ∧ (∃ x y, IsTupOf2 h TO x y) ∧ h.IsTupleIter i1 a i ∧ h.IsListIter i2 b i) where
  mem := by simp
  obj := fun i h st c hc => by
    obtain ⟨⟨old, he⟩, ⟨zu, zf, hz, _⟩, hTI, ⟨x, y, hTO⟩, ⟨o1, e1, _, d1⟩, ⟨o2, e2, _, d2⟩⟩ := st
    rcases (show c = e ∨ c = z ∨ c = TI ∨ c = TO ∨ c = i1 ∨ c = i2 by simpa using hc) with q | q | q | q | q | q
    all_goals rw [q]
    · exact ⟨_, he, fun _ c => nomatch c⟩
    · exact ⟨_, hz, fun _ c => nomatch c⟩
    · exact ⟨_, hTI, fun _ c => nomatch c⟩
    · exact ⟨_, hTO, fun _ c => nomatch c⟩
    · exact ⟨o1, e1, fun _ c => nomatch d1.symm.trans c⟩
    · exact ⟨o2, e2, fun _ c => nomatch d2.symm.trans c⟩
  keep := fun i h h' st k => by
    obtain ⟨⟨old, he⟩, ⟨zu, zf, hz, hzu⟩, hTI, ⟨x, y, hTO⟩, h1, h2⟩ := st
    exact ⟨⟨old, k e (by simp) _ he⟩, ⟨zu, zf, k z (by simp) _ hz, hzu⟩, k TI (by simp) _ hTI, ⟨x, y, k TO (by simp) _ hTO⟩, h1.at fun o q => k i1 (by simp) o q, h2.at fun o q => k i2 (by simp) o q⟩
  item := by
    intro X hP hw hK hc i pins s σ H E I hf st hg
    subst hP hw hK
    obtain ⟨⟨old, he⟩, hz, hTI, ⟨x0, y0, hTO⟩, h1, h2⟩ := st
    obtain ⟨xs, ys, x, y, hqx, hqy, hx, hy⟩ := hg
    obtain ⟨its, rv, tp, _⟩ := I.tuple hqx
    obtain ⟨its2, rv2, lp, _⟩ := I.list hqy
    obtain ⟨u, hu, ru⟩ := rv.get hx
    obtain ⟨u2, hu2, ru2⟩ := rv2.get hy
    have li : i < its.length := (List.getElem?_eq_some_iff.mp hu).1
    have li2 : i < its2.length := (List.getElem?_eq_some_iff.mp hu2).1
    have hh : X.A.in1.in1.handled = none := I.ok.hd hc
    have hT : s.TypeIs (.ref e) "enumerate" := ⟨_, he, rfl⟩
    have lt : ∀ c ∈ [e, z, TI, TO, i1, i2], c < s.heap.objs.size := fun c hcm => by
      obtain ⟨zu, zf, hz5, _⟩ := hz
      rcases (show c = e ∨ c = z ∨ c = TI ∨ c = TO ∨ c = i1 ∨ c = i2 by simpa using hcm) with q | q | q | q | q | q
      all_goals rw [q]
      iterate 4 exact Heap.lt_size (by assumption)
      · exact let ⟨_, at1, _⟩ := h1; Heap.lt_size at1
      · exact let ⟨_, at2, _⟩ := h2; Heap.lt_size at2
    unfold pyNext
    refine wpAny_bind (wpAny_attempt (wpAny_callSpecial?_slot (name := Str.ofString "__next__") hT F.slot_enumerate_next
      (wpAny_call_entry F.slot_enumerate_next hT F.entry_enumerate_next
        (PySem.K11S.enum_item S (Draws.tuple (A := X.A.in1.in1) hh i1 a a1 its.toArray) (Draws.list (A := X.A.in1.in1) hh i2 b b2 its2.toArray) he hz hTI hTO ⟨h1, tp⟩ ⟨h2, lp.isList⟩ (by simpa using li) (by simpa using li2) ez eTI eTO ei1 ei2 (by simp [ei1, ea]) (by simp [ei2, eb])
          fun x1 x2 h' tk c1 c2 px1 px2 hout hz' hTI' hTO' s1 s2 hT1 hT2 hk => wpAny_pure ?_) (F.args_enumerate_next_1 _))))
    have e1 : x1 = u := by
      have p1 : its.toArray[i]? = some x1 := px1
      have p2 : its.toArray[i]? = some u := by simpa using hu
      rw [p1] at p2
      exact Option.some.inj p2
    have e2 : x2 = u2 := by
      have p1 : its2.toArray[i]? = some x2 := px2
      have p2 : its2.toArray[i]? = some u2 := by simpa using hu2
      rw [p1] at p2
      exact Option.some.inj p2
    subst e1 e2
    have ne1 : s.heap.objs.size ≠ e := Nat.ne_of_gt (lt e (by simp))
    have ne2 : s.heap.objs.size + 1 ≠ e := Nat.ne_of_gt (Nat.lt_succ_of_lt (lt e (by simp)))
    have ne12 : s.heap.objs.size ≠ s.heap.objs.size + 1 := Nat.ne_of_lt (Nat.lt_succ_self _)
    refine ⟨_, rfl, wpAny_letOwnedTupleGo_enum (s := { s with heap := h', toks := tk + 1 }) hout fun h'' he' sb => ?_⟩
    have hT1' : h''.get? s.heap.objs.size = some { cls := .type "tuple", data := .seq #[x1, x2] } := (sb.2 _ ne1).trans hT1
    have hT2' : h''.get? (s.heap.objs.size + 1) = some { cls := .type "tuple", data := .seq #[.int i tk, .ref s.heap.objs.size] } := (sb.2 _ ne2).trans hT2
    have I1 : Inv X pins σ (upd (upd H s.heap.objs.size (.tup [x, y])) (s.heap.objs.size + 1) (.tup [.int (i : Nat), .ref s.heap.objs.size])) { s with heap := h'', toks := tk + 1 } :=
      turned2 (ch := [e, z, TI, TO, i1, i2]) I (fun c o hb q => (sb.2 c (fun q' => hb (by simp [q']))).trans (hk c o (fun q' => hb (by simp [q'])) (fun q' => hb (by simp [q'])) (fun q' => hb (by simp [q'])) (fun q' => hb (by simp [q'])) (fun q' => hb (by simp [q'])) q)) hf (Nat.le_refl _) (Nat.le_succ _) ne12
        ⟨by show 2 ≤ sizeLine; decide, [x1, x2], .cons ru (.cons ru2 .nil), ⟨_, hT1', rfl, _, rfl⟩⟩ ⟨by show 2 ≤ sizeLine; decide, [.int i tk, .ref s.heap.objs.size], .cons ⟨_, rfl⟩ (.cons rfl .nil), ⟨_, hT2', rfl, _, rfl⟩⟩
    refine ⟨.ref (s.heap.objs.size + 1), _, I1, rfl, ⟨_, _, x, y, rfl, I.hok.fresh (Nat.le_refl _), I.hok.fresh (Nat.le_succ _), ne12, rfl, fun l hl => by rw [I.tuple_inj hl hqx]; exact hx, fun l hl => by rw [I.list_inj hl hqy]; exact hy⟩, ⟨⟨Value.ref s.heap.objs.size, ?_⟩, ?_, ?_, ⟨c1, c2, ?_⟩, ?_, ?_⟩, fun c hcm => ?_⟩
    · have e3 : ((i + 1 : Nat) : Int) = (i : Int) + 1 := by omega
      rw [e3]
      exact he'
    · obtain ⟨zu, zf, hz5, hzu⟩ := hz'
      exact ⟨zu, zf, (sb.2 _ ez.symm).trans hz5, hzu⟩
    · exact (sb.2 _ eTI.symm).trans hTI'
    · exact (sb.2 _ eTO.symm).trans hTO'
    · exact s1.1.at fun o q => (sb.2 _ ei1.symm).trans q
    · exact s2.1.at fun o q => (sb.2 _ ei2.symm).trans q
    · have l1 := lt c hcm
      rw [upd_ne (Nat.ne_of_lt (Nat.lt_succ_of_lt l1)), upd_ne (Nat.ne_of_lt l1)]
      exact (hf c hcm).1
  done := by
    intro X hP hw hK hc i pins s σ H E I hf st hg
    subst hP hw hK
    obtain ⟨⟨old, he⟩, hz, hTI, ⟨x0, y0, hTO⟩, h1, h2⟩ := st
    obtain ⟨xs, ys, hqx, hqy, hl, hl2⟩ := hg
    obtain ⟨its, rv, tp, _⟩ := I.tuple hqx
    obtain ⟨its2, rv2, lp, _⟩ := I.list hqy
    have hh : X.A.in1.in1.handled = none := I.ok.hd hc
    have hlen := rv.length
    have el : i = its.toArray.size := by simp; omega
    subst el
    refine PySem.K11S.enum_end S (Draws.tuple (A := X.A.in1.in1) hh i1 a a1 its.toArray) (Draws.list (A := X.A.in1.in1) hh i2 b b2 its2.toArray) he hz hTI ⟨h1, tp⟩ fun h' tk hk => ⟨rfl, ?_⟩
    have hnone : ∀ b u, H b = some u → b ∉ [z, TO, i1, i2] := fun b u q m => by
      have := (hf b (by simp at m ⊢; rcases m with m | m | m | m <;> simp [m])).1
      rw [this] at q
      cases q
    exact turned0 (ch := [z, TO, i1, i2]) I (fun c o hb q => hk c o (fun q' => hb (by simp [q'])) (fun q' => hb (by simp [q'])) (fun q' => hb (by simp [q'])) (fun q' => hb (by simp [q'])) q) fun c hcm => hf c (by simp at hcm ⊢; rcases hcm with m | m | m | m <;> simp [m])
  self := fun A i s Q E st h => let ⟨⟨_, he⟩, _⟩ := st; wpAny_pyIter_enum he h
end K11
namespace K11
open PySem PySem.Spec PyProof.Rows L2 Evl
def iEnumZ (K : PySem.W.Frag) (ta : TA) : TI := fun σ H R => ta σ H fun vs H1 => ∃ a b xs ys, vs = [.ref a, .ref b] ∧ SqT K H1 a xs ∧ SqL K H1 b ys ∧ R (IteZ K a b) H1
theorem pi_enumZ {X : Cx} {e e2 : Expr} {ta : TA} {p p2 pos pos2 tpos : Pos} {elts : List Expr} {kk : Nat} (hg : Gl X "enumerate") (hm : X.mg "enumerate" = none) (hg2 : Gl X "zip") (hm2 : X.mg "zip" = none) (ha : PA X [e, e2] ta)
    (hs0 : starEach [(.Call (.Name "zip" p2) [e, e2] [] pos2 : Expr)] X.env = [(false, eval (.Call (.Name "zip" p2) [e, e2] [] pos2) X.env)] := by rfl)
    (hs : starEach [e, e2] X.env = (false, eval e X.env) :: starEach [e2] X.env := by rfl) (hpl : (backTo pos2 (starEach [e2] X.env)).any (·.1) = false := by rfl) :
    PI X (.Tuple elts kk tpos) (.Call (.Name "enumerate" p) [.Call (.Name "zip" p2) [e, e2] [] pos2] [] pos) (iEnumZ X.K ta) := by
  refine ⟨fun pins s σ H R I h => ?_⟩
  refine Call_ (ld_blt I hg hm boot_enumerate (PyProof.Rows.callWith_type1 (E := X.xe) (PyProof.Rows.spliced_more ?_ rfl) hs0 rfl))
  refine Call_ (ld_blt I hg2 hm2 PyProof.Rows.boot_zip (PyProof.Rows.callWith_type1 (thn (ha.run pos2 pins s σ H _ I h) fun us s1 ⟨vs, H1, I1, r1, q1⟩ => ?_) hs hpl))
  obtain ⟨a, b, xs, ys, rfl, hqx, hqy, q⟩ := q1
  obtain ⟨u1, u2, rfl, ru1, ru2⟩ := vals2 r1
  cases (show u1 = .ref a from ru1)
  cases (show u2 = .ref b from ru2)
  · · skip
      obtain ⟨its, rv, p1, _⟩ := I1.tuple hqx
      obtain ⟨its2, rv2, p2, _⟩ := I1.list hqy
      have la : a < s1.heap.objs.size := by obtain ⟨_, q, _⟩ := id p1; exact Heap.lt_size q
      have lb : b < s1.heap.objs.size := p2.lt
      refine zip_begins2 (begins_tuple a its.toArray) (begins_list b its2.toArray) p1 p2.isList fun h' hz hTI hTO g1 g2 hsz hk => ?_
      refine PyProof.Rows.spliced_none ?_
      refine PySem.K11S.call_enumZ hz fun h'' he hk2 => wpAny_pyIter_enum he ?_
      have up : ∀ c o, s1.heap.get? c = some o → h''.get? c = some o := fun c o e => hk2 c o (hk c o e)
      have I2 : Inv X pins σ H1 { s1 with heap := h'' } := I1.kept (t' := s1.toks) up
      have sep : ZipSep2 (s1.heap.objs.size + 4) (s1.heap.objs.size + 2) (s1.heap.objs.size + 3) s1.heap.objs.size (s1.heap.objs.size + 1) [s1.heap.objs.size, a] [s1.heap.objs.size + 1, b] := zip_sep2 (fun c hc => by rw [List.mem_singleton.mp hc]; exact la) fun c hc => by rw [List.mem_singleton.mp hc]; exact lb
      have e5 : h'.objs.size = s1.heap.objs.size + 5 := hsz
      refine ⟨h'.objs.size, [h'.objs.size, s1.heap.objs.size + 4, s1.heap.objs.size + 2, s1.heap.objs.size + 3, s1.heap.objs.size, s1.heap.objs.size + 1], _, _, H1, rfl, I2, turn_enumZ (a := a) (b := b) sep ?_ ?_ ?_ ?_ ?_ ?_ ?_ ?_ ?_, ⟨⟨.none, he⟩, ⟨.none, false, hk2 _ _ hz, .inl rfl⟩, hk2 _ _ hTI, ⟨_, _, hk2 _ _ hTO⟩, ⟨_, hk2 _ _ g1, rfl, rfl⟩, ⟨_, hk2 _ _ g2, rfl, rfl⟩⟩, fun c hcm => ?_, q⟩
      · rw [e5]; exact show (s1.heap.objs.size + 5 : Nat) ≠ s1.heap.objs.size + 4 by omega
      · rw [e5]; exact show (s1.heap.objs.size + 5 : Nat) ≠ s1.heap.objs.size + 2 by omega
      · rw [e5]; exact show (s1.heap.objs.size + 5 : Nat) ≠ s1.heap.objs.size + 3 by omega
      · rw [e5]; exact show (s1.heap.objs.size + 5 : Nat) ≠ s1.heap.objs.size by omega
      · rw [e5]; exact show (s1.heap.objs.size + 5 : Nat) ≠ s1.heap.objs.size + 1 by omega
      · rw [e5]; exact Nat.ne_of_gt (Nat.lt_of_lt_of_le la (Nat.le_add_right _ _))
      · rw [e5]; exact Nat.ne_of_gt (Nat.lt_of_lt_of_le lb (Nat.le_add_right _ _))
      · exact Nat.ne_of_lt la
      · exact Nat.ne_of_lt (Nat.lt_succ_of_lt lb)
      · have hle : s1.heap.objs.size ≤ c := by
          rcases (show c = h'.objs.size ∨ c = s1.heap.objs.size + 4 ∨ c = s1.heap.objs.size + 2 ∨ c = s1.heap.objs.size + 3 ∨ c = s1.heap.objs.size ∨ c = s1.heap.objs.size + 1 by simpa using hcm) with z | z | z | z | z | z
          all_goals first
            | exact z ▸ Nat.le_add_right _ _
            | exact Nat.le_of_eq z.symm
            | exact (z.trans e5) ▸ Nat.le_add_right _ _
        exact I1.fpOk hle (I1.hok.fresh hle)
section
variable {X : Cx} {K : PySem.W.Frag}
theorem k_pienumZ (K : PySem.W.Frag) {e e2 : Expr} {ta : TA} {p p2 pos pos2 tpos : Pos} {elts : List Expr} {kk : Nat} (hg : Gl X "enumerate") (hm : X.mg "enumerate" = none) (hg2 : Gl X "zip") (hm2 : X.mg "zip" = none) (ha : PA X [e, e2] ta)
    (hs0 : starEach [(.Call (.Name "zip" p2) [e, e2] [] pos2 : Expr)] X.env = [(false, eval (.Call (.Name "zip" p2) [e, e2] [] pos2) X.env)] := by rfl)
    (hs : starEach [e, e2] X.env = (false, eval e X.env) :: starEach [e2] X.env := by rfl) (hpl : (backTo pos2 (starEach [e2] X.env)).any (·.1) = false := by rfl) (h : X.K = K := by rfl) :
    PI X (.Tuple elts kk tpos) (.Call (.Name "enumerate" p) [.Call (.Name "zip" p2) [e, e2] [] pos2] [] pos) (iEnumZ K ta) := by
  subst h
  exact pi_enumZ hg hm hg2 hm2 ha hs0 hs hpl
end
/-- what it gives -/
def enumZ : Nat → List PyData → List PyData → List PyData
  | n, d :: ds, e :: es => .tuple [.int (n : Int), .tuple [d, e]] :: enumZ (n + 1) ds es
  | _, _, _ => []
theorem enumZ_len : ∀ (n : Nat) (ds es : List PyData), ds.length ≤ es.length → (enumZ n ds es).length = ds.length
  | _, [], _, _ => rfl
  | n, d :: ds, [], h => by simp at h
  | n, d :: ds, e :: es, h => by
    rw [enumZ, List.length_cons, List.length_cons, enumZ_len (n + 1) ds es (by simpa using h)]
theorem enumZ_get : ∀ (n : Nat) (ds es : List PyData) (i : Nat) (d e : PyData), ds[i]? = some d → es[i]? = some e → (enumZ n ds es)[i]? = some (.tuple [.int ((n + i : Nat) : Int), .tuple [d, e]])
  | n, d :: ds, e :: es, 0, _, _, h1, h2 => by
    cases h1
    cases h2
    rfl
  | n, d :: ds, e :: es, i + 1, _, _, h1, h2 => by
    rw [enumZ, List.getElem?_cons_succ, enumZ_get (n + 1) ds es i _ _ h1 h2]
    have e : n + 1 + i = n + (i + 1) := by omega
    rw [e]
  | _, [], _, _, _, _, h1, _ => by simp at h1
  | _, _ :: _, [], _, _, _, _, h2 => by simp at h2
section
variable {K : PySem.W.Frag} {B : Hp} {σ : L2.St} {ds es : List PyData}
theorem wk_enumZ {p r : Addr} {xs ys : List V} (sp : SqT K B p xs) (sr : SqL K B r ys) (dp : DpAll K B xs ds) (dr : DpAll K B ys es) (hl : ds.length ≤ es.length) : WkD K (IteZ K p r) (enumZ 0 ds es) B := by
  have ln := enumZ_len 0 ds es hl
  refine ⟨fun i H' hi e' => ?_, fun H' e' => ⟨xs, ys, ex_t e' sp, ex_l e' sr, by rw [dp.len, ln], by rw [ln, dr.len]; exact hl⟩⟩
  rw [ln] at hi
  have hx : i < xs.length := by rw [dp.len]; exact hi
  have hy : i < ys.length := by rw [dr.len]; omega
  refine ⟨⟨xs, ys, xs[i], ys[i], ex_t e' sp, ex_l e' sr, by simp [hx], by simp [hy]⟩, fun v H'' y => ?_⟩
  obtain ⟨T, T2, x, y, rfl, nT, nT2, ne, rfl, fx, fy⟩ := y
  obtain ⟨d, hd, dd⟩ := dp.get (fx xs (ex_t e' sp))
  obtain ⟨e, he, de⟩ := dr.get (fy ys (ex_l e' sr))
  have n2 : upd H' T (.tup [x, y]) T2 = none := by rw [upd_ne ne.symm]; exact nT2
  have ex2 : Ex H' (upd (upd H' T (.tup [x, y])) T2 (.tup [.int (i : Nat), .ref T])) := (Ex.new nT).trans (Ex.new n2)
  refine ⟨ex2, _, enumZ_get 0 ds es i d e hd he, .tup (st_of (by rw [cut_new nT2, upd_same])) ?_⟩
  have e0 : ((0 + i : Nat) : Int) = (i : Int) := by omega
  rw [e0]
  refine .cons (.int _) (.cons (.tup (st_of (xs := [x, y]) (by rw [cut_new nT, upd_ne ne, upd_same])) ?_) .nil)
  exact .cons (dd.ex (cut_keep ex2 e')) (.cons (de.ex (cut_keep ex2 e')) .nil)
theorem ib_enumZ {i j : Nat} {u v : V} (h : σ[i]? = some (some u)) (h2 : σ[j]? = some (some v)) (hu : Dp K B u (.tuple ds)) (hv : Dp K B v (.list es)) (hl : ds.length ≤ es.length) : EvIB K (iEnumZ K (tCons (tVar i) (tCons (tVar j) tNil))) σ B (enumZ 0 ds es) := fun H1 a R q => by
  obtain ⟨p, xs, rfl, sp, dp⟩ := hu.tup_of
  obtain ⟨r, ys, rfl, sr, dr⟩ := hv.list_of
  exact ⟨_, h, _, h2, p, r, xs, ys, rfl, ex_t a sp, ex_l a sr, q _ H1 (Ex.refl _) (wk_enumZ sp sr dp dr hl)⟩
end
end K11
/-! pairings put in; a Book made -/
namespace K11
open PySem PySem.Spec PyProof.Rows L2 Evl
theorem perm_of_sub {α : Type} [BEq α] [LawfulBEq α] : ∀ {o s : List α}, o.Nodup → (∀ x ∈ o, x ∈ s) → s.length ≤ o.length → o.Perm s
  | [], s, _, _, h => by
    have : s = [] := List.eq_nil_of_length_eq_zero (by simpa using h)
    rw [this]
  | x :: o, s, hn, hs, hl => by
    have hx : x ∈ s := hs x List.mem_cons_self
    have p := List.perm_cons_erase hx
    obtain ⟨n1, n2⟩ := List.nodup_cons.mp hn
    have ih := perm_of_sub (o := o) (s := s.erase x) n2 (fun y hy => (List.mem_erase_of_ne (fun z => n1 (by rw [← z]; exact hy))).mpr (hs y (List.mem_cons_of_mem _ hy))) (by
      rw [List.length_erase_of_mem hx]
      simp at hl
      omega)
    exact (ih.cons x).trans p.symm
theorem sort_order {r o : Row} (h : o ∈ orders r) (u : Up r) : sortI o = r := by
  obtain ⟨h1, h2, h3⟩ := mem_orders.mp h
  have p := perm_of_sub h2 h3 (by omega)
  exact (sortI_uniq p.symm (u.imp fun h => Int.le_of_lt h)).symm
def rowOf (T : Lot → Option Row) (l : Lot) : Row := (T l).getD []
def spPut (P : Program) (w : World) (K : PySem.W.Frag) : Sp := fun vs H Q _ => ∃ a vl vp S U T, vs = [V.ref a, vl, vp] ∧ DT P w K H a 200 (ones S U) ∧ Dp K (off [a] H) vl (.tuple ((lots S U).map tL)) ∧ Dp K (off [a] H) vp (.list ((lots S U).map fun l => tI (rowOf T l))) ∧
  small S ∧ small U ∧ Whole S U T ∧ ∀ T' H', Fr K [a] H H' → DT P w K H' a 2000 T' → WholeUp S U T' (lots S U) → (∀ l ∈ lots S U, T' l = T l) → Q .non H'
theorem spPut_len {P : Program} {w : World} {K : PySem.W.Frag} {vs : List V} {H : Hp} {Q : VK} {E : XK} (h : spPut P w K vs H Q E) : vs.length = 3 := by
  obtain ⟨a, vl, vp, S, U, T, rfl, _⟩ := h
  rfl
section
variable {P : Program} {w : World} {K : PySem.W.Frag} {mg : Str → Option Value} {base : Heap}
theorem sc_put_pairings : FnScope ["told", "lots", "pairings", "at", "lot", "pairing"] ["told", "lots", "pairings"] (defScope (top 20)) := ⟨rfl, rfl, rfl, by decide +kernel, rfl, by decide +kernel, by decide +kernel⟩
theorem bp_put_pairings : BindsP "put_pairings" (top 20) ["told", "lots", "pairings"] := fun _ _ _ _ _ _ us hl => match us, hl with | [_, _, _], _ => rfl
theorem o_put_pairings (W : Gs K mg) : OkF CX0 P w K mg base 4 "put_pairings" ["told", "lots", "pairings"] (spPut P w K) := by
  refine ok_of W.n_put_pairings sc_put_pairings bp_put_pairings (fun vs H Q E h => spPut_len h) (fun f cdv A outer s H vs Q E hr h => ?_)
  refine ⟨_, (PSs.nox
  (pss_cons (ps_for PassesOwn.never rfl (k_pienumZ K (by rfl) W.f_enumerate (by rfl) W.f_zip (pa_cons (pv 1) (pa_cons (pv 2) pa_nil))) (k_pgtup K (n := 2) rfl (pgs_cons (pg_name (i := 3) sc_put_pairings.nd rfl (.inl rfl)) (pgs_cons (k_pgtup K (n := 2) rfl (pgs_cons (pg_name (i := 4) sc_put_pairings.nd rfl (.inl rfl)) (pgs_cons (pg_name (i := 5) sc_put_pairings.nd rfl (.inl rfl)) pgs_nil))) pgs_nil)))
  (pss_cons (ps_if (PW.pt (pw_or (pt_not (pt_val (k_own (P := P) (w := w) (base := base) (o_is_permutation W) (hr.mono (by decide)) pass0 (by rfl) (pa_cons (pv 5) (pa_cons (pe_ix (k_ixT K) (pv 4) pe_int (fun _ _ => rfl)) pa_nil))))) (pw_or1 (pt_not (pt_val (k_own (P := P) (w := w) (base := base) (o_fits_parts W) (hr.mono (by decide)) pass0 (by rfl) (pa_cons (pv 0) (pa_cons (pv 4) (pa_cons (pe_callTy (k_tup K) (by rfl) W.f_tuple boot_tuple (pa_cons (pv 5) pa_nil)) pa_nil))))))))) (pss_one (ps_ret (pv 3))) pss_nil)
  (pss_one (k_nput K P w (room_n hr) (pv 0) (pv 4) (pe_callTy (k_tup K) (by rfl) W.f_tuple boot_tuple (pa_cons (pv 5) pa_nil)) (by rfl)))))
  (pss_one (ps_ret pe_non)))), ?_⟩
  obtain ⟨a, vl, vp, S, U, T, rfl, dt, dl, dp, hS, hU, wh, q⟩ := h
  have sz := lots_len hS hU
  refine q_forIB (K := K) (B := off [a] H) off_ex (ib_enumZ (i := 1) (j := 2) rfl rfl dl dp (by rw [List.length_map, List.length_map]; exact Nat.le_refl _)) fun H1 e1 => ⟨fun i σ' H' => ∃ t l r T', σ' = [some (.ref a), some vl, some vp, t, l, r] ∧ Fr K [a] H H' ∧ DT P w K H' a (200 + i) T' ∧ WholeUp S U T' ((lots S U).take i) ∧ (∀ l ∈ (lots S U).take i, T' l = T l),
    ⟨none, none, none, ones S U, rfl, K11.Fr.ex e1, dt.ex e1, ones_whole S U, fun l hl => nomatch hl⟩, ?_, ?_, ?_⟩
  · rintro i σ' H' ⟨t, l, r, T', rfl, fr, _⟩
    exact fr.offE.trans off_ex
  · rintro i d x σ' H' H'' hd ⟨t, l0, r0, T', rfl, fr, d', wu, agree⟩ e5 dx
    have hi : i < (lots S U).length := by
      have := (List.getElem?_eq_some_iff.mp hd).1
      rw [enumZ_len _ _ _ (by rw [List.length_map, List.length_map]; exact Nat.le_refl _), List.length_map] at this
      exact this
    obtain ⟨l, hl⟩ : ∃ l, (lots S U)[i]? = some l := ⟨_, List.getElem?_eq_getElem hi⟩
    have hlm : l ∈ lots S U := List.mem_of_getElem? hl
    have hd2 := enumZ_get 0 _ _ i (tL l) (tI (rowOf T l)) (by rw [List.getElem?_map, hl]; rfl : ((lots S U).map tL)[i]? = _) (by rw [List.getElem?_map, hl]; rfl : ((lots S U).map fun l => tI (rowOf T l))[i]? = _)
    rw [hd] at hd2
    cases hd2
    obtain ⟨n, h2, ok⟩ := (mem_lots hS hU).mp hlm
    have n4 := ok.le4 hS
    obtain ⟨row, hrow, hord, hfit⟩ := wh.lot l hlm
    have er : rowOf T l = row := by unfold rowOf; rw [hrow]; rfl
    rw [er] at dx
    have om := mem_orders.mp hord
    have hsame : ∀ j, j < row.length → T' (partL l row j) = T (partL l row j) := fun j hj => by
      obtain ⟨n, rfl⟩ : ∃ m, n = m + 1 := ⟨n - 1, by omega⟩
      have pk := part_ok ok hord hj
      by_cases e : n = 1
      · subst e
        rw [wu.one pk, wh.one pk]
      · exact agree _ (lots_less hl ((mem_lots hS hU).mpr ⟨n, by omega, pk⟩) (by rw [pk.len1, ok.len1]; omega))
    have hfit' : fitsB T' l row = true := (fits_congr hsame).trans hfit
    have dx2 : Dp K H'' x (.tuple [.int ((0 + i : Nat) : Int), .tuple [tL l, tI row]]) := dx.ex cut_ex
    obtain ⟨p, xs, rfl, sp, dps⟩ := dx2.tup_of
    obtain ⟨x1, x2, rfl, dx1, dx2⟩ := dp2 dps
    refine ⟨p, _, rfl, sp, rfl, _, _, rfl, _, _, rfl, tg_two dx2 fun y1 y2 dy1 dy2 => ⟨rfl, ?_⟩⟩
    have d5 := d'.ex e5
    refine q_if (b := false) (et_is (et_or (et_not (t_B (d_own (da_two (d_var rfl dy2) (d_lot1 (d_var rfl dy1))) ⟨row, l.2, rfl, fun x hx => (ok.in2 x (om.2.2 x hx)).1, by rw [om.1, ok.len2]; omega, by rw [ok.len2]; omega, rfl⟩))) fun _ => et_not (t_B (d_fits (ev_var rfl) d5 (d_var rfl dy1) (d_cb1 (da_one (d_var rfl dy2)) cd_tupT) (by rw [om.1, ok.len2, ok.len1]) (by rw [om.1, ok.len2]; omega) (by rw [ok.len2]; omega) fun j hj => wu.part hS hU hl hord hj))) ?_) (fun z => Bool.noConfusion z) fun _ H6 e6 => ?_
    · rw [sort_order hord ok.up2, hfit']
      simp
    · refine s_tput (K := K) (l := l) (r := row) (d_cb1 (da_one (d_var rfl (dy2.ex e6))) cd_tupT) (ev_var rfl) (d5.ex e6) (by omega) (d_var rfl (dy1.ex e6)) fun H7 w7 d7 => ⟨_, _, _, setTs T' l row, rfl, fr.trans ((K11.Fr.ex (e5.trans e6)).trans (Fr.wr w7 (by simp))), d7, wu.set hS hU hl hord hfit', fun l' hl' => ?_⟩
      by_cases he : l' = l
      · rw [he]
        show (if l = l then some row else T' l) = T l
        rw [if_pos rfl, hrow]
      · rw [take_succ_of hl] at hl'
        rcases List.mem_append.mp hl' with h | h
        · show (if l' = l then some row else T' l') = T l'
          rw [if_neg he]
          exact agree l' h
        · exact absurd (List.mem_singleton.mp h) he
  · rintro σ' H' ⟨t, l, r, T', rfl, fr, d', wu, agree⟩
    rw [enumZ_len _ _ _ (by rw [List.length_map, List.length_map]; exact Nat.le_refl _), List.length_map] at wu agree d'
    rw [List.take_length] at wu agree
    exact s_ret ev_c fun H6 e6 => q T' H6 (fr.trans (K11.Fr.ex e6)) ((d'.ex e6).up (by omega)) wu agree
end
end K11
/-! a raising def called by keywords within a try; e.at -/
namespace K11
open PySem PySem.Spec PyProof.Rows L2 Evl
section
variable {X : Cx} {x : Str} {ps : List Str} {sp : Sp} {k : Nat} {CX : CXT} {E : L2.St → XK} {kws : List Keyword} {tk : TA} {p pos : Pos}
theorem pe_ownNS (o : OkK CX X.prog X.w X.K X.mg X.base k x ps sp) (hr : Room k X.A) (hx : ∀ σ, PassesAt CX X σ (E σ)) (hg : Gl X x) (hkw : PK X kws tk) (hall : (backToKw pos (keywordEach kws X.env)).all (·.1.isSome) = true := by rfl)
    (hks : (backToKw pos (keywordEach kws X.env)).filterMap (·.1) = ps := by rfl) (hdb : (x == ("__debug__" : Str)) = false := by decide)
    (hpl : ((backTo pos (starEach [] X.env)).any (·.1) || (backToKw pos (keywordEach kws X.env)).any (·.1.isNone)) = false := by rfl) : PE X (.Call (.Name x p) [] kws pos) (tCallS sp E tk) := by
  obtain ⟨f, fd, h1, h2, h3, h5, h4⟩ := o
  refine ⟨fun pins s σ H Q I h => ?_⟩
  refine wpAny_Call_Name_kw (ld_glob I hg h1 ?_ hdb)
  refine PySem.W.callWith_KW0 (h₀ := X.base) I.ok.mod.kin h2 hall ?_ hpl
  refine thn (hkw.run pos pins s σ H _ I h) fun ws s2 ⟨zs, H2, I2, rz, q2⟩ => ⟨I2.kIn, ?_⟩
  rw [hks]
  have hl : ws.length = ps.length := by rw [← rz.length]; exact h4.len _ _ _ _ q2
  refine wpAny_call (codeAny_mono (h4.run X.A X.stack s2 H2 ⟨[], ps.zip ws⟩ ws zs Q (E σ) hr I2.env0 (h5 s2 ws hl) rz q2) fun r s' hq => ?_)
  cases r with
  | error e => exact hx σ pins H2 s2 e s' I2 hq
  | ok fl =>
    cases fl with
    | ret u => exact I2.after hq
    | next => exact False.elim hq
    | brk => exact False.elim hq
    | cont => exact False.elim hq
end
end K11
/-! what is refused -/
namespace K11
open PySem PySem.Spec PyProof.Rows L2 Evl
section
variable {P : Program} {w : World} {K : PySem.W.Frag} {mg : Str → Option Value} {base : Heap}
theorem sc_law_refused : FnScope ["_law_book", "_law_value", "e"] ["_law_book", "_law_value"] (defScope (top 49)) := ⟨rfl, rfl, rfl, by decide +kernel, rfl, by decide +kernel, by decide +kernel⟩
theorem bp_law_refused : BindsP "_law_refused" (top 49) ["_law_book", "_law_value"] := fun _ _ _ _ _ _ us hl => match us, hl with | [_, _], _ => rfl
/-- what _law_refused tells -/
def spRef (K : PySem.W.Frag) (C B1 B2 : Addr) : Sp := fun vs H Q _ => ∃ vb v, vs = [vb, v] ∧ ((vb = .non ∧ ∀ u H', Ex H H' → Dp K H' u (.tuple [.str "book", .int (-1)]) → Q u H') ∨ ∃ b S U D d, vb = .ref b ∧ BkAt C H b S U D ∧ Dp K H v d ∧ noD d ∧
  ((seqOf d = none ∧ ∀ H', Ex H H' → Q (.int (-1)) H') ∨ ∃ gs qs tl, seqOf d = some (gs ++ tl) ∧ (gs ++ tl).length ≤ 1000 ∧ GoodAll qs gs ∧ qs.Nodup ∧ (∀ p ∈ qs, (0 ≤ p.1 ∧ p.1 < S) ∧ 0 ≤ p.2 ∧ p.2 < U) ∧
    ∃ bad rest, tl = bad :: rest ∧ BadEl S U qs bad ∧ ∀ H', Ex H H' → Q (.int (gs.length : Int)) H'))
theorem spRef_len {K : PySem.W.Frag} {C B1 B2 : Addr} {vs : List V} {H : Hp} {Q : VK} {E : XK} (h : spRef K C B1 B2 vs H Q E) : vs.length = 2 := by
  obtain ⟨vb, v, rfl, _⟩ := h
  rfl
theorem o_law_refused (W : Gs K mg) {C fI B1 B2 : Addr} (Ew : Es P w K mg C fI B1 B2) : OkF CX0 P w K mg base 5 "_law_refused" ["_law_book", "_law_value"] (spRef K C B1 B2) := by
  refine ok_of W.n_law_refused sc_law_refused bp_law_refused (fun vs H Q E h => spRef_len h) (fun f cdv A outer s H vs Q E hr h => ?_)
  refine ⟨_, (PSs.nox
    (pss_cons (ps_tryAll (i := 2) rfl rfl sc_law_refused.nd rfl rfl takes0
      (fun W2 pn xe tk _ => pss_one (ps_expr (pe_ownNS (oK_need_pairs W Ew) hr (fun σ => passAt tk σ) (by rfl) (pk_cons (pv 0) (pk_cons (pv 1) pk_nil)))))
      (.cons ⟨rfl, by decide, .inl Ew.ip.gC⟩ (fun a oe cls d pn hz hf => pss_one (ps_ret (pe_xf Ew.ip.xf Ew.ip.noN hz hf (pv 2))))
      (.cons ⟨rfl, by decide, .inl Ew.ib.gC⟩ (fun a oe cls d pn hz hf => pss_one (ps_ret (pe_tup (pa_cons pe_str (pa_cons (pe_xf Ew.ib.xf Ew.ib.noN hz hf (pv 2)) pa_nil)))))
      .nil)))
    (pss_one (ps_ret pe_non)))), ?_⟩
  obtain ⟨vb, v, rfl, hc⟩ := h
  refine ⟨_, rfl, _, rfl, vb, v, rfl, ?_⟩
  rcases hc with ⟨rfl, q⟩ | ⟨b, S, U, D, d, rfl, hb, dv, hd, hq⟩
  · refine .inl ⟨rfl, fun H' d0 e0 nd => ⟨false, Ew.x12, (fun z => Bool.noConfusion z), fun _ => ⟨true, Ew.x11, fun _ a na => ⟨_, rfl, rfl, rfl, d0, _, _, rfl, upd_same, rfl, sz_of (show 2 ≤ 100000 by decide), fun p np => ?_⟩, fun z => Bool.noConfusion z⟩⟩⟩
    exact q _ _ ((e0.trans (Ex.new nd)).trans (Ex.new np)) (.tup (st_of upd_same) (.cons (.str _) (.cons (.int _) .nil)))
  · refine .inr ⟨b, S, U, D, d, rfl, hb, dv, hd, ?_⟩
    rcases hq with ⟨hn, q⟩ | ⟨gs, qs, tl, h1, h2, h3, h4, h5, bad, rest, h6, h7, q⟩
    · exact .inl ⟨hn, fun H' d0 e0 nd => ⟨true, Ew.x22, fun _ a na => ⟨_, rfl, rfl, rfl, d0, _, _, rfl, upd_same, rfl, q _ (e0.trans (Ex.new nd))⟩, fun z => Bool.noConfusion z⟩⟩
    · exact .inr ⟨gs, qs, tl, h1, h2, h3, h4, h5, .inr ⟨bad, rest, h6, h7, fun H' d0 e0 nd => ⟨true, Ew.x22, fun _ a na => ⟨_, rfl, rfl, rfl, d0, _, _, rfl, upd_same, rfl, q _ (e0.trans (Ex.new nd))⟩, fun z => Bool.noConfusion z⟩⟩⟩
end
end K11
/-! instances written; the promise of __init__ -/
namespace K11
open PySem PySem.Spec PyProof.Rows L2 Evl
theorem Tx.ins {K : PySem.W.Frag} {H : Hp} {x C dx : Addr} {fs : List (Str × V)} {o : HO} (h : H x = some (.ins C dx fs)) : Tx K H (upd H x o) := fun a zs q => by
  rcases q with (q | ⟨u, q⟩) | q
  · exact .inl (.inl (by rw [upd_ne (fun z => by rw [z, h] at q; cases q)]; exact q))
  · exact .inl (.inr ⟨u, by rw [upd_ne (fun z => by rw [z, h] at q; cases q)]; exact q⟩)
  · exact .inr q
theorem Fr.ins {K : PySem.W.Frag} {H : Hp} {x C dx : Addr} {fs : List (Str × V)} {o : HO} (h : H x = some (.ins C dx fs)) : Fr K [x] H (upd H x o) :=
  ⟨Tx.ins h, fun c u n e => by rw [upd_ne (fun z => n (by rw [z]; exact List.mem_cons_self))]; exact e⟩
/-- a method of the text keeps its promise -/
def OkM (P : Program) (w : World) (K : PySem.W.Frag) (mg : Str → Option Value) (base : Heap) (k : Nat) (f : Addr) (ps : List Str) (sp : Sp) : Prop := ∃ fd, Binds K fd ps [] ∧ FnOk P w K mg base CX0 k f fd ps sp
def spInit (P : Program) (w : World) (K : PySem.W.Frag) (C : Addr) : Sp := fun vs H Q _ => ∃ x dx vp S U T, vs = [V.ref x, .int S, .int U, vp] ∧ H x = some (.ins C dx []) ∧ Dp K H vp (.list ((lots S U).map fun l => tI (rowOf T l))) ∧ small S ∧ small U ∧ Whole S U T ∧
  ∀ D T' H', H D = none → BkAt C H' x S U D → DT P w K H' D 2000 T' → WholeUp S U T' (lots S U) → (∀ l ∈ lots S U, T' l = T l) → Fr K [x] H H' → Q .non H'
theorem spInit_len {P : Program} {w : World} {K : PySem.W.Frag} {C : Addr} {vs : List V} {H : Hp} {Q : VK} {E : XK} (h : spInit P w K C vs H Q E) : vs.length = 4 := by
  obtain ⟨x, dx, vp, S, U, T, rfl, _⟩ := h
  rfl
end K11
/-! a Book made -/
namespace K11
open PySem PySem.Spec PyProof.Rows L2 Evl
section
variable {P : Program} {w : World} {K : PySem.W.Frag} {mg : Str → Option Value} {base : Heap}
theorem sc_Book_init : FnScope ["self", "sorts", "kinds", "pairings", "lots", "told", "at", "lot"] ["self", "sorts", "kinds", "pairings"] (defScope (inClass (top 21) 0)) := ⟨rfl, rfl, rfl, by decide +kernel, rfl, by decide +kernel, by decide +kernel⟩
theorem m_init (W : Gs K mg) {C fI B1 B2 : Addr} (Ew : Es P w K mg C fI B1 B2) {fd : FuncData} (F : FunD K "__init__" "Book.__init__" (defArgs (inClass (top 21) 0)) (defBody (inClass (top 21) 0)) (defScope (inClass (top 21) 0)) [] [] fI fd) : OkM P w K mg base 6 fI ["self", "sorts", "kinds", "pairings"] (spInit P w K C) := by
  refine ⟨fd, F.bindsN (fun _ _ _ _ _ _ us hl => match us, hl with | [_, _, _, _], _ => rfl), F.ok sc_Book_init (fun vs H Q E h => spInit_len h) (fun cdv A outer s H vs Q E hr h => ?_)⟩
  refine ⟨_, (PSs.nox
  (pss_cons (ps_set (i := 4) sc_Book_init.nd rfl (.inl rfl) (k_own (P := P) (w := w) (base := base) (o_list_lots W) (hr.mono (by decide)) pass0 (by rfl) (pa_cons (pv 1) (pa_cons (pv 2) pa_nil))))
  (pss_cons (ps_if (PW.pt (pw_or (pt_not (pt_val (k_own (P := P) (w := w) (base := base) (o_is_sequence W) (hr.mono (by decide)) pass0 (by rfl) (pa_cons (pv 3) pa_nil)))) (pw_or1 (pt_cmpR op_ne (pe_callB (k_len K) (by rfl) W.f_len boot_len (pa_cons (pv 3) pa_nil)) (pe_callB (k_len K) (by rfl) W.f_len boot_len (pa_cons (pv 4) pa_nil)) (nomark _))))) (pss_one ps_never) pss_nil)
  (pss_cons (ps_set (i := 5) sc_Book_init.nd rfl (.inr rfl) (k_own (P := P) (w := w) (base := base) (o_small_lots W) (hr.mono (by decide)) pass0 (by rfl) (pa_cons (pv 1) (pa_cons (pv 2) pa_nil))))
  (pss_cons (ps_set (i := 6) sc_Book_init.nd rfl (.inl rfl) (k_own (P := P) (w := w) (base := base) (o_put_pairings W) (hr.mono (by decide)) pass0 (by rfl) (pa_cons (pv 5) (pa_cons (pv 4) (pa_cons (pv 3) pa_nil)))))
  (pss_cons (ps_if (pt_cmpR onotN (pv 6) pe_non (nomark _)) (pss_one ps_never) pss_nil)
  (pss_cons (ps_asg (pe_tup (pa_cons (pv 1) (pa_cons (pv 2) pa_nil))) (k_pgtup K (n := 2) rfl (pgs_cons (pg_fld (pv 0)) (pgs_cons (pg_fld (pv 0)) pgs_nil))))
  (pss_cons (ps_fld (pv 0) (pe_callTy (k_tup K) (by rfl) W.f_tuple boot_tuple (pa_cons (pe_lc (own := [("lot", 7)]) rfl sc_Book_init.nd (k_pitup K (pv 4)) (blkOk_by (N := ["self", "sorts", "kinds", "pairings", "lots", "told", "at", "lot"]) (sc := defScope (inClass (top 21) 0)) (by decide +kernel)) (fun _ _ _ _ _ => (pg_name (i := 7) sc_Book_init.nd rfl (.inl rfl))) (fun _ _ _ _ _ => pts_nil) (fun _ _ _ _ _ => (k_nget K P w (room_n hr) (pv 5) (pv 7) (fun _ _ => rfl)))) pa_nil)) (by rfl))
  (pss_cons (ps_fld (pv 0) (pv 5) (by rfl))
  (pss_one (ps_fld (pv 0) (pe_lst pa_nil) (by rfl)))))))))))), ?_⟩
  obtain ⟨x, dx, vp, S, U, T, rfl, hx, dp, hS, hU, wh, q⟩ := h
  obtain ⟨s1, s2⟩ := id hS
  obtain ⟨t1, t2⟩ := id hU
  have sz := lots_len hS hU
  refine q_setD (K := K) (d_own (da_two (d_var rfl (.int S)) (d_var rfl (.int U))) ⟨S, U, rfl, hS, hU, rfl⟩) fun vl H1 e1 dl => ?_
  have dp1 := dp.ex e1
  refine q_if (b := false) (et_is (et_or (et_not (t_B (d_own (da_one (d_var rfl dp1)) ⟨_, rfl, True.intro, rfl⟩))) fun _ => t_d (d_op (d_lenL (d_var rfl dp1)) (d_lenT (d_var rfl dl)) rd_neI)) ?_) (fun z => Bool.noConfusion z) fun _ H2 e2 => ?_
  · simp [isSeqD]
  have e12 := e1.trans e2
  change tSeq (tAsg (tCall (spNT P w K 2 Rones) [] E0 (tCons (tVar 1) (tCons (tVar 2) tNil))) (gName 5)) _ _ _ _
  refine q_asgX ⟨_, rfl, _, rfl, [.int S, .int U], ones S U, rfl, .cons (.int S) (.cons (.int U) .nil), ⟨S, U, rfl, hS, hU, rfl⟩, fun tp H3 np e3 dt => ?_⟩
  have up : Ex H2 (off [tp] H3) := fun c o h => off_at (by
    intro hm
    rw [List.mem_singleton.mp hm, np] at h
    cases h) (e3 _ _ h)
  refine q_asgX ⟨_, rfl, _, rfl, _, rfl, tp, vl, vp, S, U, T, rfl, dt, (dl.ex e2).ex up, (dp.ex e12).ex up, hS, hU, wh, fun T' H4 f4 dt4 wu agree => ?_⟩
  have np0 := fresh_back e12 np
  have ex4 : Ex H H4 := f4.exB (e12.trans e3) (by simpa using np0)
  refine q_if (b := false) (t_d (K := K) (d_is (d_op (d_var rfl .non) d_cn rd_notN) rfl)) (fun z => Bool.noConfusion z) fun _ H5 e5 => ?_
  have ex5 := ex4.trans e5
  have hx5 := ex5 _ _ hx
  refine ⟨_, rfl, _, rfl, sz_of (show 2 ≤ 100000 by decide), fun t nt => ⟨t, _, rfl, st_of upd_same, rfl, _, _, rfl, _, rfl, x, C, dx, _, rfl, Ex.new nt _ _ hx5, Ew.bk.cl, Ew.bk.n1, by decide, _, _, rfl, _, rfl, x, C, dx, _, rfl, upd_same, Ew.bk.cl, Ew.bk.n2, (show 1 < 1000 by decide), rfl, ?_⟩⟩
  have x_tp : x ≠ tp := fun z => by rw [z, np0] at hx; cases hx
  generalize hH7 : upd (upd H5 t (HO.tup [V.int S, V.int U])) x (.ins C dx (putF "sorts" (.int S) [])) = H7
  have h7x : H7 x = some (.ins C dx (putF "sorts" (.int S) [])) := by rw [← hH7, upd_same]
  have f57 : Fr K [x] H5 H7 := (K11.Fr.ex (Ex.new nt)).trans (by rw [← hH7]; exact Fr.ins (Ex.new nt _ _ hx5))
  have f58 := f57.trans (Fr.ins (o := .ins C dx (putF "kinds" (.int U) (putF "sorts" (.int S) []))) h7x)
  generalize hH8 : upd H7 x (.ins C dx (putF "kinds" (.int U) (putF "sorts" (.int S) []))) = H8 at f58
  have h8x : H8 x = some (.ins C dx (putF "kinds" (.int U) (putF "sorts" (.int S) []))) := by rw [← hH8, upd_same]
  have fH8 : Fr K [x, tp] H2 H8 := ((K11.Fr.ex e3).trans ((f4.sub (by simp)).trans ((K11.Fr.ex e5).trans (f58.sub (by simp)))))
  have dt8 : DT P w K H8 tp 2000 T' := (dt4.ex e5).fr f58 (by simpa using x_tp.symm)
  have dl8 : Dp K H8 vl (.tuple ((lots S U).map tL)) := (dl.ex e2).tx fH8.1 (show flatAll ((lots S U).map tL) = true from flat_tLs _)
  refine (d_cb1 (K := K) (da_one (n_lcT (K := K) tL (lots S U) (i_tup (d_var rfl dl8)) (fun _ => true) (fun l => tI (rowOf T l)) (by omega) (fun _ _ _ => flat_tI _) ?_).toD) cd_tupL) H8 (Ex.refl H8) _ fun v9 H9 e9 dv9 => ⟨_, rfl, x, C, dx, _, rfl, e9 _ _ h8x, Ew.bk.cl, Ew.bk.n3, (show 2 < 1000 by decide), ?_⟩
  · intro l hl y B H10 eB eB1 dy Q1 k
    obtain ⟨row, h1, _, _⟩ := wh.lot l hl
    have er : rowOf T l = row := by unfold rowOf; rw [h1]; rfl
    exact k _ rfl et_yes fun _ => d_tget (ev_var rfl) (dt8.ex eB) (d_var rfl dy) (((agree l hl).trans h1).trans (by rw [er]))
  refine ⟨_, rfl, _, rfl, x, C, dx, _, rfl, upd_same, Ew.bk.cl, Ew.bk.n4, (show 3 < 1000 by decide), ?_⟩
  refine ⟨Nat.zero_le _, fun p np => ⟨_, rfl, x, C, dx, _, rfl, Ex.new np _ _ upd_same, Ew.bk.cl, Ew.bk.n5, (show 4 < 1000 by decide), ?_⟩⟩
  have key : ∀ {Hf : Hp}, Fr K [x] H8 Hf → BkAt C Hf x S U tp → Q .non Hf := fun f hb => q tp T' _ np0 hb (dt8.fr f (by simpa using x_tp.symm)) wu agree (((K11.Fr.ex ex5).trans f58).trans f)
  exact key (((((K11.Fr.ex e9).trans (Fr.ins (e9 _ _ h8x))).trans (Fr.ins upd_same)).trans (K11.Fr.ex (Ex.new np))).trans (Fr.ins (Ex.new np _ _ upd_same))) ⟨⟨dx, _, upd_same, rfl, rfl, rfl⟩⟩
end
end K11
/-! pairs whose pairings are told alike close no ring -/
namespace K11
open PySem
/-- of one lot there is one pairing alone within ps -/
def Alone (ps : List Pair) : Prop := ∀ n js js', LvlOk 0 0 ps n js → LvlOk 0 0 ps n js' → keyL js = keyL js' → js = js'
theorem Alone.sub {ps qs : List Pair} (h : Alone ps) (s : ∀ p ∈ qs, p ∈ ps) : Alone qs := fun n js js' a b e =>
  h n js js' ⟨a.len1, a.len2, a.up, a.nd, fun p hp => s p (a.sub p hp)⟩ ⟨b.len1, b.len2, b.up, b.nd, fun p hp => s p (b.sub p hp)⟩ e
theorem zip_parts : ∀ m : List Pair, (m.map (·.1)).zip (m.map (·.2)) = m
  | [] => rfl
  | p :: m => by rw [List.map_cons, List.map_cons, List.zip_cons_cons, zip_parts m]
theorem sortI_congr {a b : List Int} (h : a.Perm b) : sortI a = sortI b := sortI_uniq ((sortI_perm a).trans h) (sortI_sorted a)
/-- pairs without a common sort or kind are a pairing -/
theorem match_lvl {ps m : List Pair} (h1 : (m.map (·.1)).Nodup) (h2 : (m.map (·.2)).Nodup) (hs : ∀ p ∈ m, p ∈ ps) :
    ∃ js, LvlOk 0 0 ps m.length js ∧ js.1 = sortI (m.map (·.1)) ∧ js.2.Perm (m.map (·.2)) ∧ ∀ p, p ∈ js.1.zip js.2 ↔ p ∈ m := by
  have perm : (m.mergeSort fun a b => decide (a.1 ≤ b.1)).Perm m := List.mergeSort_perm _ _
  have srt : (m.mergeSort fun a b => decide (a.1 ≤ b.1)).Pairwise fun a b => decide (a.1 ≤ b.1) = true :=
    List.pairwise_mergeSort (le := fun a b : Pair => decide (a.1 ≤ b.1)) (fun a b c x y => by simp only [decide_eq_true_eq] at *; omega) (fun a b => by simp only [Bool.or_eq_true, decide_eq_true_eq]; omega) m
  generalize hM : (m.mergeSort fun a b => decide (a.1 ≤ b.1)) = M at perm srt
  have e1 : M.map (·.1) = sortI (m.map (·.1)) := by
    refine sortI_uniq (perm.map _) ?_
    rw [List.pairwise_map]
    exact srt.imp fun {a b} h => of_decide_eq_true h
  refine ⟨(M.map (·.1), M.map (·.2)), ⟨?_, ?_, ?_, ?_, fun p hp => ?_⟩, e1, perm.map _, fun p => ?_⟩
  · show (M.map _).length = _
    rw [List.length_map, perm.length_eq]
  · show (M.map _).length = _
    rw [List.length_map, perm.length_eq]
  · show Up (M.map (·.1))
    rw [e1]
    exact sortI_up h1
  · exact (perm.map _).nodup_iff.mpr h2
  · have hp' : p ∈ (M.map (·.1)).zip (M.map (·.2)) := hp
    rw [zip_parts] at hp'
    exact hs p (perm.mem_iff.mp hp')
  · show p ∈ (M.map (·.1)).zip (M.map (·.2)) ↔ _
    rw [zip_parts]
    exact perm.mem_iff
theorem match_same {ps m1 m2 : List Pair} (al : Alone ps) (a1 : (m1.map (·.1)).Nodup) (a2 : (m1.map (·.2)).Nodup) (as : ∀ p ∈ m1, p ∈ ps) (bs : ∀ p ∈ m2, p ∈ ps)
    (p1 : (m2.map (·.1)).Perm (m1.map (·.1))) (p2 : (m2.map (·.2)).Perm (m1.map (·.2))) : ∀ p ∈ m2, p ∈ m1 := by
  obtain ⟨j1, o1, e1, q1, w1⟩ := match_lvl a1 a2 as
  obtain ⟨j2, o2, e2, q2, w2⟩ := match_lvl (p1.nodup_iff.mpr a1) (p2.nodup_iff.mpr a2) bs
  have el : m2.length = m1.length := by have := p1.length_eq; simpa using this
  rw [el] at o2
  have ek : keyL j1 = keyL j2 := by
    unfold keyL
    rw [e1, e2, sortI_congr p1, sortI_congr (q1.trans (p2.symm.trans q2.symm))]
  have e := al _ _ _ o1 o2 ek
  intro p hp
  exact (w1 p).mp (by rw [e]; exact (w2 p).mpr hp)
/-- each next one shares its sort with a pair of the kind ahead of it -/
def Tr (P : List Pair) : List Pair → Prop
  | [] => True
  | a :: r => match r with
    | [] => True
    | b :: _ => (a.1, b.2) ∈ P ∧ Tr P r
theorem Tr.pre {P : List Pair} : ∀ {a b : List Pair}, Tr P (a ++ b) → Tr P a
  | [], _, _ => trivial
  | [x], _, _ => trivial
  | x :: y :: a, b, h => ⟨h.1, Tr.pre (a := y :: a) h.2⟩
theorem shift {P : List Pair} : ∀ {r : List Pair} {p : Pair} {x : Int}, Tr P (p :: r) → (x, p.2) ∈ P → ∀ q ∈ (x :: (p :: r).map (·.1)).zip ((p :: r).map (·.2)), q ∈ P
  | [], p, x, _, hx, q, hq => by
    have : q = (x, p.2) := by simpa using hq
    rw [this]
    exact hx
  | b :: r, p, x, h, hx, q, hq => by
    have hq' : q ∈ (x, p.2) :: (p.1 :: (b :: r).map (·.1)).zip ((b :: r).map (·.2)) := hq
    rcases List.mem_cons.mp hq' with hq | hq
    · rw [hq]; exact hx
    · exact shift (r := r) (p := b) (x := p.1) h.2 h.1 q hq
theorem zip_fst : ∀ {a b : List Int}, a.length ≤ b.length → ((a.zip b).map (·.1)) = a
  | [], _, _ => by simp
  | _ :: _, [], h => by simp at h
  | x :: a, y :: b, h => by rw [List.zip_cons_cons, List.map_cons, zip_fst (by simpa using h)]
theorem zip_snd : ∀ {a b : List Int}, b.length ≤ a.length → ((a.zip b).map (·.2)) = b
  | _, [], _ => by simp
  | [], _ :: _, h => by simp at h
  | x :: a, y :: b, h => by rw [List.zip_cons_cons, List.map_cons, zip_snd (by simpa using h)]
theorem zip_cutL : ∀ {a b : List Int} {x : Int}, a.length = b.length → (a ++ [x]).zip b = a.zip b
  | [], [], _, _ => by simp
  | [], _ :: _, _, h => by simp at h
  | _ :: _, [], _, h => by simp at h
  | u :: a, v :: b, x, h => by rw [List.cons_append, List.zip_cons_cons, List.zip_cons_cons, zip_cutL (by simpa using h)]
theorem nd_same {α β : Type} {f : α → β} : ∀ {l : List α} {a b : α}, (l.map f).Nodup → a ∈ l → b ∈ l → f a = f b → a = b
  | [], _, _, _, h, _, _ => nomatch h
  | c :: l, a, b, h, ha, hb, e => by
    rw [List.map_cons] at h
    obtain ⟨h1, h2⟩ := List.nodup_cons.mp h
    rcases List.mem_cons.mp ha with za | za <;> rcases List.mem_cons.mp hb with zb | zb
    · rw [za, zb]
    · exact absurd (by rw [← za, e]; exact List.mem_map_of_mem zb) h1
    · exact absurd (by rw [← zb, ← e]; exact List.mem_map_of_mem za) h1
    · exact nd_same h2 za zb e
/-- where each pair has another of its sort and another of its kind, a trail goes on for ever -/
theorem no_trail {P : List Pair} (al : Alone P) (rng : ∀ p ∈ P, 0 ≤ p.1 ∧ p.1 < 4) (nk : ∀ p ∈ P, ∃ q ∈ P, q.2 = p.2 ∧ q.1 ≠ p.1) (ns : ∀ p ∈ P, ∃ q ∈ P, q.1 = p.1 ∧ q.2 ≠ p.2) :
    ∀ (k : Nat) (p : Pair) (r : List Pair), (∀ q ∈ p :: r, q ∈ P) → Tr P (p :: r) → ((p :: r).map (·.1)).Nodup → ((p :: r).map (·.2)).Nodup → 4 < k + (p :: r).length → False
  | 0, p, r, hm, _, n1, _, hl => by
    have h : ((p :: r).map (·.1)).length ≤ 4 := by
      have hs : Up (sortI ((p :: r).map (·.1))) := sortI_up n1
      have := up_len (m := 4) (by decide) hs fun x hx => by
        obtain ⟨q, hq, rfl⟩ := List.mem_map.mp ((sortI_perm _).mem_iff.mp hx)
        exact rng q (hm q hq)
      rw [(sortI_perm _).length_eq] at this
      omega
    rw [List.length_map] at h
    omega
  | k + 1, p, r, hm, tr, n1, n2, hl => by
    obtain ⟨q, hq, qk, qs⟩ := nk p (hm p List.mem_cons_self)
    by_cases c1 : q.1 ∈ r.map (·.1)
    · obtain ⟨z, hz, ez⟩ := List.mem_map.mp c1
      obtain ⟨r1, r2, er⟩ := List.append_of_mem hz
      have ew : p :: r = (p :: (r1 ++ [z])) ++ r2 := by rw [er]; simp
      have trw : Tr P (p :: (r1 ++ [z])) := by rw [ew] at tr; exact tr.pre
      have sub : List.Sublist (p :: (r1 ++ [z])) (p :: r) := by rw [ew]; exact List.sublist_append_left _ _
      have m1 := n1.sublist (sub.map (·.1))
      have m2 := n2.sublist (sub.map (·.2))
      have zp : (z.1, p.2) ∈ P := by
        have : (z.1, p.2) = q := Prod.ext ez qk.symm
        rw [this]
        exact hq
      have f1 : (((z.1 :: (p :: (r1 ++ [z])).map (·.1)).zip ((p :: (r1 ++ [z])).map (·.2))).map (·.1)) = z.1 :: (p :: r1).map (·.1) := by
        have e : z.1 :: (p :: (r1 ++ [z])).map (·.1) = (z.1 :: (p :: r1).map (·.1)) ++ [z.1] := by simp
        rw [e, zip_cutL (by simp), zip_fst (by simp)]
      have same := match_same al m1 m2 (fun x hx => hm x (sub.mem hx)) (shift trw zp) (by
        rw [f1]
        have e : (p :: (r1 ++ [z])).map (·.1) = (p :: r1).map (·.1) ++ [z.1] := by simp
        rw [e]
        exact (List.perm_append_singleton _ _).symm) (by rw [zip_snd (by simp)])
      have hz2 : (z.1, p.2) ∈ p :: (r1 ++ [z]) := same _ (by rw [List.map_cons, List.map_cons, List.zip_cons_cons]; exact List.mem_cons_self)
      have e := nd_same (f := (·.2)) m2 hz2 List.mem_cons_self rfl
      exact qs (by rw [← ez]; exact congrArg (·.1) e)
    · obtain ⟨t, ht, ts, tk⟩ := ns q hq
      have tp : (t.1, p.2) ∈ P := by
        have : (t.1, p.2) = q := Prod.ext ts qk.symm
        rw [this]
        exact hq
      have t1 : t.1 ∉ (p :: r).map (·.1) := by
        rw [List.map_cons, List.mem_cons, ts]
        rintro (h | h)
        · exact qs h
        · exact c1 h
      by_cases c2 : t.2 ∈ (p :: r).map (·.2)
      · have c3 : t.2 ∈ r.map (·.2) := by
          rw [List.map_cons] at c2
          rcases List.mem_cons.mp c2 with h | h
          · exact absurd (h.trans qk.symm) tk
          · exact h
        obtain ⟨z, hz, ez⟩ := List.mem_map.mp c3
        obtain ⟨r1, r2, er⟩ := List.append_of_mem hz
        have ew : p :: r = (p :: (r1 ++ [z])) ++ r2 := by rw [er]; simp
        have trw : Tr P (p :: (r1 ++ [z])) := by rw [ew] at tr; exact tr.pre
        have sub : List.Sublist (p :: (r1 ++ [z])) (p :: r) := by rw [ew]; exact List.sublist_append_left _ _
        have sub1 : List.Sublist (p :: r1) (p :: r) := (List.sublist_append_left (p :: r1) [z]).trans sub
        have w1 := n1.sublist (sub1.map (·.1))
        have w2 := n2.sublist (sub.map (·.2))
        have e2 : (p :: (r1 ++ [z])).map (·.2) = (p :: r1).map (·.2) ++ [z.2] := by simp
        have pw : ((p :: r1).map (·.2) ++ [z.2]).Perm (z.2 :: (p :: r1).map (·.2)) := List.perm_append_singleton _ _
        have m1 : ((t :: p :: r1).map (·.1)).Nodup := List.nodup_cons.mpr ⟨fun h => t1 ((sub1.map (·.1)).mem h), w1⟩
        have m2 : ((t :: p :: r1).map (·.2)).Nodup := by
          rw [e2] at w2
          show (t.2 :: (p :: r1).map (·.2)).Nodup
          rw [← ez]
          exact pw.nodup_iff.mp w2
        have f1 : (((t.1 :: (p :: (r1 ++ [z])).map (·.1)).zip ((p :: (r1 ++ [z])).map (·.2))).map (·.1)) = t.1 :: (p :: r1).map (·.1) := by
          have e : t.1 :: (p :: (r1 ++ [z])).map (·.1) = (t.1 :: (p :: r1).map (·.1)) ++ [z.1] := by simp
          rw [e, zip_cutL (by simp), zip_fst (by simp)]
        have same := match_same al m1 m2 (fun x hx => by
          rcases List.mem_cons.mp hx with h | h
          · rw [h]; exact ht
          · exact hm x (sub1.mem h)) (shift trw tp) (by rw [f1]; exact List.Perm.refl _) (by
          rw [zip_snd (by simp), e2]
          show List.Perm _ (t.2 :: (p :: r1).map (·.2))
          rw [← ez]
          exact pw)
        have hz2 : (t.1, p.2) ∈ t :: p :: r1 := same _ (by rw [List.map_cons, List.map_cons, List.zip_cons_cons]; exact List.mem_cons_self)
        have e := nd_same (f := (·.1)) m1 hz2 List.mem_cons_self rfl
        exact tk (by rw [qk]; exact (congrArg (·.2) e).symm)
      · refine no_trail al rng nk ns k t (p :: r) (fun x hx => ?_) ⟨tp, tr⟩ (List.nodup_cons.mpr ⟨t1, n1⟩) (List.nodup_cons.mpr ⟨c2, n2⟩) (by rw [List.length_cons]; omega)
        rcases List.mem_cons.mp hx with h | h
        · rw [h]; exact ht
        · exact hm x h
/-! ### the peeling -/
theorem other_of {f : Pair → Int} {ps : List Pair} (hn : ps.Nodup) {p : Pair} (hp : p ∈ ps) (h : ((ps.map f).count (f p) : Int) ≠ 1) : ∃ q ∈ ps, f q = f p ∧ q ≠ p := by
  obtain ⟨a, b, rfl⟩ := List.append_of_mem hp
  have hc : (a ++ b).map f = a.map f ++ b.map f := by simp
  have h1 : 0 < ((a ++ b).map f).count (f p) := by
    rw [List.map_append, List.map_cons, List.count_append, List.count_cons_self] at h
    rw [hc, List.count_append]
    omega
  obtain ⟨q, hq, e⟩ := List.mem_map.mp (List.count_pos_iff.mp h1)
  have hpn : p ∉ a ++ b := by
    have := (List.perm_middle (a := p) (l₁ := a) (l₂ := b)).nodup_iff.mp hn
    exact (List.nodup_cons.mp this).1
  refine ⟨q, ?_, e, fun z => hpn (z ▸ hq)⟩
  rcases List.mem_append.mp hq with h | h
  · exact List.mem_append_left _ h
  · exact List.mem_append_right _ (List.mem_cons_of_mem _ h)
theorem loose_some {ps : List Pair} (al : Alone ps) (hn : ps.Nodup) (rng : ∀ p ∈ ps, 0 ≤ p.1 ∧ p.1 < 4) (h0 : ps ≠ []) : looseP ps ≠ [] := by
  intro he
  have no : ∀ p ∈ ps, ((ps.map (·.1)).count p.1 : Int) ≠ 1 ∧ ((ps.map (·.2)).count p.2 : Int) ≠ 1 := fun p hp => by
    have := List.filter_eq_nil_iff.mp he p hp
    simp only [Bool.or_eq_true, decide_eq_true_eq, not_or] at this
    exact this
  obtain ⟨p, r, rfl⟩ := List.exists_cons_of_ne_nil h0
  refine no_trail al rng (fun q hq => ?_) (fun q hq => ?_) 4 p [] (fun x hx => by rw [List.mem_singleton.mp hx]; exact List.mem_cons_self) trivial (by simp) (by simp) (by simp)
  · obtain ⟨t, ht, e, n⟩ := other_of (f := (·.2)) hn hq (no q hq).2
    exact ⟨t, ht, e, fun z => n (Prod.ext z e)⟩
  · obtain ⟨t, ht, e, n⟩ := other_of (f := (·.1)) hn hq (no q hq).1
    exact ⟨t, ht, e, fun z => n (Prod.ext e z)⟩
theorem peel_less {ps : List Pair} (h : looseP ps ≠ []) : (peel ps).length < ps.length := by
  obtain ⟨z, zs, e⟩ := List.exists_cons_of_ne_nil h
  have hz : z ∈ ps := (List.mem_filter.mp (show z ∈ looseP ps by rw [e]; exact List.mem_cons_self)).1
  unfold peel
  rw [e]
  refine Nat.lt_of_le_of_ne (List.length_filter_le _ _) fun he => ?_
  have := List.length_filter_eq_length_iff.mp he z hz
  simp at this
theorem peels_sub (ps : List Pair) : ∀ n, List.Sublist (peels ps n) ps
  | 0 => List.Sublist.refl _
  | n + 1 => List.filter_sublist.trans (peels_sub ps n)
theorem no_ring {ps : List Pair} (al : Alone ps) (hn : ps.Nodup) (rng : ∀ p ∈ ps, 0 ≤ p.1 ∧ p.1 < 4) : noRing ps = true := by
  have key : ∀ n, (peels ps n).length ≤ ps.length - n := fun n => by
    induction n with
    | zero => exact Nat.le_refl _
    | succ n ih =>
      have s := peels_sub ps n
      by_cases h0 : peels ps n = []
      · show (peel (peels ps n)).length ≤ _
        rw [h0]
        exact Nat.zero_le _
      · have := peel_less (loose_some (al.sub fun p hp => s.mem hp) (hn.sublist s) (fun p hp => rng p (s.mem hp)) h0)
        show (peel (peels ps n)).length ≤ _
        omega
  have := key ps.length
  unfold noRing
  rw [List.isEmpty_iff]
  exact List.eq_nil_of_length_eq_zero (by omega)
/-! ### tables that tell alike -/
theorem uL_congr {T T' : Lot → Option Row} {ps : List Pair} {n : Nat} (h : ∀ js ∈ lvl ps n, T (keyL js) = T' (keyL js)) : uL T ps n = uL T' ps n := by
  have e : (lvl ps n).filter (bad T) = (lvl ps n).filter (bad T') := List.filter_congr fun js hj => by
    unfold bad
    rw [h js hj]
  unfold uL
  rw [e]
theorem firstU_congr {T T' : Lot → Option Row} {ps : List Pair} (h : ∀ n, ∀ js ∈ lvl ps n, T (keyL js) = T' (keyL js)) : ∀ k n, firstU T ps k n = firstU T' ps k n
  | 0, _ => rfl
  | k + 1, n => by unfold firstU; rw [uL_congr (h n), firstU_congr h k (n + 1)]
theorem due_congr {T T' : Lot → Option Row} {ps : List Pair} (h : ∀ n, ∀ js ∈ lvl ps n, T (keyL js) = T' (keyL js)) : due T ps = due T' ps := firstU_congr h 5 1
theorem LvlOk.any {S U S' U' : Int} {ps : List Pair} {n : Nat} {js : Lot} (h : LvlOk S U ps n js) : LvlOk S' U' ps n js := ⟨h.len1, h.len2, h.up, h.nd, h.sub⟩
theorem due_alone {S U : Int} {T : Lot → Option Row} {ps : List Pair} (hS : small S) (ok : PairsOk S U ps) (h0 : T ([], []) = some []) (h : due T ps = none) : Alone ps := by
  intro n js js' a b e
  have told : ∀ js, LvlOk 0 0 ps n js → T (keyL js) = some js.2 := fun js o => by
    by_cases hn0 : n = 0
    · subst hn0
      have e : js = ([], []) := Prod.ext (List.eq_nil_of_length_eq_zero o.len1) (List.eq_nil_of_length_eq_zero o.len2)
      rw [e]
      have e2 : keyL ([], []) = ([], []) := by simp [keyL, sortI]
      rw [e2, h0]
    · have hm := (mem_lvl (S := 0) (U := 0)).mpr o
      have hn : n < 6 := Nat.lt_of_not_le fun h6 => by
        rw [lvl_none hS ok (by omega)] at hm
        cases hm
      have hu := all_told h n (by omega) (by omega)
      unfold uL at hu
      have hf := List.map_eq_nil_iff.mp hu
      have hb := List.filter_eq_nil_iff.mp hf js hm
      unfold bad at hb
      simpa using hb
  have ea := told js a
  have eb := told js' b
  rw [e, eb] at ea
  have e1 : js.1 = js'.1 := congrArg (·.1) e
  exact Prod.ext e1 (Option.some.inj ea).symm
theorem PairsOk.nodup {S U : Int} {ps : List Pair} (h : PairsOk S U ps) : ps.Nodup := h.up.imp fun {a b} h e => by
  subst e
  unfold ltPr at h
  omega
/-- calm pairs close no ring -/
theorem calm_ring {S U : Int} {T : Lot → Option Row} {ps : List Pair} (hS : small S) (ok : PairsOk S U ps) (h0 : T ([], []) = some []) (h : due T ps = none) : noRing ps = true :=
  no_ring (due_alone hS ok h0 h) ok.nodup fun p hp => by
    have := (ok.rng p hp).1
    have := hS.2
    omega
/-! ### pairs sorted anew -/
theorem sortP_uniq {S U : Int} {ps qs : List Pair} (ok : PairsOk S U ps) (h : qs.Perm ps) : sortP qs = ps := by
  have q := sort_ok (S := S) (U := U) (h.nodup_iff.mpr ok.nodup) fun p hp => ok.rng p (h.mem_iff.mp hp)
  have perm : (sortP qs).Perm ps := (List.mergeSort_perm _ _).trans h
  refine perm.eq_of_pairwise (le := ltPr) (fun a b _ _ h1 h2 => ?_) q.up ok.up
  unfold ltPr at h1 h2
  omega
end K11
/-! repr of data; defs that are called where nothing is being shown -/
namespace K11
open PySem PySem.Spec PyProof.Rows L2 Evl
/-- what can be shown -/
structure Shw (d : PyData) : Prop where
  s : d.showable = true
  n : d.hasDict = false
  dp : d.depth ≤ 20
  z : d.shown.length ≤ sizeLine
def rShow (K : PySem.W.Frag) : List V → Hp → VK → Prop := fun vs H Q => ∃ a d, vs = [V.ref a] ∧ Dp K H (.ref a) d ∧ Shw d ∧ Q (.str d.shown) H
theorem k_repr (K : PySem.W.Frag) {X : Cx} (hg : X.A.guards = some []) (hu : X.A.units + 64 < cLine) (h : X.K = K := by rfl) : CallR X (.builtin "repr") (rShow K) := by
  subst h
  rintro pins s σ H vs us Q I r ⟨a, d, rfl, hd, sh, q⟩
  rw [Vals.ref1 r]
  obtain ⟨as, rs⟩ := Dp.reads I d _ (.ref a) hd (show RelV (.ref a) (.ref a) from rfl)
  refine repr_of_reads' rs sh.s (fun e => by rw [sh.n] at e; cases e) hg (by have := sh.dp; omega) (fun _ _ e => e) (fun h' u tk hk => ?_) sh.z
  exact ⟨.str d.shown, H, I.kept hk, ⟨_, rfl⟩, q⟩
theorem d_repr {K : PySem.W.Frag} {H : Hp} {σ : L2.St} {te : TE} {d : PyData} {ds : List PyData} (h : EvD K te σ H d) (hs : seqOf d = some ds) (sh : Shw d) : EvD K (tCB (rShow K) (tCons te tNil)) σ H (.str d.shown) := fun H1 e Q q =>
  h H1 e _ fun v H2 e2 dv => by
    have hv : ∃ a, v = .ref a := by
      cases d with
      | list es => obtain ⟨a, _, e, _⟩ := dv.list_of; exact ⟨a, e⟩
      | tuple es => obtain ⟨a, _, e, _⟩ := dv.tup_of; exact ⟨a, e⟩
      | _ => cases hs
    obtain ⟨a, rfl⟩ := hv
    exact ⟨a, d, rfl, dv, sh, q _ H2 e2 (.str _)⟩
/-- repr(x) == repr(y), != -/
theorem t_eqR {K : PySem.W.Frag} {H : Hp} {σ : L2.St} {ta tb : TE} {d : PyData} {ds : List PyData} (h1 : EvD K ta σ H d) (h2 : EvD K tb σ H d) (hs : seqOf d = some ds) (sh : Shw d) :
    EvD K (tOp rEq (tCB (rShow K) (tCons ta tNil)) (tCB (rShow K) (tCons tb tNil))) σ H (.bool true) :=
  d_is (d_op (d_repr h1 hs sh) (d_repr h2 hs sh) rd_eqS) (by simp)
theorem t_neR {K : PySem.W.Frag} {H : Hp} {σ : L2.St} {ta tb : TE} {d : PyData} {ds : List PyData} (h1 : EvD K ta σ H d) (h2 : EvD K tb σ H d) (hs : seqOf d = some ds) (sh : Shw d) :
    EvD K (tOp rNe (tCB (rShow K) (tCons ta tNil)) (tCB (rShow K) (tCons tb tNil))) σ H (.bool false) :=
  d_is (d_op (d_repr h1 hs sh) (d_repr h2 hs sh) rd_neS) (by simp)
/-! ### what is shown is short -/
theorem Shw.of {d : PyData} (h1 : d.canLay0 = true) (h2 : d.intsShort 13 = true) (h3 : d.showable = true) (h4 : d.hasDict = false) (h5 : d.depth ≤ 20) (h6 : d.weight ≤ 2 ^ 20) : Shw d :=
  ⟨h3, h4, h5, PyData.shown_fits (B := 13) (by decide) (by decide) (PyData.leavesShort_of_canLay0 13 d h1 h2) h6⟩
/-- ints of two digits at most -/
def tiny (n : Int) : Prop := -100 < n ∧ n < 100
theorem tiny_log {n : Int} (h : tiny n) : n.natAbs.log2 ≤ 6 := by
  by_cases h0 : n.natAbs = 0
  · rw [h0]; decide
  · exact Nat.lt_succ_iff.mp ((Nat.log2_lt h0).mpr (by obtain ⟨h1, h2⟩ := h; omega))
theorem tiny_w {n : Int} (h : tiny n) : (PyData.int n).weight ≤ 7 := by
  have := tiny_log h
  rw [PyData.weight]
  split <;> omega
theorem shown_ints : ∀ ns : List Int, (∀ n ∈ ns, tiny n) → PyData.intsShortAll 13 (ns.map .int) = true ∧ PyData.showableAll (ns.map .int) = true ∧ PyData.hasDictAll (ns.map .int) = false ∧ PyData.weightAll (ns.map .int) ≤ 8 * ns.length
  | [], _ => ⟨rfl, rfl, rfl, Nat.le_refl _⟩
  | n :: ns, h => by
    obtain ⟨a, b, c, d⟩ := shown_ints ns fun x hx => h x (List.mem_cons_of_mem _ hx)
    have hn := h n List.mem_cons_self
    have h1 := PyData.shown_int_le (i := n) (Nat.lt_of_lt_of_le (show n.natAbs < 100 by obtain ⟨h1, h2⟩ := hn; omega) (by decide))
    have h2 := tiny_log hn
    have h3 := tiny_w hn
    refine ⟨?_, ?_, ?_, ?_⟩
    · rw [List.map_cons, PyData.intsShortAll, a, PyData.intsShort, decide_eq_true h1]; rfl
    · rw [List.map_cons, PyData.showableAll, b, PyData.showable, decide_eq_true (show n.natAbs.log2 < 1920 by omega)]; rfl
    · rw [List.map_cons, PyData.hasDictAll, c, PyData.hasDict]; rfl
    · rw [List.map_cons, PyData.weightAll, List.length_cons]; omega
theorem shw_ints {ns : List Int} (h : ∀ n ∈ ns, tiny n) (hz : ns.length ≤ 1000) : Shw (.list (ns.map .int)) := by
  obtain ⟨a, b, c, d⟩ := shown_ints ns h
  refine .of ?_ ?_ ?_ ?_ ?_ ?_
  · rw [PyData.canLay0, lay_ints]
  · rw [PyData.intsShort, a]
  · rw [PyData.showable, b]
  · rw [PyData.hasDict, c]
  · rw [PyData.depth, dep_ints]; decide
  · rw [PyData.weight]; omega
theorem shw_tI {r : Row} (h : ∀ n ∈ r, tiny n) : (tI r).intsShort 13 = true ∧ (tI r).showable = true ∧ (tI r).hasDict = false ∧ (tI r).weight ≤ 8 * r.length := by
  obtain ⟨a, b, c, d⟩ := shown_ints r h
  unfold tI
  rw [PyData.intsShort, PyData.showable, PyData.hasDict, PyData.weight]
  exact ⟨a, b, c, d⟩
theorem shw_due {o : Option Lot} (h : ∀ l, o = some l → (∀ n ∈ l.1, tiny n) ∧ (∀ n ∈ l.2, tiny n) ∧ l.1.length ≤ 1000 ∧ l.2.length ≤ 1000) (b : Bool) : Shw (.list [dueD o, .bool b]) := by
  cases o with
  | none => cases b <;> exact .of rfl rfl rfl rfl (by decide) (by decide)
  | some l =>
    obtain ⟨h1, h2, z1, z2⟩ := h l rfl
    obtain ⟨a1, a2, a3, a4⟩ := shw_tI h1
    obtain ⟨b1, b2, b3, b4⟩ := shw_tI h2
    refine .of ?_ ?_ ?_ ?_ ?_ ?_
    · show PyData.canLay0 (.list [tL l, .bool b]) = true
      rw [PyData.canLay0, PyData.canLayAll0, lay_tL]
      rfl
    · show PyData.intsShort 13 (.list [tL l, .bool b]) = true
      rw [PyData.intsShort, PyData.intsShortAll, tL, PyData.intsShort, PyData.intsShortAll, PyData.intsShortAll, a1, b1]
      rfl
    · show PyData.showable (.list [tL l, .bool b]) = true
      rw [PyData.showable, PyData.showableAll, tL, PyData.showable, PyData.showableAll, PyData.showableAll, a2, b2]
      rfl
    · show PyData.hasDict (.list [tL l, .bool b]) = false
      rw [PyData.hasDict, PyData.hasDictAll, tL, PyData.hasDict, PyData.hasDictAll, PyData.hasDictAll, a3, b3]
      rfl
    · show PyData.depth (.list [tL l, .bool b]) ≤ 20
      rw [PyData.depth, PyData.depthAll, dep_tL]
      cases b <;> decide
    · show PyData.weight (.list [tL l, .bool b]) ≤ _
      rw [PyData.weight, PyData.weightAll, tL, PyData.weight, PyData.weightAll, PyData.weightAll, PyData.weightAll, PyData.weightAll, PyData.weight, PyData.weightAll]
      omega
theorem shown_prs : ∀ ps : List Pair, (∀ p ∈ ps, tiny p.1 ∧ tiny p.2) → PyData.intsShortAll 13 (ps.map tP) = true ∧ PyData.showableAll (ps.map tP) = true ∧ PyData.hasDictAll (ps.map tP) = false ∧ PyData.weightAll (ps.map tP) ≤ 20 * ps.length
  | [], _ => ⟨rfl, rfl, rfl, Nat.le_refl _⟩
  | p :: ps, h => by
    obtain ⟨a, b, c, d⟩ := shown_prs ps fun x hx => h x (List.mem_cons_of_mem _ hx)
    obtain ⟨h1, h2⟩ := h p List.mem_cons_self
    obtain ⟨a1, a2, a3, a4⟩ := shw_tI (r := [p.1, p.2]) (by simp [h1, h2])
    have e : tP p = tI [p.1, p.2] := rfl
    rw [List.map_cons, e]
    refine ⟨?_, ?_, ?_, ?_⟩
    · rw [PyData.intsShortAll, a, a1]; rfl
    · rw [PyData.showableAll, b, a2]; rfl
    · rw [PyData.hasDictAll, c, a3]; rfl
    · rw [PyData.weightAll, List.length_cons]
      simp only [List.length_cons, List.length_nil] at a4
      omega
theorem shw_prs {ps : List Pair} (h : ∀ p ∈ ps, tiny p.1 ∧ tiny p.2) (hz : ps.length ≤ 1000) : Shw (.tuple (ps.map tP)) := by
  obtain ⟨a, b, c, d⟩ := shown_prs ps h
  refine .of ?_ ?_ ?_ ?_ ?_ ?_
  · rw [PyData.canLay0, lay_tPs]
  · rw [PyData.intsShort, a]
  · rw [PyData.showable, b]
  · rw [PyData.hasDict, c]
  · rw [PyData.depth]; have := dep_tPs ps; omega
  · rw [PyData.weight]; omega
theorem shw_book : Shw (.tuple [.str "book", .int (-1)]) := .of (by decide +kernel) (by decide +kernel) (by decide +kernel) (by decide +kernel) (by decide +kernel) (by decide +kernel)
end K11
/-! defs whose promise holds where nothing is being shown (A.guards = some []) -/
namespace K11
open PySem PySem.Spec PyProof.Rows L2 Evl
/-- nothing is being shown -/
abbrev Still (A : Around) : Prop := A.guards = some []
structure FnG (P : Program) (w : World) (K : PySem.W.Frag) (mg : Str → Option Value) (base : Heap) (k : Nat) (f : Addr) (fd : FuncData) (ps : List Str) (sp : Sp) : Prop where
  many : ∀ vs H Q E, sp vs H Q E → vs.length = ps.length
  go : ∀ (A : Around) (fr : List Env) (s : Shared) (H : Hp) (ar : Args) (us : List Value) (vs : List V) (Q : VK) (E : XK), Still A → Room k A → Env0 P w K mg base A fr s H → BindsTo s fd ar (ps.zip us) → Vals vs us → sp vs H Q E →
    codeAny (model P w) A (.call (.ref f) ar) (CR CX0 fr P w H s Q E) s
/-- a def of the text that keeps such a promise -/
def OkG (P : Program) (w : World) (K : PySem.W.Frag) (mg : Str → Option Value) (base : Heap) (k : Nat) (x : Str) (ps : List Str) (sp : Sp) : Prop :=
  ∃ f fd, mg x = some (.ref f) ∧ PySem.W.keepIn K (.ref f) = true ∧ Binds K fd ps [] ∧ (∃ o, K.lookup f = some o ∧ o.data = .func fd) ∧ FnG P w K mg base k f fd ps sp
section
variable {P : Program} {w : World} {K : PySem.W.Frag} {mg : Str → Option Value} {base : Heap} {x : Str} {st : Stmt} {N ps : List Str} {sp : Sp} {k : Nat}
theorem fnG_of {f : Addr} {fd : FuncData} (F : FnP K x st f fd) (S : FnScope N ps (defScope st)) (len : ∀ vs H Q E, sp vs H Q E → vs.length = ps.length)
    (body : ∀ (cdv : Value) (A : Around) (fr : List Env) (s : Shared) (H : Hp) (vs : List V) (Q : VK) (E : XK), Still A → Room k (A.deeper (envOfC x (defScope st) s.heap.objs.size f cdv)) → sp vs H Q E →
      ∃ t, PSs (cxOf CX0 P w K mg base N x (defScope st) f cdv A fr s H E) (defBody st) t ∧ t { nx := fun _ H' => Q .non H', rt := Q } (start N vs) H) : FnG P w K mg base (k + 1) f fd ps sp := by
  obtain ⟨oc, od, dV, kV, doc, pm, an, cdv, ct, osl, rfl, at_f, code, _, _⟩ := F.ex
  refine ⟨len, fun A fr s H ar us vs Q E still room e0 bnd rel prom => ?_⟩
  have keep : ∀ b o, base.get? b = some o → s.heap.get? b = some o := fun b o z => (e0.bs b o z).1
  have kin := e0.mod.kin.keeps keep
  have places : ∀ y ∈ ps.zip us, (defScope st).names.lookup y.1 = some .local ∨ ((defScope st).names.lookup y.1 = some .cell ∧ ((cellsFrom (s.heap.objs.size + 1) (defScope st).names []).lookup y.1).isSome = true) := by
    rintro ⟨n, v⟩ hy
    exact (S.par n (List.of_mem_zip hy).1).imp id fun c => ⟨c, PySem.W.cellsFrom_some _ _ _ (.inl c)⟩
  refine codeAny_call_function room.depth (kin _ _ at_f) rfl S.co S.gen rfl (PySem.W.codeRec_of kin code) (bnd _ _ _ _ ?_)
  refine wpAny_newFunctionEnv_cells S.kind places fun env he s1 born => ?_
  cases he
  refine ⟨(e0.mod.nolimit.keeps keep).keeps born.toInCall.keep, codeAny_func ?_⟩
  obtain ⟨t, run, ok⟩ := body cdv A fr s H vs Q E still (room.deeper _) prom
  have I0 : Inv (cxOf CX0 P w K mg base N x (defScope st) f cdv A fr s H E) [] (start N vs) H s1 := inv_start S room.hd e0 (len _ _ _ _ prom) rel born
  refine wpAny_mono (run.run [] s1 (start N vs) H _ I0 ok) (fun fl s2 out => ?_) fun _ _ z => z
  cases fl with
  | ret u => exact let ⟨v, σ2, H2, J, rv, q⟩ := out; ⟨v, H2, J.os, J.bare, J.base, J.hok, rv, q⟩
  | next => exact let ⟨σ2, H2, J, q⟩ := out; ⟨V.non, H2, J.os, J.bare, J.base, J.hok, (show RelV .non .none from rfl), q⟩
  | brk => exact let ⟨_, _, _, q⟩ := out; False.elim q
  | cont => exact let ⟨_, _, _, q⟩ := out; False.elim q
theorem _root_.L2.FunD.at_ {x q : Str} {pa : Arguments} {bo : List Stmt} {sc : Scope} {dvs : List V} {kws : List (Str × V)} {f : Addr} {fd : FuncData} (F : FunD K x q pa bo sc dvs kws f fd) : ∃ o, K.lookup f = some o ∧ o.data = .func fd := by
  obtain ⟨oc, od, dV, kV, doc, pm, an, cdv, ct, osl, _, lk, _⟩ := F.ex
  exact ⟨_, lk, rfl⟩
theorem okG_of (n : Nm K mg x st) (S : FnScope N ps (defScope st)) (hb : BindsP x st ps) (len : ∀ vs H Q E, sp vs H Q E → vs.length = ps.length)
    (body : ∀ (f : Addr) (cdv : Value) (A : Around) (fr : List Env) (s : Shared) (H : Hp) (vs : List V) (Q : VK) (E : XK), Still A → Room k (A.deeper (envOfC x (defScope st) s.heap.objs.size f cdv)) → sp vs H Q E →
      ∃ t, PSs (cxOf CX0 P w K mg base N x (defScope st) f cdv A fr s H E) (defBody st) t ∧ t { nx := fun _ H' => Q .non H', rt := Q } (start N vs) H) : OkG P w K mg base (k + 1) x ps sp :=
  let ⟨f, fd, hm, F⟩ := n
  ⟨f, fd, hm, F.kp, F.bindsN hb, F.at_, fnG_of F S len (body f)⟩
end
section
variable {X : Cx} {x : Str} {ps : List Str} {sp : Sp} {k : Nat} {e : Expr} {es : List Expr} {t : TA} {p pos : Pos}
theorem pe_ownG (o : OkG X.prog X.w X.K X.mg X.base k x ps sp) (hs : Still X.A) (hr : Room k X.A) (hg : Gl X x) (ha : PA X (e :: es) t) (hdb : (x == ("__debug__" : Str)) = false := by decide)
    (he : starEach (e :: es) X.env = (false, eval e X.env) :: starEach es X.env := by rfl) (hpl : (backTo pos (starEach es X.env)).any (·.1) = false := by rfl) : PE X (.Call (.Name x p) (e :: es) [] pos) (tCall sp [] E0 t) := by
  obtain ⟨f, fd, at_x, kp, bnd, _, F⟩ := o
  refine ⟨fun pins s σ H Q I h => ?_⟩
  refine wpAny_Call_Name_kw (ld_glob I hg at_x ?_ hdb)
  refine PySem.W.callWith_K (h₀ := X.base) I.ok.mod.kin kp ?_ he hpl
  refine thn (ha.run pos pins s σ H _ I h) fun us s1 ⟨vs, H1, I1, rel, q⟩ => ⟨I1.kIn, ?_⟩
  have q : sp vs H1 Q E0 := by
    have q : sp (vs ++ []) H1 Q E0 := q
    rwa [List.append_nil] at q
  have lu : (us ++ []).length = ps.length := by
    rw [List.append_nil, ← rel.length]
    exact F.many _ _ _ _ q
  have b1 := bnd s1 us I1.kIn lu
  rw [List.append_nil] at b1
  refine wpAny_call (codeAny_mono (F.go X.A X.stack s1 H1 _ us vs Q E0 hs hr I1.env0 b1 rel q) fun r s2 out => ?_)
  rcases r with e | fl
  · exact False.elim out
  · cases fl with
    | ret u => exact I1.after out
    | _ => exact False.elim out
end
/-! ### the law called -/
theorem law_callG {P : Program} {w : World} {K : PySem.W.Frag} {mg mb : Str → Option Value} {k : Nat} {fa a : Addr} {fd : FuncData} {x : Str} {sp : Sp} {s : Shared} {us : List Value} {ns : List Int}
    (KX : K.In s.heap) (gl : s.heap.Ns mainGlobals mg) (bl : s.heap.Ns builtinsNs mb) (same : ∀ y : Str, y ≠ "__name__" → mb y = bootBuiltins y) (lim : s.heap.NoLimit) (gens : s.gens = #[])
    (at_a : s.heap.get? a = some { cls := .type "list", data := .seq us.toArray }) (hints : IntsAre us ns) (short : ns.length ≤ sizeLine) (room : Room k callerA)
    (F : ∀ base : Heap, K.In base → base.Ns mainGlobals mg → FnG P w K mg base k fa fd [x] sp) (bnd : ∀ (s : Shared) (u : Value), BindsTo s fd ⟨[u], []⟩ [(x, u)])
    (prom : ∀ H : Hp, Only H → SqL K H a (ns.map V.int) → sp [.ref a] H (fun v _ => v = .bl true) fun _ _ _ => False) :
    codeAny (model P w) callerA (.call (.ref fa) ⟨[.ref a], []⟩) (fun r s' => r = .ok (.ret (.bool true)) ∧ OldK s.heap s'.heap ∧ s'.os = s.os ∧ AllBare s'.gens) s := by
  have rv := vals_ints hints
  have lv := hints.length
  -- the tracked heap: the script at most, and none of the written part
  suffices core : ∀ H : Hp, Only H → SqL K H a (ns.map V.int) → HOk P w H s.heap → (∀ b, H b ≠ none → b = a ∧ K.lookup a = none) →
      codeAny (model P w) callerA (.call (.ref fa) ⟨[.ref a], []⟩) (fun r s' => r = .ok (.ret (.bool true)) ∧ OldK s.heap s'.heap ∧ s'.os = s.os ∧ AllBare s'.gens) s by
    cases written : K.lookup a with
    | some o =>
      have e := (KX a o written).symm.trans at_a
      cases e
      refine core (fun _ => none) (fun _ => .inl rfl) (.inr ⟨_, us.toArray, _, written, rfl, rfl, rfl, by rw [List.size_toArray, lv]; exact short, by simpa using rv⟩) (fun b u z => ?_) fun b z => absurd rfl z
      exact absurd (show (none : Option HO) = some u from z) (by simp)
    | none =>
      generalize hob : ({ cls := .type "list", data := .seq us.toArray } : Obj) = ob at at_a
      have yes : ∀ b, b = a → (if b = a then some (HO.frz ob (.lst (ns.map V.int))) else none) = some (.frz ob (.lst (ns.map V.int))) := fun b z => if_pos z
      have no : ∀ b, ¬ b = a → (if b = a then some (HO.frz ob (.lst (ns.map V.int))) else none) = none := fun b z => if_neg z
      refine core (fun b => if b = a then some (.frz ob (.lst (ns.map V.int))) else none) (fun b => ?_) (.inl (.inr ⟨ob, yes a rfl⟩)) (fun b u z => ?_) fun b z => ?_
      · exact (Classical.em (b = a)).elim (fun h => .inr ⟨_, _, yes b h⟩) fun h => .inl (no b h)
      · by_cases h : b = a
        · have e := (yes b h).symm.trans z
          cases e
          rw [h]
          refine ⟨at_a, by rw [List.length_map]; exact short, us, 0, rv, ?_⟩
          rw [at_a, ← hob]
        · exact absurd ((no b h).symm.trans z) (by simp)
      · by_cases h : b = a
        · exact ⟨h, written⟩
        · exact absurd (no b h) z
  intro H only scr hok inn
  have free : ∀ b o, K.lookup b = some o → H b = none := fun b o e => by
    cases q : H b with
    | none => rfl
    | some u =>
      obtain ⟨h1, h2⟩ := inn b (by rw [q]; simp)
      rw [h1, h2] at e
      cases e
  have freeD : ∀ {b : Addr} {o : Obj} {es : Array DictEntry} {ep : Nat}, s.heap.get? b = some o → o.data = .dict es ep → H b = none := fun {b o es ep} e d => by
    cases q : H b with
    | none => rfl
    | some u =>
      obtain ⟨h1, _⟩ := inn b (by rw [q]; simp)
      rw [h1, at_a] at e
      cases e
      cases (show Data.seq us.toArray _ = Data.dict es ep from d)
  have nsH : ∀ {b : Addr} {m : Str → Option Value}, s.heap.Ns b m → (hidT s.heap H).Ns b m := fun ⟨o, es, ep, e, d, r⟩ => ⟨o, es, ep, hidT_get e (freeD e d), d, r⟩
  have kH : K.In (hidT s.heap H) := fun b o e => hidT_get (KX b o e) (free b o e)
  have limH : (hidT s.heap H).NoLimit := let ⟨mc, h1, h2⟩ := lim; ⟨mc, nsH h1, h2⟩
  have noFr : ∀ b, b ∉ frs [] := fun b z => nomatch (show b ∈ ([] : List Addr) from z)
  have e0 : Env0 P w K mg (hidT s.heap H) callerA [] s H := ⟨rfl, ⟨kH, nsH gl, ⟨mb, nsH bl, same⟩, limH⟩, fun _ _ e => of_hidT e, Nat.le_of_eq (hidT_size _ _), trivial, fun b hb => absurd hb (noFr b), hok, .of_eq gens⟩
  refine codeAny_mono ((F _ kH (nsH gl)).go callerA [] s H ⟨[.ref a], []⟩ [.ref a] [.ref a] _ _ rfl room e0 (bnd s (.ref a)) (.cons (show RelV (.ref a) (.ref a) from rfl) .nil) (prom H only scr)) fun r s2 out => ?_
  rcases r with e | fl
  · exact False.elim out
  · cases fl with
    | ret u =>
      obtain ⟨v, H2, os, bare, un, hok2, rel, q⟩ := out
      have q2 : v = .bl true := q
      rw [q2] at rel
      have eu : u = Value.bool true := rel
      refine ⟨by rw [eu], OldK.of_keep fun b o e => ?_, os, bare⟩
      rcases only b with z | ⟨ob, xs, z⟩
      · exact un.keep b o e z (noFr b) (fun m => nomatch m)
      · have z1 := (hok b _ z).1
        have z2 := (hok2 b _ (un.frzs b ob _ z)).1
        rw [e] at z1
        cases z1
        exact z2
    | _ => exact False.elim out
end K11
/-! lists laid together, repeated, reversed; comprehensions of new lists; a Book called -/
namespace K11
open PySem PySem.Spec PyProof.Rows L2 Evl
theorem pe_mkB {X : Cx} {C f : Addr} {x : Str} {ps : List Str} {sp : Sp} {k : Nat} {e : Expr} {es : List Expr} {t : TA} {p pos : Pos} (M : Mk X.K C f) (g : X.mg x = some (.ref C)) (o : OkM X.prog X.w X.K X.mg X.base k f ps sp) (hr : Room (k + 1) X.A) (hg : Gl X x) (ha : PA X (e :: es) t)
    (hdb : (x == ("__debug__" : Str)) = false := by decide) (he : starEach (e :: es) X.env = (false, eval e X.env) :: starEach es X.env := by rfl) (hpl : (backTo pos (starEach es X.env)).any (·.1) = false := by rfl) : PE X (.Call (.Name x p) (e :: es) [] pos) (tMake C sp [] E0 t) := by
  obtain ⟨fd, b, F⟩ := o
  exact pe_make M F hr hg g b .nil pass0 ha hdb he hpl
section
variable {K : PySem.W.Frag} {H H' H1 H2 B : Hp} {σ : L2.St} {ta tb te tx : TE} {t : TT} {ds es : List PyData} {d : PyData} {p : Addr} {α : Type}
theorem n_cat (h1 : EvN K ta σ H ds) (h2 : EvN K tb σ H es) (hz : ds.length + es.length ≤ 100000) : EvN K (tOp rCat ta tb) σ H (ds ++ es) := fun H1 e Q q =>
  h1 H1 e _ fun l xs H2 nl e2 hl dl => h2 H2 (e.trans e2) _ fun b ys H3 nb e3 hb db =>
    ⟨l, b, xs, ys, rfl, rfl, e3 _ _ hl, hb, sz_of (by rw [dl.len, db.len]; exact hz), fun p hp => q p _ _ (fresh_back (e2.trans e3) hp) ((e2.trans e3).trans (Ex.new hp)) upd_same (((dl.ex e3).app db).ex (Ex.new hp))⟩
/-- a list that stands in a name, and one more -/
theorem n_catV {j : Nat} (hs : σ[j]? = some (some (.ref p))) (hl : Ls K H p ds) (h2 : EvN K tb σ H es) (hz : ds.length + es.length ≤ 100000) : EvN K (tOp rCat (tVar j) tb) σ H (ds ++ es) := fun H1 e Q q =>
  ⟨_, hs, h2 H1 e _ fun b ys H3 nb e3 hb db => by
    obtain ⟨xs, hp, dp⟩ := hl
    have e13 := e.trans e3
    exact ⟨p, b, xs, ys, rfl, rfl, e13 _ _ hp, hb, sz_of (by rw [dp.len, db.len]; exact hz), fun q2 hq => q q2 _ _ (fresh_back e3 hq) (e3.trans (Ex.new hq)) upd_same (((dp.ex e13).app db).ex (Ex.new hq))⟩⟩
theorem da_flat {xs : List V} (h : DpAll K H xs ds) : ∀ n : Nat, DpAll K H (List.replicate n xs).flatten (List.replicate n ds).flatten
  | 0 => .nil
  | n + 1 => by
    rw [List.replicate_succ, List.replicate_succ, List.flatten_cons, List.flatten_cons]
    exact h.app (da_flat h n)
theorem n_rep {n : Nat} (h1 : EvN K ta σ H ds) (h2 : EvD K tb σ H (.int (n : Int))) (hz : ds.length * n ≤ 100000) (hn : n ≤ 100000) : EvN K (tOp rRep ta tb) σ H (List.replicate n ds).flatten := fun H1 e Q q =>
  h1 H1 e _ fun l xs H2 nl e2 hl dl => h2.int H2 (e.trans e2) _ fun H3 e3 => by
    refine ⟨l, (n : Int), xs, rfl, rfl, e3 _ _ hl, by omega, by omega, sz_of (by rw [dl.len, Int.toNat_natCast]; exact hz), fun p hp => ?_⟩
    rw [Int.toNat_natCast]
    exact q p _ _ (fresh_back (e2.trans e3) hp) ((e2.trans e3).trans (Ex.new hp)) upd_same ((da_flat (dl.ex e3) n).ex (Ex.new hp))
theorem dpa_rev {xs : List V} (h : DpAll K H xs ds) : DpAll K H xs.reverse ds.reverse := by
  induction xs generalizing ds with
  | nil =>
    cases h
    exact .nil
  | cons x xs ih =>
    cases h with
    | cons h1 h2 =>
      rw [List.reverse_cons, List.reverse_cons]
      exact (ih h2).app (.one h1)
theorem n_rev (h : EvD K te σ H (.list ds)) : EvN K (tRevL K te) σ H ds.reverse := fun H1 e Q q =>
  h H1 e _ fun v H2 e2 dv => by
    obtain ⟨a, xs, rfl, sa, da⟩ := dv.list_of
    exact ⟨a, xs, rfl, sa, fun p hp => q p _ _ (fresh_back e2 hp) (e2.trans (Ex.new hp)) upd_same ((dpa_rev da).ex (Ex.new hp))⟩
theorem n_listT (h : EvD K te σ H (.tuple ds)) : EvN K (tCB (rListS K) (tCons te tNil)) σ H ds := n_cb1 (da_one h) cn_listT
theorem n_listL (h : EvD K te σ H (.list ds)) : EvN K (tCB (rListS K) (tCons te tNil)) σ H ds := n_cb1 (da_one h) cn_listL
/-! ### new lists in a new list -/
/-- at qs stand the lists dss, of flat data -/
abbrev Rws (K : PySem.W.Frag) (H : Hp) : List Addr → List (List PyData) → Prop := Paired fun q ds => Ls K H q ds ∧ flatAll ds = true
/-- qs: made since B, unlike, none of them p -/
structure News (B : Hp) (p : Addr) (qs : List Addr) : Prop where
  nd : qs.Nodup
  new : ∀ q ∈ qs, B q = none
  ne : ∀ q ∈ qs, q ≠ p
theorem Rws.fr {S : List Addr} {qs : List Addr} {dss : List (List PyData)} (h : Rws K H qs dss) (f : Fr K S H H') (n : ∀ q ∈ qs, q ∉ S) : Rws K H' qs dss := by
  induction h with
  | nil => exact .nil
  | cons h t ih => exact .cons ⟨h.1.fr f (n _ List.mem_cons_self) h.2, h.2⟩ (ih fun q hq => n q (List.mem_cons_of_mem _ hq))
theorem Rws.data {qs : List Addr} {dss : List (List PyData)} (h : Rws K H qs dss) : DpAll K H (qs.map V.ref) (dss.map .list) := by
  induction h with
  | nil => exact .nil
  | cons h t ih => exact .cons h.1.toD ih
theorem Rws.in {qs : List Addr} {dss : List (List PyData)} (h : Rws K H qs dss) : ∀ q ∈ qs, H q ≠ none := by
  induction h with
  | nil => exact fun _ h => nomatch h
  | cons h t ih =>
    intro q hq
    rcases List.mem_cons.mp hq with rfl | hq
    · exact h.1.ne
    · exact ih q hq
theorem n_lcM {wi : TI} {g : TG} {vs : List Nat} (en : α → PyData) (as : List α) (hi : EvI K wi σ H (as.map en)) (v : α → List PyData) (hz : as.length ≤ 90000) (hfl : ∀ a ∈ as, flatAll (v a) = true)
    (hg : ∀ a ∈ as, ∀ x B H1, Ex H B → Ex B H1 → Dp K B x (en a) → ∀ Q : L2.St → Hp → Prop, (∀ σ2, wipe σ2 vs = wipe σ vs → EvT t σ2 B true → EvN K te σ2 B (v a) → Q σ2 H1) → g x (wipe σ vs) H1 Q) :
    ∀ H1, Ex H H1 → ∀ Q : VK, (∀ p qs H2, H1 p = none → Ex H1 H2 → H2 p = some (.lst (qs.map V.ref)) → News H1 p qs → Rws K H2 qs (as.map v) → Q (.ref p) H2) → tLc wi g t te vs σ H1 Q := fun H1 e Q q => hi H1 e _ fun J H2 e2 wk Dl hD => by
  have lm : (as.map en).length = as.length := List.length_map en
  have hD1 := fresh_back e2 hD
  refine ⟨fun i m H' => m = as.length - i ∧ i ≤ as.length ∧ Ex H2 H' ∧ ∃ qs, H' Dl = some (.lst (qs.map V.ref)) ∧ News H1 Dl qs ∧ Rws K H' qs ((as.take i).map v), ⟨as.length, by simp, Nat.zero_le _, Ex.new hD, [], upd_same, ⟨List.nodup_nil, fun _ h => (nomatch h), fun _ h => nomatch h⟩, .nil⟩, ?_⟩
  rintro i m H' ⟨rfl, hil, ex, qs, hacc, nw, rw_⟩
  by_cases hlt : i < as.length
  · have hlt' : i < (as.map en).length := by rw [lm]; exact hlt
    refine .inr ⟨(wk.1 i H' hlt' ex).1, fun H'' => i + 1 ≤ as.length ∧ Ex H2 H'' ∧ ∃ qs, H'' Dl = some (.lst (qs.map V.ref)) ∧ News H1 Dl qs ∧ Rws K H'' qs ((as.take (i + 1)).map v), fun H'' p => ⟨as.length - (i + 1), by omega, rfl, p⟩, fun x H'' y => ?_⟩
    obtain ⟨e4, d, hd, dx⟩ := (wk.1 i H' hlt' ex).2 x H'' y
    obtain ⟨a, ha, rfl⟩ := get_map hd
    have hm : a ∈ as := List.mem_of_getElem? ha
    have exB : Ex H (cut H2 H' H'') := (e.trans e2).trans (cut_keep e4 ex)
    have tk := take_succ_of ha
    have lq : qs.length ≤ i := by
      have h1 := Paired.length rw_
      rw [List.length_map, List.length_take] at h1
      omega
    refine hg a hm x _ H'' exB cut_ex dx _ fun σ2 hw ht he => ⟨hw, ht H'' cut_ex _ fun H3 e5 => ?_⟩
    refine if_yes rfl ?_
    refine he H3 (cut_ex.trans e5) _ fun r ws H4 nr e6 hr dr => ?_
    have e46 := (e4.trans e5).trans e6
    have exD := e46 _ _ hacc
    have r1 : H1 r = none := fresh_back (((e2.trans ex).trans e4).trans e5) nr
    have rD : r ≠ Dl := fun z => by
      have := (e4.trans e5) _ _ hacc
      rw [← z, nr] at this
      cases this
    have rq : r ∉ qs := fun z => rw_.in r z (fresh_back (e4.trans e5) nr)
    have wD : Wr K Dl H4 (upd H4 Dl (.lst (qs.map V.ref ++ [.ref r]))) := Wr.of (Ex.refl _) ⟨_, exD⟩
    have fD : Fr K [Dl] H4 (upd H4 Dl (.lst (qs.map V.ref ++ [.ref r]))) := Fr.wr wD (by simp)
    refine ⟨qs.map V.ref, exD, sz_lt (by rw [List.length_map]; omega), hlt, Ex.mut (ex.trans e46) hD, qs ++ [r], ?_, ⟨?_, ?_, ?_⟩, ?_⟩
    · rw [upd_same, List.map_append]
      rfl
    · rw [List.nodup_append]
      refine ⟨nw.nd, by simp, fun a ha b hb => ?_⟩
      rw [List.mem_singleton.mp hb]
      exact fun z => rq (z ▸ ha)
    · intro q hq
      rcases List.mem_append.mp hq with hq | hq
      · exact nw.new q hq
      · rw [List.mem_singleton.mp hq]; exact r1
    · intro q hq
      rcases List.mem_append.mp hq with hq | hq
      · exact nw.ne q hq
      · rw [List.mem_singleton.mp hq]; exact rD
    · rw [tk, List.map_append]
      refine Paired.snoc ((rw_.fr (K11.Fr.ex (S := []) e46) (by simp)).fr fD fun q hq => by simpa using nw.ne q hq) ⟨?_, hfl a hm⟩
      exact (show Ls K H4 r (v a) from ⟨ws, hr, dr⟩).fr fD (by simpa using rD) (hfl a hm)
  · have e3 : i = as.length := by omega
    subst e3
    rw [List.take_length] at rw_
    have st := wk.2 H' ex
    rw [lm] at st
    exact .inl ⟨st, q Dl qs H' hD1 (e2.trans ex) hacc nw rw_⟩
end
end K11
/-! what is no lot of pairs is refused -/
namespace K11
open PySem PySem.Spec PyProof.Rows L2 Evl
theorem good_self {f : Pair → PyData} (hf : ∀ p, GoodEl p (f p)) : ∀ ps : List Pair, GoodAll ps (ps.map f)
  | [] => .nil
  | p :: ps => .cons (hf p) (good_self hf ps)
/-- the book at b, the pairs at p -/
def spRR (K : PySem.W.Frag) (C : Addr) : Sp := fun vs H Q _ => ∃ b p S U D ps, vs = [V.ref b, .int S, .int U, .ref p] ∧ BkAt C H b S U D ∧ small S ∧ small U ∧ PairsOk S U ps ∧ Ls K H p (ps.map tP) ∧ ∀ H', Ex H H' → Q (.bl true) H'
theorem spRR_len {K : PySem.W.Frag} {C : Addr} {vs : List V} {H : Hp} {Q : VK} {E : XK} (h : spRR K C vs H Q E) : vs.length = 4 := by
  obtain ⟨b, p, S, U, D, ps, rfl, _⟩ := h
  rfl
section
variable {K : PySem.W.Frag} {H : Hp} {σ : L2.St} {ta tb te : TE} {C B1 B2 b p D : Addr} {S U : Int} {d : PyData} {ps : List Pair}
/-- no sequence -/
theorem d_ref0 {i : Nat} (hs : σ[i]? = some (some (.ref b))) (hb : BkAt C H b S U D) (h : EvD K tb σ H d) (hn : noD d) (hd : seqOf d = none) : EvD K (tCall (spRef K C B1 B2) [] E0 (tCons (tVar i) (tCons tb tNil))) σ H (.int (-1)) := fun H1 e Q q =>
  ⟨_, hs, h H1 e _ fun v H2 e2 dv => ⟨_, v, rfl, .inr ⟨b, S, U, D, d, rfl, hb.up (e.trans e2), dv, hn, .inl ⟨hd, fun H3 e3 => q _ H3 (e2.trans e3) (.int _)⟩⟩⟩⟩
/-- one more behind the pairs -/
theorem d_ref1 {i j : Nat} {bad : PyData} (hs : σ[i]? = some (some (.ref b))) (hp : σ[j]? = some (some (.ref p))) (hb : BkAt C H b S U D) (hl : Ls K H p (ps.map tP)) (ok : PairsOk S U ps) (hz : ps.length ≤ 16) (h : EvN K tb σ H [bad]) (hbad : BadEl S U ps bad) :
    EvD K (tCall (spRef K C B1 B2) [] E0 (tCons (tVar i) (tCons (tOp rCat (tVar j) tb) tNil))) σ H (.int (ps.length : Int)) := fun H1 e Q q =>
  ⟨_, hs, n_catV hp hl h (by rw [List.length_map, List.length_singleton]; omega) H1 e _ fun l xs H2 nl e2 hl2 dl => ⟨_, _, rfl, .inr ⟨b, S, U, D, _, rfl, hb.up (e.trans e2), .lst (sq_of hl2) dl, True.intro,
    .inr ⟨ps.map tP, ps, [bad], rfl, by rw [List.length_append, List.length_map, List.length_singleton]; omega, good_self (f := tP) (fun p => rfl) ps, ok.nodup, ok.rng, bad, [], rfl, hbad, fun H3 e3 => by
      rw [List.length_map]
      exact q _ H3 (e2.trans e3) (.int _)⟩⟩⟩⟩
theorem d_refN (h : EvD K ta σ H .none) (hp : Ev tb σ H (.ref p)) : EvD K (tCall (spRef K C B1 B2) [] E0 (tCons ta (tCons tb tNil))) σ H (.tuple [.str "book", .int (-1)]) := fun H1 e Q q =>
  h H1 e _ fun v H2 e2 dv => by
    rw [dv.non_of]
    exact hp H2 (e.trans e2) _ fun H3 e3 => ⟨_, _, rfl, .inl ⟨rfl, fun u H4 e4 du => q u H4 ((e2.trans e3).trans e4) du⟩⟩
end
/-! ### data that stands without the lists at S -/
section
variable {K : PySem.W.Frag} {H H' H1 : Hp} {σ : L2.St} {ta tb te tl : TE} {tA : TA} {S : List Addr} {d : PyData} {ds : List PyData} {D : Ends} {tu tz : TS} {g : TG} {α : Type}
def LsIn (S : List Addr) (H : Hp) : Prop := ∀ c ∈ S, ∃ ys, H c = some (.lst ys)
theorem LsIn.ex (h : LsIn S H) (e : Ex H H') : LsIn S H' := fun c m => let ⟨ys, z⟩ := h c m; ⟨ys, e _ _ z⟩
theorem LsIn.off {p : Addr} (h : LsIn S H) (n : H p = none) : p ∉ S := fun m => by
  obtain ⟨ys, z⟩ := h p m
  rw [n] at z
  cases z
def EvZ (K : PySem.W.Frag) (S : List Addr) (te : TE) (σ : L2.St) (H : Hp) (d : PyData) : Prop := ∀ H1, Ex H H1 → ∀ Q : VK, (∀ v H2, Ex H1 H2 → Dp K (off S H2) v d → Q v H2) → te σ H1 Q
def EvZA (K : PySem.W.Frag) (S : List Addr) (tA : TA) (σ : L2.St) (H : Hp) (ds : List PyData) : Prop := ∀ H1, Ex H H1 → ∀ Q : List V → Hp → Prop, (∀ vs H2, Ex H1 H2 → DpAll K (off S H2) vs ds → Q vs H2) → tA σ H1 Q
theorem z_flat (l : LsIn S H) (h : EvD K te σ H d) (f : flat d = true) : EvZ K S te σ H d := fun H1 e Q q =>
  h H1 e _ fun v H2 e2 dv => q v H2 e2 (dv.tx (off_tx (l.ex (e.trans e2))) f)
theorem z_new (l : LsIn S H) (h : EvN K te σ H ds) (f : flatAll ds = true) : EvZ K S te σ H (.list ds) := fun H1 e Q q =>
  h H1 e _ fun p xs H2 n e2 hp dp => q _ H2 e2 (.lst (sq_of (off_at ((l.ex e).off n) hp)) (dp.tx (off_tx (l.ex (e.trans e2))) f))
theorem za_nil : EvZA K S tNil σ H [] := fun H1 e Q q => q [] H1 (Ex.refl H1) .nil
theorem za_cons (h : EvZ K S te σ H d) (hr : EvZA K S tA σ H ds) : EvZA K S (tCons te tA) σ H (d :: ds) := fun H1 e Q q =>
  h H1 e _ fun v H2 e2 dv => hr H2 (e.trans e2) _ fun vs H3 e3 dvs => q _ H3 (e2.trans e3) (.cons (dv.ex (off_ext e3)) dvs)
theorem z_tup (l : LsIn S H) (h : EvZA K S tA σ H ds) (hz : ds.length ≤ 100000) : EvZ K S (tTup tA) σ H (.tuple ds) := fun H1 e Q q =>
  h H1 e _ fun vs H2 e2 dvs => ⟨sz_of (by rw [dvs.len]; exact hz), fun p hp => q _ _ (e2.trans (Ex.new hp)) (.tup (st_of (off_at ((l.ex (e.trans e2)).off hp) upd_same)) (dvs.ex (off_ext (Ex.new hp))))⟩
theorem q_forTO (en : α → PyData) (as : List α) (h : EvZ K S tl σ H (.tuple (as.map en)))
    (k : ∀ H1, Ex H H1 → ∃ Pv : Nat → L2.St → Hp → Prop, Pv 0 σ H1 ∧ (∀ i σ' H', Pv i σ' H' → Ex (off S H1) H') ∧
      (∀ i a x σ' H', as[i]? = some a → Pv i σ' H' → Dp K H' x (en a) → g x σ' H' fun σ2 H2 => tu { D with nx := Pv (i + 1), ct := Pv (i + 1), bk := tz D } σ2 H2) ∧ ∀ σ' H', Pv as.length σ' H' → tz D σ' H') : tSeq (tFor (iTup K tl) g tu) tz D σ H :=
  h H (Ex.refl H) _ fun v H1 e hv => by
    obtain ⟨p, xs, rfl, sp, dp⟩ := hv.tup_of
    obtain ⟨Pv, h0, h1, h2, h3⟩ := k H1 e
    have ln : xs.length = as.length := by rw [dp.len, List.length_map]
    refine ⟨p, rfl, ⟨xs, ex_t off_ex sp⟩, for_tup (D := { D with nx := tz D }) Pv h0 (fun i σ' H' _ pv => ex_t (h1 i σ' H' pv) sp) (fun i x σ' H' hx pv => ?_) fun σ' H' pv => h3 σ' H' (by rw [← ln]; exact pv)⟩
    obtain ⟨d, hd, dd⟩ := dp.get hx
    obtain ⟨a, ha, rfl⟩ := get_map hd
    exact h2 i a x σ' H' ha pv (dd.ex (h1 i σ' H' pv))
end
theorem seq_two {d : PyData} {x y : PyData} (h : seqOf d = some [x, y]) : noD d := noD_of h
/-- what is odd behind pairs -/
def odds (S U : Int) : List PyData := [.none, .tuple [.int 0], .tuple [.int S, .int 0], .tuple [.int 0, .int U], .tuple [.bool true, .int 0], .list [.int 0, .int 0, .int 0]]
theorem odds_bad {S U : Int} {ps : List Pair} {d : PyData} (hS : small S) (h : d ∈ odds S U) : BadEl S U ps d := by
  have s1 := hS.1
  unfold odds at h
  simp only [List.mem_cons, List.not_mem_nil, or_false] at h
  rcases h with rfl | rfl | rfl | rfl | rfl | rfl
  · exact ⟨True.intro, .inl rfl⟩
  · exact ⟨True.intro, .inr ⟨_, rfl, .inl (by decide)⟩⟩
  · exact ⟨True.intro, .inr ⟨_, rfl, .inr ⟨_, _, rfl, True.intro, True.intro, .inl (by simp [isBelowD])⟩⟩⟩
  · exact ⟨True.intro, .inr ⟨_, rfl, .inr ⟨_, _, rfl, True.intro, True.intro, .inr (.inl ⟨by simp [isBelowD]; omega, by simp [isBelowD]⟩)⟩⟩⟩
  · exact ⟨True.intro, .inr ⟨_, rfl, .inr ⟨_, _, rfl, True.intro, True.intro, .inl (by simp [isBelowD])⟩⟩⟩
  · exact ⟨True.intro, .inr ⟨_, rfl, .inl (by decide)⟩⟩
section
variable {P : Program} {w : World} {K : PySem.W.Frag} {mg : Str → Option Value} {base : Heap}
theorem sc_law_refused_right : FnScope ["_law_book", "_law_sorts", "_law_kinds", "_law_pairs", "_law_found", "_law_value", "_law_odd", "_law_due"] ["_law_book", "_law_sorts", "_law_kinds", "_law_pairs"] (defScope (top 50)) := ⟨rfl, rfl, rfl, by decide +kernel, rfl, by decide +kernel, by decide +kernel⟩
theorem bp_law_refused_right : BindsP "_law_refused_right" (top 50) ["_law_book", "_law_sorts", "_law_kinds", "_law_pairs"] := fun _ _ _ _ _ _ us hl => match us, hl with | [_, _, _, _], _ => rfl
theorem o_law_refused_right (W : Gs K mg) {C fI B1 B2 : Addr} (Ew : Es P w K mg C fI B1 B2) : OkG P w K mg base 6 "_law_refused_right" ["_law_book", "_law_sorts", "_law_kinds", "_law_pairs"] (spRR K C) := by
  refine okG_of W.n_law_refused_right sc_law_refused_right bp_law_refused_right (fun vs H Q E h => spRR_len h) (fun f cdv A outer s H vs Q E hs hr h => ?_)
  refine ⟨_, (PSs.nox
  (pss_cons (ps_setLc (i := 4) (own := [("_law_value", 5)]) rfl sc_law_refused_right.nd rfl rfl (by rfl) (k_pitup K (pe_tup (pa_cons pe_non (pa_cons pe_int (pa_cons pe_str pa_nil))))) (blkOk_by (N := ["_law_book", "_law_sorts", "_law_kinds", "_law_pairs", "_law_found", "_law_value", "_law_odd", "_law_due"]) (sc := defScope (top 50)) (by decide +kernel)) (fun _ _ _ _ _ => (pg_name (i := 5) sc_law_refused_right.nd rfl (.inl rfl))) (fun _ _ _ _ _ => pts_nil) (fun _ _ _ _ _ => (k_own (P := P) (w := w) (base := base) (o_law_refused W Ew) (hr.mono (by decide)) pass0 (by rfl) (pa_cons (pv 0) (pa_cons (pv 5) pa_nil)))))
  (pss_cons (ps_for PassesOwn.never rfl (k_pitup K (pe_tup (pa_cons pe_non (pa_cons (pe_tup (pa_cons pe_int pa_nil)) (pa_cons (pe_tup (pa_cons (pv 1) (pa_cons pe_int pa_nil))) (pa_cons (pe_tup (pa_cons pe_int (pa_cons (pv 2) pa_nil))) (pa_cons (pe_tup (pa_cons pe_bl (pa_cons pe_int pa_nil))) (pa_cons (pe_lst (pa_cons pe_int (pa_cons pe_int (pa_cons pe_int pa_nil)))) pa_nil)))))))) (pg_name (i := 6) sc_law_refused_right.nd rfl (.inl rfl))
  (pss_one (ps_expr (pe_bm PySem.F.plainAttrs_list PySem.F.slot_list_append PySem.F.type_list_append mt_append (pv 4) (pa_cons (k_own (P := P) (w := w) (base := base) (o_law_refused W Ew) (hr.mono (by decide)) pass0 (by rfl) (pa_cons (pv 0) (pa_cons (pe_op op_cat (pv 3) (pe_lst (pa_cons (pv 6) pa_nil))) pa_nil))) pa_nil)))))
  (pss_cons (ps_if (pt_cmpR (k_neD K (room_u hr)) (pv 3) (pe_lst pa_nil) (nomark _)) (pss_one (ps_expr (pe_bm PySem.F.plainAttrs_list PySem.F.slot_list_append PySem.F.type_list_append mt_append (pv 4) (pa_cons (k_own (P := P) (w := w) (base := base) (o_law_refused W Ew) (hr.mono (by decide)) pass0 (by rfl) (pa_cons (pv 0) (pa_cons (pe_op op_cat (pv 3) (pe_lst (pa_cons (pe_callTy (k_list K) (by rfl) W.f_list boot_list (pa_cons (pe_ix (k_ixL K) (pv 3) pe_int (fun _ _ => rfl)) pa_nil)) pa_nil))) pa_nil))) pa_nil)))) pss_nil)
  (pss_cons (ps_set (i := 7) sc_law_refused_right.nd rfl (.inl rfl) (pe_op op_cat (pe_op op_rep (pe_lst (pa_cons (pe_op op_sub pe_int pe_int) pa_nil)) pe_int) (pe_op op_rep (pe_lst (pa_cons (pe_callB (k_len K) (by rfl) W.f_len boot_len (pa_cons (pv 3) pa_nil)) pa_nil)) (pe_op op_add pe_int (pe_callTy cInt (by rfl) W.f_int boot_int (pa_cons (pe_cmpR (k_neD K (room_u hr)) (pv 3) (pe_lst pa_nil) (nomark _)) pa_nil))))))
  (pss_one (ps_ret (pe_and (pe_cmpR op_eq (pe_callB (k_repr K hs (room_u hr)) (by rfl) W.f_repr boot_repr (pa_cons (pv 4) pa_nil)) (pe_callB (k_repr K hs (room_u hr)) (by rfl) W.f_repr boot_repr (pa_cons (pv 7) pa_nil)) (nomark _)) (pe_one (pe_cmpR op_eq (pe_callB (k_repr K hs (room_u hr)) (by rfl) W.f_repr boot_repr (pa_cons (k_own (P := P) (w := w) (base := base) (o_law_refused W Ew) (hr.mono (by decide)) pass0 (by rfl) (pa_cons pe_non (pa_cons (pv 3) pa_nil))) pa_nil)) (pe_callB (k_repr K hs (room_u hr)) (by rfl) W.f_repr boot_repr (pa_cons (pe_tup (pa_cons pe_str (pa_cons (pe_op op_sub pe_int pe_int) pa_nil))) pa_nil)) (nomark _))))))))))), ?_⟩
  obtain ⟨b, p, S, U, D, ps, rfl, hb, hS, hU, ok, hl, q⟩ := h
  have hz := ok.len hS hU
  have three : ([PyData.none, .int 7, .str "00"].filter fun _ => true).map (fun _ => PyData.int (-1)) = [.int (-1), .int (-1), .int (-1)] := rfl
  refine q_setN (K := K) (n_is (n_lc (K := K) (ds := [PyData.none, .int 7, .str "00"]) (i_tup (d_tup (da_cons d_cn (da_two d_ci d_cs)) (show 3 ≤ 100000 by decide))) (fun _ => true) (fun _ => .int (-1)) (show 3 ≤ 40000 by decide) (fun _ _ _ => rfl) (fun d hd x B H1 eB eB1 dx Q1 k => ?_)) three) fun l xs H1 nl e1 hl1 dl1 => ?_
  · refine k _ rfl et_yes fun _ => ?_
    simp only [List.mem_cons, List.not_mem_nil, or_false] at hd
    rcases hd with rfl | rfl | rfl
    · exact d_ref0 (C := C) rfl (hb.up eB) (d_var rfl dx) True.intro rfl
    · exact d_ref0 (C := C) rfl (hb.up eB) (d_var rfl dx) True.intro rfl
    · exact d_ref0 (C := C) rfl (hb.up eB) (d_var rfl dx) True.intro rfl
  have lin : LsIn [l] H1 := fun c m => by
    rw [List.mem_singleton.mp m]
    exact ⟨_, hl1⟩
  have l_b : b ≠ l := fun z => by
    obtain ⟨dx, fs, h1, _⟩ := hb.ex
    rw [z, nl] at h1
    cases h1
  have l_p : p ≠ l := hl.off nl
  have up1 : Ex H (off [l] H1) := fun c o h => off_at (fun m => by rw [List.mem_singleton.mp m, nl] at h; cases h) (e1 _ _ h)
  refine q_forTO (K := K) (S := [l]) id (odds S U) ?_ fun H2 e2 => ⟨fun i σ' H' => ∃ t, σ' = [some (.ref b), some (.int S), some (.int U), some (.ref p), some (.ref l), none, t, none] ∧ i ≤ 6 ∧ Ex (off [l] H2) H' ∧ Ls K H' l (([-1, -1, -1] ++ List.replicate i (ps.length : Int)).map .int),
    ⟨none, rfl, Nat.zero_le _, off_ex, ⟨xs, e2 _ _ hl1, dl1.ex e2⟩⟩, fun i σ' H' ⟨_, _, _, h, _⟩ => h, ?_, ?_⟩
  · rw [List.map_id]
    exact z_tup lin (za_cons (z_flat lin d_cn rfl) (za_cons (z_flat lin (d_tup (da_one d_ci) (show 1 ≤ 100000 by decide)) rfl) (za_cons (z_flat lin (d_tup (da_two (d_var rfl (.int _)) d_ci) (show 2 ≤ 100000 by decide)) rfl) (za_cons (z_flat lin (d_tup (da_two d_ci (d_var rfl (.int _))) (show 2 ≤ 100000 by decide)) rfl)
      (za_cons (z_flat lin (d_tup (da_two d_cb d_ci) (show 2 ≤ 100000 by decide)) rfl) (za_cons (z_new lin (n_lst (da_cons d_ci (da_two d_ci d_ci)) (show 3 ≤ 100000 by decide)) rfl) za_nil)))))) (show 6 ≤ 100000 by decide)
  · rintro i a x σ' H' hai ⟨t, rfl, hi, ex, ll⟩ dx
    have exH : Ex H H' := up1.trans ((off_ext e2).trans ex)
    have hi6 : i < 6 := (List.getElem?_eq_some_iff.mp hai).1
    refine s_appD (K := K) (d := .int (ps.length : Int)) ll (flat_I _) rfl (ev_var rfl) (d_ref1 (C := C) (ps := ps) rfl rfl (hb.up exH) (hl.ex exH) ok hz (n_lst (da_one (d_var rfl dx)) (show 1 ≤ 100000 by decide)) (odds_bad hS (List.mem_of_getElem? hai))) (by rw [List.length_map, List.length_append, List.length_replicate]; simp; omega) fun H3 w3 l3 => ⟨_, rfl, hi6, w3.exB ex (off_in (by simp)), l3.cg ?_⟩
    rw [List.replicate_succ', ← List.append_assoc, List.map_append, List.map_append]
    rfl
  rintro σ' H' ⟨t, rfl, _, ex, ll⟩
  have exH : Ex H H' := up1.trans ((off_ext e2).trans ex)
  have ll6 : Ls K H' l (([-1, -1, -1] ++ List.replicate 6 (ps.length : Int)).map .int) := ll
  refine q_if (b := !ps.isEmpty) (et_is (et_nnil (d_var rfl (hl.ex exH).toD) (shp_tPs ps)) rfl) (fun z H3 e3 => ?_) fun z H3 e3 => ?_
  · have l4 := ll6.ex e3
    obtain ⟨p0, pr, eps⟩ : ∃ p0 pr, ps = p0 :: pr := by
      cases ps with
      | nil => simp at z
      | cons p0 pr => exact ⟨p0, pr, rfl⟩
    have ixs : (ps.map tP)[0]? = some (tP p0) := by rw [eps]; rfl
    have hm0 : p0 ∈ ps := by rw [eps]; exact List.mem_cons_self
    refine s_appD (K := K) (d := .int (ps.length : Int)) l4 (flat_I _) rfl (ev_var rfl) (d_ref1 (C := C) (ps := ps) (bad := .list [.int p0.1, .int p0.2]) rfl rfl (hb.up (exH.trans e3)) (hl.ex (exH.trans e3)) ok hz (n_lst (da_one (n_listT (d_op (d_var rfl (hl.ex (exH.trans e3)).toD) d_ci (rd_ixL (atI_of (i := 0) (Int.le_refl 0) ixs)))).toD) (show 1 ≤ 100000 by decide)) ⟨True.intro, .inr ⟨_, rfl, .inr ⟨_, _, rfl, True.intro, True.intro, .inr (.inr ⟨p0, hm0, rfl, rfl⟩)⟩⟩⟩) (by rw [List.length_map, List.length_append, List.length_replicate]; decide) fun H4 w4 l9 => ?_
    have l5 : Ls K H4 l (([-1, -1, -1] ++ List.replicate 7 (ps.length : Int)).map .int) := l9.cg rfl
    have ex5 : Ex H H4 := up1.trans ((off_ext e2).trans (w4.exB (ex.trans e3) (off_in (by simp))))
    have e0 : ps.isEmpty = false := by simpa using z
    have tn : ∀ n ∈ ([-1, -1, -1] ++ List.replicate 7 (ps.length : Int)), tiny n := fun n hn => by
      unfold tiny
      rcases List.mem_append.mp hn with hn | hn
      · simp only [List.mem_cons, List.not_mem_nil, or_false] at hn
        omega
      · have := List.eq_of_mem_replicate hn
        omega
    have eDue : (List.replicate 3 [PyData.int (0 - 1)]).flatten ++ (List.replicate 7 [PyData.int (ps.length : Int)]).flatten = ([-1, -1, -1] ++ List.replicate 7 (ps.length : Int)).map .int := rfl
    refine q_setN (K := K) (n_is (n_cat (n_rep (n := 3) (n_lst (da_one (d_op d_ci d_ci rd_sub)) (show 1 ≤ 100000 by decide)) d_ci (show 1 * 3 ≤ 100000 by decide) (by decide)) (n_rep (n := 7) (n_lst (da_one (d_is (d_lenL (d_var rfl (hl.ex ex5).toD)) (by rw [List.length_map]))) (show 1 ≤ 100000 by decide)) (d_is (d_op d_ci (d_cb1 (da_one (d_op (d_var rfl (hl.ex ex5).toD) (EvN.toD d_lst0) (rd_neD (shp_tPs ps) rfl))) cd_intB) rd_add) ?_) (show 1 * 7 ≤ 100000 by decide) (by decide)) ?_) eDue) fun q2 xs2 H6 n6 e6 h6 d6 => ?_
    · rw [eqv_nil, e0]
      rfl
    · exact (show 3 + 7 ≤ 100000 by decide)
    have l6 : EvD K (tVar 4) [some (.ref b), some (.int S), some (.int U), some (.ref p), some (.ref l), none, t, some (.ref q2)] H6 (.list (([-1, -1, -1] ++ List.replicate 7 (ps.length : Int)).map .int)) := d_var rfl (l5.ex e6).toD
    refine s_retD (K := K) (d_and (t_eqR l6 (d_var rfl (.lst (sq_of h6) d6)) rfl (shw_ints tn (by simp))) fun _ => t_eqR (d_refN (C := C) d_cn (ev_var rfl)) (d_tup (da_two d_cs (d_is (d_op d_ci d_ci rd_sub) rfl)) (show 2 ≤ 100000 by decide)) rfl shw_book) fun v H7 e7 dv => ?_
    rw [dv.bl_of]
    exact q H7 ((ex5.trans e6).trans e7)
  · have l5 : Ls K H3 l (([-1, -1, -1] ++ List.replicate 6 (ps.length : Int)).map .int) := ll6.ex e3
    have ex5 : Ex H H3 := exH.trans e3
    have e0 : ps.isEmpty = true := by simpa using z
    have tn : ∀ n ∈ ([-1, -1, -1] ++ List.replicate 6 (ps.length : Int)), tiny n := fun n hn => by
      unfold tiny
      rcases List.mem_append.mp hn with hn | hn
      · simp only [List.mem_cons, List.not_mem_nil, or_false] at hn
        omega
      · have := List.eq_of_mem_replicate hn
        omega
    have eDue : (List.replicate 3 [PyData.int (0 - 1)]).flatten ++ (List.replicate 6 [PyData.int (ps.length : Int)]).flatten = ([-1, -1, -1] ++ List.replicate 6 (ps.length : Int)).map .int := rfl
    refine q_setN (K := K) (n_is (n_cat (n_rep (n := 3) (n_lst (da_one (d_op d_ci d_ci rd_sub)) (show 1 ≤ 100000 by decide)) d_ci (show 1 * 3 ≤ 100000 by decide) (by decide)) (n_rep (n := 6) (n_lst (da_one (d_is (d_lenL (d_var rfl (hl.ex ex5).toD)) (by rw [List.length_map]))) (show 1 ≤ 100000 by decide)) (d_is (d_op d_ci (d_cb1 (da_one (d_op (d_var rfl (hl.ex ex5).toD) (EvN.toD d_lst0) (rd_neD (shp_tPs ps) rfl))) cd_intB) rd_add) ?_) (show 1 * 6 ≤ 100000 by decide) (by decide)) ?_) eDue) fun q2 xs2 H6 n6 e6 h6 d6 => ?_
    · rw [eqv_nil, e0]
      rfl
    · exact (show 3 + 6 ≤ 100000 by decide)
    have l6 : EvD K (tVar 4) [some (.ref b), some (.int S), some (.int U), some (.ref p), some (.ref l), none, t, some (.ref q2)] H6 (.list (([-1, -1, -1] ++ List.replicate 6 (ps.length : Int)).map .int)) := d_var rfl (l5.ex e6).toD
    refine s_retD (K := K) (d_and (t_eqR l6 (d_var rfl (.lst (sq_of h6) d6)) rfl (shw_ints tn (by simp))) fun _ => t_eqR (d_refN (C := C) d_cn (ev_var rfl)) (d_tup (da_two d_cs (d_is (d_op d_ci d_ci rd_sub) rfl)) (show 2 ≤ 100000 by decide)) rfl shw_book) fun v H7 e7 dv => ?_
    rw [dv.bl_of]
    exact q H7 ((ex5.trans e6).trans e7)
end
end K11
/-! the pairs of a deal -/
namespace K11
open PySem
theorem mem_enL {α : Type} {a : Int} {x : α} : ∀ {n : Nat} {xs : List α}, (a, x) ∈ enL n xs ↔ ∃ i : Nat, xs[i]? = some x ∧ a = ((n + i : Nat) : Int)
  | n, [] => by simp [enL]
  | n, y :: ys => by
    rw [enL, List.mem_cons, mem_enL]
    constructor
    · rintro (h | ⟨i, h1, h2⟩)
      · cases h
        exact ⟨0, rfl, rfl⟩
      · exact ⟨i + 1, by simpa using h1, by rw [h2]; congr 1; omega⟩
    · rintro ⟨i, h1, h2⟩
      cases i with
      | zero =>
        left
        have : y = x := by simpa using h1
        rw [h2, this]
        rfl
      | succ i => exact .inr ⟨i, by simpa using h1, by rw [h2]; congr 1; omega⟩
theorem enL_up {α : Type} : ∀ (n : Nat) (xs : List α), (enL n xs).Pairwise fun p q => p.1 < q.1
  | _, [] => List.Pairwise.nil
  | n, y :: ys => by
    rw [enL]
    refine List.Pairwise.cons (fun p hp => ?_) (enL_up (n + 1) ys)
    obtain ⟨a, x⟩ := p
    obtain ⟨i, _, e⟩ := mem_enL.mp hp
    show (n : Int) < a
    omega
theorem mem_dealP {rows : List (List Int)} {p : Pair} : p ∈ dealP rows ↔ ∃ (s k : Nat) (row : List Int) (n : Int), rows[s]? = some row ∧ row[k]? = some n ∧ 0 < n ∧ p = ((s : Int), (k : Int)) := by
  unfold dealP
  rw [List.mem_flatMap]
  constructor
  · rintro ⟨⟨a, row⟩, hx, h⟩
    obtain ⟨⟨b, n⟩, hy, rfl⟩ := List.mem_map.mp h
    obtain ⟨hy, hn⟩ := List.mem_filter.mp hy
    obtain ⟨s, hs, rfl⟩ := mem_enL.mp hx
    obtain ⟨k, hk, rfl⟩ := mem_enL.mp hy
    exact ⟨s, k, row, n, hs, hk, by simpa using hn, by simp⟩
  · rintro ⟨s, k, row, n, hs, hk, hn, rfl⟩
    exact ⟨((s : Int), row), mem_enL.mpr ⟨s, hs, by simp⟩, List.mem_map.mpr ⟨((k : Int), n), List.mem_filter.mpr ⟨mem_enL.mpr ⟨k, hk, by simp⟩, by simpa using hn⟩, rfl⟩⟩
theorem dealP_up (rows : List (List Int)) : (dealP rows).Pairwise ltPr := by
  unfold dealP
  rw [List.pairwise_flatMap]
  refine ⟨fun x _ => ?_, (enL_up 0 rows).imp fun {x y} h a ha b hb => ?_⟩
  · rw [List.pairwise_map]
    exact ((enL_up 0 x.2).sublist List.filter_sublist).imp fun {p q} h => .inr ⟨rfl, h⟩
  · obtain ⟨_, _, rfl⟩ := List.mem_map.mp ha
    obtain ⟨_, _, rfl⟩ := List.mem_map.mp hb
    exact .inl h
theorem up_same {ps qs : List Pair} (h1 : ps.Pairwise ltPr) (h2 : qs.Pairwise ltPr) (h : ∀ p, p ∈ ps ↔ p ∈ qs) : ps = qs := by
  have n : ∀ {l : List Pair}, l.Pairwise ltPr → l.Nodup := fun h => h.imp fun {a b} h e => by
    subst e
    unfold ltPr at h
    omega
  refine ((List.perm_ext_iff_of_nodup (n h1) (n h2)).mpr h).eq_of_pairwise (le := ltPr) (fun a b _ _ a1 a2 => ?_) h1 h2
  unfold ltPr at a1 a2
  omega
/-- a deal of S sorts and U kinds with numbers above 0 at ps alone -/
structure DealOk (S U : Nat) (M : List (List Int)) (ps : List Pair) : Prop where
  len : M.length = S
  row : ∀ r ∈ M, r.length = U
  at_ : ∀ (s k : Nat) (r : List Int) (n : Int), M[s]? = some r → r[k]? = some n → (0 < n ↔ ((s : Int), (k : Int)) ∈ ps)
theorem DealOk.start {S U : Nat} : DealOk S U (List.replicate S (List.replicate U 0)) [] := by
  refine ⟨List.length_replicate, fun r hr => by rw [List.eq_of_mem_replicate hr, List.length_replicate], fun s k r n h1 h2 => ?_⟩
  have e1 := List.eq_of_mem_replicate (List.mem_of_getElem? h1)
  subst e1
  have e2 := List.eq_of_mem_replicate (List.mem_of_getElem? h2)
  subst e2
  simp
theorem DealOk.put {S U : Nat} {M : List (List Int)} {ps : List Pair} {s k : Nat} {r : List Int} {n : Int} (h : DealOk S U M ps) (hr : M[s]? = some r) (hn : 0 < n) : DealOk S U (M.set s (r.set k n)) (ps ++ [((s : Int), (k : Int))]) := by
  have hs : s < M.length := (List.getElem?_eq_some_iff.mp hr).1
  refine ⟨by rw [List.length_set, h.len], fun r2 hr2 => ?_, fun s2 k2 r2 n2 h1 h2 => ?_⟩
  · rcases List.mem_or_eq_of_mem_set hr2 with z | z
    · exact h.row r2 z
    · rw [z, List.length_set, h.row r (List.mem_of_getElem? hr)]
  · rw [List.mem_append, List.mem_singleton]
    by_cases es : s2 = s
    · subst es
      rw [List.getElem?_set_self hs] at h1
      have e := Option.some.inj h1
      subst e
      by_cases ek : k2 = k
      · subst ek
        have hk : k2 < r.length := by
          have := (List.getElem?_eq_some_iff.mp h2).1
          rwa [List.length_set] at this
        rw [List.getElem?_set_self hk] at h2
        have e := Option.some.inj h2
        subst e
        simp [hn]
      · rw [List.getElem?_set_ne (fun z => ek z.symm)] at h2
        rw [h.at_ s2 k2 r n2 hr h2]
        constructor
        · exact .inl
        · rintro (z | z)
          · exact z
          · exfalso
            have := congrArg Prod.snd z
            simp only at this
            omega
    · rw [List.getElem?_set_ne (fun z => es z.symm)] at h1
      rw [h.at_ s2 k2 r2 n2 h1 h2]
      constructor
      · exact .inl
      · rintro (z | z)
        · exact z
        · exfalso
          have := congrArg Prod.fst z
          simp only at this
          omega
theorem DealOk.pairs {S U : Int} {M : List (List Int)} {ps : List Pair} (hS : small S) (hU : small U) (h : DealOk S.toNat U.toNat M ps) (ok : PairsOk S U ps) : dealP M = ps := by
  refine up_same (dealP_up M) ok.up fun p => ?_
  rw [mem_dealP]
  constructor
  · rintro ⟨s, k, row, n, h1, h2, h3, rfl⟩
    exact (h.at_ s k row n h1 h2).mp h3
  · intro hp
    obtain ⟨⟨p1, p2⟩, p3, p4⟩ := ok.rng p hp
    have ls : p.1.toNat < M.length := by rw [h.len]; omega
    have lk : p.2.toNat < (M[p.1.toNat]).length := by rw [h.row _ (List.getElem_mem ls)]; omega
    have e : p = ((p.1.toNat : Int), (p.2.toNat : Int)) := Prod.ext (by simp only; omega) (by simp only; omega)
    exact ⟨p.1.toNat, p.2.toNat, M[p.1.toNat], (M[p.1.toNat])[p.2.toNat], List.getElem?_eq_getElem ls, List.getElem?_eq_getElem lk, (h.at_ _ _ _ _ (List.getElem?_eq_getElem ls) (List.getElem?_eq_getElem lk)).mpr (by rw [← e]; exact hp), e⟩
theorem rep_one {α : Type} (a : α) : ∀ n : Nat, (List.replicate n [a]).flatten = List.replicate n a
  | 0 => rfl
  | n + 1 => by rw [List.replicate_succ, List.replicate_succ, List.flatten_cons, rep_one a n]; rfl
end K11
/-! the law -/
namespace K11
open PySem PySem.Spec PyProof.Rows L2 Evl
def spLaw (K : PySem.W.Frag) : Sp := fun vs H Q _ => ∃ (a : Addr) (ns : List Int), vs = [.ref a] ∧ SqL K H a (ns.map V.int) ∧ ns.length ≤ 63 ∧ ∀ H', Q (.bl true) H'
theorem spLaw_len {K : PySem.W.Frag} {vs : List V} {H : Hp} {Q : VK} {E : XK} (h : spLaw K vs H Q E) : vs.length = 1 := by
  obtain ⟨a, ns, rfl, _⟩ := h
  rfl
/-- a Book made by the law, its table beside the law's own -/
structure Made2 (P : Program) (w : World) (K : PySem.W.Frag) (C : Addr) (H : Hp) (b : Addr) (S U : Int) (T : Lot → Option Row) : Prop where
  ex : ∃ D T', BkAt C H b S U D ∧ DT P w K H D 2000 T' ∧ WholeUp S U T' (lots S U) ∧ ∀ l ∈ lots S U, T' l = T l
theorem Made2.fr {P : Program} {w : World} {K : PySem.W.Frag} {C : Addr} {H H' : Hp} {b : Addr} {S U : Int} {T : Lot → Option Row} {L : List Addr} (h : Made2 P w K C H b S U T) (f : Fr K L H H') (n : b ∉ L) (n2 : ∀ c ∈ L, ∃ ys, H c = some (.lst ys)) : Made2 P w K C H' b S U T := by
  obtain ⟨D, T', h1, h2, h3⟩ := h.ex
  refine ⟨D, T', h1.fr f n, h2.fr f fun m => ?_, h3⟩
  obtain ⟨φ, h4⟩ := h2.some
  obtain ⟨ys, h5⟩ := n2 D m
  rw [h4] at h5
  cases h5
theorem whole_same {S U : Int} (hS : small S) (hU : small U) {T T' : Lot → Option Row} (h : Whole S U T) (h' : Whole S U T') (e : ∀ l ∈ lots S U, T' l = T l) {n : Nat} {l : Lot} (hl : LotOk S U n l) : T' l = T l := by
  by_cases e0 : n = 0
  · subst e0
    have e1 : l = ([], []) := Prod.ext (List.eq_nil_of_length_eq_zero hl.len1) (List.eq_nil_of_length_eq_zero hl.len2)
    rw [e1, h.one0, h'.one0]
  · by_cases e1 : n = 1
    · subst e1
      rw [h.one hl, h'.one hl]
    · exact e l ((mem_lots hS hU).mpr ⟨n, by omega, hl⟩)
theorem lvl_same {S U : Int} (hS : small S) (hU : small U) {T T' : Lot → Option Row} (h : Whole S U T) (h' : Whole S U T') (e : ∀ l ∈ lots S U, T' l = T l) {ps : List Pair} (ok : PairsOk S U ps) : due T' ps = due T ps :=
  due_congr fun n js hj => whole_same hS hU h h' e (((mem_lvl (S := S) (U := U)).mp hj).lot ok)
theorem lvl_known {S U : Int} (hS : small S) (hU : small U) {T : Lot → Option Row} (h : Whole S U T) {ps : List Pair} (ok : PairsOk S U ps) : ∀ n js, js ∈ lvl ps n → (T (keyL js)).isSome = true := fun n js hj =>
  h.known hS hU (((mem_lvl (S := S) (U := U)).mp hj).lot ok)
theorem found_known {S U : Int} (hS : small S) (hU : small U) {T : Lot → Option Row} (h : Whole S U T) {ps : List Pair} (ok : PairsOk S U ps) : ∀ n js, js ∈ foundUp ps n → (T (keyL js)).isSome = true
  | 0, js, hj => lvl_known hS hU h ok 0 js hj
  | n + 1, js, hj => (List.mem_append.mp (show js ∈ foundUp ps n ++ lvl ps (n + 1) from hj)).elim (found_known hS hU h ok n js) (lvl_known hS hU h ok (n + 1) js)
theorem tiny_of {S : Int} (hS : small S) {x : Int} (h : 0 ≤ x ∧ x < S) : tiny x := by
  have := hS.2
  unfold tiny
  omega
theorem due_tiny {S U : Int} (hS : small S) (hU : small U) {T : Lot → Option Row} {ps : List Pair} (ok : PairsOk S U ps) : ∀ l, due T ps = some l → (∀ n ∈ l.1, tiny n) ∧ (∀ n ∈ l.2, tiny n) ∧ l.1.length ≤ 1000 ∧ l.2.length ≤ 1000 := by
  have mem : ∀ (xs : List Lot) (x : Lot), minL x xs ∈ x :: xs := fun xs => by
    induction xs with
    | nil => exact fun x => List.mem_cons_self
    | cons y ys ih =>
      intro x
      have h := ih (if ltL y x = true then y else x)
      show minL (if ltL y x = true then y else x) ys ∈ _
      rcases List.mem_cons.mp h with h | h
      · rw [h]
        split
        · exact List.mem_cons_of_mem _ List.mem_cons_self
        · exact List.mem_cons_self
      · exact List.mem_cons_of_mem _ (List.mem_cons_of_mem _ h)
  have key : ∀ k n l, firstU T ps k n = some l → ∃ m js, js ∈ lvl ps m ∧ l = keyL js := fun k => by
    induction k with
    | zero => exact fun n l h => nomatch h
    | succ k ih =>
      intro n l h
      unfold firstU at h
      cases hu : uL T ps n with
      | nil => rw [hu] at h; exact ih _ _ h
      | cons x xs =>
        rw [hu] at h
        have e := Option.some.inj h
        have hm := mem xs x
        rw [← hu, e] at hm
        obtain ⟨js, hjs, e2⟩ := List.mem_map.mp hm
        exact ⟨n, js, (List.mem_filter.mp hjs).1, e2.symm⟩
  intro l h
  obtain ⟨m, js, hj, rfl⟩ := key 5 1 l h
  have o := ((mem_lvl (S := S) (U := U)).mp hj).lot ok
  have := o.le4 hS
  exact ⟨fun n hn => tiny_of hS (o.in1 n hn), fun n hn => tiny_of hU (o.in2 n hn), by rw [o.len1]; omega, by rw [o.len2]; omega⟩
/-! ### rows put -/
theorem ixN_of {n : Nat} {k : Int} (h0 : 0 ≤ k) (h : k.toNat < n) : ixN n k = some k.toNat := by
  obtain ⟨m, rfl⟩ := Int.eq_ofNat_of_zero_le h0
  have h' : m < n := by simpa using h
  unfold ixN
  simp
  omega
section
variable {K : PySem.W.Frag} {H : Hp} {q : Addr}
theorem Rws.get : ∀ {rs : List Addr} {dss : List (List PyData)} {s : Nat} {ds : List PyData}, Rws K H rs dss → dss[s]? = some ds → ∃ q, rs[s]? = some q ∧ Ls K H q ds
  | _, _, 0, _, .cons h _, e => ⟨_, rfl, by rw [← Option.some.inj e]; exact h.1⟩
  | _, _, s + 1, _, .cons _ t, e => Rws.get (s := s) t e
  | _, _, _, _, .nil, e => by simp at e
theorem Rws.set {ws : List V} {es : List PyData} (f : Fr K [q] H (upd H q (.lst ws))) (hw : DpAll K (upd H q (.lst ws)) ws es) (fe : flatAll es = true) :
    ∀ {rs : List Addr} {dss : List (List PyData)} {s : Nat}, Rws K H rs dss → rs.Nodup → rs[s]? = some q → Rws K (upd H q (.lst ws)) rs (dss.set s es)
  | _, _, 0, .cons _ t, nd, e => by
    have e' := Option.some.inj e
    subst e'
    exact .cons ⟨⟨ws, upd_same, hw⟩, fe⟩ (Rws.fr t f fun c hc z => (List.nodup_cons.mp nd).1 (by rw [← List.mem_singleton.mp z]; exact hc))
  | _, _, s + 1, .cons h t, nd, e => by
    have e' : _ := (show _ = some q from e)
    have hq := List.mem_of_getElem? (show (_ : List Addr)[s]? = some q from e)
    refine .cons ⟨h.1.fr f (fun z => (List.nodup_cons.mp nd).1 (by rw [List.mem_singleton.mp z]; exact hq)) h.2, h.2⟩ (Rws.set f hw fe t (List.nodup_cons.mp nd).2 e)
  | _, _, _, .nil, _, e => by simp at e
end
section
variable {P : Program} {w : World} {K : PySem.W.Frag} {H : Hp} {σ : L2.St} {te tf : TE} {C B1 B2 b : Addr} {S U : Int} {T : Lot → Option Row} {ps : List Pair} {d : PyData}
theorem d_ulD {R : (Lot → Option Row) → List Pair → PyData} {E : XK} (h1 : Ev te σ H (.ref b)) (h2 : EvD K tf σ H d) (a : ∀ v H', Ex H H' → Dp K H' v d → Ask P w K C H' b v S U T ps) : EvD K (tCall (spUL P w K C R) [] E (tCons te (tCons tf tNil))) σ H (R T ps) := fun H1 e Q q =>
  h1 H1 e _ fun H2 e2 => h2 H2 (e.trans e2) _ fun v H3 e3 dv => ⟨b, v, S, U, T, ps, rfl, a v H3 ((e.trans e2).trans e3) dv, fun u H' e' du => q u H' ((e2.trans e3).trans e') du⟩
end
section
variable {K : PySem.W.Frag} {H : Hp} {σ : L2.St} {C B1 B2 b p g D : Addr} {S U : Int} {ps qs : List Pair} {gs : List PyData} {d : PyData} {E : XK}
theorem d_rr {i j k l : Nat} (h1 : σ[i]? = some (some (.ref b))) (h2 : σ[j]? = some (some (.int S))) (h3 : σ[k]? = some (some (.int U))) (h4 : σ[l]? = some (some (.ref p))) (hb : BkAt C H b S U D) (hS : small S) (hU : small U) (ok : PairsOk S U ps) (hl : Ls K H p (ps.map tP)) :
    EvD K (tCall (spRR K C) [] E (tCons (tVar i) (tCons (tVar j) (tCons (tVar k) (tCons (tVar l) tNil))))) σ H (.bool true) := fun H1 e Q q =>
  ⟨_, h1, _, h2, _, h3, _, h4, b, p, S, U, D, ps, rfl, hb.up e, hS, hU, ok, hl.ex e, fun H2 e2 => q _ H2 e2 (.bl true)⟩
theorem d_np {i j : Nat} (h1 : σ[i]? = some (some (.ref b))) (h2 : σ[j]? = some (some (.ref g))) (hb : BkAt C H b S U D) (hd : Dp K H (.ref g) d) (hs : seqOf d = some gs) (gd : GoodAll qs gs) (nd : qs.Nodup) (rng : ∀ p ∈ qs, (0 ≤ p.1 ∧ p.1 < S) ∧ 0 ≤ p.2 ∧ p.2 < U) (hz : qs.length ≤ 1000) (hq : sortP qs = ps) :
    EvD K (tCall (spNP K C B1 B2) [] E (tCons (tVar i) (tCons (tVar j) tNil))) σ H (.tuple (ps.map tP)) := fun H1 e Q q =>
  ⟨_, h1, _, h2, _, _, rfl, .inr ⟨b, S, U, D, d, rfl, hb.up e, hd.ex e, noD_of hs, .inr ⟨gs, qs, [], by rw [List.append_nil]; exact hs, by rw [List.append_nil, ← good_len gd]; exact hz, gd, nd, rng, .inl ⟨rfl, fun u H2 e2 du => q u H2 e2 (by rw [← hq]; exact du)⟩⟩⟩⟩
end
section
variable {P : Program} {w : World} {K : PySem.W.Frag} {mg : Str → Option Value} {base : Heap}
theorem sc_law : FnScope ["_law_script", "_law_k", "_law_box_here", "_law_sorts", "_law_kinds", "_law_kind", "_law_told", "_law_book", "_law_turn", "_law_pairs", "_law_given", "_law_pair", "_law_due", "_law_deal", "_law_sort", "_law_slot", "_law_row"] ["_law_script"] (defScope (top 51)) := ⟨rfl, rfl, rfl, by decide +kernel, rfl, by decide +kernel, by decide +kernel⟩
theorem bp_law : BindsP "law" (top 51) ["_law_script"] := fun _ _ _ _ _ _ us hl => match us, hl with | [_], _ => rfl
theorem o_law (W : Gs K mg) {C fI B1 B2 : Addr} (Ew : Es P w K mg C fI B1 B2) (oI : OkM P w K mg base 6 fI ["self", "sorts", "kinds", "pairings"] (spInit P w K C)) : OkG P w K mg base 8 "law" ["_law_script"] (spLaw K) := by
  refine okG_of W.n_law sc_law bp_law (fun vs H Q E h => spLaw_len h) (fun f cdv A outer s H vs Q E hs hr h => ?_)
  refine ⟨_, (PSs.nox
  (pss_cons (ps_for PassesOwn.never rfl (pi_range1 (by rfl) W.f_range (pa_cons (pe_callB (cMax2 rfl) (by rfl) W.f_max boot_max (pa_cons pe_int (pa_cons (pe_callB (cMin2 rfl) (by rfl) W.f_min boot_min (pa_cons pe_int (pa_cons (pe_callB (k_len K) (by rfl) W.f_len boot_len (pa_cons (pv 0) pa_nil)) pa_nil))) pa_nil))) pa_nil)) (pg_name (i := 1) sc_law.nd rfl (.inl rfl))
  (pss_cons (ps_set (i := 2) sc_law.nd rfl (.inl rfl) (k_own (P := P) (w := w) (base := base) (o_law_box W) (hr.mono (by decide)) pass0 (by rfl) (pa_cons (pv 0) (pa_cons (pv 1) pa_nil))))
  (pss_cons (ps_asg (pe_tup (pa_cons (pe_op op_add pe_int (k_own (P := P) (w := w) (base := base) (o_law_take W) (hr.mono (by decide)) pass0 (by rfl) (pa_cons (pv 2) (pa_cons pe_int pa_nil)))) (pa_cons (pe_op op_add pe_int (k_own (P := P) (w := w) (base := base) (o_law_take W) (hr.mono (by decide)) pass0 (by rfl) (pa_cons (pv 2) (pa_cons pe_int pa_nil)))) (pa_cons (k_own (P := P) (w := w) (base := base) (o_law_take W) (hr.mono (by decide)) pass0 (by rfl) (pa_cons (pv 2) (pa_cons pe_int pa_nil))) pa_nil)))) (k_pgtup K (n := 3) rfl (pgs_cons (pg_name (i := 3) sc_law.nd rfl (.inl rfl)) (pgs_cons (pg_name (i := 4) sc_law.nd rfl (.inr rfl)) (pgs_cons (pg_name (i := 5) sc_law.nd rfl (.inl rfl)) pgs_nil)))))
  (pss_cons (ps_set (i := 6) sc_law.nd rfl (.inl rfl) (pe_ifExp (pt_cmpR op_gt (pv 5) pe_int (nomark _)) (k_own (P := P) (w := w) (base := base) (o_law_turned W) (hr.mono (by decide)) pass0 (by rfl) (pa_cons (pv 2) (pa_cons (pv 3) (pa_cons (pv 4) pa_nil)))) (k_own (P := P) (w := w) (base := base) (o_law_drawn W) (hr.mono (by decide)) pass0 (by rfl) (pa_cons (pv 2) (pa_cons (pv 3) (pa_cons (pv 4) pa_nil))))))
  (pss_cons (ps_set (i := 7) sc_law.nd rfl (.inl rfl) (pe_mkB Ew.bk.mkr Ew.bk.g oI (hr.mono (by decide)) (by rfl) (pa_cons (pv 3) (pa_cons (pv 4) (pa_cons (k_own (P := P) (w := w) (base := base) (o_law_list W) (hr.mono (by decide)) pass0 (by rfl) (pa_cons (pv 6) (pa_cons (pv 3) (pa_cons (pv 4) pa_nil)))) pa_nil)))))
  (pss_cons (ps_for PassesOwn.never rfl (pi_range1 (by rfl) W.f_range (pa_cons pe_int pa_nil)) (pg_name (i := 8) sc_law.nd rfl (.inl rfl))
  (pss_cons (ps_set (i := 9) sc_law.nd rfl (.inl rfl) (k_own (P := P) (w := w) (base := base) (o_law_some W) (hr.mono (by decide)) pass0 (by rfl) (pa_cons (pv 2) (pa_cons (pv 3) (pa_cons (pv 4) pa_nil)))))
  (pss_cons (ps_setLc (i := 10) (own := [("_law_pair", 11)]) rfl sc_law.nd rfl rfl (by rfl) (k_pilist K (pe_revL (pv 9))) (blkOk_by (N := ["_law_script", "_law_k", "_law_box_here", "_law_sorts", "_law_kinds", "_law_kind", "_law_told", "_law_book", "_law_turn", "_law_pairs", "_law_given", "_law_pair", "_law_due", "_law_deal", "_law_sort", "_law_slot", "_law_row"]) (sc := defScope (top 51)) (by decide +kernel)) (fun _ _ _ _ _ => (pg_name (i := 11) sc_law.nd rfl (.inl rfl))) (fun _ _ _ _ _ => pts_nil) (fun _ _ _ _ _ => (pe_callTy (k_list K) (by rfl) W.f_list boot_list (pa_cons (pv 11) pa_nil))))
  (pss_cons (ps_set (i := 12) sc_law.nd rfl (.inl rfl) (k_own (P := P) (w := w) (base := base) (o_law_untold W) (hr.mono (by decide)) pass0 (by rfl) (pa_cons (pv 6) (pa_cons (pv 9) pa_nil))))
  (pss_cons (ps_if (pt_cmpR op_ne (pe_callB (k_repr K hs (room_u hr)) (by rfl) W.f_repr boot_repr (pa_cons (pe_lst (pa_cons (pe_ownN (oK_untold_lot W Ew) (hr.mono (by decide)) pass0 (by rfl) (pk_cons (pv 7) (pk_cons (pv 10) pk_nil))) (pa_cons (pe_ownN (oK_is_calm W Ew) (hr.mono (by decide)) pass0 (by rfl) (pk_cons (pv 7) (pk_cons (pe_callTy (k_tup K) (by rfl) W.f_tuple boot_tuple (pa_cons (pv 9) pa_nil)) pk_nil))) pa_nil))) pa_nil)) (pe_callB (k_repr K hs (room_u hr)) (by rfl) W.f_repr boot_repr (pa_cons (pe_lst (pa_cons (pv 12) (pa_cons (pe_cmpR oisN (pv 12) pe_non (nomark _)) pa_nil))) pa_nil)) (nomark _)) (pss_one (ps_ret pe_bl)) pss_nil)
  (pss_cons (ps_if (PW.pt (pw_or (pt_cmpR op_ne (pe_callB (k_repr K hs (room_u hr)) (by rfl) W.f_repr boot_repr (pa_cons (k_own (P := P) (w := w) (base := base) (o_need_pairs W Ew) (hr.mono (by decide)) passF (by rfl) (pa_cons (pv 7) (pa_cons (pv 10) pa_nil))) pa_nil)) (pe_callB (k_repr K hs (room_u hr)) (by rfl) W.f_repr boot_repr (pa_cons (pe_callTy (k_tup K) (by rfl) W.f_tuple boot_tuple (pa_cons (pv 9) pa_nil)) pa_nil)) (nomark _)) (pw_or1 (PW.pt (pw_and (pt_cmpR oisN (pv 12) pe_non (nomark _)) (pw_and1 (pt_not (pt_val (k_own (P := P) (w := w) (base := base) (o_law_no_ring W) (hr.mono (by decide)) pass0 (by rfl) (pa_cons (pv 9) pa_nil)))))))))) (pss_one (ps_ret pe_bl)) pss_nil)
  (pss_cons (ps_setLc (i := 13) (own := [("_law_sort", 14)]) rfl sc_law.nd rfl rfl (by rfl) (pi_range1 (by rfl) W.f_range (pa_cons (pv 3) pa_nil)) (blkOk_by (N := ["_law_script", "_law_k", "_law_box_here", "_law_sorts", "_law_kinds", "_law_kind", "_law_told", "_law_book", "_law_turn", "_law_pairs", "_law_given", "_law_pair", "_law_due", "_law_deal", "_law_sort", "_law_slot", "_law_row"]) (sc := defScope (top 51)) (by decide +kernel)) (fun _ _ _ _ _ => (pg_name (i := 14) sc_law.nd rfl (.inl rfl))) (fun _ _ _ _ _ => pts_nil) (fun _ _ _ _ _ => (pe_op op_rep (pe_lst (pa_cons pe_int pa_nil)) (pv 4))))
  (pss_cons (ps_for PassesOwn.never rfl (k_pilist K (pv 9)) (k_pgtup K (n := 2) rfl (pgs_cons (pg_name (i := 14) sc_law.nd rfl (.inl rfl)) (pgs_cons (pg_name (i := 15) sc_law.nd rfl (.inl rfl)) pgs_nil)))
  (pss_cons (ps_set (i := 16) sc_law.nd rfl (.inl rfl) (pe_ix (k_ixL K) (pv 13) (pv 14) (fun _ _ => rfl)))
  (pss_one (ps_asg (pe_op op_add pe_int (k_own (P := P) (w := w) (base := base) (o_law_take W) (hr.mono (by decide)) pass0 (by rfl) (pa_cons (pv 2) (pa_cons pe_int pa_nil)))) (pg_sub (pv 16) (pv 15) set_list)))))
  (pss_one (ps_if (PW.pt (pw_or (pt_cmpR op_ne (pe_callB (k_repr K hs (room_u hr)) (by rfl) W.f_repr boot_repr (pa_cons (pe_ownN (oK_deal_pairs W) (hr.mono (by decide)) pass0 (by rfl) (pk_cons (pv 13) pk_nil)) pa_nil)) (pe_callB (k_repr K hs (room_u hr)) (by rfl) W.f_repr boot_repr (pa_cons (pe_callTy (k_tup K) (by rfl) W.f_tuple boot_tuple (pa_cons (pv 9) pa_nil)) pa_nil)) (nomark _)) (pw_or1 (pt_cmpR op_ne (pe_callB (k_repr K hs (room_u hr)) (by rfl) W.f_repr boot_repr (pa_cons (k_own (P := P) (w := w) (base := base) (o_deal_pairs W) (hr.mono (by decide)) pass0 (by rfl) (pa_cons (pe_callTy (k_tup K) (by rfl) W.f_tuple boot_tuple (pa_cons (pv 13) pa_nil)) pa_nil)) pa_nil)) (pe_callB (k_repr K hs (room_u hr)) (by rfl) W.f_repr boot_repr (pa_cons (pe_callTy (k_tup K) (by rfl) W.f_tuple boot_tuple (pa_cons (pv 9) pa_nil)) pa_nil)) (nomark _))))) (pss_one (ps_ret pe_bl)) pss_nil))))))))))
  (pss_one (ps_if (pt_not (pt_val (pe_ownG (o_law_refused_right W Ew) hs (hr.mono (by decide)) (by rfl) (pa_cons (pv 7) (pa_cons (pv 3) (pa_cons (pv 4) (pa_cons (pv 9) pa_nil))))))) (pss_one (ps_ret pe_bl)) pss_nil))))))))
  (pss_one (ps_ret pe_bl)))), ?_⟩
  obtain ⟨sa, ns, rfl, hsq, hn, q⟩ := h
  have dsc : Dp K H (.ref sa) (.list (ns.map .int)) := .lst hsq (.of_ints ns)
  obtain ⟨m, hm⟩ : ∃ m : Int, m = if ns.length ≤ 1 then 1 else 2 := ⟨_, rfl⟩
  have hm2 : 0 ≤ m ∧ m ≤ 2 ∧ ∀ i : Nat, (i : Int) < m → ((i : Int) < (ns.length : Int) ∨ ns = []) ∧ i < 2 := by
    refine ⟨by rw [hm]; split <;> omega, by rw [hm]; split <;> omega, fun i hi => ?_⟩
    rw [hm] at hi
    split at hi
    · refine ⟨?_, by omega⟩
      by_cases h0 : ns.length = 0
      · exact .inr (List.eq_nil_of_length_eq_zero h0)
      · exact .inl (by omega)
    · exact ⟨.inl (by omega), by omega⟩
  refine q_forR1 (n := m) (ev_of_int (K := K) (d_is (d_cb1 (da_two d_ci (d_cb1 (da_two d_ci (d_is (d_lenL (d_var rfl dsc)) (by rw [List.length_map]))) cd_min2)) cd_max2) ?_)) (by omega) (fun i σ' H' => ∃ t1 t2 t3 t4 t5 t6 t7 t8 t9 t10 t11 t12 t13 t14 t15 t16, σ' = [some (.ref sa), t1, t2, t3, t4, t5, t6, t7, t8, t9, t10, t11, t12, t13, t14, t15, t16] ∧ Ex H H') (fun H1 e1 => ⟨_, _, _, _, _, _, _, _, _, _, _, _, _, _, _, _, rfl, e1⟩) ?_ ?_
  · refine congrArg PyData.int ?_
    rw [hm]
    split <;> split <;> split <;> omega
  rotate_left
  · rintro σ' H' ⟨t1, t2, t3, t4, t5, t6, t7, t8, t9, t10, t11, t12, t13, t14, t15, t16, rfl, ex⟩
    refine s_retD (K := K) d_cb fun v H2 e2 dv => ?_
    rw [dv.bl_of]
    exact q H2
  rintro i σ' H0 hi ⟨t1, t2, t3, t4, t5, t6, t7, t8, t9, t10, t11, t12, t13, t14, t15, t16, rfl, ex⟩
  obtain ⟨hk, hi2⟩ := hm2.2.2 i hi
  -- the box
  refine q_asgX ⟨_, rfl, _, rfl, .ref sa, (i : Int), ns, rfl, dsc.ex ex, by omega, by omega, hk, fun a H1 na e1 b1 => ?_⟩
  have naH : H a = none := fresh_back ex na
  -- sizes, the kind
  refine q_asgX (take_call (K := K) rfl b1 d_ci ⟨by decide, by decide⟩ fun r1 H2 r10 r11 f2 b2 => ⟨_, _, rfl, rfl, take_call (K := K) rfl b2 d_ci ⟨by decide, by decide⟩ fun r2 H3 r20 r21 f3 b3 => ⟨_, _, rfl, rfl, take_call (K := K) rfl b3 d_ci ⟨by decide, by decide⟩ fun r3 H4 r30 r31 f4 b4 =>
    ⟨sz_of (show 3 ≤ 100000 by decide), fun t nt => ⟨t, _, rfl, st_of upd_same, rfl, _, _, rfl, _, _, rfl, _, _, rfl, rfl, ?_⟩⟩⟩⟩)
  have hS : small (1 + r1) := ⟨by omega, by omega⟩
  have hU : small (1 + r2) := ⟨by omega, by omega⟩
  have f15 : Fr K [a] H1 (upd H4 t (.tup [.int (1 + r1), .int (1 + r2), .int r3])) := f2.trans (f3.trans (f4.trans (K11.Fr.ex (Ex.new nt))))
  have b5 := b4.ex (Ex.new (o := .tup [.int (1 + r1), .int (1 + r2), .int r3]) nt)
  generalize upd H4 t (.tup [.int (1 + r1), .int (1 + r2), .int r3]) = H5 at f15 b5
  clear f2 b2 f3 b3 f4 b4 nt
  -- the table
  have told : ∀ Q2 : VK, (∀ T tp H', Whole (1 + r1) (1 + r2) T → H5 tp = none → Fr K [a] H5 H' → Bx K H' a → DT P w K H' tp 2000 T → Q2 (.ref tp) H') → (tIf (tTest (tOp (rI0 fun i j => .bl (decide (j < i))) (tVar 5) (tC (.int 0)))) (tCall (spTab P w K 2000 fun S U T => Whole S U T) [] E0 (tCons (tVar 2) (tCons (tVar 3) (tCons (tVar 4) tNil)))) (tCall (spTab P w K 2000 fun S U T => Whole S U T) [] E0 (tCons (tVar 2) (tCons (tVar 3) (tCons (tVar 4) tNil))))) [some (.ref sa), some (.int (i : Int)), some (.ref a), some (.int (1 + r1)), some (.int (1 + r2)), some (.int r3), t6, t7, t8, t9, t10, t11, t12, t13, t14, t15, t16] H5 Q2 := fun Q2 q2 => by
    refine (t_d (d_op (d_var (K := K) rfl (.int r3)) d_ci rd_gt)) H5 (Ex.refl _) _ fun H6 e6 => ?_
    by_cases c : (0 : Int) < r3
    · refine if_yes (decide_eq_true c) ?_
      exact ⟨_, rfl, _, rfl, _, rfl, a, 1 + r1, 1 + r2, rfl, b5.ex e6, hS, hU, fun T p H' r np f b d => q2 T p H' r (fresh_back e6 np) ((K11.Fr.ex e6).trans f) b d⟩
    · refine if_no (decide_eq_false c) ?_
      exact ⟨_, rfl, _, rfl, _, rfl, a, 1 + r1, 1 + r2, rfl, b5.ex e6, hS, hU, fun T p H' r np f b d => q2 T p H' r (fresh_back e6 np) ((K11.Fr.ex e6).trans f) b d⟩
  refine q_asgX (told _ fun T tp H6 wh ntp f6 b6 dt6 => ?_)
  have f16 := f15.trans f6
  have a_tp : a ≠ tp := fun z => by
    have := b5.ne
    rw [z] at this
    exact this ntp
  -- the book
  refine q_asgX ⟨_, rfl, _, rfl, _, rfl, _, rfl, _, rfl, tp, 1 + r1, 1 + r2, 2000, T, rfl, dt6, hS, hU, fun l hl => ?_, fun lp xs H7 n7 e7 h7 d7 => fun x dx nx ndx ne => ⟨x, dx, (.ref lp), 1 + r1, 1 + r2, T, rfl, upd_same, ?_, hS, hU, wh, fun D T' H8 nD hb dtD wu agree f8 => ⟨rfl, ?_⟩⟩⟩
  · obtain ⟨row, hr, _⟩ := wh.lot l hl
    rw [hr]
    rfl
  · have e79 : Ex H7 (upd (upd H7 dx (.own x)) x (.ins C dx [])) := (Ex.new ndx).trans (Ex.new (by rw [upd_ne ne.symm]; exact nx))
    refine .lst (sq_of (e79 _ _ h7)) ?_
    have e : (lots (1 + r1) (1 + r2)).map (fun l => tI (rowOf T l)) = ((lots (1 + r1) (1 + r2)).map fun l => (T l).getD []).map tI := by
      rw [List.map_map]
      rfl
    rw [e]
    exact d7.ex e79
  have e79 : Ex H7 (upd (upd H7 dx (.own x)) x (.ins C dx [])) := (Ex.new ndx).trans (Ex.new (by rw [upd_ne ne.symm]; exact nx))
  generalize upd (upd H7 dx (.own x)) x (.ins C dx []) = HB at e79 nD f8
  have x_a : a ≠ x := (b6.ex e7).off nx
  have x_tp : tp ≠ x := (dt6.ex e7).off nx
  have b8 : Bx K H8 a := ((b6.ex e7).ex e79).fr f8 (by simpa using x_a)
  have dt8 : DT P w K H8 tp 2000 T := ((dt6.ex e7).ex e79).fr f8 (by simpa using x_tp)
  have m8 : Made2 P w K C H8 x (1 + r1) (1 + r2) T := ⟨⟨D, T', hb, dtD, wu, agree⟩⟩
  have f18 : Fr K [a] H1 H8 := f16.trans ((K11.Fr.ex e7).trans (Fr.cut (S' := [a]) ((K11.Fr.ex e79).trans f8) fun c hc => .inr (by rw [List.mem_singleton.mp hc]; exact nx)))
  clear hb dtD wu agree nD f8 e79 HB D T' d7 h7 nx ndx ne told f6 f16 f15
  -- three turns
  refine q_forR1 (n := 3) (ev_of_int (K := K) d_ci) (by decide) (fun j σ' H' => ∃ t8 t9 t10 t11 t12 t13 t14 t15 t16, σ' = [some (.ref sa), some (.int (i : Int)), some (.ref a), some (.int (1 + r1)), some (.int (1 + r2)), some (.int r3), some (.ref tp), some (.ref x), t8, t9, t10, t11, t12, t13, t14, t15, t16] ∧ Fr K [a] H8 H' ∧ Bx K H' a ∧ (0 < j → ∃ p ps, t9 = some (.ref p) ∧ PairsOk (1 + r1) (1 + r2) ps ∧ Ls K H' p (ps.map tP))) (fun H9 e9 => ⟨_, _, _, _, _, _, _, _, _, rfl, K11.Fr.ex e9, b8.ex e9, fun z => absurd z (by decide)⟩) ?_ ?_
  rotate_left
  · rintro σ' H9 ⟨t8, t9, t10, t11, t12, t13, t14, t15, t16, rfl, f, b, hp⟩
    obtain ⟨p, ps, rfl, ok, lp9⟩ := hp (by decide)
    have m9 : Made2 P w K C H9 x (1 + r1) (1 + r2) T := m8.fr f (by simpa using x_a.symm) fun c hc => by
      rw [List.mem_singleton.mp hc]
      obtain ⟨_, _, _, xs, h1, _⟩ := b8
      exact ⟨xs, h1⟩
    obtain ⟨D, T', hb, _⟩ := m9.ex
    have ex9 : Ex H H9 := (f18.trans f).exB (ex.trans e1) (by simpa using naH)
    refine s_if (b := false) (et_not (t_B (d_rr (K := K) (C := C) rfl rfl rfl rfl hb hS hU ok lp9))) (fun z => Bool.noConfusion z) fun _ H10 e10 => ?_
    exact ⟨_, _, _, _, _, _, _, _, _, _, _, _, _, _, _, _, rfl, ex9.trans e10⟩
  rintro j σ' H9 hj ⟨t8, t9, t10, t11, t12, t13, t14, t15, t16, rfl, f, b9, _⟩
  have a8 : ∀ c ∈ [a], ∃ ys, H8 c = some (.lst ys) := fun c hc => by
    rw [List.mem_singleton.mp hc]
    obtain ⟨_, _, _, xs, h1, _⟩ := b8
    exact ⟨xs, h1⟩
  -- the pairs
  refine q_asgX ⟨_, rfl, _, rfl, _, rfl, a, 1 + r1, 1 + r2, rfl, b9, hS, hU, fun ps p H10 ok np f10 b10 l10 => ?_⟩
  have a_p : a ≠ p := b9.off np
  have lps := ok.len hS hU
  have f810 := f.trans f10
  -- as they are handed in
  refine q_asgX (n_lcM (K := K) tP ps.reverse (by rw [List.map_reverse]; exact i_list (n_rev (d_var rfl l10.toD)).toD) (fun pr => [.int pr.1, .int pr.2]) (by rw [List.length_reverse]; omega) (fun _ _ => rfl) (fun pr hpr y B Hb eB eB1 dy Q1 k => by exact k (_ : L2.St) rfl et_yes (n_listT (d_var rfl dy))) H10 (Ex.refl _) _ fun g qs H11 ng e11 hg nw rw11 => ?_)
  have dg : Dp K H11 (.ref g) (.list (ps.reverse.map fun pr => .list [.int pr.1, .int pr.2])) := by
    have h1 := rw11.data
    rw [List.map_map] at h1
    exact .lst (sq_of hg) h1
  -- what is due
  have dt11 : DT P w K H11 tp 2000 T := (dt8.fr f810 (by simpa using a_tp.symm)).ex e11
  refine q_asgX ⟨_, rfl, _, rfl, tp, .ref p, 2000, T, 1 + r1, 1 + r2, ps, rfl, dt11, (l10.ex e11).toD, hS, hU, ok, wh.one0, found_known hS hU wh ok 5, fun u H12 e12 du => ?_⟩
  have e1012 := e11.trans e12
  have m12 : Made2 P w K C H12 x (1 + r1) (1 + r2) T := m8.fr (f810.trans (K11.Fr.ex e1012)) (by simpa using x_a.symm) a8
  obtain ⟨D, T', hb, dtD, wu, agree⟩ := m12.ex
  have dueq : due T' ps = due T ps := lvl_same hS hU wh wu agree ok
  have l12 := l10.ex e1012
  have gd : GoodAll ps.reverse (ps.reverse.map fun pr => .list [.int pr.1, .int pr.2]) := good_self (f := fun pr => .list [.int pr.1, .int pr.2]) (fun _ => rfl) _
  have rndup : ps.reverse.Nodup := (List.reverse_perm ps).nodup_iff.mpr ok.nodup
  have rrng : ∀ pr ∈ ps.reverse, (0 ≤ pr.1 ∧ pr.1 < 1 + r1) ∧ 0 ≤ pr.2 ∧ pr.2 < 1 + r2 := fun pr hpr => ok.rng pr (List.mem_reverse.mp hpr)
  have askG : Ask P w K C H12 x (.ref g) (1 + r1) (1 + r2) T' ps := ⟨⟨D, _, 2000, ps.reverse, _, hb, dtD, dg.ex e12, True.intro, rfl, gd, rndup, sortP_uniq ok (List.reverse_perm ps), rrng⟩, hS, hU, ok, lvl_known hS hU wu ok⟩
  have askT : ∀ v H', Ex H12 H' → Dp K H' v (.tuple (ps.map tP)) → Ask P w K C H' x v (1 + r1) (1 + r2) T' ps := fun v H' e dv =>
    ⟨⟨D, _, 2000, ps, _, hb.up e, dtD.ex e, dv, True.intro, rfl, good_self (f := tP) (fun _ => rfl) ps, ok.nodup, sortP_uniq ok (List.Perm.refl ps), ok.rng⟩, hS, hU, ok, lvl_known hS hU wu ok⟩
  have tpl : ∀ {σ : L2.St} {H1 : Hp}, σ[9]? = some (some (.ref p)) → Ls K H1 p (ps.map tP) → EvD K (tCB (rTupS K) (tCons (tVar 9) tNil)) σ H1 (.tuple (ps.map tP)) := fun hs hl => d_cb1 (da_one (d_var hs hl.toD)) cd_tupL
  have non : isNon (dueD (due T ps)) = (due T ps).isNone := by cases due T ps <;> rfl
  refine q_if (b := false) (t_d (t_neR (K := K) (d := .list [dueD (due T ps), .bool (due T ps).isNone])
    (EvN.toD (n_lst (da_two (d_is (d_ul (R := fun T ps => dueD (due T ps)) (ev_var rfl) (ev_var rfl) askG) (congrArg dueD dueq)) (d_is (d_ulD (R := fun T ps => .bool (due T ps).isNone) (ev_var rfl) (tpl rfl l12) askT) (by rw [dueq]))) (show 2 ≤ 100000 by decide)))
    (EvN.toD (n_lst (da_two (d_var rfl du) (d_is (d_op (d_var rfl du) d_cn rd_isN) (by rw [non]))) (show 2 ≤ 100000 by decide))) rfl (shw_due (due_tiny hS hU ok) _))) (fun z => Bool.noConfusion z) fun _ H13 e13 => ?_
  have prs : Shw (.tuple (ps.map tP)) := shw_prs (fun pr hpr => ⟨tiny_of hS (ok.rng pr hpr).1, tiny_of hU (ok.rng pr hpr).2⟩) (by omega)
  -- the pairs again; no ring
  refine q_if (b := false) (et_is (et_or (b := false) (t_d (t_neR (K := K) (d_np (K := K) (C := C) (B1 := B1) (B2 := B2) rfl rfl (hb.up e13) ((dg.ex e12).ex e13) rfl gd rndup rrng (by rw [List.length_reverse]; omega) (sortP_uniq ok (List.reverse_perm ps))) (tpl rfl (l12.ex e13)) rfl prs)) fun _ =>
    et_is (et_and (t_d (d_op (d_var rfl (du.ex e13)) d_cn rd_isN)) fun _ => et_not (t_B (d_own (da_one (d_var rfl (l12.ex e13).toD)) ⟨ps, rfl, by omega, rfl⟩))) ?_) rfl) (fun z => Bool.noConfusion z) fun _ H14 e14 => ?_
  · rw [non]
    cases hd : due T ps with
    | some l => rfl
    | none => rw [calm_ring hS ok wh.one0 hd]; rfl
  -- the deal
  have e1014 := (e1012.trans e13).trans e14
  have b14 := b10.ex e1014
  have l14 := l10.ex e1014
  have eM : ((List.range (1 + r1).toNat).map fun _ => List.replicate (1 + r2).toNat (PyData.int 0)) = (List.replicate (1 + r1).toNat (List.replicate (1 + r2).toNat (0 : Int))).map fun r => r.map PyData.int := by
    rw [List.map_const', List.length_range, List.map_replicate, List.map_replicate]
  have fl0 : flatAll (List.replicate (1 + r2).toNat (PyData.int 0)) = true := by
    have := flat_I (List.replicate (1 + r2).toNat 0)
    rwa [List.map_replicate] at this
  have eU : (1 + r2 : Int) = (((1 + r2).toNat : Nat) : Int) := by omega
  refine q_asgX (n_lcM (K := K) (fun i : Nat => .int (0 + (i : Int))) (List.range (1 + r1).toNat) (i_rng1 (da_one (d_var rfl (.int (1 + r1)))) (by omega)) (fun _ => List.replicate (1 + r2).toNat (.int 0)) (by rw [List.length_range]; omega) (fun _ _ => fl0)
    (fun c hc y B Hb eB eB1 dy Q1 k => by exact k (_ : L2.St) rfl et_yes (n_is (n_rep (n := (1 + r2).toNat) (n_lst (da_one d_ci) (show 1 ≤ 100000 by decide)) (d_is (d_var rfl (.int (1 + r2))) (congrArg PyData.int eU)) (by simp only [List.length_cons, List.length_nil]; omega) (by omega)) (rep_one _ _))) H14 (Ex.refl _) _ fun dl rs H15 ndl e15 hdl nwr rws => ?_)
  rw [eM] at rws
  have p14 : H14 p ≠ none := l14.ne
  have p_rs : p ∉ rs := fun z => p14 (nwr.new p z)
  have a_rs : a ∉ rs := fun z => b14.ne (nwr.new a z)
  have dl_rs : dl ∉ rs := fun z => nwr.ne dl z rfl
  have dl_a : dl ≠ a := (b14.off ndl).symm
  have l15 := l14.ex e15
  refine q_forVD (K := K) (j := 9) tP ps rfl l15 (flat_tPs _) fun xs hp => ⟨fun i2 σ' H' => ∃ t14 t15 t16 M, σ' = [some (.ref sa), some (.int (i : Int)), some (.ref a), some (.int (1 + r1)), some (.int (1 + r2)), some (.int r3), some (.ref tp), some (.ref x), some (.int (j : Int)), some (.ref p), some (.ref g), t11, some u, some (.ref dl), t14, t15, t16] ∧
      Fr K (a :: rs) H15 H' ∧ Bx K H' a ∧ H' dl = some (.lst (rs.map V.ref)) ∧ Rws K H' rs (M.map fun r => r.map .int) ∧ DealOk (1 + r1).toNat (1 + r2).toNat M (ps.take i2), ⟨_, _, _, _, rfl, K11.Fr.refl, b14.ex e15, hdl, rws, DealOk.start⟩, fun i2 σ' H' ⟨_, _, _, _, _, f15, _⟩ => ⟨f15.at hp (by simp [a_p.symm, p_rs]), f15.1⟩, ?_, ?_⟩
  · rintro i2 pr y σ' H' hpr ⟨t14, t15, t16, M, rfl, f15, b15, hd15, rw15, dk⟩ dx
    obtain ⟨⟨p1, p2⟩, p3, p4⟩ := ok.rng pr (List.mem_of_getElem? hpr)
    refine tg_two dx fun u1 u2 du1 du2 => ?_
    cases du1
    cases du2
    have hs : pr.1.toNat < M.length := by rw [dk.len]; omega
    obtain ⟨r, hr⟩ : ∃ r, M[pr.1.toNat]? = some r := ⟨_, List.getElem?_eq_getElem hs⟩
    obtain ⟨qa, hqa, lq⟩ := rw15.get (s := pr.1.toNat) (ds := r.map .int) (by rw [List.getElem?_map, hr]; rfl)
    have lr : r.length = (1 + r2).toNat := dk.row r (List.mem_of_getElem? hr)
    have qm := List.mem_of_getElem? hqa
    have q_a : qa ≠ a := fun z => a_rs (z ▸ qm)
    have q_dl : qa ≠ dl := fun z => dl_rs (z ▸ qm)
    refine q_asgX ⟨_, rfl, _, rfl, dl, rs.map V.ref, pr.1, .ref qa, rfl, rfl, sq_of hd15, atI_of p1 (by rw [List.getElem?_map, hqa]; rfl), ?_⟩
    refine s_asgX (take_call (K := K) rfl b15 d_ci ⟨by decide, by decide⟩ fun n H2 n0 n1 f2 b2 => ⟨_, _, rfl, rfl, _, rfl, _, rfl, ?_⟩)
    obtain ⟨ws, hq2, dq2⟩ := lq.fr f2 (by simpa using q_a) (flat_I _)
    have ew := dq2.ints
    subst ew
    have fq : Fr K [qa] H2 (upd H2 qa (.lst ((r.map V.int).set pr.2.toNat (.int (1 + n))))) := Fr.wr (Wr.of (Ex.refl _) ⟨_, hq2⟩) (by simp)
    have eset : (r.map V.int).set pr.2.toNat (.int (1 + n)) = (r.set pr.2.toNat (1 + n)).map V.int := List.map_set.symm
    have hw : DpAll K (upd H2 qa (.lst ((r.map V.int).set pr.2.toNat (.int (1 + n))))) ((r.map V.int).set pr.2.toNat (.int (1 + n))) ((r.set pr.2.toNat (1 + n)).map .int) := by
      have h1 := DpAll.of_ints (K := K) (H := upd H2 qa (.lst ((r.map V.int).set pr.2.toNat (.int (1 + n))))) (r.set pr.2.toNat (1 + n))
      rw [← eset] at h1
      exact h1
    have rset := Rws.set (s := pr.1.toNat) fq hw (flat_I _) (rw15.fr f2 fun c hc z => a_rs (by rw [← List.mem_singleton.mp z]; exact hc)) nwr.nd hqa
    have em : (M.map fun r => r.map PyData.int).set pr.1.toNat ((r.set pr.2.toNat (1 + n)).map .int) = (M.set pr.1.toNat (r.set pr.2.toNat (1 + n))).map fun r => r.map PyData.int := List.map_set.symm
    rw [em] at rset
    have epr : (((pr.1.toNat : Nat) : Int), ((pr.2.toNat : Nat) : Int)) = pr := Prod.ext (by simp only; omega) (by simp only; omega)
    have dk2 := dk.put (k := pr.2.toNat) (n := 1 + n) hr (by omega)
    rw [epr, ← take_succ_of hpr] at dk2
    refine ⟨qa, _, pr.2, pr.2.toNat, rfl, rfl, hq2, ixN_of p3 (by rw [List.length_map, lr]; omega), _, _, _, _, rfl, f15.trans ((f2.sub (by simp)).trans (fq.sub fun c hc => by rw [List.mem_singleton.mp hc]; exact List.mem_cons_of_mem _ qm)), b2.fr fq (by simpa using q_a.symm), fq.at (f2.at hd15 (by simpa using dl_a)) (by simpa using q_dl.symm), rset, dk2⟩
  · rintro σ' H' ⟨t14, t15, t16, M, rfl, f15, b15, hd15, rw15, dk⟩
    rw [List.take_length] at dk
    have dM := dk.pairs hS hU ok
    have dd : Dp K H' (.ref dl) (.list (M.map lI)) := by
      have h1 := rw15.data
      rw [List.map_map] at h1
      exact .lst (sq_of hd15) h1
    have l16 : Ls K H' p (ps.map tP) := l15.fr f15 (by simp [a_p.symm, p_rs]) (flat_tPs _)
    have sz : (dealP M).length ≤ 40000 := by rw [dM]; omega
    refine s_if (b := false) (et_is (et_or (b := false) (t_d (t_neR (K := K) (d_is (d_own (da_one (d_var rfl dd)) ⟨_, M, rfl, rfl, sz, rfl⟩) (by rw [dM])) (tpl rfl l16) rfl prs)) fun _ =>
      t_d (t_neR (K := K) (d_is (d_own (da_one (d_cb1 (da_one (d_var rfl dd)) cd_tupL)) ⟨_, M, rfl, rfl, sz, rfl⟩) (by rw [dM])) (tpl rfl l16) rfl prs)) rfl) (fun z => Bool.noConfusion z) fun _ H16 e16 => ?_
    have f1416 : Fr K [a] H14 H' := ((K11.Fr.ex e15).trans f15).cut fun c hc => by
      rcases List.mem_cons.mp hc with hc | hc
      · exact .inl (by simp [hc])
      · exact .inr (nwr.new c hc)
    exact ⟨_, _, _, _, _, _, _, _, _, rfl, f810.trans ((K11.Fr.ex e1014).trans (f1416.trans (K11.Fr.ex e16))), b15.ex e16, fun _ => ⟨p, ps, rfl, ok, l16.ex e16⟩⟩
end
end K11
/-! the head: what stands behind the top -/
namespace K11
open PySem PySem.Spec PyProof.Rows L2
/-! ### an own exception's __init__, told by checks -/
abbrev FnC : Type := Option (Str × Arguments × FuncBody × Scope × Addr × Addr)
def fnC (K : PySem.W.Frag) (f : Addr) : FnC := match K.lookup f with
  | some ⟨_, _, .func fd, _⟩ => some (fd.name, fd.params, fd.body, fd.scope, fd.globals, fd.builtins)
  | _ => none
def fnCv (st : Stmt) : FnC := some ("__init__", defArgs st, .stmts (defBody st), defScope st, mainGlobals, builtinsNs)
def oneB (K : PySem.W.Frag) (T : Addr) : Bool := match K.lookup T with
  | some ⟨_, _, .seq its _, _⟩ => decide (its.size = 1)
  | _ => false
def isFile (file0 : Str) (o : Option Value) : Bool := match o with
  | some (.str file _) => file0 == file
  | _ => false
def fileB (K : PySem.W.Frag) (file0 : Str) (c : Addr) : Bool := match K.lookup c with
  | some ⟨_, _, .fields vs, _⟩ => isFile file0 vs[2]?
  | _ => false
def cellB (K : PySem.W.Frag) (C cc : Addr) : Bool := match K.lookup cc with
  | some ⟨_, _, .cell (some (.ref c)), _⟩ => decide (c = C)
  | _ => false
def clB (K : PySem.W.Frag) (file0 : Str) (C : Addr) (q : Str) (cl : List (Str × Addr)) (d code : Value) : Bool := match cl, d, code with
  | [(nm, cc)], .ref T, .ref cda => decide (nm = "__class__") && (PySem.W.codeIn K (.ref cda) q && (oneB K T && (fileB K file0 cda && cellB K C cc)))
  | _, _, _ => false
def supFnB (K : PySem.W.Frag) (file0 : Str) (C fI : Addr) : Bool := match K.lookup fI with
  | some ⟨_, _, .func fd, _⟩ => clB K file0 C fd.qualname fd.closure fd.defaults fd.code
  | _ => false
theorem ba2 {a b : Bool} (h : (a && b) = true) : a = true ∧ b = true := Bool.and_eq_true_iff.mp h
theorem cl_ok {K : PySem.W.Frag} {file0 : Str} {C : Addr} {q : Str} {cl : List (Str × Addr)} {d code : Value} (h : clB K file0 C q cl d code = true) :
    ∃ (ccl c9 z : Value) (cld cdd : Option Addr) (file : Str) (cda cc T : Addr) (csl ccs : Array (Option Value)) (vs : Array Value) (tf : Tok) (oT : Obj) (nT : Nat), cl = [(("__class__" : Str), cc)] ∧ d = .ref T ∧ code = .ref cda ∧ PySem.W.codeIn K (.ref cda) q = true ∧
      K.lookup T = some oT ∧ oT.data = .seq #[z] nT ∧ K.lookup cda = some ⟨ccl, cdd, .fields vs, ccs⟩ ∧ vs[2]? = some (.str file tf) ∧ (file0 == file) = true ∧ K.lookup cc = some ⟨c9, cld, .cell (some (.ref C)), csl⟩ := by
  unfold clB at h
  split at h
  · rename_i nm cc T cda
    obtain ⟨d1, h⟩ := ba2 h
    obtain ⟨d2, h⟩ := ba2 h
    obtain ⟨d3, h⟩ := ba2 h
    obtain ⟨d4, d5⟩ := ba2 h
    have d1' := of_decide_eq_true d1
    subst d1'
    unfold oneB at d3
    unfold fileB at d4
    unfold cellB at d5
    split at d3
    · rename_i x1 x2 its x3 x4 hT
      split at d4
      · rename_i y1 y2 vs y3 hc
        unfold isFile at d4
        split at d4
        · rename_i o file tf hv
          split at d5
          · rename_i z1 z2 c z3 hcc
            have ec := of_decide_eq_true d5
            subst ec
            obtain ⟨z, hz⟩ : ∃ z, its = #[z] := by
              obtain ⟨l⟩ := its
              have : l.length = 1 := of_decide_eq_true d3
              obtain ⟨z, rfl⟩ := List.length_eq_one_iff.mp this
              exact ⟨z, rfl⟩
            subst hz
            exact ⟨_, _, z, _, _, file, cda, cc, T, _, _, vs, tf, _, _, rfl, rfl, rfl, d2, hT, rfl, hc, hv, d4, hcc⟩
          · cases d5
        · cases d4
      · cases d4
    · cases d3
  · cases h
def supB (K : PySem.W.Frag) (file0 : Str) (C fI : Addr) : Bool :=
  (PySem.W.excInitIn K C PySem.K11S.exT "Exception.__new__" && (PySem.W.excOver K C PySem.K11S.exT && (decide (PySem.W.findIn K (.ref C) "__setattr__" = some (some (.builtin "object.__setattr__"))) && (decide (PySem.W.findIn K (.ref C) "__getattribute__" = some (some (.builtin "BaseException.__getattribute__"))) &&
  (decide (PySem.W.findIn K (.ref C) "__getattr__" = some none) && (decide (PySem.W.findIn K (.ref C) "at" = some none) && (decide (PySem.W.takerIn K C "at" = some none) && (decide (PySem.W.findIn K (.ref C) "__init__" = some (some (.ref fI))) &&
  (decide (PySem.W.typeIn K (.ref fI) = some (.type "function")) && (PySem.W.keepIn K (.ref C) && (decide (PySem.W.subIn K (.ref C) (.type "BaseException") = some true) && (decide (PySem.W.subIn K (.ref C) (.type "Exception") = some true) && (decide (PySem.W.typeIn K (.ref C) = some (.type "type")) &&
  (PySem.W.hasDictIn K C && (decide (PySem.W.ks_superIn K C C "__init__" = some (some (.builtin "Exception.__init__"))) && (decide (PySem.W.mroIn K C (.ref C) = some true) && (decide (PySem.W.nsIn K cStatics "thirdparty.any" = some none) && supFnB K file0 C fI)))))))))))))))))
theorem sup_ok {K : PySem.W.Frag} {file0 : Str} {st : Stmt} {C fI : Addr} (h : supB K file0 C fI = true) (hf : fnC K fI = fnCv st) : PySem.K11S.SupT K file0 st C fI := by
  obtain ⟨c1, h⟩ := ba2 h
  obtain ⟨c2, h⟩ := ba2 h
  obtain ⟨c3, h⟩ := ba2 h
  obtain ⟨c4, h⟩ := ba2 h
  obtain ⟨c5, h⟩ := ba2 h
  obtain ⟨c6, h⟩ := ba2 h
  obtain ⟨c7, h⟩ := ba2 h
  obtain ⟨c8, h⟩ := ba2 h
  obtain ⟨c9, h⟩ := ba2 h
  obtain ⟨c10, h⟩ := ba2 h
  obtain ⟨c11, h⟩ := ba2 h
  obtain ⟨c12, h⟩ := ba2 h
  obtain ⟨c13, h⟩ := ba2 h
  obtain ⟨c14, h⟩ := ba2 h
  obtain ⟨c15, h⟩ := ba2 h
  obtain ⟨c16, h⟩ := ba2 h
  obtain ⟨c17, h⟩ := ba2 h
  refine ⟨c1, c2, of_decide_eq_true c3, of_decide_eq_true c4, of_decide_eq_true c5, of_decide_eq_true c6, of_decide_eq_true c7, of_decide_eq_true c8, of_decide_eq_true c9, c10, of_decide_eq_true c11, of_decide_eq_true c12, of_decide_eq_true c13, c14, of_decide_eq_true c15, of_decide_eq_true c16, of_decide_eq_true c17, ?_⟩
  unfold supFnB at h
  unfold fnC at hf
  cases e : K.lookup fI with
  | none => rw [e] at h; cases h
  | some o =>
    obtain ⟨oc, od, dt, osl⟩ := o
    rw [e] at h hf
    cases dt with
    | func fd =>
      obtain ⟨n1, n2, n3, n4, n5, n6, n7, n8, n9, n10, n11, n12, n13, n14, n15⟩ := fd
      have hf' : (some (n1, n3, n4, n5, n6, n15) : FnC) = some (("__init__" : Str), defArgs st, FuncBody.stmts (defBody st), defScope st, mainGlobals, builtinsNs) := hf
      simp only [Option.some.injEq, Prod.mk.injEq] at hf'
      obtain ⟨e1, e2, e3, e4, e5, e6⟩ := hf'
      subst e1 e2 e3 e4 e5 e6
      have h' : clB K file0 C n2 n7 n8 n13 = true := h
      obtain ⟨ccl, c9, z, cld, cdd, file, cda, cc, T, csl, ccs, vs, tf, oT, nT, rfl, rfl, rfl, k1, k2, k3, k4, k5, k6, k7⟩ := cl_ok h'
      exact ⟨_, _, _, _, _, _, _, z, _, _, _, _, _, file, cda, cc, T, _, _, _, vs, tf, _, _, rfl, k1, k2, k3, k4, k5, k6, k7⟩
    | _ => cases h
/-! ### Book -/
def bkB (K : PySem.W.Frag) (C : Addr) : Bool := decide (PySem.W.findIn K (.ref C) "__class__" = some (some (.builtin "object.__class__"))) && (decide (PySem.W.specialIn K (.builtin "object.__class__") "__get__" = some (some (.builtin "getset_descriptor.__get__"))) && (decide (PySem.W.takesIn K (.builtin "object.__class__") = some true) &&
  (decide (PySem.W.mroIn K C (.type "object") = some true) && (decide (PySem.W.kitOne K (.ref C) (.ref C) = some true) && decide (PySem.W.kitOne K (.type "NoneType") (.ref C) = some false)))))

def d_is_integer : He.DefD := ⟨("is_integer", none), "is_integer", "is_integer", defArgs (top 7), defBody (top 7), defScope (top 7), [], []⟩
def d_is_number : He.DefD := ⟨("is_number", none), "is_number", "is_number", defArgs (top 8), defBody (top 8), defScope (top 8), [], []⟩
def d_is_below : He.DefD := ⟨("is_below", none), "is_below", "is_below", defArgs (top 9), defBody (top 9), defScope (top 9), [], []⟩
def d_is_sequence : He.DefD := ⟨("is_sequence", none), "is_sequence", "is_sequence", defArgs (top 10), defBody (top 10), defScope (top 10), [], []⟩
def d_is_permutation : He.DefD := ⟨("is_permutation", none), "is_permutation", "is_permutation", defArgs (top 11), defBody (top 11), defScope (top 11), [], []⟩
def d_rising_rows : He.DefD := ⟨("rising_rows", none), "rising_rows", "rising_rows", defArgs (top 12), defBody (top 12), defScope (top 12), [], []⟩
def d_need_sizes : He.DefD := ⟨("need_sizes", none), "need_sizes", "need_sizes", defArgs (top 15), defBody (top 15), defScope (top 15), [], []⟩
def d_list_lots : He.DefD := ⟨("list_lots", none), "list_lots", "list_lots", defArgs (top 16), defBody (top 16), defScope (top 16), [], []⟩
def d_small_lots : He.DefD := ⟨("small_lots", none), "small_lots", "small_lots", defArgs (top 17), defBody (top 17), defScope (top 17), [], []⟩
def d_without_pair : He.DefD := ⟨("without_pair", none), "without_pair", "without_pair", defArgs (top 18), defBody (top 18), defScope (top 18), [], []⟩
def d_fits_parts : He.DefD := ⟨("fits_parts", none), "fits_parts", "fits_parts", defArgs (top 19), defBody (top 19), defScope (top 19), [], []⟩
def d_put_pairings : He.DefD := ⟨("put_pairings", none), "put_pairings", "put_pairings", defArgs (top 20), defBody (top 20), defScope (top 20), [], []⟩
def d_need_book : He.DefD := ⟨("need_book", none), "need_book", "need_book", defArgs (top 22), defBody (top 22), defScope (top 22), [], []⟩
def d_deal_pairs : He.DefD := ⟨("deal_pairs", none), "deal_pairs", "deal_pairs", defArgs (top 24), defBody (top 24), defScope (top 24), [], []⟩
def d_need_pairs : He.DefD := ⟨("need_pairs", none), "need_pairs", "need_pairs", defArgs (top 25), defBody (top 25), defScope (top 25), [], []⟩
def d_longer_pairings : He.DefD := ⟨("longer_pairings", none), "longer_pairings", "longer_pairings", defArgs (top 26), defBody (top 26), defScope (top 26), [], []⟩
def d_untold_lot : He.DefD := ⟨("untold_lot", none), "untold_lot", "untold_lot", defArgs (top 27), defBody (top 27), defScope (top 27), [], []⟩
def d_is_calm : He.DefD := ⟨("is_calm", none), "is_calm", "is_calm", defArgs (top 28), defBody (top 28), defScope (top 28), [], []⟩
def d__law_box : He.DefD := ⟨("_law_box", none), "_law_box", "_law_box", defArgs (top 30), defBody (top 30), defScope (top 30), [], []⟩
def d__law_take : He.DefD := ⟨("_law_take", none), "_law_take", "_law_take", defArgs (top 31), defBody (top 31), defScope (top 31), [], []⟩
def d__law_pick : He.DefD := ⟨("_law_pick", none), "_law_pick", "_law_pick", defArgs (top 32), defBody (top 32), defScope (top 32), [], []⟩
def d__law_rows : He.DefD := ⟨("_law_rows", none), "_law_rows", "_law_rows", defArgs (top 33), defBody (top 33), defScope (top 33), [], []⟩
def d__law_orders : He.DefD := ⟨("_law_orders", none), "_law_orders", "_law_orders", defArgs (top 34), defBody (top 34), defScope (top 34), [], []⟩
def d__law_lots : He.DefD := ⟨("_law_lots", none), "_law_lots", "_law_lots", defArgs (top 35), defBody (top 35), defScope (top 35), [], []⟩
def d__law_ones : He.DefD := ⟨("_law_ones", none), "_law_ones", "_law_ones", defArgs (top 36), defBody (top 36), defScope (top 36), [], []⟩
def d__law_fits : He.DefD := ⟨("_law_fits", none), "_law_fits", "_law_fits", defArgs (top 37), defBody (top 37), defScope (top 37), [], []⟩
def d__law_prices : He.DefD := ⟨("_law_prices", none), "_law_prices", "_law_prices", defArgs (top 38), defBody (top 38), defScope (top 38), [], []⟩
def d__law_best : He.DefD := ⟨("_law_best", none), "_law_best", "_law_best", defArgs (top 39), defBody (top 39), defScope (top 39), [], []⟩
def d__law_priced : He.DefD := ⟨("_law_priced", none), "_law_priced", "_law_priced", defArgs (top 40), defBody (top 40), defScope (top 40), [], []⟩
def d__law_drawn : He.DefD := ⟨("_law_drawn", none), "_law_drawn", "_law_drawn", defArgs (top 41), defBody (top 41), defScope (top 41), [], []⟩
def d__law_turned : He.DefD := ⟨("_law_turned", none), "_law_turned", "_law_turned", defArgs (top 42), defBody (top 42), defScope (top 42), [], []⟩
def d__law_list : He.DefD := ⟨("_law_list", none), "_law_list", "_law_list", defArgs (top 43), defBody (top 43), defScope (top 43), [], []⟩
def d__law_within : He.DefD := ⟨("_law_within", none), "_law_within", "_law_within", defArgs (top 44), defBody (top 44), defScope (top 44), [], []⟩
def d__law_some : He.DefD := ⟨("_law_some", none), "_law_some", "_law_some", defArgs (top 45), defBody (top 45), defScope (top 45), [], []⟩
def d__law_every : He.DefD := ⟨("_law_every", none), "_law_every", "_law_every", defArgs (top 46), defBody (top 46), defScope (top 46), [], []⟩
def d__law_untold : He.DefD := ⟨("_law_untold", none), "_law_untold", "_law_untold", defArgs (top 47), defBody (top 47), defScope (top 47), [], []⟩
def d__law_no_ring : He.DefD := ⟨("_law_no_ring", none), "_law_no_ring", "_law_no_ring", defArgs (top 48), defBody (top 48), defScope (top 48), [], []⟩
def d__law_refused : He.DefD := ⟨("_law_refused", none), "_law_refused", "_law_refused", defArgs (top 49), defBody (top 49), defScope (top 49), [], []⟩
def d__law_refused_right : He.DefD := ⟨("_law_refused_right", none), "_law_refused_right", "_law_refused_right", defArgs (top 50), defBody (top 50), defScope (top 50), [], []⟩
def d_law : He.DefD := ⟨("law", none), "law", "law", defArgs (top 51), defBody (top 51), defScope (top 51), [], []⟩
def d_Bi : He.DefD := ⟨("Book", some "__init__"), "__init__", "Book.__init__", defArgs (inClass (top 21) 0), defBody (inClass (top 21) 0), defScope (inClass (top 21) 0), [], []⟩
def fn : List He.DefD := [d_is_integer, d_is_number, d_is_below, d_is_sequence, d_is_permutation, d_rising_rows, d_need_sizes, d_list_lots, d_small_lots, d_without_pair, d_fits_parts, d_put_pairings, d_need_book, d_deal_pairs, d_need_pairs, d_longer_pairings, d_untold_lot, d_is_calm, d__law_box, d__law_take, d__law_pick, d__law_rows, d__law_orders, d__law_lots, d__law_ones, d__law_fits, d__law_prices, d__law_best, d__law_priced, d__law_drawn, d__law_turned, d__law_list, d__law_within, d__law_some, d__law_every, d__law_untold, d__law_no_ring, d__law_refused, d__law_refused_right, d_law, d_Bi]
def fa : List He.Fa := [.glo "is_integer", .glo "is_number", .glo "is_below", .glo "is_sequence", .glo "is_permutation", .glo "rising_rows", .glo "need_sizes", .glo "list_lots", .glo "small_lots", .glo "without_pair", .glo "fits_parts", .glo "put_pairings", .glo "need_book", .glo "deal_pairs", .glo "need_pairs", .glo "longer_pairings", .glo "untold_lot", .glo "is_calm", .glo "_law_box", .glo "_law_take", .glo "_law_pick", .glo "_law_rows", .glo "_law_orders", .glo "_law_lots", .glo "_law_ones", .glo "_law_fits", .glo "_law_prices", .glo "_law_best", .glo "_law_priced", .glo "_law_drawn", .glo "_law_turned", .glo "_law_list", .glo "_law_within", .glo "_law_some", .glo "_law_every", .glo "_law_untold", .glo "_law_no_ring", .glo "_law_refused", .glo "_law_refused_right", .glo "law", .free "isinstance", .free "int", .free "bool", .free "list", .free "tuple", .free "all", .free "sorted", .free "range", .free "len", .free "min", .free "max", .free "sum", .free "zip", .free "enumerate", .free "repr", .free "abs", .free "super", .free "Exception", .int "MOST_SIDE" 5, .glo "Book", .cls "Book", .noat "Book" "sorts", .noat "Book" "kinds", .noat "Book" "pairings", .noat "Book" "by_lot", .noat "Book" "known_round", .mkr "Book", .glo "InvalidBook", .glo "InvalidPairs", .exm "InvalidPairs" "InvalidPairs" true, .exm "InvalidBook" "InvalidPairs" false, .exm "InvalidBook" "InvalidBook" true]
def looseA : List PySem.Str := ["_wall", "DealError", "InvalidBook", "InvalidPairs", "InvalidSize", "is_integer", "is_number", "is_below", "is_sequence", "is_permutation", "rising_rows", "MOST_SIDE", "need_sizes", "list_lots", "small_lots", "without_pair", "fits_parts", "put_pairings", "Book", "need_book", "deal_pairs", "need_pairs", "longer_pairings", "untold_lot", "is_calm", "_law_box", "_law_take", "_law_pick", "_law_rows", "_law_orders"]
def looseB : List PySem.Str := ["_law_lots", "_law_ones", "_law_fits", "_law_prices", "_law_best", "_law_priced", "_law_drawn", "_law_turned", "_law_list", "_law_within", "_law_some", "_law_every", "_law_untold", "_law_no_ring", "_law_refused", "_law_refused_right"]
/-! ### the hook -/
abbrev AlY : Type := He.AlD × List FnC × Bool
def file0 : Str := PySem.Challenge.pw_leavescalm_k11_whole_pairs_that_are_calm.main.file
def ckB (K : PySem.W.Frag) : Bool := supB K file0 (He.ga K "InvalidBook") (He.ma K (He.ga K "InvalidBook") "__init__") && (supB K file0 (He.ga K "InvalidPairs") (He.ma K (He.ga K "InvalidPairs") "__init__") && bkB K (He.ga K "Book"))
def obsY (K : PySem.W.Frag) : AlY := (He.obsD fa fn K, [fnC K (He.ma K (He.ga K "InvalidBook") "__init__"), fnC K (He.ma K (He.ga K "InvalidPairs") "__init__")], ckB K)
def valY : AlY := (He.valD fn, [fnCv (inClass (top 3) 0), fnCv (inClass (top 4) 0)], true)
def frY (g : Addr → Option Obj) : PySem.W.Frag := He.frG g (cStatics :: He.asD g 4)
abbrev hkY : PySem.W.Hook where
  α := AlY
  obs := fun s => obsY (frY s.heap.get?)
  val := fun _ => valY
  says := fun _ h => ∃ K : PySem.W.Frag, K.In h ∧ obsY K = valY
  of := fun _ _ e => ⟨_, He.frG_in, e⟩
  keeps := fun _ _ _ ⟨K, hK, c⟩ k => ⟨K, PySem.W.Frag.In.keeps hK k, c⟩
abbrev R : PySem.W.OpenRow := PySem.W.OpenLaw.row PySem.Challenge.rw_leavescalm_k11_whole_pairs_that_are_calm
def ob (s : PySem.W.SharedT) : AlY := obsY (frY (HandSHeadRun.getT s))
theorem ob_eq (s : PySem.W.SharedT) : ob s = hkY.obs s.abs := by
  have e : HandSHeadRun.getT s = s.abs.heap.get? := funext (HandSHeadRun.getT_eq s)
  show obsY (frY (HandSHeadRun.getT s)) = obsY (frY s.abs.heap.get?)
  rw [e]
theorem run (w : World) : HandSHeadRun.RunEq R (PySem.W.view R.prog [51]) hkY ob 3000 (looseA ++ looseB) w := by
  intro os
  kernel_rfl
/-! ### the facts -/
section
variable {P : Program} {w : World} {K : PySem.W.Frag} {h : Heap} {mg : Str → Option Value}
theorem says_d (c : obsY K = valY) : He.SaysD fa fn K := congrArg (fun z : AlY => z.1) c
theorem says_c (c : obsY K = valY) : fnC K (He.ma K (He.ga K "InvalidBook") "__init__") = fnCv (inClass (top 3) 0) ∧ fnC K (He.ma K (He.ga K "InvalidPairs") "__init__") = fnCv (inClass (top 4) 0) := by
  have e : [fnC K (He.ma K (He.ga K "InvalidBook") "__init__"), fnC K (He.ma K (He.ga K "InvalidPairs") "__init__")] = [fnCv (inClass (top 3) 0), fnCv (inClass (top 4) 0)] := congrArg (fun z : AlY => z.2.1) c
  exact ⟨(List.cons.inj e).1, (List.cons.inj (List.cons.inj e).2).1⟩
theorem says_b (c : obsY K = valY) : ckB K = true := congrArg (fun z : AlY => z.2.2) c
theorem nm_of (X : K.In h) (G : h.Ns mainGlobals mg) (c : He.SaysD fa fn K) {x : Str} {st : Stmt} {i j : Nat} (hi : fn[i]? = some ⟨(x, none), x, x, defArgs st, defBody st, defScope st, [], []⟩) (hj : fa[j]? = some (.glo x)) : Nm K mg x st := by
  obtain ⟨fd, F⟩ := c.def_ i hi
  exact ⟨_, fd, He.glo_ok X G (c.fact j hj), F⟩
theorem gs_of (X : K.In h) (G : h.Ns mainGlobals mg) (c : He.SaysD fa fn K) : Gs K mg where
  f_isinstance := He.free_ok X G (c.fact 40 rfl)
  f_int := He.free_ok X G (c.fact 41 rfl)
  f_bool := He.free_ok X G (c.fact 42 rfl)
  f_list := He.free_ok X G (c.fact 43 rfl)
  f_tuple := He.free_ok X G (c.fact 44 rfl)
  f_all := He.free_ok X G (c.fact 45 rfl)
  f_sorted := He.free_ok X G (c.fact 46 rfl)
  f_range := He.free_ok X G (c.fact 47 rfl)
  f_len := He.free_ok X G (c.fact 48 rfl)
  f_min := He.free_ok X G (c.fact 49 rfl)
  f_max := He.free_ok X G (c.fact 50 rfl)
  f_sum := He.free_ok X G (c.fact 51 rfl)
  f_zip := He.free_ok X G (c.fact 52 rfl)
  f_enumerate := He.free_ok X G (c.fact 53 rfl)
  f_repr := He.free_ok X G (c.fact 54 rfl)
  f_abs := He.free_ok X G (c.fact 55 rfl)
  f_super := He.free_ok X G (c.fact 56 rfl)
  f_Exception := He.free_ok X G (c.fact 57 rfl)
  n_is_integer := nm_of X G c (i := 0) (j := 0) rfl rfl
  n_is_number := nm_of X G c (i := 1) (j := 1) rfl rfl
  n_is_below := nm_of X G c (i := 2) (j := 2) rfl rfl
  n_is_sequence := nm_of X G c (i := 3) (j := 3) rfl rfl
  n_is_permutation := nm_of X G c (i := 4) (j := 4) rfl rfl
  n_rising_rows := nm_of X G c (i := 5) (j := 5) rfl rfl
  n_need_sizes := nm_of X G c (i := 6) (j := 6) rfl rfl
  n_list_lots := nm_of X G c (i := 7) (j := 7) rfl rfl
  n_small_lots := nm_of X G c (i := 8) (j := 8) rfl rfl
  n_without_pair := nm_of X G c (i := 9) (j := 9) rfl rfl
  n_fits_parts := nm_of X G c (i := 10) (j := 10) rfl rfl
  n_put_pairings := nm_of X G c (i := 11) (j := 11) rfl rfl
  n_need_book := nm_of X G c (i := 12) (j := 12) rfl rfl
  n_deal_pairs := nm_of X G c (i := 13) (j := 13) rfl rfl
  n_need_pairs := nm_of X G c (i := 14) (j := 14) rfl rfl
  n_longer_pairings := nm_of X G c (i := 15) (j := 15) rfl rfl
  n_untold_lot := nm_of X G c (i := 16) (j := 16) rfl rfl
  n_is_calm := nm_of X G c (i := 17) (j := 17) rfl rfl
  n_law_box := nm_of X G c (i := 18) (j := 18) rfl rfl
  n_law_take := nm_of X G c (i := 19) (j := 19) rfl rfl
  n_law_pick := nm_of X G c (i := 20) (j := 20) rfl rfl
  n_law_rows := nm_of X G c (i := 21) (j := 21) rfl rfl
  n_law_orders := nm_of X G c (i := 22) (j := 22) rfl rfl
  n_law_lots := nm_of X G c (i := 23) (j := 23) rfl rfl
  n_law_ones := nm_of X G c (i := 24) (j := 24) rfl rfl
  n_law_fits := nm_of X G c (i := 25) (j := 25) rfl rfl
  n_law_prices := nm_of X G c (i := 26) (j := 26) rfl rfl
  n_law_best := nm_of X G c (i := 27) (j := 27) rfl rfl
  n_law_priced := nm_of X G c (i := 28) (j := 28) rfl rfl
  n_law_drawn := nm_of X G c (i := 29) (j := 29) rfl rfl
  n_law_turned := nm_of X G c (i := 30) (j := 30) rfl rfl
  n_law_list := nm_of X G c (i := 31) (j := 31) rfl rfl
  n_law_within := nm_of X G c (i := 32) (j := 32) rfl rfl
  n_law_some := nm_of X G c (i := 33) (j := 33) rfl rfl
  n_law_every := nm_of X G c (i := 34) (j := 34) rfl rfl
  n_law_untold := nm_of X G c (i := 35) (j := 35) rfl rfl
  n_law_no_ring := nm_of X G c (i := 36) (j := 36) rfl rfl
  n_law_refused := nm_of X G c (i := 37) (j := 37) rfl rfl
  n_law_refused_right := nm_of X G c (i := 38) (j := 38) rfl rfl
  n_law := nm_of X G c (i := 39) (j := 39) rfl rfl
  m_MOST_SIDE := by
    obtain ⟨t, e⟩ := He.int_ok X G (c.fact 58 rfl)
    exact ⟨_, e, t, rfl⟩
theorem bk_of (X : K.In h) (G : h.Ns mainGlobals mg) (c : He.SaysD fa fn K) (b : bkB K (He.ga K "Book") = true) : Bk K mg (He.ga K "Book") (He.ma K (He.ga K "Book") "__init__") := by
  obtain ⟨b1, b⟩ := ba2 b
  obtain ⟨b2, b⟩ := ba2 b
  obtain ⟨b3, b⟩ := ba2 b
  obtain ⟨b4, b⟩ := ba2 b
  obtain ⟨b5, b6⟩ := ba2 b
  exact ⟨He.glo_ok X G (c.fact 59 rfl), He.cls_ok (c.fact 60 rfl), He.noat_ok (c.fact 61 rfl), He.noat_ok (c.fact 62 rfl), He.noat_ok (c.fact 63 rfl), He.noat_ok (c.fact 64 rfl), He.noat_ok (c.fact 65 rfl), He.mkr_ok (c.fact 66 rfl),
    of_decide_eq_true b1, of_decide_eq_true b2, of_decide_eq_true b3, of_decide_eq_true b4, of_decide_eq_true b5, of_decide_eq_true b6⟩
theorem es_of (htop : (P.main.scope.names.lookup ("super" : Str)).isSome = false) (hfile : file0 = P.main.file) (X : K.In h) (G : h.Ns mainGlobals mg) (c : obsY K = valY) :
    Es P w K mg (He.ga K "Book") (He.ma K (He.ga K "Book") "__init__") (He.ga K "InvalidBook") (He.ga K "InvalidPairs") := by
  have d := says_d c
  obtain ⟨c1, c2⟩ := says_c c
  obtain ⟨b1, b⟩ := ba2 (says_b c)
  obtain ⟨b2, b3⟩ := ba2 b
  have nG := He.free_ok X G (d.fact 56 rfl)
  rw [hfile] at b1 b2
  exact ⟨bk_of X G d b3, exc3 (He.glo_ok X G (d.fact 67 rfl)) nG (sup_ok b1 c1) htop, exc4 (He.glo_ok X G (d.fact 68 rfl)) nG (sup_ok b2 c2) htop, He.exm_ok (d.fact 69 rfl), He.exm_ok (d.fact 70 rfl), He.exm_ok (d.fact 71 rfl)⟩
theorem bi_of (c : He.SaysD fa fn K) : ∃ fd, FunD K "__init__" "Book.__init__" (defArgs (inClass (top 21) 0)) (defBody (inClass (top 21) 0)) (defScope (inClass (top 21) 0)) [] [] (He.ma K (He.ga K "Book") "__init__") fd := c.def_ 40 (d := d_Bi) rfl
end
end K11
/-! the end -/
namespace K11
open PySem PySem.Spec PyProof.Rows L2
theorem walk_ofG {l : PySem.W.OpenLaw} {n k : Nat} {q : Program} {loose : List Str} {XP : (Str → Option Value) → Heap → Prop} {YP : World → Heap → Prop} {d : DefRec} {x : Str} (hn : l.most = some n) (hn2 : n ≤ sizeLine) (hdf : d.params.defaults = []) (room : Room k callerA)
    (F : ∀ (w : World) (mg : Str → Option Value) (fa : Addr) (h : Heap), YP w h → h.Ns mainGlobals mg → mg d.name = some (.ref fa) → ∃ (K : PySem.W.Frag) (fd : FuncData) (sp : Sp), K.In h ∧ (∀ (s : Shared) (u : Value), BindsTo s fd ⟨[u], []⟩ [(x, u)]) ∧
      (∀ (H : Hp) (a : Addr) (ns : List Int), ns.length ≤ n → Only H → SqL K H a (ns.map V.int) → sp [.ref a] H (fun v _ => v = .bl true) fun _ _ _ => False) ∧ ∀ base : Heap, K.In base → base.Ns mainGlobals mg → FnG l.prog w K mg base k fa fd [x] sp) :
    PySem.W.WalkO q loose XP YP l.row.toRowW d [] (fun f vs => PySem.call f vs) := by
  refine Att.attach_call hn hdf fun w s0 s1 mg mb fa o pm cd doc a vs ns G Y _ _ _ at_x obj hints short gens => ?_
  obtain ⟨K, fd, sp, kin, bnd, prom, run⟩ := F w mg fa _ Y G.T.g at_x
  exact law_callG kin G.T.g G.T.b G.T.builtins G.T.nolimit gens obj hints (Nat.le_trans short hn2) room run bnd fun H only scr => prom H a ns short only scr
theorem top_super : (PySem.Challenge.pw_leavescalm_k11_whole_pairs_that_are_calm.main.scope.names.lookup ("super" : Str)).isSome = false := by decide +kernel
theorem facts {w : World} {K : PySem.W.Frag} {h : Heap} {mg : Str → Option Value} {f : Addr} (X : K.In h) (G : h.Ns mainGlobals mg) (hfa : mg ("law" : Str) = some (.ref f)) (c : obsY K = valY) :
    ∃ fd : FuncData, (∀ (s : Shared) (v : Value), BindsTo s fd ⟨[v], []⟩ [("_law_script", v)]) ∧ ∀ base : Heap, K.In base → base.Ns mainGlobals mg → FnG PySem.Challenge.pw_leavescalm_k11_whole_pairs_that_are_calm w K mg base 8 f fd ["_law_script"] (spLaw K) := by
  have d := says_d c
  have W := gs_of X G d
  have Ew := es_of (P := PySem.Challenge.pw_leavescalm_k11_whole_pairs_that_are_calm) (w := w) top_super rfl X G c
  obtain ⟨fi, Fi⟩ := bi_of d
  obtain ⟨f', fd, hm, F⟩ := W.n_law
  rw [hfa] at hm
  cases hm
  have b := FunD.bindsA (ps := ["_law_script"]) F fun _ _ _ _ _ _ us hl => match us, hl with | [_], _ => rfl
  refine ⟨fd, fun s v => b s [v] rfl, fun base _ _ => ?_⟩
  obtain ⟨f2, fd2, h1, _, _, ⟨o, h2, h3⟩, G2⟩ := o_law (base := base) W Ew (m_init W Ew Fi)
  rw [hfa] at h1
  cases h1
  obtain ⟨o', h4, h5⟩ := F.at_
  rw [h2] at h4
  cases h4
  rw [h3] at h5
  cases h5
  exact G2
end K11
open PySem PySem.W PySem.Calls PyProof.Rows
theorem PySem.Challenge.cw_leavescalm_k11_whole_pairs_that_are_calm_holds : PySem.Challenge.rw_leavescalm_k11_whole_pairs_that_are_calm.Holds := by
  w_on; o_law
  refine HandSHeadRun.head_any (r := OpenLaw.row PySem.Challenge.rw_leavescalm_k11_whole_pairs_that_are_calm) (q := view (OpenLaw.row PySem.Challenge.rw_leavescalm_k11_whole_pairs_that_are_calm).prog [51]) (H := K11.hkY) (ob := K11.ob) (M := 3000) (loose := K11.looseA ++ K11.looseB) (d := HandSHeadRun.topDef (OpenLaw.row PySem.Challenge.rw_leavescalm_k11_whole_pairs_that_are_calm).prog 51) (kwd := []) K11.ob_eq
    (by kernel_rfl) (fun s => by kernel_rfl) K11.run (by kernel_rfl) (by kernel_rfl) (by kernel_rfl) (by rfl) (by first | assumption | decide +kernel) (by decide +kernel) ⟨rfl, rfl, rfl, rfl, rfl, by decide +kernel⟩ ?hw ?hc
  case hw => w_witness2
  case hc =>
    refine K11.walk_ofG (l := PySem.Challenge.rw_leavescalm_k11_whole_pairs_that_are_calm) (n := 63) (k := 8) (x := "_law_script") rfl (by decide) (by kernel_rfl) ⟨rfl, by decide, by decide⟩ ?F
    intro w mg fa h Y G hmg0
    obtain ⟨K, KX, c⟩ := Y
    have hmg : mg ("law" : PySem.Str) = some (.ref fa) := by
      have e : (HandSHeadRun.topDef (OpenLaw.row PySem.Challenge.rw_leavescalm_k11_whole_pairs_that_are_calm).prog 51).name = ("law" : PySem.Str) := by kernel_rfl
      rw [← e]
      exact hmg0
    obtain ⟨fd, hb, hF⟩ := K11.facts (w := w) KX G hmg c
    exact ⟨K, fd, K11.spLaw K, KX, hb, fun H a ns hl _ hS => ⟨a, ns, rfl, hS, hl, fun _ => rfl⟩, hF⟩
