import PyProof.Rows.All
import Wide.All
import OpenK.AllK
import Wide.FinOn
import HandS.ForMost
import HandS.Style
import HandS.Zip
import HandS.IsInst
import HandS.TupAny
import HandS.Flow
import HandS.Walk
import HandS.Gcd
import KE.KMathGC
import HandS.Strs
import HandS.SetFor
import KE.GoesEnum
import KE.SortData
import PyProof.WalksMore
import PySem.Challenge.RW_stillpanes_k04_whole_rules_by_own_growth
set_option Elab.async false
set_option linter.all false
set_option maxRecDepth 100000
set_option maxHeartbeats 4000000
set_option autoImplicit false
/-! ## Ed -/
/-! the data layer: a reading evaluates to a datum; a view V of the heap A tells what the data lean on -/
namespace K4
open PySem PySem.Spec PyProof.Rows L2

mutual
inductive Is (H : Hp) : V → PyData → Prop
  | non : Is H .non .none
  | bl (b : Bool) : Is H (.bl b) (.bool b)
  | int (i : Int) : Is H (.int i) (.int i)
  | str (x : Str) : Is H (.str x) (.str x)
  | lst {a : Addr} {xs : List V} {ds : List PyData} : H a = some (.lst xs) → IsL H xs ds → Is H (.ref a) (.list ds)
  | tup {a : Addr} {xs : List V} {ds : List PyData} : H a = some (.tup xs) → IsL H xs ds → Is H (.ref a) (.tuple ds)
inductive IsL (H : Hp) : List V → List PyData → Prop
  | nil : IsL H [] []
  | cons {v : V} {d : PyData} {vs : List V} {ds : List PyData} : Is H v d → IsL H vs ds → IsL H (v :: vs) (d :: ds)
end

mutual
theorem Is.mono {H H' : Hp} (e : Same H H') : ∀ {d : PyData} {v : V}, Is H v d → Is H' v d
  | .none, _, h => by cases h; exact .non
  | .bool b, _, h => by cases h; exact .bl b
  | .int i, _, h => by cases h; exact .int i
  | .str x, _, h => by cases h; exact .str x
  | .list ds, _, h => by
    cases h with
    | lst h1 h2 => exact .lst (e _ _ h1) (IsL.mono e h2)
  | .tuple ds, _, h => by
    cases h with
    | tup h1 h2 => exact .tup (e _ _ h1) (IsL.mono e h2)
  | .dict _, _, h => by cases h
theorem IsL.mono {H H' : Hp} (e : Same H H') : ∀ {ds : List PyData} {vs : List V}, IsL H vs ds → IsL H' vs ds
  | [], _, h => by cases h; exact .nil
  | _ :: _, _, h => by
    cases h with
    | cons h1 h2 => exact .cons (Is.mono e h1) (IsL.mono e h2)
end
mutual
theorem Is.dp {K : PySem.W.Frag} {H : Hp} : ∀ {d : PyData} {v : V}, Is H v d → Dp K H v d
  | .none, _, h => by cases h; exact .non
  | .bool b, _, h => by cases h; exact .bl b
  | .int i, _, h => by cases h; exact .int i
  | .str x, _, h => by cases h; exact .str x
  | .list ds, _, h => by
    cases h with
    | lst h1 h2 => exact .lst (SqL.of h1) (IsL.dp h2)
  | .tuple ds, _, h => by
    cases h with
    | tup h1 h2 => exact .tup (SqT.of h1) (IsL.dp h2)
  | .dict _, _, h => by cases h
theorem IsL.dp {K : PySem.W.Frag} {H : Hp} : ∀ {ds : List PyData} {vs : List V}, IsL H vs ds → DpAll K H vs ds
  | [], _, h => by cases h; exact .nil
  | _ :: _, _, h => by
    cases h with
    | cons h1 h2 => exact .cons (Is.dp h1) (IsL.dp h2)
end
section
variable {H : Hp} {v : V} {d : PyData} {vs ws : List V} {ds es : List PyData}
theorem IsL.length : ∀ {ds : List PyData} {vs : List V}, IsL H vs ds → vs.length = ds.length
  | [], _, h => by cases h; rfl
  | _ :: _, _, h => by
    cases h with
    | cons h1 h2 => rw [List.length_cons, List.length_cons, IsL.length h2]
theorem IsL.get : ∀ {ds : List PyData} {vs : List V} {i : Nat} {d : PyData}, IsL H vs ds → ds[i]? = some d → ∃ v, vs[i]? = some v ∧ Is H v d
  | [], _, i, d, h, e => by simp at e
  | _ :: _, _, 0, d, h, e => by
    cases h with
    | cons h1 h2 =>
      have e' := Option.some.inj e
      subst e'
      exact ⟨_, rfl, h1⟩
  | _ :: _, _, i + 1, d, h, e => by
    cases h with
    | cons h1 h2 =>
      obtain ⟨w, h3, h4⟩ := IsL.get (i := i) (d := d) h2 (by simpa using e)
      exact ⟨w, by simpa using h3, h4⟩
theorem IsL.geti : ∀ {ds : List PyData} {vs : List V} {i : Nat} {v : V}, IsL H vs ds → vs[i]? = some v → ∃ d, ds[i]? = some d ∧ Is H v d
  | [], _, i, v, h, e => by cases h; simp at e
  | _ :: _, _, 0, v, h, e => by
    cases h with
    | cons h1 h2 =>
      have e' := Option.some.inj e
      subst e'
      exact ⟨_, rfl, h1⟩
  | _ :: _, _, i + 1, v, h, e => by
    cases h with
    | cons h1 h2 =>
      obtain ⟨w, h3, h4⟩ := IsL.geti (i := i) (v := v) h2 (by simpa using e)
      exact ⟨w, by simpa using h3, h4⟩
theorem IsL.app : ∀ {ds es : List PyData} {vs ws : List V}, IsL H vs ds → IsL H ws es → IsL H (vs ++ ws) (ds ++ es)
  | [], _, _, _, h, k => by cases h; exact k
  | _ :: _, _, _, _, h, k => by
    cases h with
    | cons h1 h2 => exact .cons h1 (IsL.app h2 k)
theorem IsL.take : ∀ {ds : List PyData} {vs : List V} (n : Nat), IsL H vs ds → IsL H (vs.take n) (ds.take n)
  | [], _, n, h => by cases h; simp; exact .nil
  | _ :: _, _, 0, h => by simp; exact .nil
  | _ :: _, _, n + 1, h => by
    cases h with
    | cons h1 h2 => exact .cons h1 (IsL.take n h2)
theorem IsL.drop : ∀ {ds : List PyData} {vs : List V} (n : Nat), IsL H vs ds → IsL H (vs.drop n) (ds.drop n)
  | [], _, n, h => by cases h; simp; exact .nil
  | _ :: _, _, 0, h => h
  | _ :: _, _, n + 1, h => by
    cases h with
    | cons h1 h2 => exact IsL.drop n h2
theorem IsL.ints : ∀ {ns : List Int} {vs : List V}, IsL H vs (ns.map PyData.int) → vs = ns.map V.int
  | [], _, h => by cases h; rfl
  | n :: ns, _, h => by
    cases h with
    | cons h1 h2 =>
      cases h1
      rw [IsL.ints h2]; rfl
theorem isL_ints : ∀ (ns : List Int), IsL H (ns.map V.int) (ns.map PyData.int)
  | [] => .nil
  | n :: ns => .cons (.int n) (isL_ints ns)
theorem IsL.bools : ∀ {bs : List Bool} {vs : List V}, IsL H vs (bs.map PyData.bool) → vs = bs.map V.bl
  | [], _, h => by cases h; rfl
  | n :: ns, _, h => by
    cases h with
    | cons h1 h2 =>
      cases h1
      rw [IsL.bools h2]; rfl
theorem IsL.rep (h : IsL H vs ds) : ∀ k : Nat, IsL H (List.replicate k vs).flatten (List.replicate k ds).flatten
  | 0 => .nil
  | k + 1 => by
    rw [List.replicate_succ, List.replicate_succ, List.flatten_cons, List.flatten_cons]
    exact h.app (IsL.rep h k)
end

/-! ### views -/
/-- from the view V of A to the view V' of A': u alone may change; the view grows by new things alone -/
structure Fr (u : Option Addr) (V A V' A' : Hp) : Prop where
  up : ∀ a o, u ≠ some a → A a = some o → A' a = some o
  pr : ∀ a, A a ≠ none → A' a ≠ none
  vw : Same V V'
  sub : Same V' A'
  new : ∀ a, V a = none → A a ≠ none → V' a = none
section
variable {u : Option Addr} {V A V1 A1 V2 A2 : Hp}
theorem Fr.refl (h : Same V A) : Fr u V A V A := ⟨fun _ _ _ e => e, fun _ h => h, Same.refl V, h, fun _ h _ => h⟩
theorem Fr.trans (f : Fr u V A V1 A1) (g : Fr u V1 A1 V2 A2) : Fr u V A V2 A2 :=
  ⟨fun a o n e => g.up a o n (f.up a o n e), fun a h => g.pr a (f.pr a h), f.vw.trans g.vw, g.sub, fun a h1 h2 => g.new a (f.new a h1 h2) (f.pr a h2)⟩
theorem Fr.any (f : Fr none V A V1 A1) : Fr u V A V1 A1 := ⟨fun a o _ e => f.up a o (by simp) e, f.pr, f.vw, f.sub, f.new⟩
theorem Fr.same (f : Fr none V A V1 A1) : Same A A1 := fun a o e => f.up a o (by simp) e
theorem none_of {H : Hp} {H' : Hp} {p : Addr} (h : Same H H') (e : H' p = none) : H p = none := Same.free h e
theorem same_new {H : Hp} {p : Addr} {o : HO} (h : H p = none) : Same H (upd H p o) := fun b x e => by
  rw [upd_ne (ne_of_none e h)]
  exact e
theorem upd_some {H : Hp} {p : Addr} {o : HO} {a : Addr} (h : H a ≠ none) : upd H p o a ≠ none := by
  by_cases e : a = p
  · subst e; rw [upd_same]; simp
  · rw [upd_ne e]; exact h
/-- a new thing, seen -/
theorem Fr.alloc {p : Addr} {o : HO} (s : Same V A) (h : A p = none) : Fr u V A (upd V p o) (upd A p o) where
  up := fun a x _ e => same_new h a x e
  pr := fun a e => upd_some e
  vw := same_new (none_of s h)
  sub := fun a x e => by
    by_cases q : a = p
    · subst q; rw [upd_same] at e ⊢; exact e
    · rw [upd_ne q] at e ⊢; exact s a x e
  new := fun a h1 h2 => by
    rw [upd_ne (fun q => h2 (by rw [q]; exact h))]
    exact h1
/-- .. not seen -/
theorem Fr.hid {p : Addr} {o : HO} (s : Same V A) (h : A p = none) : Fr u V A V (upd A p o) where
  up := fun a x _ e => same_new h a x e
  pr := fun a e => upd_some e
  vw := Same.refl V
  sub := s.trans (same_new h)
  new := fun a h1 h2 => h1
end

/-! ### slots -/
inductive Sl where
  | no | d (x : PyData) | ur
/-- what the slots hold, seen in H -/
structure Slo (u : Option Addr) (H : Hp) (σ : L2.St) (ρ : List Sl) : Prop where
  len : σ.length = ρ.length
  dat : ∀ (i : Nat) (d : PyData), ρ[i]? = some (.d d) → ∃ v, σ[i]? = some (some v) ∧ Is H v d
  urn : ∀ i : Nat, ρ[i]? = some .ur → ∃ a, u = some a ∧ σ[i]? = some (some (.ref a))
section
variable {u : Option Addr} {H H' : Hp} {σ : L2.St} {ρ ρ' : List Sl}
theorem Slo.mono (e : Same H H') (h : Slo u H σ ρ) : Slo u H' σ ρ := ⟨h.len, fun i d q => let ⟨v, h1, h2⟩ := h.dat i d q; ⟨v, h1, h2.mono e⟩, h.urn⟩
theorem Slo.set (h : Slo u H σ ρ) {i : Nat} {v : V} {d : PyData} (hv : Is H v d) : Slo u H (σ.set i (some v)) (ρ.set i (.d d)) := by
  refine ⟨by rw [List.length_set, List.length_set, h.len], fun j e q => ?_, fun j q => ?_⟩
  · rw [List.getElem?_set] at q ⊢
    by_cases hj : i = j
    · subst hj
      rw [if_pos rfl] at q ⊢
      by_cases hl : i < ρ.length
      · rw [if_pos hl] at q
        rw [if_pos (by rw [h.len]; exact hl)]
        have q' := Option.some.inj q
        cases q'
        exact ⟨v, rfl, hv⟩
      · rw [if_neg hl] at q; cases q
    · rw [if_neg hj] at q ⊢
      exact h.dat j e q
  · rw [List.getElem?_set] at q ⊢
    by_cases hj : i = j
    · subst hj
      rw [if_pos rfl] at q
      by_cases hl : i < ρ.length
      · rw [if_pos hl] at q; cases q
      · rw [if_neg hl] at q; cases q
    · rw [if_neg hj] at q ⊢
      exact h.urn j q
/-- a slot of which nothing is said -/
theorem Slo.setNo (h : Slo u H σ ρ) {i : Nat} {x : Option V} : Slo u H (σ.set i x) (ρ.set i .no) := by
  refine ⟨by rw [List.length_set, List.length_set, h.len], fun j e q => ?_, fun j q => ?_⟩
  all_goals
    rw [List.getElem?_set] at q ⊢
    by_cases hj : i = j
    · subst hj
      rw [if_pos rfl] at q
      by_cases hl : i < ρ.length
      · rw [if_pos hl] at q; cases q
      · rw [if_neg hl] at q; cases q
    · rw [if_neg hj] at q ⊢
      first | exact h.dat j e q | exact h.urn j q
/-- saying less -/
def SlLe : List Sl → List Sl → Prop
  | [], [] => True
  | a :: r, b :: s => (b = .no ∨ a = b) ∧ SlLe r s
  | _, _ => False
theorem SlLe.refl : ∀ ρ : List Sl, SlLe ρ ρ
  | [] => trivial
  | a :: r => ⟨.inr rfl, SlLe.refl r⟩
theorem SlLe.len : ∀ {ρ ρ' : List Sl}, SlLe ρ ρ' → ρ.length = ρ'.length
  | [], [], _ => rfl
  | a :: r, b :: s, h => by rw [List.length_cons, List.length_cons, SlLe.len h.2]
  | [], _ :: _, h => h.elim
  | _ :: _, [], h => h.elim
theorem SlLe.get : ∀ {ρ ρ' : List Sl} {i : Nat} {x : Sl}, SlLe ρ ρ' → ρ'[i]? = some x → x ≠ .no → ρ[i]? = some x
  | [], [], i, x, _, e, _ => by simp at e
  | a :: r, b :: s, 0, x, h, e, n => by
    have e' := Option.some.inj e
    subst e'
    rcases h.1 with k | k
    · exact absurd k n
    · rw [k] <;> rfl
  | a :: r, b :: s, i + 1, x, h, e, n => by
    have q := SlLe.get (i := i) (x := x) h.2 (by simpa using e) n
    simpa using q
  | [], _ :: _, _, _, h, _, _ => h.elim
  | _ :: _, [], _, _, h, _, _ => h.elim
theorem Slo.le (h : Slo u H σ ρ) (w : SlLe ρ ρ') : Slo u H σ ρ' :=
  ⟨h.len.trans w.len, fun i d q => h.dat i d (w.get q (by simp)), fun i q => h.urn i (w.get q (by simp))⟩
def wipeS (ρ : List Sl) : List Nat → List Sl
  | [] => ρ
  | v :: vs => (wipeS ρ vs).set v .no
theorem Slo.wipe (h : Slo u H σ ρ) : ∀ vs : List Nat, Slo u H (wipe σ vs) (wipeS ρ vs)
  | [] => h
  | v :: vs => (Slo.wipe h vs).setNo
end

/-! ### what evaluates to what -/
def EvD (te : TE) (ρ : List Sl) (d : PyData) : Prop := ∀ u σ V A, Slo u V σ ρ → Same V A → ∀ Q : VK, (∀ v V' A', Fr none V A V' A' → Is V' v d → Q v A') → te σ A Q
def EvB (tt : TT) (ρ : List Sl) (b : Bool) : Prop := ∀ u σ V A, Slo u V σ ρ → Same V A → ∀ Q : Bool → Hp → Prop, (∀ V' A', Fr none V A V' A' → Q b A') → tt σ A Q
def EvA (ta : TA) (ρ : List Sl) (ds : List PyData) : Prop := ∀ u σ V A, Slo u V σ ρ → Same V A → ∀ Q : List L2.V → Hp → Prop, (∀ vs V' A', Fr none V A V' A' → IsL V' vs ds → Q vs A') → ta σ A Q
def EvO (to : TO) (ρ : List Sl) (o : Option Int) : Prop := ∀ u σ V A, Slo u V σ ρ → Same V A → ∀ Q : Option Int → Hp → Prop, (∀ V' A', Fr none V A V' A' → Q o A') → to σ A Q
/-- operations on values -/
def OpD (r : R2) (x y z : PyData) : Prop := ∀ V A v w, Same V A → Is V v x → Is V w y → ∀ Q : VK, (∀ t V' A', Fr none V A V' A' → Is V' t z → Q t A') → r v w A Q
def UnD (r : V → Hp → VK → Prop) (x z : PyData) : Prop := ∀ V A v, Same V A → Is V v x → ∀ Q : VK, (∀ t V' A', Fr none V A V' A' → Is V' t z → Q t A') → r v A Q
def CaD (r : List V → Hp → VK → Prop) (xs : List PyData) (z : PyData) : Prop := ∀ V A vs, Same V A → IsL V vs xs → ∀ Q : VK, (∀ t V' A', Fr none V A V' A' → Is V' t z → Q t A') → r vs A Q
def SlD (r : V → Option Int → Option Int → Hp → VK → Prop) (x : PyData) (lo hi : Option Int) (z : PyData) : Prop := ∀ V A v, Same V A → Is V v x → ∀ Q : VK, (∀ t V' A', Fr none V A V' A' → Is V' t z → Q t A') → r v lo hi A Q
section
variable {ρ : List Sl} {ta tb tc te : TE} {t t' : TT} {x y z d : PyData}
theorem ed_var {i : Nat} (h : ρ[i]? = some (.d d)) : EvD (tVar i) ρ d := fun u σ V A e s Q q => by
  obtain ⟨v, h1, h2⟩ := e.dat i d h
  exact ⟨v, h1, q v V A (Fr.refl s) h2⟩
theorem ed_int {i : Int} : EvD (tC (.int i)) ρ (.int i) := fun u σ V A e s Q q => q _ V A (Fr.refl s) (.int i)
theorem ed_bl {b : Bool} : EvD (tC (.bl b)) ρ (.bool b) := fun u σ V A e s Q q => q _ V A (Fr.refl s) (.bl b)
theorem ed_str {b : Str} : EvD (tC (.str b)) ρ (.str b) := fun u σ V A e s Q q => q _ V A (Fr.refl s) (.str b)
theorem ed_non : EvD (tC .non) ρ .none := fun u σ V A e s Q q => q _ V A (Fr.refl s) .non
theorem ed_op {r : R2} (ha : EvD ta ρ x) (hb : EvD tb ρ y) (hr : OpD r x y z) : EvD (tOp r ta tb) ρ z := fun u σ V A e s Q q =>
  ha u σ V A e s _ fun v V1 A1 f1 i1 => hb u σ V1 A1 (e.mono f1.vw) f1.sub _ fun w V2 A2 f2 i2 => hr V2 A2 v w f2.sub (i1.mono f2.vw) i2 Q fun t V3 A3 f3 i3 => q t V3 A3 ((f1.trans f2).trans f3) i3
theorem ed_un {r : V → Hp → VK → Prop} (ha : EvD ta ρ x) (hr : UnD r x z) : EvD (tUn r ta) ρ z := fun u σ V A e s Q q =>
  ha u σ V A e s _ fun v V1 A1 f1 i1 => hr V1 A1 v f1.sub i1 Q fun t V3 A3 f3 i3 => q t V3 A3 (f1.trans f3) i3
theorem ed_cb {r : List V → Hp → VK → Prop} {tr : TA} {xs : List PyData} (ha : EvA tr ρ xs) (hr : CaD r xs z) : EvD (tCB r tr) ρ z := fun u σ V A e s Q q =>
  ha u σ V A e s _ fun v V1 A1 f1 i1 => hr V1 A1 v f1.sub i1 Q fun t V3 A3 f3 i3 => q t V3 A3 (f1.trans f3) i3
theorem ea_nil : EvA tNil ρ [] := fun u σ V A e s Q q => q _ V A (Fr.refl s) .nil
theorem ea_cons {tr : TA} {ds : List PyData} (ha : EvD ta ρ d) (hr : EvA tr ρ ds) : EvA (tCons ta tr) ρ (d :: ds) := fun u σ V A e s Q q =>
  ha u σ V A e s _ fun v V1 A1 f1 i1 => hr u σ V1 A1 (e.mono f1.vw) f1.sub _ fun w V2 A2 f2 i2 => q _ V2 A2 (f1.trans f2) (.cons (i1.mono f2.vw) i2)
theorem eo_none : EvO tNoPart ρ none := fun u σ V A e s Q q => q V A (Fr.refl s)
theorem eo_some {i : Int} (ha : EvD ta ρ (.int i)) : EvO (tPart ta) ρ (some i) := fun u σ V A e s Q q =>
  ha u σ V A e s _ fun v V1 A1 f1 i1 => by
    cases i1
    exact ⟨i, rfl, q V1 A1 f1⟩
theorem ed_sl {r : V → Option Int → Option Int → Hp → VK → Prop} {tl th : TO} {lo hi : Option Int} (ha : EvD ta ρ x) (hl : EvO tl ρ lo) (hh : EvO th ρ hi) (hr : SlD r x lo hi z) : EvD (tSl r ta tl th) ρ z := fun u σ V A e s Q q =>
  ha u σ V A e s _ fun v V1 A1 f1 i1 => hl u σ V1 A1 (e.mono f1.vw) f1.sub _ fun V2 A2 f2 => hh u σ V2 A2 ((e.mono f1.vw).mono f2.vw) f2.sub _ fun V3 A3 f3 =>
    hr V3 A3 v f3.sub ((i1.mono f2.vw).mono f3.vw) Q fun t V4 A4 f4 i4 => q t V4 A4 (((f1.trans f2).trans f3).trans f4) i4
theorem ed_tup {tr : TA} {ds : List PyData} (h : EvA tr ρ ds) (hl : ds.length ≤ 100000 := by decide) : EvD (tTup tr) ρ (.tuple ds) := fun u σ V A e s Q q =>
  h u σ V A e s _ fun vs V1 A1 f1 i1 => ⟨by rw [i1.length]; exact Nat.le_trans hl (by decide), fun p hp => q _ _ _ (f1.trans (Fr.alloc f1.sub hp)) (.tup upd_same (i1.mono (same_new (none_of f1.sub hp))))⟩
theorem ed_lst {tr : TA} {ds : List PyData} (h : EvA tr ρ ds) (hl : ds.length ≤ 100000 := by decide) : EvD (tLst tr) ρ (.list ds) := fun u σ V A e s Q q =>
  h u σ V A e s _ fun vs V1 A1 f1 i1 => ⟨by rw [i1.length]; exact Nat.le_trans hl (by decide), fun p hp => q _ _ _ (f1.trans (Fr.alloc f1.sub hp)) (.lst upd_same (i1.mono (same_new (none_of f1.sub hp))))⟩
theorem ed_is {d' : PyData} (h : EvD te ρ d) (e : d = d') : EvD te ρ d' := by rw [← e]; exact h
theorem ea_is {ta : TA} {ds ds' : List PyData} (h : EvA ta ρ ds) (e : ds = ds') : EvA ta ρ ds' := by rw [← e]; exact h
theorem eb_is {b b' : Bool} (h : EvB t ρ b) (e : b = b') : EvB t ρ b' := by rw [← e]; exact h
theorem ed_if {b : Bool} (h : EvB t ρ b) (h1 : b = true → EvD ta ρ d) (h2 : b = false → EvD tb ρ d) : EvD (tIf t ta tb) ρ d := fun u σ V A e s Q q =>
  h u σ V A e s _ fun V1 A1 f1 => by
    cases b with
    | true => exact h1 rfl u σ V1 A1 (e.mono f1.vw) f1.sub Q fun v V2 A2 f2 i2 => q v V2 A2 (f1.trans f2) i2
    | false => exact h2 rfl u σ V1 A1 (e.mono f1.vw) f1.sub Q fun v V2 A2 f2 i2 => q v V2 A2 (f1.trans f2) i2
/-- an if whose test is open -/
theorem ed_ite {b : Bool} {d1 d2 : PyData} (h : EvB t ρ b) (h1 : b = true → EvD ta ρ d1) (h2 : b = false → EvD tb ρ d2) : EvD (tIf t ta tb) ρ (if b = true then d1 else d2) :=
  ed_if h (fun e => by rw [if_pos e]; exact h1 e) (fun e => by rw [if_neg (by rw [e]; simp)]; exact h2 e)
theorem eb_test {b : Bool} (h : EvD te ρ (.bool b)) : EvB (tTest te) ρ b := fun u σ V A e s Q q => h u σ V A e s _ fun v V1 A1 f1 i1 => by
  cases i1
  exact ⟨b, rfl, q V1 A1 f1⟩
theorem eb_B {b : Bool} (h : EvD te ρ (.bool b)) : EvB (tB te) ρ b := fun u σ V A e s Q q => h u σ V A e s _ fun v V1 A1 f1 i1 => by
  cases i1
  exact ⟨b, rfl, q V1 A1 f1⟩
theorem eb_and {a b : Bool} (h1 : EvB t ρ a) (h2 : a = true → EvB t' ρ b) : EvB (tAnd t t') ρ (a && b) := fun u σ V A e s Q q =>
  h1 u σ V A e s _ fun V1 A1 f1 => by
    cases a with
    | true => exact h2 rfl u σ V1 A1 (e.mono f1.vw) f1.sub Q fun V2 A2 f2 => q V2 A2 (f1.trans f2)
    | false => exact q V1 A1 f1
theorem eb_or {a b : Bool} (h1 : EvB t ρ a) (h2 : a = false → EvB t' ρ b) : EvB (tOr t t') ρ (a || b) := fun u σ V A e s Q q =>
  h1 u σ V A e s _ fun V1 A1 f1 => by
    cases a with
    | true => exact q V1 A1 f1
    | false => exact h2 rfl u σ V1 A1 (e.mono f1.vw) f1.sub Q fun V2 A2 f2 => q V2 A2 (f1.trans f2)
theorem eb_not {a : Bool} (h1 : EvB t ρ a) : EvB (tNot t) ρ (!a) := fun u σ V A e s Q q => h1 u σ V A e s _ fun V1 A1 f1 => q V1 A1 f1
theorem eb_yes : EvB tYes ρ true := fun u σ V A e s Q q => q V A (Fr.refl s)
theorem ed_andV {a b : Bool} (h1 : EvD ta ρ (.bool a)) (h2 : a = true → EvD tb ρ (.bool b)) : EvD (tAndV ta tb) ρ (.bool (a && b)) := fun u σ V A e s Q q =>
  h1 u σ V A e s _ fun v V1 A1 f1 i1 => by
    cases i1
    refine ⟨a, rfl, ?_⟩
    cases a with
    | true => exact h2 rfl u σ V1 A1 (e.mono f1.vw) f1.sub Q fun w V2 A2 f2 i2 => q w V2 A2 (f1.trans f2) i2
    | false => exact q _ V1 A1 f1 (.bl false)
theorem ed_orV {a b : Bool} (h1 : EvD ta ρ (.bool a)) (h2 : a = false → EvD tb ρ (.bool b)) : EvD (tOrV ta tb) ρ (.bool (a || b)) := fun u σ V A e s Q q =>
  h1 u σ V A e s _ fun v V1 A1 f1 i1 => by
    cases i1
    refine ⟨a, rfl, ?_⟩
    cases a with
    | true => exact q _ V1 A1 f1 (.bl true)
    | false => exact h2 rfl u σ V1 A1 (e.mono f1.vw) f1.sub Q fun w V2 A2 f2 i2 => q w V2 A2 (f1.trans f2) i2
theorem ed_notV {a : Bool} (h1 : EvD ta ρ (.bool a)) : EvD (tNotV ta) ρ (.bool (!a)) := fun u σ V A e s Q q =>
  h1 u σ V A e s _ fun v V1 A1 f1 i1 => by
    cases i1
    exact ⟨a, rfl, q _ V1 A1 f1 (.bl _)⟩
theorem ed_chain {r r' : R2} {b c : Bool} {w : PyData} (ha : EvD ta ρ x) (hb : EvD tb ρ y) (hr : OpD r x y (.bool b)) (hc : b = true → EvD tc ρ w) (hr' : b = true → OpD r' y w (.bool c)) : EvD (tChain r r' ta tb tc) ρ (.bool (b && c)) := fun u σ V A e s Q q =>
  ha u σ V A e s _ fun v V1 A1 f1 i1 => hb u σ V1 A1 (e.mono f1.vw) f1.sub _ fun v2 V2 A2 f2 i2 => hr V2 A2 v v2 f2.sub (i1.mono f2.vw) i2 _ fun v3 V3 A3 f3 i3 => by
    cases i3
    refine ⟨b, rfl, ?_⟩
    cases b with
    | true =>
      refine (hc rfl) u σ V3 A3 (((e.mono f1.vw).mono f2.vw).mono f3.vw) f3.sub _ fun v4 V4 A4 f4 i4 => ?_
      exact hr' rfl V4 A4 v2 v4 f4.sub ((i2.mono f3.vw).mono f4.vw) i4 Q fun v5 V5 A5 f5 i5 => q v5 V5 A5 ((((f1.trans f2).trans f3).trans f4).trans f5) i5
    | false => exact q _ V3 A3 ((f1.trans f2).trans f3) (.bl false)
end

/-! ### a def's promise -/
def spD (R : List PyData → PyData → Prop) : Sp := fun vs A Q _ => ∃ V ds d, Same V A ∧ IsL V vs ds ∧ R ds d ∧ ∀ v V' A', Fr none V A V' A' → Is V' v d → Q v A'
theorem ed_call {R : List PyData → PyData → Prop} {ρ : List Sl} {t : TA} {E : XK} {ds : List PyData} {d : PyData} (ha : EvA t ρ ds) (h : R ds d) : EvD (tCall (spD R) [] E t) ρ d := fun u σ V A e s Q q =>
  ha u σ V A e s _ fun vs V1 A1 f1 i1 => ⟨V1, ds, d, f1.sub, by rw [List.append_nil]; exact i1, h, fun v V' A' f i => q v V' A' (f1.trans f) i⟩

/-! ### targets -/
def Tg (g : TG) (js : List Nat) (ρ : List Sl) (d : PyData) (ρ' : List Sl) : Prop := ∀ u σ V A v, Slo u V σ ρ → Same V A → Is V v d → ∀ Q : L2.St → Hp → Prop,
  (∀ σ', Slo u V σ' ρ' → σ'.length = σ.length → (∀ i : Nat, i ∉ js → σ'[i]? = σ[i]?) → Q σ' A) → g v σ A Q
def TgL (g : TGs) (js : List Nat) (ρ : List Sl) (ds : List PyData) (ρ' : List Sl) : Prop := ∀ u σ V A vs, Slo u V σ ρ → Same V A → IsL V vs ds → ∀ Q : L2.St → Hp → Prop,
  (∀ σ', Slo u V σ' ρ' → σ'.length = σ.length → (∀ i : Nat, i ∉ js → σ'[i]? = σ[i]?) → Q σ' A) → g vs σ A Q
theorem tg_name {j : Nat} {ρ : List Sl} {d : PyData} : Tg (gName j) [j] ρ d (ρ.set j (.d d)) := fun u σ V A v e s h Q q =>
  q _ (e.set h) (by rw [List.length_set]) fun i hi => List.getElem?_set_ne (fun z => hi (by simp [z]))
theorem tgl_nil {ρ : List Sl} : TgL gNil [] ρ [] ρ := fun u σ V A vs e s h Q q => by
  cases h
  exact ⟨rfl, q σ e rfl fun _ _ => rfl⟩
theorem tgl_cons {g : TG} {gs : TGs} {j1 j2 : List Nat} {ρ ρ1 ρ2 : List Sl} {d : PyData} {ds : List PyData} (h1 : Tg g j1 ρ d ρ1) (h2 : TgL gs j2 ρ1 ds ρ2) : TgL (gCons g gs) (j1 ++ j2) ρ (d :: ds) ρ2 := fun u σ V A vs e s h Q q => by
  cases h with
  | cons k1 k2 =>
    refine ⟨_, _, rfl, h1 u σ V A _ e s k1 _ fun σ1 e1 l1 n1 => h2 u σ1 V A _ e1 s k2 _ fun σ2 e2 l2 n2 => q σ2 e2 (l2.trans l1) fun i hi => ?_⟩
    rw [List.mem_append] at hi
    rw [n2 i (fun z => hi (.inr z)), n1 i (fun z => hi (.inl z))]
theorem tg_tup {K : PySem.W.Frag} {n : Nat} {gs : TGs} {js : List Nat} {ρ ρ' : List Sl} {ds : List PyData} (h : TgL gs js ρ ds ρ') (hn : ds.length = n := by rfl) : Tg (gTup K n gs) js ρ (.tuple ds) ρ' := fun u σ V A v e s i Q q => by
  cases i with
  | tup k1 k2 => exact ⟨_, _, rfl, SqT.of (s _ _ k1), by rw [k2.length]; exact hn, h u σ V A _ e s k2 Q q⟩

/-! ### what is walked -/
def Wk (J : It) (ds : List PyData) (P : Hp) : Prop := Walk J ds.length (fun A => Same P A) (fun i A x A' => ∀ W, Same P W → Same W A → ∃ W' d, ds[i]? = some d ∧ Fr none W A W' A' ∧ Is W' x d)
def ItD (wi : TI) (ρ : List Sl) (ds : List PyData) : Prop := ∀ u σ V A, Slo u V σ ρ → Same V A → ∀ R : It → Hp → Prop, (∀ J V' A', Fr none V A V' A' → Wk J ds V' → R J A') → wi σ A R
section
variable {K : PySem.W.Frag} {ρ : List Sl} {tl : TE} {ta : TA} {ds : List PyData}
theorem it_list (h : EvD tl ρ (.list ds)) : ItD (iList K tl) ρ ds := fun u σ V A e s R r =>
  h u σ V A e s _ fun v V1 A1 f1 i1 => by
    cases i1 with
    | @lst a xs _ k1 k2 =>
      refine ⟨a, rfl, ⟨xs, SqL.of (f1.sub _ _ k1)⟩, r _ V1 A1 f1 ?_⟩
      unfold Wk
      rw [← k2.length]
      refine (walk_list (K := K) (a := a) (xs := xs)).mono (fun A' hs => SqL.of (hs _ _ k1)) fun i A' x A'' hi hs y W w1 w2 => ?_
      obtain ⟨rfl, hx⟩ := y
      obtain ⟨d, h1, h2⟩ := k2.geti hx
      exact ⟨W, d, h1, Fr.refl w2, h2.mono w1⟩
theorem it_tup (h : EvD tl ρ (.tuple ds)) : ItD (iTup K tl) ρ ds := fun u σ V A e s R r =>
  h u σ V A e s _ fun v V1 A1 f1 i1 => by
    cases i1 with
    | @tup a xs _ k1 k2 =>
      refine ⟨a, rfl, ⟨xs, SqT.of (f1.sub _ _ k1)⟩, r _ V1 A1 f1 ?_⟩
      unfold Wk
      rw [← k2.length]
      refine (walk_tup (K := K) (a := a) (xs := xs)).mono (fun A' hs => SqT.of (hs _ _ k1)) fun i A' x A'' hi hs y W w1 w2 => ?_
      obtain ⟨rfl, hx⟩ := y
      obtain ⟨d, h1, h2⟩ := k2.geti hx
      exact ⟨W, d, h1, Fr.refl w2, h2.mono w1⟩
theorem it_rng {n : Nat} (h : EvA ta ρ [.int (n : Int)]) (hn : n ≤ 100000000) : ItD (iRng1 ta) ρ ((List.range n).map fun i : Nat => PyData.int (i : Int)) := fun u σ V A e s R r =>
  h u σ V A e s _ fun vs V1 A1 f1 i1 => by
    have e1 := IsL.ints (ns := [(n : Int)]) i1
    refine ⟨n, e1, by omega, by omega, r _ V1 A1 f1 ?_⟩
    unfold Wk
    rw [List.length_map, List.length_range, show ((n : Int)).toNat = n from by omega]
    refine (walk_range (lo := 0) (n := n)).mono (fun _ _ => trivial) fun i A' x A'' hi hs y W w1 w2 => ?_
    obtain ⟨rfl, rfl⟩ := y
    refine ⟨W, .int (i : Int), ?_, Fr.refl w2, ?_⟩
    · rw [List.getElem?_map, List.getElem?_range hi]; rfl
    · show Is W (L2.V.int (0 + (i : Int))) _
      rw [Int.zero_add]; exact .int _
/-- a new pair each turn -/
theorem wk_pair {J : It} {n : Nat} {xs ys : Nat → Option V} {G : Hp → Prop} {P : Hp} {d1 d2 : Nat → PyData} (w : Walk J n G (YPair xs ys)) (hG : ∀ A, Same P A → G A) (hx : ∀ i v, i < n → xs i = some v → Is P v (d1 i)) (hy : ∀ i v, i < n → ys i = some v → Is P v (d2 i))
    (hl : ds.length = n) (hd : ∀ i, i < n → ds[i]? = some (.tuple [d1 i, d2 i])) : Wk J ds P := by
  unfold Wk
  rw [hl]
  refine w.mono hG fun i A x A' hi hs y W w1 w2 => ?_
  obtain ⟨T, v1, v2, rfl, hT, rfl, e1, e2⟩ := y
  have hW : W T = none := none_of w2 hT
  refine ⟨upd W T (.tup [v1, v2]), _, hd i hi, Fr.alloc w2 hT, .tup upd_same (.cons ?_ (.cons ?_ .nil))⟩
  · exact (hx i v1 hi e1).mono (w1.trans (same_new hW))
  · exact (hy i v2 hi e2).mono (w1.trans (same_new hW))
def enumD (ds : List PyData) : List PyData := ds.zipIdx.map fun p => .tuple [.int (p.2 : Int), p.1]
theorem enumD_get {ds : List PyData} {i : Nat} {d : PyData} (h : ds[i]? = some d) : (enumD ds)[i]? = some (.tuple [.int (i : Int), d]) := by
  unfold enumD
  rw [List.getElem?_map, List.getElem?_zipIdx, h]
  simp
theorem it_enum (h : EvA ta ρ [.list ds]) : ItD (iEnum K ta) ρ (enumD ds) := fun u σ V A e s R r =>
  h u σ V A e s _ fun vs V1 A1 f1 i1 => by
    cases i1 with
    | cons j1 j2 =>
      cases j2
      cases j1 with
      | @lst a xs _ k1 k2 =>
        refine ⟨a, xs, rfl, SqL.of (f1.sub _ _ k1), r _ V1 A1 f1 ?_⟩
        have hl := k2.length
        have gt : ∀ i, i < xs.length → ∃ d, ds[i]? = some d := fun i hi => ⟨ds[i]'(by omega), List.getElem?_eq_getElem _⟩
        refine wk_pair (d1 := fun i => .int (i : Int)) (d2 := fun i => (ds[i]?).getD .none) (walk_enum (K := K) (a := a) (xs := xs)) (fun A' hs => SqL.of (hs _ _ k1)) (fun i v hi e => ?_) (fun i v hi e => ?_) (by unfold enumD; rw [List.length_map, List.length_zipIdx, hl]) fun i hi => ?_
        · cases e
          exact .int _
        · obtain ⟨d, h1, h2⟩ := k2.geti e
          rw [h1]; exact h2
        · obtain ⟨d, hd⟩ := gt i hi
          rw [enumD_get hd, hd]; rfl
def zipD : List PyData → List PyData → List PyData
  | x :: xs, y :: ys => .tuple [x, y] :: zipD xs ys
  | _, _ => []
theorem zipD_len : ∀ {xs ys : List PyData}, (zipD xs ys).length = min xs.length ys.length
  | [], _ => by simp [zipD]
  | _ :: _, [] => by simp [zipD]
  | _ :: xs, _ :: ys => by
    simp only [zipD, List.length_cons, zipD_len (xs := xs) (ys := ys)]; omega
theorem zipD_get : ∀ {xs ys : List PyData} {i : Nat} {x y : PyData}, xs[i]? = some x → ys[i]? = some y → (zipD xs ys)[i]? = some (.tuple [x, y])
  | [], _, _, _, _, h, _ => by simp at h
  | _ :: _, [], _, _, _, _, h => by simp at h
  | _ :: xs, _ :: ys, 0, _, _, h, k => by
    simp at h k; subst h; subst k; rfl
  | _ :: xs, _ :: ys, i + 1, _, _, h, k => by
    have q := zipD_get (xs := xs) (ys := ys) (i := i) (by simpa using h) (by simpa using k)
    simpa [zipD] using q
theorem it_zipL {es : List PyData} (h : EvA ta ρ [.list ds, .list es]) : ItD (RZ.iZipA K ta) ρ (zipD ds es) := fun u σ V A e s R r =>
  h u σ V A e s _ fun vs V1 A1 f1 i1 => by
    cases i1 with
    | cons j1 j2 =>
      cases j2 with
      | cons j2 j3 =>
        cases j3
        cases j1 with
        | @lst a xs _ k1 k2 =>
          cases j2 with
          | @lst b ys _ m1 m2 =>
            refine ⟨a, b, xs, ys, rfl, .inl ⟨SqL.of (f1.sub _ _ k1), SqL.of (f1.sub _ _ m1), r _ V1 A1 f1 ?_⟩⟩
            have hl := k2.length
            have hl2 := m2.length
            refine wk_pair (d1 := fun i => (ds[i]?).getD .none) (d2 := fun i => (es[i]?).getD .none) (walk_zip (K := K) (a := a) (b := b) (xs := xs) (ys := ys) rfl) (fun A' hs => ⟨SqL.of (hs _ _ k1), SqL.of (hs _ _ m1)⟩) (fun i v hi e => ?_) (fun i v hi e => ?_) (by rw [zipD_len, hl, hl2]) fun i hi => ?_
            · obtain ⟨d, h1, h2⟩ := k2.geti e
              rw [h1]; exact h2
            · obtain ⟨d, h1, h2⟩ := m2.geti e
              rw [h1]; exact h2
            · have e1 : ds[i]? = some (ds[i]'(by omega)) := List.getElem?_eq_getElem _
              have e2 : es[i]? = some (es[i]'(by omega)) := List.getElem?_eq_getElem _
              rw [zipD_get e1 e2, e1, e2]; rfl
theorem walk_zipT {a b : Addr} {xs ys : List V} {n : Nat} (hn : n = min xs.length ys.length) : Walk (RZ.ItzT K a b) n (fun H => SqT K H a xs ∧ SqT K H b ys) (YPair (fun i => xs[i]?) (fun i => ys[i]?)) := by
  subst hn
  refine ⟨fun i A hi q => ?_, fun _ q => ⟨xs, ys, q.1, q.2, by omega⟩, fun i A v A' _ q y => ?_⟩
  · have h1 : i < xs.length := by omega
    have h2 : i < ys.length := by omega
    exact ⟨xs, ys, xs[i], ys[i], q.1, q.2, by simp [h1], by simp [h2]⟩
  · obtain ⟨T, x, z, h1, h2, h3, h4, h5⟩ := y
    exact ⟨T, x, z, h1, h2, h3, h4 xs q.1, h5 ys q.2⟩
theorem it_zipT {es : List PyData} (h : EvA ta ρ [.tuple ds, .tuple es]) : ItD (RZ.iZipA K ta) ρ (zipD ds es) := fun u σ V A e s R r =>
  h u σ V A e s _ fun vs V1 A1 f1 i1 => by
    cases i1 with
    | cons j1 j2 =>
      cases j2 with
      | cons j2 j3 =>
        cases j3
        cases j1 with
        | @tup a xs _ k1 k2 =>
          cases j2 with
          | @tup b ys _ m1 m2 =>
            refine ⟨a, b, xs, ys, rfl, .inr ⟨SqT.of (f1.sub _ _ k1), SqT.of (f1.sub _ _ m1), r _ V1 A1 f1 ?_⟩⟩
            have hl := k2.length
            have hl2 := m2.length
            refine wk_pair (d1 := fun i => (ds[i]?).getD .none) (d2 := fun i => (es[i]?).getD .none) (walk_zipT (K := K) (a := a) (b := b) (xs := xs) (ys := ys) rfl) (fun A' hs => ⟨SqT.of (hs _ _ k1), SqT.of (hs _ _ m1)⟩) (fun i v hi e => ?_) (fun i v hi e => ?_) (by rw [zipD_len, hl, hl2]) fun i hi => ?_
            · obtain ⟨d, h1, h2⟩ := k2.geti e
              rw [h1]; exact h2
            · obtain ⟨d, h1, h2⟩ := m2.geti e
              rw [h1]; exact h2
            · have e1 : ds[i]? = some (ds[i]'(by omega)) := List.getElem?_eq_getElem _
              have e2 : es[i]? = some (es[i]'(by omega)) := List.getElem?_eq_getElem _
              rw [zipD_get e1 e2, e1, e2]; rfl
theorem it_is {wi : TI} {ds' : List PyData} (h : ItD wi ρ ds) (e : ds = ds') : ItD wi ρ ds' := by rw [← e]; exact h
end

/-! ### comprehensions -/
theorem wipe_eq {σ σ' : L2.St} (hl : σ'.length = σ.length) : ∀ {vs : List Nat}, (∀ i : Nat, i ∉ vs → σ'[i]? = σ[i]?) → wipe σ' vs = wipe σ vs := by
  intro vs h
  refine List.ext_getElem? fun i => ?_
  have len1 : (wipe σ' vs).length = σ'.length := wipe_length σ' vs
  have len2 : (wipe σ vs).length = σ.length := wipe_length σ vs
  by_cases hi : i ∈ vs
  · have hit : ∀ (τ : L2.St) (ws : List Nat), i ∈ ws → i < τ.length → (wipe τ ws)[i]? = some none := by
      intro τ ws
      induction ws with
      | nil => intro h; cases h
      | cons w ws ih =>
        intro hm hlt
        show ((wipe τ ws).set w none)[i]? = some none
        rw [List.getElem?_set]
        by_cases e : w = i
        · subst e
          rw [if_pos rfl, if_pos (by rw [wipe_length]; exact hlt)]
        · rw [if_neg e]
          exact ih ((List.mem_cons.mp hm).resolve_left fun z => e z.symm) hlt
    by_cases hlt : i < σ.length
    · rw [hit σ vs hi hlt, hit σ' vs hi (by omega)]
    · rw [List.getElem?_eq_none (by rw [len1]; omega), List.getElem?_eq_none (by rw [len2]; omega)]
  · rw [wipe_out hi, wipe_out hi]
    exact h i hi
theorem filter_map_snoc {α : Type} (xs : List α) (p : α → Bool) (f : α → PyData) {i : Nat} {x : α} (h : xs[i]? = some x) :
    ((xs.take (i + 1)).filter p).map f = ((xs.take i).filter p).map f ++ (if p x = true then [f x] else []) := by
  rw [List.take_add_one, h, List.filter_append, List.map_append]
  congr 1
  by_cases hp : p x = true
  · simp [hp]
  · simp [hp]
theorem ed_lc {α : Type} {wi : TI} {g : TG} {tt : TT} {te : TE} {vs js : List Nat} {ρ : List Sl} {enc : α → PyData} {xs : List α} {ρ' : α → List Sl} {p : α → Bool} {f : α → PyData} (hit : ItD wi ρ (xs.map enc))
    (hg : ∀ x ∈ xs, Tg g js (wipeS ρ vs) (enc x) (ρ' x)) (ht : ∀ x ∈ xs, EvB tt (ρ' x) (p x)) (he : ∀ x ∈ xs, p x = true → EvD te (ρ' x) (f x)) (hz : xs.length ≤ 100000) (hjs : ∀ j ∈ js, j ∈ vs := by decide) :
    EvD (tLc wi g tt te vs) ρ (.list ((xs.filter p).map f)) := fun u σ V A e s Q q =>
  hit u σ V A e s _ fun J P A1 f1 wk D hD => by
    have hPD : P D = none := none_of f1.sub hD
    refine lc_it (n := (xs.map enc).length) wk (fun i B => ∃ W acc, Same P W ∧ Same W B ∧ W D = none ∧ B D = some (.lst acc) ∧ IsL W acc (((xs.take i).filter p).map f) ∧ (∀ a o, a ≠ D → A1 a = some o → B a = some o) ∧ (∀ a, P a = none → A1 a ≠ none → W a = none)) ?_ ?_ ?_ ?_
    · exact ⟨P, [], Same.refl P, f1.sub.trans (same_new hD), hPD, upd_same, by simp; exact .nil, fun a o n h => by rw [upd_ne n]; exact h, fun a h _ => h⟩
    · rintro i B - ⟨W, acc, h1, h2, -⟩
      exact h1.trans h2
    · rintro i v B B' hi ⟨W, acc, h1, h2, h3, h4, h5, h6, h7⟩ y
      obtain ⟨W1, d, hd, fr, iv⟩ := y W h1 h2
      rw [List.getElem?_map] at hd
      obtain ⟨x, hx, rfl⟩ := Option.map_eq_some_iff.mp hd
      have hm : x ∈ xs := List.mem_of_getElem? hx
      have env1 : Slo u W1 (wipe σ vs) (wipeS ρ vs) := (e.mono (f1.vw.trans (h1.trans fr.vw))).wipe vs
      have n1 : W1 D = none := fr.new D h3 (by rw [h4]; simp)
      refine hg x hm u _ W1 B' v env1 fr.sub iv _ fun σ2 env2 l2 k2 => ?_
      refine ⟨?_, ?_⟩
      · have hw := wipe_eq (σ := wipe σ vs) (σ' := σ2) l2 (vs := vs) fun i hi => k2 i fun z => hi (hjs i z)
        rw [hw]
        refine List.ext_getElem? fun i => ?_
        by_cases hi : i ∈ vs
        · have hit : ∀ (τ : L2.St) (ws : List Nat), i ∈ ws → (wipe τ ws)[i]? = if i < τ.length then some none else none := by
            intro τ ws
            induction ws with
            | nil => intro h; cases h
            | cons w ws ih =>
              intro hm
              show ((wipe τ ws).set w none)[i]? = _
              rw [List.getElem?_set]
              by_cases e : w = i
              · subst e
                rw [if_pos rfl, wipe_length]
              · rw [if_neg e]
                exact ih ((List.mem_cons.mp hm).resolve_left fun z => e z.symm)
          rw [hit _ _ hi, hit _ _ hi, wipe_length]
        · rw [wipe_out hi]
      · refine ht x hm u σ2 W1 B' env2 fr.sub _ fun W2 B2 fr2 => ?_
        have n2 : W2 D = none := fr2.new D n1 (fr.pr D (by rw [h4]; simp))
        have keep : ∀ {B3 : Hp}, Same B B3 → (∀ a o, a ≠ D → A1 a = some o → B3 a = some o) := fun k a o n h => k a o (h6 a o n h)
        cases hp : p x with
        | true =>
          refine iteT ?_
          refine he x hm hp u σ2 W2 B2 (env2.mono fr2.vw) fr2.sub _ fun y2 W3 B3 fr3 iy => ?_
          have kB : Same B B3 := (fr.same.trans fr2.same).trans fr3.same
          have n3 : W3 D = none := fr3.new D n2 (fr2.pr D (fr.pr D (by rw [h4]; simp)))
          have hacc : acc.length ≤ i := by
            rw [h5.length, List.length_map]
            exact Nat.le_trans (List.length_filter_le _ _) (by rw [List.length_take]; exact Nat.min_le_left _ _)
          rw [List.length_map] at hi
          refine ⟨acc, kB D _ h4, Nat.lt_of_le_of_lt (Nat.le_trans hacc (by omega : i ≤ 100000)) (by decide), W3, acc ++ [y2], ?_, ?_, n3, upd_same, ?_, ?_, ?_⟩
          · exact h1.trans ((fr.vw.trans fr2.vw).trans fr3.vw)
          · exact fun a o ha => by rw [upd_ne (ne_of_none ha n3)]; exact fr3.sub a o ha
          · rw [filter_map_snoc xs p f hx, if_pos hp]
            exact (h5.mono ((fr.vw.trans fr2.vw).trans fr3.vw)).app (.cons iy .nil)
          · exact fun a o n h => by rw [upd_ne n]; exact keep kB a o n h
          · exact fun a ha hb => by
              by_cases eD : a = D
              · rw [eD]; exact n3
              · have hB : B a ≠ none := by
                  cases ho : A1 a with
                  | none => exact absurd ho hb
                  | some o => rw [h6 a o eD ho]; simp
                exact fr3.new a (fr2.new a (fr.new a (h7 a ha hb) hB) (fr.pr a hB)) (fr2.pr a (fr.pr a hB))
        | false =>
          refine iteF ?_
          have kB : Same B B2 := fr.same.trans fr2.same
          refine ⟨W2, acc, h1.trans (fr.vw.trans fr2.vw), fr2.sub, n2, kB D _ h4, ?_, keep kB, ?_⟩
          · rw [filter_map_snoc xs p f hx, if_neg (by rw [hp]; simp), List.append_nil]
            exact h5.mono (fr.vw.trans fr2.vw)
          · exact fun a ha hb => by
              by_cases eD : a = D
              · rw [eD]; exact n2
              · have hB : B a ≠ none := by
                  cases ho : A1 a with
                  | none => exact absurd ho hb
                  | some o => rw [h6 a o eD ho]; simp
                exact fr2.new a (fr.new a (h7 a ha hb) hB) (fr.pr a hB)
    · rintro B ⟨W, acc, h1, h2, h3, h4, h5, h6, h7⟩
      rw [List.length_map, List.take_length] at h5
      refine q (.ref D) (upd W D (.lst acc)) B ?_ (.lst upd_same (h5.mono (same_new h3)))
      refine f1.trans ⟨fun a o _ h => h6 a o (fun z => by rw [z, hD] at h; cases h) h, fun a h => ?_, h1.trans (same_new h3), fun a o h => ?_, fun a ha hb => ?_⟩
      · cases ho : A1 a with
        | none => exact absurd ho h
        | some o => rw [h6 a o (fun z => by rw [z, hD] at ho; cases ho) ho]; simp
      · by_cases eD : a = D
        · subst eD; rw [upd_same] at h; rw [h4]; exact h
        · rw [upd_ne eD] at h; exact h2 a o h
      · rw [upd_ne (fun z => hb (by rw [z]; exact hD))]
        exact h7 a ha hb
/-- without tests -/
theorem ed_lc1 {α : Type} {wi : TI} {g : TG} {te : TE} {vs js : List Nat} {ρ : List Sl} {enc : α → PyData} {xs : List α} {ρ' : α → List Sl} {f : α → PyData} (hit : ItD wi ρ (xs.map enc))
    (hg : ∀ x ∈ xs, Tg g js (wipeS ρ vs) (enc x) (ρ' x)) (he : ∀ x ∈ xs, EvD te (ρ' x) (f x)) (hz : xs.length ≤ 100000) (hjs : ∀ j ∈ js, j ∈ vs := by decide) :
    EvD (tLc wi g tYes te vs) ρ (.list (xs.map f)) := by
  have h := ed_lc (p := fun _ => true) (f := f) hit hg (fun _ _ => eb_yes) (fun x hx _ => he x hx) hz hjs
  rw [List.filter_eq_self.mpr fun _ _ => rfl] at h
  exact h
end K4

/-! ## Ed2 -/
/-! operations, built-ins -/
namespace K4
open PySem PySem.Spec PyProof.Rows L2

/-! ### operators -/
def rAddA (K : PySem.W.Frag) : R2 := fun x y H Q => rI0 (fun i j => .int (i + j)) x y H Q ∨ (rCat x y H Q ∨ rCatA K x y H Q)
theorem op_addA {X : Cx} : OpR X (binaryOp .Add) (rAddA X.K) := op_add.or (op_cat.or op_catA)
def rMulA : R2 := fun x y H Q => rI CMul (fun i j => .int (i * j)) x y H Q ∨ rRep x y H Q
theorem op_mulA {X : Cx} : OpR X (binaryOp .Mult) rMulA := op_mul.or op_rep
def rIxA (K : PySem.W.Frag) : R2 := fun x y H Q => rIxL K x y H Q ∨ rIxT K x y H Q
theorem ix_A {X : Cx} : IxR X (rIxA X.K) := ix_list.or ix_tup
def rSlX (K : PySem.W.Frag) : V → Option Int → Option Int → Hp → VK → Prop := fun x lo hi H Q => rSlL K x lo hi H Q ∨ rSlA K x lo hi H Q
theorem sl_X {X : Cx} : SlR X (rSlX X.K) := sl_list.or sl_tupA
def rIsNon : R2 := fun x y H Q => y = .non ∧ Q (.bl (decide (x = .non))) H
def rNotNon : R2 := fun x y H Q => y = .non ∧ Q (.bl (!decide (x = .non))) H
theorem op_isNon {X : Cx} : OpR X (compareOp .Is) rIsNon := op_isN
theorem op_notNon {X : Cx} : OpR X (compareOp .IsNot) rNotNon := op_notN
abbrev rSubI : R2 := rI0 fun i j => .int (i - j)
abbrev rDivI : R2 := rI CDiv fun i j => .int (i / j)
abbrev rModI : R2 := rI (fun _ j => 0 < j) fun i j => .int (i % j)
abbrev rPowI : R2 := rI CPow fun i j => .int (i ^ j.toNat)
abbrev rLtI : R2 := rI0 fun i j => .bl (decide (i < j))
abbrev rLeI : R2 := rI0 fun i j => .bl (decide (i ≤ j))
abbrev rGtI : R2 := rI0 fun i j => .bl (decide (j < i))
abbrev rGeI : R2 := rI0 fun i j => .bl (decide (j ≤ i))
abbrev rNegI : V → Hp → VK → Prop := rU fun i => .int (-i)
def isNone : PyData → Bool
  | .none => true
  | _ => false
def cutD (xs : List PyData) (lo hi : Option Int) : List PyData := (xs.drop (HT.sIx xs.length 0 lo)).take (HT.sIx xs.length xs.length hi - HT.sIx xs.length 0 lo)
section
variable {K : PySem.W.Frag}
theorem opd_add {i j : Int} : OpD (rAddA K) (.int i) (.int j) (.int (i + j)) := fun V A v w s hv hw Q q => by
  cases hv; cases hw
  exact .inl ⟨i, j, rfl, rfl, q _ V A (Fr.refl s) (.int _)⟩
theorem opd_cat {ds es : List PyData} (hz : ds.length + es.length ≤ 100000) : OpD (rAddA K) (.list ds) (.list es) (.list (ds ++ es)) := fun V A v w s hv hw Q q => by
  cases hv with
  | lst h1 h2 =>
    cases hw with
    | lst k1 k2 =>
      refine .inr (.inl ⟨_, _, _, _, rfl, rfl, s _ _ h1, s _ _ k1, ?_, fun p hp => q _ _ _ (Fr.alloc s hp) (.lst upd_same ((h2.app k2).mono (same_new (none_of s hp))))⟩)
      rw [h2.length, k2.length]
      exact Nat.le_trans hz (by decide)
theorem opd_catT {ds es : List PyData} (hz : ds.length + es.length ≤ 100000) : OpD (rAddA K) (.tuple ds) (.tuple es) (.tuple (ds ++ es)) := fun V A v w s hv hw Q q => by
  cases hv with
  | @tup a xs _ h1 h2 =>
    cases hw with
    | @tup b ys _ k1 k2 =>
      refine .inr (.inr ⟨_, _, _, _, rfl, rfl, SqT.of (s _ _ h1), SqT.of (s _ _ k1), ?_, fun e => ?_, fun e1 e2 => ?_, fun e1 e2 p hp => ?_⟩)
      · rw [h2.length, k2.length]
        exact Nat.le_trans hz (by decide)
      · subst e
        have e3 : ds = [] := by cases ds with
          | nil => rfl
          | cons _ _ => cases h2
        subst e3
        exact q _ V A (Fr.refl s) (.tup k1 k2)
      · subst e2
        have e3 : es = [] := by cases es with
          | nil => rfl
          | cons _ _ => cases k2
        subst e3
        rw [List.append_nil] at q
        exact q _ V A (Fr.refl s) (.tup h1 h2)
      · exact q _ _ _ (Fr.alloc s hp) (.tup upd_same ((h2.app k2).mono (same_new (none_of s hp))))
theorem opd_mul {i j : Int} (hc : CMul i j) : OpD rMulA (.int i) (.int j) (.int (i * j)) := fun V A v w s hv hw Q q => by
  cases hv; cases hw
  exact .inl ⟨i, j, rfl, rfl, hc, q _ V A (Fr.refl s) (.int _)⟩
theorem opd_rep {ds : List PyData} {k : Int} (h0 : 0 ≤ k) (h1 : k ≤ 1000) (hz : ds.length ≤ 1000) : OpD rMulA (.list ds) (.int k) (.list (List.replicate k.toNat ds).flatten) := fun V A v w s hv hw Q q => by
  cases hw
  cases hv with
  | lst k1 k2 =>
    refine .inr ⟨_, k, _, rfl, rfl, s _ _ k1, by omega, by omega, ?_, fun p hp => q _ _ _ (Fr.alloc s hp) (.lst upd_same ((k2.rep _).mono (same_new (none_of s hp))))⟩
    rw [k2.length]
    exact Nat.le_trans (Nat.mul_le_mul hz (show k.toNat ≤ 1000 by omega)) (by decide)
theorem opd_sub {i j : Int} : OpD rSubI (.int i) (.int j) (.int (i - j)) := fun V A v w s hv hw Q q => by
  cases hv; cases hw
  exact ⟨i, j, rfl, rfl, q _ V A (Fr.refl s) (.int _)⟩
theorem opd_div {i j : Int} (h1 : 0 < j) (h2 : j < 1073741824) : OpD rDivI (.int i) (.int j) (.int (i / j)) := fun V A v w s hv hw Q q => by
  cases hv; cases hw
  exact ⟨i, j, rfl, rfl, ⟨h1, h2⟩, q _ V A (Fr.refl s) (.int _)⟩
theorem opd_mod {i j : Int} (h1 : 0 < j) : OpD rModI (.int i) (.int j) (.int (i % j)) := fun V A v w s hv hw Q q => by
  cases hv; cases hw
  exact ⟨i, j, rfl, rfl, h1, q _ V A (Fr.refl s) (.int _)⟩
theorem opd_pow {i j : Int} (h1 : CPow i j) : OpD rPowI (.int i) (.int j) (.int (i ^ j.toNat)) := fun V A v w s hv hw Q q => by
  cases hv; cases hw
  exact ⟨i, j, rfl, rfl, h1, q _ V A (Fr.refl s) (.int _)⟩
theorem opd_lt {i j : Int} : OpD rLtI (.int i) (.int j) (.bool (decide (i < j))) := fun V A v w s hv hw Q q => by
  cases hv; cases hw
  exact ⟨i, j, rfl, rfl, q _ V A (Fr.refl s) (.bl _)⟩
theorem opd_le {i j : Int} : OpD rLeI (.int i) (.int j) (.bool (decide (i ≤ j))) := fun V A v w s hv hw Q q => by
  cases hv; cases hw
  exact ⟨i, j, rfl, rfl, q _ V A (Fr.refl s) (.bl _)⟩
theorem opd_gt {i j : Int} : OpD rGtI (.int i) (.int j) (.bool (decide (j < i))) := fun V A v w s hv hw Q q => by
  cases hv; cases hw
  exact ⟨i, j, rfl, rfl, q _ V A (Fr.refl s) (.bl _)⟩
theorem opd_ge {i j : Int} : OpD rGeI (.int i) (.int j) (.bool (decide (j ≤ i))) := fun V A v w s hv hw Q q => by
  cases hv; cases hw
  exact ⟨i, j, rfl, rfl, q _ V A (Fr.refl s) (.bl _)⟩
theorem und_neg {i : Int} : UnD rNegI (.int i) (.int (-i)) := fun V A v s hv Q q => by
  cases hv
  exact ⟨i, rfl, q _ V A (Fr.refl s) (.int _)⟩
theorem opd_eq {x y : PyData} (hx : SeqAt.shaped x = true) (hy : SeqAt.shaped y = true) : OpD (rEqD K) x y (.bool (PyData.eqv x y)) := fun V A v w s hv hw Q q =>
  ⟨x, y, (hv.mono s).dp, (hw.mono s).dp, hx, hy, q _ V A (Fr.refl s) (.bl _)⟩
theorem opd_ne {x y : PyData} (hx : SeqAt.shaped x = true) (hy : SeqAt.shaped y = true) : OpD (rNeD K) x y (.bool (!PyData.eqv x y)) := fun V A v w s hv hw Q q =>
  ⟨x, y, (hv.mono s).dp, (hw.mono s).dp, hx, hy, q _ V A (Fr.refl s) (.bl _)⟩
theorem is_non {H : Hp} {v : V} {d : PyData} (h : Is H v d) : decide (v = .non) = isNone d := by
  cases h <;> first | rfl | exact decide_eq_false (fun z => by cases z)
theorem opd_isN {d : PyData} : OpD rIsNon d .none (.bool (isNone d)) := fun V A v w s hv hw Q q => by
  cases hw
  refine ⟨rfl, ?_⟩
  rw [is_non hv]
  exact q _ V A (Fr.refl s) (.bl _)
theorem opd_notN {d : PyData} : OpD rNotNon d .none (.bool (!isNone d)) := fun V A v w s hv hw Q q => by
  cases hw
  refine ⟨rfl, ?_⟩
  rw [is_non hv]
  exact q _ V A (Fr.refl s) (.bl _)
theorem inV_ints (i : Int) : ∀ ns : List Int, inV (.int i) (ns.map V.int) = ns.contains i
  | [] => rfl
  | n :: ns => by
    have ih := inV_ints i ns
    unfold inV at ih ⊢
    rw [List.map_cons, List.any_cons, ih, List.contains_cons]
    congr 1
    show (n == i) = (i == n)
    exact Bool.eq_iff_iff.mpr ⟨fun h => by rw [beq_iff_eq] at h ⊢; exact h.symm, fun h => by rw [beq_iff_eq] at h ⊢; exact h.symm⟩
theorem flat_ints : ∀ ns : List Int, (ns.map V.int).all flatV = true
  | [] => rfl
  | n :: ns => by rw [List.map_cons, List.all_cons, flat_ints ns]; rfl
theorem opd_in {i : Int} {ns : List Int} : OpD (rIn K false) (.int i) (.tuple (ns.map PyData.int)) (.bool (ns.contains i)) := fun V A v w s hv hw Q q => by
  cases hv
  cases hw with
  | tup h1 h2 =>
    have e := h2.ints
    subst e
    refine ⟨_, _, rfl, .inr (SqT.of (s _ _ h1)), rfl, flat_ints ns, ?_⟩
    rw [if_neg (by decide), inV_ints]
    exact q _ V A (Fr.refl s) (.bl _)
theorem opd_ixL {ds : List PyData} {d : PyData} {j : Nat} {i : Int} (h : ds[j]? = some d) (e : i = (j : Int)) : OpD (rIxA K) (.list ds) (.int i) d := fun V A v w s hv hw Q q => by
  subst e
  cases hw
  cases hv with
  | lst h1 h2 =>
    obtain ⟨x, hx, ix⟩ := h2.get h
    exact .inl ⟨_, _, _, x, rfl, rfl, SqL.of (s _ _ h1), atI_nat hx, q _ V A (Fr.refl s) ix⟩
theorem opd_ixT {ds : List PyData} {d : PyData} {j : Nat} {i : Int} (h : ds[j]? = some d) (e : i = (j : Int)) : OpD (rIxA K) (.tuple ds) (.int i) d := fun V A v w s hv hw Q q => by
  subst e
  cases hw
  cases hv with
  | tup h1 h2 =>
    obtain ⟨x, hx, ix⟩ := h2.get h
    exact .inr ⟨_, _, _, x, rfl, rfl, SqT.of (s _ _ h1), atI_nat hx, q _ V A (Fr.refl s) ix⟩
theorem opd_lastL {ds : List PyData} {d : PyData} (h : ds.getLast? = some d) : OpD (rIxA K) (.list ds) (.int (-1)) d := fun V A v w s hv hw Q q => by
  cases hw
  cases hv with
  | @lst a xs _ h1 h2 =>
    rw [List.getLast?_eq_getElem?] at h
    obtain ⟨x, hx, ix⟩ := h2.get h
    rw [← h2.length, ← List.getLast?_eq_getElem?] at hx
    obtain ⟨ys, rfl⟩ := List.getLast?_eq_some_iff.mp hx
    exact .inl ⟨_, _, _, x, rfl, rfl, SqL.of (s _ _ h1), atI_last ys x, q _ V A (Fr.refl s) ix⟩
theorem cut_is {H : Hp} {xs : List V} {ds : List PyData} (h : IsL H xs ds) (lo hi : Option Int) : IsL H (cutV xs lo hi) (cutD ds lo hi) := by
  unfold cutV cutD
  rw [h.length]
  exact (h.drop _).take _
theorem sld_L {ds : List PyData} {lo hi : Option Int} : SlD (rSlX K) (.list ds) lo hi (.list (cutD ds lo hi)) := fun V A v s hv Q q => by
  cases hv with
  | lst h1 h2 =>
    exact .inl ⟨_, _, rfl, SqL.of (s _ _ h1), fun p hp => q _ _ _ (Fr.alloc s hp) (.lst upd_same ((cut_is h2 lo hi).mono (same_new (none_of s hp))))⟩
theorem sld_T {ds : List PyData} {lo hi : Option Int} : SlD (rSlX K) (.tuple ds) lo hi (.tuple (cutD ds lo hi)) := fun V A v s hv Q q => by
  cases hv with
  | @tup a xs _ h1 h2 =>
    refine .inr ⟨_, _, rfl, SqT.of (s _ _ h1), fun e => ?_, fun e p hp => q _ _ _ (Fr.alloc s hp) (.tup upd_same ((cut_is h2 lo hi).mono (same_new (none_of s hp))))⟩
    have ed : cutD ds lo hi = ds := by
      unfold cutD
      rw [← h2.length, e.1, e.2, List.drop_zero, Nat.sub_zero, h2.length, List.take_length]
    rw [ed] at q
    exact q _ V A (Fr.refl s) (.tup h1 h2)
theorem cut_to (ds : List PyData) (k : Nat) : cutD ds none (some (k : Int)) = ds.take k := by
  unfold cutD
  rw [HT.sIx_none, HT.sIx_nat, List.drop_zero, Nat.sub_zero]
  by_cases h : k ≤ ds.length
  · rw [Nat.min_eq_left h]
  · rw [Nat.min_eq_right (by omega), List.take_length, List.take_of_length_le (by omega)]
theorem cut_from (ds : List PyData) (k : Nat) : cutD ds (some (k : Int)) none = ds.drop k := by
  unfold cutD
  rw [HT.sIx_none, HT.sIx_nat]
  by_cases h : k ≤ ds.length
  · rw [Nat.min_eq_left h, List.take_of_length_le (by rw [List.length_drop]; omega)]
  · rw [Nat.min_eq_right (by omega), Nat.sub_self, List.take_zero, List.drop_of_length_le (by omega)]
theorem cut_at (ds : List PyData) (k m : Nat) : cutD ds (some (k : Int)) (some (m : Int)) = (ds.take m).drop k := by
  unfold cutD
  rw [HT.sIx_nat, HT.sIx_nat, List.drop_take]
  by_cases h : k ≤ ds.length
  · rw [Nat.min_eq_left h]
    by_cases h2 : m ≤ ds.length
    · rw [Nat.min_eq_left h2]
    · rw [Nat.min_eq_right (by omega : ds.length ≤ m), List.take_of_length_le (by rw [List.length_drop]; omega), List.take_of_length_le (by rw [List.length_drop]; omega)]
  · rw [Nat.min_eq_right (by omega : ds.length ≤ k), List.drop_of_length_le (Nat.le_refl _), List.drop_of_length_le (by omega : ds.length ≤ k), List.take_nil, List.take_nil]
end

/-! ### built-ins -/
def rLen (K : PySem.W.Frag) : List V → Hp → VK → Prop := fun xs H Q => ∃ p ys, xs = [.ref p] ∧ (SqL K H p ys ∨ SqT K H p ys) ∧ Q (.int ys.length) H
def rTupOf (K : PySem.W.Frag) : List V → Hp → VK → Prop := fun xs H Q => ∃ p ys, xs = [.ref p] ∧ ((SqL K H p ys ∧ ∀ l, H l = none → Q (.ref l) (upd H l (.tup ys))) ∨ (SqT K H p ys ∧ Q (.ref p) H))
def rListOf (K : PySem.W.Frag) : List V → Hp → VK → Prop := fun xs H Q => ∃ p ys, xs = [.ref p] ∧ (SqL K H p ys ∨ SqT K H p ys) ∧ ∀ l, H l = none → Q (.ref l) (upd H l (.lst ys))
def rAbs : List V → Hp → VK → Prop := fun xs H Q => ∃ i : Int, xs = [.int i] ∧ Q (.int (if i < 0 then -i else i)) H
def rMax2 : List V → Hp → VK → Prop := fun xs H Q => ∃ i j : Int, xs = [.int i, .int j] ∧ Q (.int (if j > i then j else i)) H
def rMin2 : List V → Hp → VK → Prop := fun xs H Q => ∃ i j : Int, xs = [.int i, .int j] ∧ Q (.int (if j < i then j else i)) H
def rInt1 : List V → Hp → VK → Prop := fun xs H Q => (∃ i : Int, xs = [.int i] ∧ Q (.int i) H) ∨ ∃ k : Bool, xs = [.bl k] ∧ Q (.int (if k then 1 else 0)) H
def rLcm : List V → Hp → VK → Prop := fun xs H Q => ∃ a b : Int, xs = [.int a, .int b] ∧ a.natAbs < 2 ^ 64 ∧ b.natAbs < 2 ^ 64 ∧ Q (.int ((a.natAbs.lcm b.natAbs : Nat) : Int)) H
section
variable {X : Cx}
theorem cr_len : CallR X (.builtin "len") (rLen X.K) := call_len_seq
theorem cr_tupOf : CallR X (.type "tuple") (rTupOf X.K) := call_tuple_of
theorem cr_listOf : CallR X (.type "list") (rListOf X.K) := call_list_of
theorem cr_abs : CallR X (.builtin "abs") rAbs := call_abs
theorem cr_max2 (hc : X.calm = true) : CallR X (.builtin "max") rMax2 := call_max2 hc
theorem cr_min2 (hc : X.calm = true) : CallR X (.builtin "min") rMin2 := call_min2 hc
theorem cr_int1 : CallR X (.type "int") rInt1 := call_int1
theorem cr_lcm : CallR X (.builtin "math.lcm") rLcm := by
  intro pins s σ H vs us Q I r h
  obtain ⟨a, b, rfl, h1, h2, q⟩ := h
  obtain ⟨t, u, rfl⟩ := Vals.int2 r
  have e : (Nat.lcm 1 a.natAbs).lcm b.natAbs = a.natAbs.lcm b.natAbs := by rw [Nat.lcm_one_left]
  refine PySem.W.mg_lcm_v (c := ((a.natAbs.lcm b.natAbs : Nat) : Int)) h1 h2 (by rw [e]) ?_ ⟨.int _, H, I.tok _, ⟨_, rfl⟩, q⟩
  have hle : a.natAbs.lcm b.natAbs ≤ a.natAbs * b.natAbs := Nat.div_le_self _ _
  have hlt : a.natAbs.lcm b.natAbs < 2 ^ 128 := Nat.lt_of_le_of_lt hle (by
    have := Nat.mul_lt_mul'' h1 h2
    exact Nat.lt_of_lt_of_le this (by decide))
  rw [Int.natAbs_natCast]
  by_cases h0 : a.natAbs.lcm b.natAbs = 0
  · rw [h0]; decide
  · exact Nat.lt_of_lt_of_le ((Nat.log2_lt h0).mpr hlt) (by decide)
end
def isIntD : PyData → Bool
  | .int _ => true
  | .bool _ => true
  | _ => false
def isBoolD : PyData → Bool
  | .bool _ => true
  | _ => false
def isStrD : PyData → Bool
  | .str _ => true
  | _ => false
def isListD : PyData → Bool
  | .list _ => true
  | _ => false
def isTupD : PyData → Bool
  | .tuple _ => true
  | _ => false
section
variable {K : PySem.W.Frag} {ρ : List Sl}
theorem cad_len {ds : List PyData} : CaD (rLen K) [.list ds] (.int (ds.length : Int)) := fun V A vs s h Q q => by
  cases h with
  | cons h1 h2 =>
    cases h2
    cases h1 with
    | lst k1 k2 =>
      refine ⟨_, _, rfl, .inl (SqL.of (s _ _ k1)), ?_⟩
      rw [k2.length]
      exact q _ V A (Fr.refl s) (.int _)
theorem cad_lenT {ds : List PyData} : CaD (rLen K) [.tuple ds] (.int (ds.length : Int)) := fun V A vs s h Q q => by
  cases h with
  | cons h1 h2 =>
    cases h2
    cases h1 with
    | tup k1 k2 =>
      refine ⟨_, _, rfl, .inr (SqT.of (s _ _ k1)), ?_⟩
      rw [k2.length]
      exact q _ V A (Fr.refl s) (.int _)
theorem cad_tupL {ds : List PyData} : CaD (rTupOf K) [.list ds] (.tuple ds) := fun V A vs s h Q q => by
  cases h with
  | cons h1 h2 =>
    cases h2
    cases h1 with
    | lst k1 k2 => exact ⟨_, _, rfl, .inl ⟨SqL.of (s _ _ k1), fun l hl => q _ _ _ (Fr.alloc s hl) (.tup upd_same (k2.mono (same_new (none_of s hl))))⟩⟩
theorem cad_lstL {ds : List PyData} : CaD (rListOf K) [.list ds] (.list ds) := fun V A vs s h Q q => by
  cases h with
  | cons h1 h2 =>
    cases h2
    cases h1 with
    | lst k1 k2 => exact ⟨_, _, rfl, .inl (SqL.of (s _ _ k1)), fun l hl => q _ _ _ (Fr.alloc s hl) (.lst upd_same (k2.mono (same_new (none_of s hl))))⟩
theorem cad_lstT {ds : List PyData} : CaD (rListOf K) [.tuple ds] (.list ds) := fun V A vs s h Q q => by
  cases h with
  | cons h1 h2 =>
    cases h2
    cases h1 with
    | tup k1 k2 => exact ⟨_, _, rfl, .inr (SqT.of (s _ _ k1)), fun l hl => q _ _ _ (Fr.alloc s hl) (.lst upd_same (k2.mono (same_new (none_of s hl))))⟩
theorem cad_sum {ns : List Int} : CaD (rSum K) [.list (ns.map PyData.int)] (.int ns.sum) := fun V A vs s h Q q => by
  cases h with
  | cons h1 h2 =>
    cases h2
    cases h1 with
    | lst k1 k2 =>
      have e := k2.ints
      subst e
      exact ⟨_, ns, rfl, SqL.of (s _ _ k1), q _ V A (Fr.refl s) (.int _)⟩
theorem cad_all {bs : List Bool} : CaD (rAll K) [.list (bs.map PyData.bool)] (.bool (bs.all id)) := fun V A vs s h Q q => by
  cases h with
  | cons h1 h2 =>
    cases h2
    cases h1 with
    | lst k1 k2 =>
      have e := k2.bools
      subst e
      exact ⟨_, bs, rfl, SqL.of (s _ _ k1), q _ V A (Fr.refl s) (.bl _)⟩
theorem cad_any {bs : List Bool} : CaD (rAny K) [.list (bs.map PyData.bool)] (.bool (bs.any id)) := fun V A vs s h Q q => by
  cases h with
  | cons h1 h2 =>
    cases h2
    cases h1 with
    | lst k1 k2 =>
      have e := k2.bools
      subst e
      exact ⟨_, bs, rfl, SqL.of (s _ _ k1), q _ V A (Fr.refl s) (.bl _)⟩
theorem cad_abs {i : Int} : CaD rAbs [.int i] (.int (if i < 0 then -i else i)) := fun V A vs s h Q q => by
  have e := IsL.ints (ns := [i]) h
  exact ⟨i, e, q _ V A (Fr.refl s) (.int _)⟩
theorem cad_max {i j : Int} : CaD rMax2 [.int i, .int j] (.int (max i j)) := fun V A vs s h Q q => by
  have e := IsL.ints (ns := [i, j]) h
  refine ⟨i, j, e, ?_⟩
  have e2 : (if j > i then j else i) = max i j := by
    split
    · exact (Int.max_eq_right (by omega)).symm
    · exact (Int.max_eq_left (by omega)).symm
  rw [e2]
  exact q _ V A (Fr.refl s) (.int _)
theorem cad_min {i j : Int} : CaD rMin2 [.int i, .int j] (.int (min i j)) := fun V A vs s h Q q => by
  have e := IsL.ints (ns := [i, j]) h
  refine ⟨i, j, e, ?_⟩
  have e2 : (if j < i then j else i) = min i j := by
    split
    · exact (Int.min_eq_right (by omega)).symm
    · exact (Int.min_eq_left (by omega)).symm
  rw [e2]
  exact q _ V A (Fr.refl s) (.int _)
theorem cad_intI {i : Int} : CaD rInt1 [.int i] (.int i) := fun V A vs s h Q q => by
  have e := IsL.ints (ns := [i]) h
  exact .inl ⟨i, e, q _ V A (Fr.refl s) (.int _)⟩
theorem cad_intB {k : Bool} : CaD rInt1 [.bool k] (.int (if k = true then 1 else 0)) := fun V A vs s h Q q => by
  have e := IsL.bools (bs := [k]) h
  exact .inr ⟨k, e, q _ V A (Fr.refl s) (.int _)⟩
theorem cad_gcd {i j : Int} : CaD rGcd [.int i, .int j] (.int ((Nat.gcd i.natAbs j.natAbs : Nat) : Int)) := fun V A vs s h Q q => by
  have e := IsL.ints (ns := [i, j]) h
  exact ⟨i, j, e, q _ V A (Fr.refl s) (.int _)⟩
theorem cad_lcm {i j : Int} (h1 : i.natAbs < 2 ^ 64) (h2 : j.natAbs < 2 ^ 64) : CaD rLcm [.int i, .int j] (.int ((Nat.lcm i.natAbs j.natAbs : Nat) : Int)) := fun V A vs s h Q q => by
  have e := IsL.ints (ns := [i, j]) h
  exact ⟨i, j, e, h1, h2, q _ V A (Fr.refl s) (.int _)⟩

/-! ### isinstance -/
/-- the type of a datum -/
def tyOf : PyData → String
  | .none => "NoneType" | .bool _ => "bool" | .int _ => "int" | .str _ => "str" | .list _ => "list" | .tuple _ => "tuple" | .dict _ => "dict"
theorem is_ty {V A : Hp} {v : L2.V} {d : PyData} (s : Same V A) (h : Is V v d) : TyX K A v (.type (tyOf d)) := by
  cases h with
  | non => exact .base .non
  | bl b => exact .base (.bl b)
  | int i => exact .base (.int i)
  | str x => exact .base (.str x)
  | lst h1 h2 => exact .base (.lst (s _ _ h1))
  | tup h1 h2 => exact .base (.tup (s _ _ h1))
def isT (T : String) (d : PyData) : Bool := (kitB (tyOf d) T).getD false
theorem ed_isi {ta : TE} {d : PyData} {T : String} {b : Bool} (h : EvD ta ρ d) (hb : kitB (tyOf d) T = some b) : EvD (tCB (rIsi K) (tCons ta (tCons (tC (.ty T)) tNil))) ρ (.bool b) := fun u σ V A e s Q q =>
  h u σ V A e s _ fun v V1 A1 f1 i1 => ⟨v, .ty T, _, _, b, rfl, .ty T, is_ty f1.sub i1, kit_ty hb, q _ V1 A1 f1 (.bl b)⟩
theorem kit_int : ∀ d : PyData, (∀ k, d ≠ .dict k) → kitB (tyOf d) "int" = some (isIntD d) := fun d h => by
  cases d with
  | dict k => exact absurd rfl (h k)
  | none => exact (by decide +kernel : kitB "NoneType" "int" = some false)
  | bool z => exact (by decide +kernel : kitB "bool" "int" = some true)
  | int z => exact (by decide +kernel : kitB "int" "int" = some true)
  | str z => exact (by decide +kernel : kitB "str" "int" = some false)
  | list z => exact (by decide +kernel : kitB "list" "int" = some false)
  | tuple z => exact (by decide +kernel : kitB "tuple" "int" = some false)
theorem kit_bool : ∀ d : PyData, (∀ k, d ≠ .dict k) → kitB (tyOf d) "bool" = some (isBoolD d) := fun d h => by
  cases d with
  | dict k => exact absurd rfl (h k)
  | none => exact (by decide +kernel : kitB "NoneType" "bool" = some false)
  | bool z => exact (by decide +kernel : kitB "bool" "bool" = some true)
  | int z => exact (by decide +kernel : kitB "int" "bool" = some false)
  | str z => exact (by decide +kernel : kitB "str" "bool" = some false)
  | list z => exact (by decide +kernel : kitB "list" "bool" = some false)
  | tuple z => exact (by decide +kernel : kitB "tuple" "bool" = some false)
theorem kit_str : ∀ d : PyData, (∀ k, d ≠ .dict k) → kitB (tyOf d) "str" = some (isStrD d) := fun d h => by
  cases d with
  | dict k => exact absurd rfl (h k)
  | none => exact (by decide +kernel : kitB "NoneType" "str" = some false)
  | bool z => exact (by decide +kernel : kitB "bool" "str" = some false)
  | int z => exact (by decide +kernel : kitB "int" "str" = some false)
  | str z => exact (by decide +kernel : kitB "str" "str" = some true)
  | list z => exact (by decide +kernel : kitB "list" "str" = some false)
  | tuple z => exact (by decide +kernel : kitB "tuple" "str" = some false)
theorem kit_list : ∀ d : PyData, (∀ k, d ≠ .dict k) → kitB (tyOf d) "list" = some (isListD d) := fun d h => by
  cases d with
  | dict k => exact absurd rfl (h k)
  | none => exact (by decide +kernel : kitB "NoneType" "list" = some false)
  | bool z => exact (by decide +kernel : kitB "bool" "list" = some false)
  | int z => exact (by decide +kernel : kitB "int" "list" = some false)
  | str z => exact (by decide +kernel : kitB "str" "list" = some false)
  | list z => exact (by decide +kernel : kitB "list" "list" = some true)
  | tuple z => exact (by decide +kernel : kitB "tuple" "list" = some false)
theorem kit_tup : ∀ d : PyData, (∀ k, d ≠ .dict k) → kitB (tyOf d) "tuple" = some (isTupD d) := fun d h => by
  cases d with
  | dict k => exact absurd rfl (h k)
  | none => exact (by decide +kernel : kitB "NoneType" "tuple" = some false)
  | bool z => exact (by decide +kernel : kitB "bool" "tuple" = some false)
  | int z => exact (by decide +kernel : kitB "int" "tuple" = some false)
  | str z => exact (by decide +kernel : kitB "str" "tuple" = some false)
  | list z => exact (by decide +kernel : kitB "list" "tuple" = some false)
  | tuple z => exact (by decide +kernel : kitB "tuple" "tuple" = some true)
theorem no_dict {te : TE} {d : PyData} (h : EvD te ρ d) {Z : Prop} (hz : (∀ k, d ≠ .dict k) → Z) : (∀ k, d ≠ .dict k) → Z := hz
theorem is_nd {H : Hp} {v : V} {d : PyData} (h : Is H v d) : ∀ k, d ≠ .dict k := fun k e => by
  subst e; cases h
theorem ed_isInt {ta : TE} {d : PyData} (h : EvD ta ρ d) : EvD (tCB (rIsi K) (tCons ta (tCons (tC (.ty "int")) tNil))) ρ (.bool (isIntD d)) := fun u σ V A e s Q q =>
  h u σ V A e s _ fun v V1 A1 f1 i1 => ⟨v, .ty "int", _, _, _, rfl, .ty "int", is_ty f1.sub i1, kit_ty (kit_int d (is_nd i1)), q _ V1 A1 f1 (.bl _)⟩
theorem ed_isBool {ta : TE} {d : PyData} (h : EvD ta ρ d) : EvD (tCB (rIsi K) (tCons ta (tCons (tC (.ty "bool")) tNil))) ρ (.bool (isBoolD d)) := fun u σ V A e s Q q =>
  h u σ V A e s _ fun v V1 A1 f1 i1 => ⟨v, .ty "bool", _, _, _, rfl, .ty "bool", is_ty f1.sub i1, kit_ty (kit_bool d (is_nd i1)), q _ V1 A1 f1 (.bl _)⟩
theorem ed_isList {ta : TE} {d : PyData} (h : EvD ta ρ d) : EvD (tCB (rIsi K) (tCons ta (tCons (tC (.ty "list")) tNil))) ρ (.bool (isListD d)) := fun u σ V A e s Q q =>
  h u σ V A e s _ fun v V1 A1 f1 i1 => ⟨v, .ty "list", _, _, _, rfl, .ty "list", is_ty f1.sub i1, kit_ty (kit_list d (is_nd i1)), q _ V1 A1 f1 (.bl _)⟩
theorem ed_isTup {ta : TE} {d : PyData} (h : EvD ta ρ d) : EvD (tCB (rIsi K) (tCons ta (tCons (tC (.ty "tuple")) tNil))) ρ (.bool (isTupD d)) := fun u σ V A e s Q q =>
  h u σ V A e s _ fun v V1 A1 f1 i1 => ⟨v, .ty "tuple", _, _, _, rfl, .ty "tuple", is_ty f1.sub i1, kit_ty (kit_tup d (is_nd i1)), q _ V1 A1 f1 (.bl _)⟩
/-- isinstance(x, (T, U)) -/
theorem ed_isT2 {ta : TE} {d : PyData} {T U : String} {b c : PyData → Bool} (h : EvD ta ρ d) (hT : (∀ k, d ≠ .dict k) → kitB (tyOf d) T = some (b d)) (hU : (∀ k, d ≠ .dict k) → kitB (tyOf d) U = some (c d)) :
    EvD (tCB (rIsiT K) (tCons ta (tCons (tTup (tCons (tC (.ty T)) (tCons (tC (.ty U)) tNil))) tNil))) ρ (.bool (b d || c d)) := fun u σ V A e s Q q =>
  h u σ V A e s _ fun v V1 A1 f1 i1 => ⟨by show 2 ≤ sizeLine; decide, fun p hp => by
    have f2 : Fr none V1 A1 V1 (upd A1 p (.tup [.ty T, .ty U])) := Fr.hid f1.sub hp
    refine ⟨v, p, [.ty T, .ty U], _, [.type T, .type U], b d || c d, rfl, upd_same, .cons (.ty T) (.cons (.ty U) .nil), is_ty f2.sub i1, ?_, q _ V1 _ (f1.trans f2) (.bl _)⟩
    have h1 := hT (is_nd i1)
    have h2 := hU (is_nd i1)
    refine kitAny_cons (b := b d) (kit_ty h1) (fun hb => ?_) (fun hb => by rw [hb]; rfl)
    rw [hb, Bool.false_or]
    refine kitAny_cons (b := c d) (kit_ty h2) (fun hc => ?_) (fun hc => hc)
    rw [hc]
    exact kitAny_nil⟩
end
end K4

/-! ## Ed3 -/
/-! statements: slots, one list under construction (own), the urn -/
namespace K4
open PySem PySem.Spec PyProof.Rows L2

/-! ### the urn -/
def UrnOk (A : Hp) (a : Addr) (n : Nat) : Prop := ∃ x b k : Int, A a = some (.lst [.int x, .int b, .int k]) ∧ 0 ≤ x ∧ 0 ≤ b ∧ b < 2 ^ 62 ∧ 0 ≤ k ∧ k ≤ (n : Int)
theorem UrnOk.same {A A' : Hp} {a : Addr} {n : Nat} (h : UrnOk A a n) (e : Same A A') : UrnOk A' a n := by
  obtain ⟨x, b, k, h1, h2⟩ := h
  exact ⟨x, b, k, e _ _ h1, h2⟩
theorem UrnOk.le {A : Hp} {a : Addr} {n m : Nat} (h : UrnOk A a n) (e : n ≤ m) : UrnOk A a m := by
  obtain ⟨x, b, k, h1, h2, h3, h4, h5, h6⟩ := h
  exact ⟨x, b, k, h1, h2, h3, h4, h5, by omega⟩
theorem UrnOk.ne {A : Hp} {a : Addr} {n : Nat} (h : UrnOk A a n) : A a ≠ none := by
  obtain ⟨x, b, k, h1, _⟩ := h
  rw [h1]; simp

/-! ### the state between statements -/
/-- the entry of a call: the urn, the view and the heap -/
structure Ct where
  u : Option Addr
  V0 : Hp
  A0 : Hp
def Own (c : Ct) (own : Option (Nat × List PyData)) (V : Hp) (σ : L2.St) (A : Hp) : Prop := match own with
  | none => True
  | some (k, ds) => ∃ p xs, σ[k]? = some (some (.ref p)) ∧ c.A0 p = none ∧ V p = none ∧ c.u ≠ some p ∧ A p = some (.lst xs) ∧ IsL V xs ds
def Urn (c : Ct) (n : Nat) (V A : Hp) : Prop := ∀ a, c.u = some a → V a = none ∧ UrnOk A a n
def Sta (c : Ct) (P : Hp) (n : Nat) (ρ : List Sl) (own : Option (Nat × List PyData)) (σ : L2.St) (A : Hp) : Prop :=
  ∃ V, Fr c.u c.V0 c.A0 V A ∧ Same P V ∧ Slo c.u V σ ρ ∧ Own c own V σ A ∧ Urn c n V A
/-- from any state so told the statement leads where D wants -/
def Run (c : Ct) (P : Hp) (D : Ends) (t : TS) (n : Nat) (ρ : List Sl) (own : Option (Nat × List PyData)) : Prop := ∀ σ A, Sta c P n ρ own σ A → t D σ A
/-- the value d may be returned -/
def Ret (c : Ct) (D : Ends) (n : Nat) (d : PyData) : Prop := ∀ v V A, Fr c.u c.V0 c.A0 V A → Urn c n V A → Is V v d → D.rt v A
section
variable {c : Ct} {P : Hp} {D : Ends} {n : Nat} {ρ ρ' : List Sl} {own own' : Option (Nat × List PyData)} {te : TE} {tt : TT} {ta : TA} {tz tu tw : TS} {d : PyData}
/-- the own list's slot -/
def offOwn (own : Option (Nat × List PyData)) (js : List Nat) : Prop := ∀ k ds, own = some (k, ds) → k ∉ js
theorem offNone {js : List Nat} : offOwn none js := fun _ _ h => by cases h
theorem offSome {k : Nat} {ds : List PyData} {js : List Nat} (h : k ∉ js) : offOwn (some (k, ds)) js := fun _ _ e => by cases e; exact h
theorem Own.step {V V' : Hp} {σ σ' : L2.St} {A A' : Hp} (h : Own c own V σ A) (f : Fr c.u V A V' A') (hs : ∀ k ds, own = some (k, ds) → σ'[k]? = σ[k]?) : Own c own V' σ' A' := by
  cases own with
  | none => trivial
  | some o =>
    obtain ⟨k, ds⟩ := o
    obtain ⟨p, xs, h1, h2, h3, h4, h5, h6⟩ := h
    refine ⟨p, xs, by rw [hs k ds rfl]; exact h1, h2, f.new p h3 (by rw [h5]; simp), h4, f.up p _ (fun z => h4 z) h5, h6.mono f.vw⟩
theorem Urn.step {V V' A A' : Hp} (h : Urn c n V A) (f : Fr none V A V' A') : Urn c n V' A' := fun a e => by
  obtain ⟨h1, h2⟩ := h a e
  exact ⟨f.new a h1 h2.ne, h2.same f.same⟩
/-- pure code in a state -/
theorem Sta.pure {σ σ' : L2.St} {A V V' A' : Hp} (h1 : Fr c.u c.V0 c.A0 V A) (h2 : Same P V) (h4 : Own c own V σ A) (h5 : Urn c n V A) (f : Fr none V A V' A') (e : Slo c.u V' σ' ρ')
    (hs : ∀ k ds, own = some (k, ds) → σ'[k]? = σ[k]?) : Sta c P n ρ' own σ' A' :=
  ⟨V', h1.trans f.any, h2.trans f.vw, e, h4.step f.any hs, h5.step f⟩
theorem Run.le (w : SlLe ρ ρ') (h : Run c P D tz n ρ' own) : Run c P D tz n ρ own := fun σ A ⟨V, h1, h2, h3, h4, h5⟩ => h σ A ⟨V, h1, h2, h3.le w, h4, h5⟩
theorem Run.more {m : Nat} (w : n ≤ m) (h : Run c P D tz m ρ own) : Run c P D tz n ρ own := fun σ A ⟨V, h1, h2, h3, h4, h5⟩ => h σ A ⟨V, h1, h2, h3, h4, fun a e => ⟨(h5 a e).1, (h5 a e).2.le w⟩⟩
theorem run_asg {i : Nat} (he : EvD te ρ d) (h : Run c P D tz n (ρ.set i (.d d)) own) (hk : offOwn own [i] := by first | exact offNone | exact offSome (by decide)) : Run c P D (tSeq (tAsg te (gName i)) tz) n ρ own := fun σ A ⟨V, h1, h2, h3, h4, h5⟩ =>
  he c.u σ V A h3 h1.sub _ fun v V' A' f i1 => h _ A' (Sta.pure h1 h2 h4 h5 f ((h3.mono f.vw).set i1) fun k ds e => List.getElem?_set_ne fun z => hk k ds e (by simp [z]))
theorem run_asgT {g : TG} {js : List Nat} (he : EvD te ρ d) (hg : Tg g js ρ d ρ') (h : Run c P D tz n ρ' own) (hk : offOwn own js := by first | exact offNone | exact offSome (by decide)) : Run c P D (tSeq (tAsg te g) tz) n ρ own := fun σ A ⟨V, h1, h2, h3, h4, h5⟩ =>
  he c.u σ V A h3 h1.sub _ fun v V' A' f i1 => hg c.u σ V' A' v (h3.mono f.vw) f.sub i1 _ fun σ' e' l' k' => h σ' A' (Sta.pure h1 h2 h4 h5 f e' fun k ds e => k' k (hk k ds e))
theorem run_par {i j : Nat} {d1 d2 : PyData} (he : EvA ta ρ [d1, d2]) (h : Run c P D tz n ((ρ.set i (.d d1)).set j (.d d2)) own) (hk : offOwn own [i, j] := by first | exact offNone | exact offSome (by decide)) : Run c P D (tSeq (tPar i j ta) tz) n ρ own := fun σ A ⟨V, h1, h2, h3, h4, h5⟩ =>
  he c.u σ V A h3 h1.sub _ fun vs V' A' f i1 => by
    cases i1 with
    | cons k1 k2 =>
      cases k2 with
      | cons k2 k3 =>
        cases k3
        exact ⟨_, _, rfl, h _ A' (Sta.pure h1 h2 h4 h5 f (((h3.mono f.vw).set k1).set k2) fun k ds e => by
          have := hk k ds e
          rw [List.getElem?_set_ne (fun z => this (by simp [z])), List.getElem?_set_ne (fun z => this (by simp [z]))])⟩
theorem run_drop (he : EvD te ρ d) (h : Run c P D tz n ρ own) : Run c P D (tSeq (tDrop te) tz) n ρ own := fun σ A ⟨V, h1, h2, h3, h4, h5⟩ =>
  he c.u σ V A h3 h1.sub _ fun v V' A' f i1 => h _ A' (Sta.pure h1 h2 h4 h5 f (h3.mono f.vw) fun _ _ _ => rfl)
theorem run_ret (he : EvD te ρ d) (h : Ret c D n d) : Run c P D (tRet te) n ρ own := fun σ A ⟨V, h1, h2, h3, h4, h5⟩ =>
  he c.u σ V A h3 h1.sub _ fun v V' A' f i1 => h v V' A' (h1.trans f.any) (h5.step f) i1
theorem run_retS (he : EvD te ρ d) (h : Ret c D n d) : Run c P D (tSeq (tRet te) tz) n ρ own := fun σ A s => run_ret (D := { D with nx := tz D }) (P := P) he h σ A s
theorem run_if {b : Bool} (hb : EvB tt ρ b) (h1 : b = true → Run c P { D with nx := tz D } tu n ρ own) (h2 : b = false → Run c P { D with nx := tz D } tw n ρ own) : Run c P D (tSeq (tIfS tt tu tw) tz) n ρ own := fun σ A ⟨V, k1, k2, k3, k4, k5⟩ =>
  hb c.u σ V A k3 k1.sub _ fun V' A' f => by
    have s : Sta c P n ρ own σ A' := Sta.pure k1 k2 k4 k5 f (k3.mono f.vw) fun _ _ _ => rfl
    cases b with
    | true => exact h1 rfl σ A' s
    | false => exact h2 rfl σ A' s
/-- behind the last statement of a block -/
theorem run_next (h : Run c P D tz n ρ own) : Run c P { D with nx := tz D } tNext n ρ own := h
theorem run_one (h : Run c P D (tSeq tz tNext) n ρ own) : Run c P D tz n ρ own := h
theorem run_end {own : Option (Nat × List PyData)} (h : ∀ σ A, Sta c P n ρ own σ A → D.nx σ A) : Run c P D tNext n ρ own := h
theorem run_never (h : False) : Run c P D tz n ρ own := h.elim

/-! ### a list under construction -/
theorem sta_own {σ : L2.St} {A V : Hp} {p : Addr} {i : Nat} {vs : List L2.V} {ds : List PyData} (h1 : Fr c.u c.V0 c.A0 V A) (h2 : Same P V) (h3 : Slo c.u V σ ρ) (h5 : Urn c n V A) (hp : A p = none) (hi : i < σ.length) (hv : IsL V vs ds) :
    Sta c P n (ρ.set i .no) (some (i, ds)) (σ.set i (some (.ref p))) (upd A p (.lst vs)) := by
  have f : Fr none V A V (upd A p (.lst vs)) := Fr.hid h1.sub hp
  have h0 : c.A0 p = none := by
    cases e : c.A0 p with
    | none => rfl
    | some o => exact absurd hp (h1.pr p (by rw [e]; simp))
  refine ⟨V, h1.trans f.any, h2, h3.setNo, ⟨p, vs, ?_, h0, none_of h1.sub hp, fun e => ?_, upd_same, hv⟩, h5.step f⟩
  · rw [List.getElem?_set_self hi]
  · exact (h5 p e).2.ne hp
theorem run_new {i : Nat} {ds : List PyData} (he : EvA ta ρ ds) (hi : i < ρ.length) (hl : ds.length ≤ 100000) (h : Run c P D tz n (ρ.set i .no) (some (i, ds))) : Run c P D (tSeq (tAsg (tLst ta) (gName i)) tz) n ρ none := fun σ A ⟨V, h1, h2, h3, h4, h5⟩ =>
  he c.u σ V A h3 h1.sub _ fun vs V' A' f i1 => ⟨by rw [i1.length]; exact Nat.le_trans hl (by decide), fun p hp =>
    h _ _ (sta_own (h1.trans f.any) (h2.trans f.vw) (h3.mono f.vw) (h5.step f) hp (by rw [h3.len]; exact hi) i1)⟩
/-- x, own = e, [] -/
theorem run_parNew {i j : Nat} (he : EvD te ρ d) (hij : i ≠ j) (hj : j < ρ.length) (h : Run c P D tz n ((ρ.set i (.d d)).set j .no) (some (j, []))) : Run c P D (tSeq (tPar i j (tCons te (tCons (tLst tNil) tNil))) tz) n ρ none := fun σ A ⟨V, h1, h2, h3, h4, h5⟩ =>
  he c.u σ V A h3 h1.sub _ fun v V' A' f i1 => ⟨Nat.zero_le _, fun p hp => ⟨v, .ref p, rfl, h _ _ (sta_own (h1.trans f.any) (h2.trans f.vw) ((h3.mono f.vw).set i1) (h5.step f) hp (by rw [List.length_set, h3.len]; exact hj) .nil)⟩⟩
/-- x, own = e, [ns] -/
theorem run_parNew1 {i j : Nat} {ta : TA} {ds : List PyData} (he : EvD te ρ d) (ha : EvA ta ρ ds) (hl : ds.length ≤ 100000) (hij : i ≠ j) (hj : j < ρ.length) (h : Run c P D tz n ((ρ.set i (.d d)).set j .no) (some (j, ds))) : Run c P D (tSeq (tPar i j (tCons te (tCons (tLst ta) tNil))) tz) n ρ none := fun σ A ⟨V, h1, h2, h3, h4, h5⟩ =>
  he c.u σ V A h3 h1.sub _ fun v V1 A1 f1 i1 => ha c.u σ V1 A1 (h3.mono f1.vw) f1.sub _ fun vs V' A' f i2 => ⟨by rw [i2.length]; exact Nat.le_trans hl (by decide), fun p hp => ⟨v, .ref p, rfl, by
    have ff := f1.trans f
    exact h _ _ (sta_own (h1.trans ff.any) (h2.trans ff.vw) ((h3.mono ff.vw).set (i1.mono f.vw)) (h5.step ff) hp (by rw [List.length_set, h3.len]; exact hj) i2)⟩⟩
/-- x, own = e, [] by a tuple (x is a cell) -/
theorem run_tupNew {K : PySem.W.Frag} {i j : Nat} (he : EvD te ρ d) (hij : i ≠ j) (hj : j < ρ.length) (h : Run c P D tz n ((ρ.set i (.d d)).set j .no) (some (j, []))) :
    Run c P D (tSeq (tAsg (tTup (tCons te (tCons (tLst tNil) tNil))) (gTup K 2 (gCons (gName i) (gCons (gName j) gNil)))) tz) n ρ none := fun σ A ⟨V, h1, h2, h3, h4, h5⟩ =>
  he c.u σ V A h3 h1.sub _ fun v V' A' f i1 => ⟨Nat.zero_le _, fun p hp => ⟨by show 2 ≤ sizeLine; decide, fun q hq => by
    have hqA : A' q = none := by
      cases e : A' q with
      | none => rfl
      | some o => rw [same_new hp q o e] at hq; cases hq
    have hpq : p ≠ q := fun e => by subst e; rw [upd_same] at hq; cases hq
    have f2 : Fr none V' A' V' (upd A' q (.tup [v, .ref p])) := Fr.hid f.sub hqA
    have hp2 : (upd A' q (.tup [v, .ref p])) p = none := by rw [upd_ne hpq]; exact hp
    have ew : upd (upd A' p (.lst [])) q (.tup [v, .ref p]) = upd (upd A' q (.tup [v, .ref p])) p (.lst []) := by
      funext b
      unfold upd
      by_cases e1 : b = q
      · rw [if_pos e1]
        by_cases e2 : b = p
        · exact absurd (e2.symm.trans e1) hpq
        · rw [if_neg e2, if_pos e1]
      · rw [if_neg e1]
        by_cases e2 : b = p
        · rw [if_pos e2, if_pos e2]
        · rw [if_neg e2, if_neg e2, if_neg e1]
    refine ⟨q, [v, .ref p], rfl, SqT.of upd_same, rfl, v, [.ref p], rfl, .ref p, [], rfl, rfl, ?_⟩
    show tz D _ (upd (upd A' p (.lst [])) q (.tup [v, .ref p]))
    rw [ew]
    have ff := f.trans f2
    exact h _ _ (sta_own (h1.trans ff.any) (h2.trans ff.vw) ((h3.mono ff.vw).set i1) (h5.step ff) hp2 (by rw [List.length_set, h3.len]; exact hj) .nil)⟩⟩
theorem sz_lt' {m : Nat} (h : m < 100000) : m < sizeLine := Nat.lt_of_lt_of_le h (by decide)
theorem run_app {K : PySem.W.Frag} {k : Nat} {ds : List PyData} (he : EvD te ρ d) (hz : ds.length < 100000) (h : Run c P D tz n ρ (some (k, ds ++ [d]))) : Run c P D (tSeq (tDrop (tBM K "list" rAppend (tVar k) (tCons te tNil))) tz) n ρ (some (k, ds)) := fun σ A ⟨V, h1, h2, h3, h4, h5⟩ => by
  obtain ⟨p, xs, g1, g2, g3, g4, g5, g6⟩ := h4
  refine ⟨.ref p, g1, .inl ⟨rfl, _, .inl (.inl g5)⟩, ?_⟩
  refine he c.u σ V A h3 h1.sub _ fun v V' A' f i1 => ?_
  have e5 : A' p = some (.lst xs) := f.same _ _ g5
  have n5 : V' p = none := f.new p g3 (by rw [g5]; simp)
  refine ⟨p, xs, v, rfl, rfl, e5, by rw [g6.length]; exact sz_lt' hz, ?_⟩
  have h1' := h1.trans f.any
  refine h σ _ ⟨V', ⟨fun a o na ha => ?_, fun a ha => upd_some (h1'.pr a ha), h1'.vw, fun a o ha => ?_, h1'.new⟩, h2.trans f.vw, h3.mono f.vw, ⟨p, xs ++ [v], g1, g2, n5, g4, upd_same, (g6.mono f.vw).app (.cons i1 .nil)⟩, fun a ea => ?_⟩
  · rw [upd_ne (fun z => by rw [z, g2] at ha; cases ha)]
    exact h1'.up a o na ha
  · rw [upd_ne (ne_of_none ha n5)]
    exact h1'.sub a o ha
  · obtain ⟨q1, x, b, k', q2, q3⟩ := (h5.step f) a ea
    refine ⟨q1, x, b, k', ?_, q3⟩
    rw [upd_ne (fun z => g4 (by rw [ea, z]))]
    exact q2
/-- the list is done: it is a datum from here on -/
theorem run_done {k : Nat} {ds : List PyData} (h : Run c P D tz n (ρ.set k (.d (.list ds))) none) : Run c P D tz n ρ (some (k, ds)) := fun σ A ⟨V, h1, h2, h3, h4, h5⟩ => by
  obtain ⟨p, xs, g1, g2, g3, g4, g5, g6⟩ := h4
  have hV : Same V (upd V p (.lst xs)) := same_new g3
  refine h σ A ⟨upd V p (.lst xs), ⟨h1.up, h1.pr, h1.vw.trans hV, fun a o ha => ?_, fun a ha hb => ?_⟩, h2.trans hV, ?_, trivial, fun a ea => ?_⟩
  · by_cases e : a = p
    · subst e; rw [upd_same] at ha; rw [g5]; exact ha
    · rw [upd_ne e] at ha; exact h1.sub a o ha
  · rw [upd_ne (fun z => hb (by rw [z]; exact g2))]
    exact h1.new a ha hb
  · have es : σ = σ.set k (some (.ref p)) := by
      refine List.ext_getElem? fun i => ?_
      rw [List.getElem?_set]
      by_cases e : k = i
      · subst e
        have hk : k < σ.length := (List.getElem?_eq_some_iff.mp g1).1
        rw [if_pos rfl, if_pos hk]; exact g1
      · rw [if_neg e]
    rw [es]
    exact (h3.mono hV).set (.lst upd_same (g6.mono hV))
  · obtain ⟨q1, q2⟩ := h5 a ea
    refine ⟨?_, q2⟩
    rw [upd_ne (fun z => g4 (by rw [ea, z]))]
    exact q1

/-! ### for -/
theorem take_snoc {α : Type} {xs : List α} {i : Nat} {x : α} (h : xs[i]? = some x) : xs.take (i + 1) = xs.take i ++ [x] := by
  rw [List.take_add_one, h]; rfl
/-- the slots and the own list as functions of the part taken -/
theorem run_for {α : Type} {wi : TI} {g : TG} {tb : TS} {enc : α → PyData} {xs : List α} (rs : List α → List Sl) (ow : List α → Option (Nat × List PyData)) (hit : ItD wi ρ (xs.map enc)) (h0 : SlLe ρ (rs [])) (ho : own = ow [])
    (hs : ∀ pre x post P', xs = pre ++ x :: post → ∃ js ρ', Tg g js (rs pre) (enc x) ρ' ∧ offOwn (ow pre) js ∧
      Run c P' { D with nx := Sta c P' n (rs (pre ++ [x])) (ow (pre ++ [x])), ct := Sta c P' n (rs (pre ++ [x])) (ow (pre ++ [x])), bk := tz D } tb n ρ' (ow pre))
    (hd : Run c P D tz n (rs xs) (ow xs)) : Run c P D (tSeq (tFor wi g tb) tz) n ρ own := fun σ A ⟨V, h1, h2, h3, h4, h5⟩ => by
  refine hit c.u σ V A h3 h1.sub _ fun J P' A1 f wk => ?_
  have s0 : Sta c P' n (rs []) (ow []) σ A1 := by
    have q := Sta.pure h1 (Same.refl V) h4 h5 f (h3.mono f.vw) (σ' := σ) fun _ _ _ => rfl
    obtain ⟨V', k1, k2, k3, k4, k5⟩ := q
    rw [ho] at h4
    exact ⟨P', h1.trans f.any, Same.refl P', (h3.mono f.vw).le h0, h4.step f.any fun _ _ _ => rfl, h5.step f⟩
  have hPP : Same P P' := h2.trans f.vw
  refine for_it (n := (xs.map enc).length) wk (fun i σ A => Sta c P' n (rs (xs.take i)) (ow (xs.take i)) σ A) s0 ?_ ?_ ?_
  · rintro i σ A - ⟨V', k1, k2, -⟩
    exact k2.trans k1.sub
  · rintro i v σ2 A2 A3 hi ⟨W, k1, k2, k3, k4, k5⟩ y
    obtain ⟨W1, d, hd', fr, iv⟩ := y W k2 k1.sub
    rw [List.getElem?_map] at hd'
    obtain ⟨x, hx, rfl⟩ := Option.map_eq_some_iff.mp hd'
    have exs : xs = xs.take i ++ x :: xs.drop (i + 1) := by
      have hlt := (List.getElem?_eq_some_iff.mp hx).1
      have hx' := (List.getElem?_eq_some_iff.mp hx).2
      rw [← hx', List.getElem_cons_drop, List.take_append_drop]
    obtain ⟨js, ρ', tg, off, run⟩ := hs (xs.take i) x (xs.drop (i + 1)) P' exs
    refine tg c.u σ2 W1 A3 v (k3.mono fr.vw) fr.sub iv _ fun σ3 e3 l3 n3 => ?_
    have q := run σ3 A3 ⟨W1, k1.trans fr.any, k2.trans fr.vw, e3, k4.step fr.any fun k ds e => n3 k (off k ds e), k5.step fr⟩
    rw [take_snoc hx]
    exact q
  · intro σ2 A2 s2
    rw [List.length_map, List.take_length] at s2
    obtain ⟨W, k1, k2, k3, k4, k5⟩ := s2
    exact hd σ2 A2 ⟨W, k1, hPP.trans k2, k3, k4, k5⟩
/-- while: the slots by a parameter that a measure follows -/
theorem run_while {β : Type} {tc : TT} {tb : TS} (rs : β → List Sl) (μ : β → Nat) (I : β → Prop) (b0 : β) (h0 : SlLe ρ (rs b0)) (hI : I b0)
    (hs : ∀ b, I b → ∃ t : Bool, EvB tc (rs b) t ∧ (t = true → ∃ b', I b' ∧ μ b' < μ b ∧ Run c P { D with nx := Sta c P n (rs b') own, ct := Sta c P n (rs b') own, bk := tz D } tb n (rs b) own) ∧ (t = false → Run c P D tz n (rs b) own)) :
    Run c P D (tSeq (tWhile tc tb) tz) n ρ own := fun σ A ⟨V, h1, h2, h3, h4, h5⟩ => by
  refine ⟨fun m σ A => ∃ b, I b ∧ m = μ b ∧ Sta c P n (rs b) own σ A, ⟨_, b0, hI, rfl, V, h1, h2, h3.le h0, h4, h5⟩, ?_⟩
  rintro m σ2 A2 ⟨b, hb, rfl, V2, k1, k2, k3, k4, k5⟩
  obtain ⟨t, et, r1, r2⟩ := hs b hb
  refine et c.u σ2 V2 A2 k3 k1.sub _ fun V3 A3 f => ?_
  have s : Sta c P n (rs b) own σ2 A3 := Sta.pure k1 k2 k4 k5 f (k3.mono f.vw) fun _ _ _ => rfl
  cases t with
  | true =>
    refine iteT ?_
    obtain ⟨b', hb', hm, r⟩ := r1 rfl
    exact ⟨Sta c P n (rs b') own, fun σ' A' s' => ⟨_, hm, b', hb', rfl, s'⟩, r σ2 A3 s⟩
  | false => exact iteF (r2 rfl σ2 A3 s)
end

/-! ### a def -/
/-- the slots at the entry -/
def args (N : Nat) (ds : List PyData) : List Sl := ds.map Sl.d ++ List.replicate (N - ds.length) .no
theorem slo_args {u : Option Addr} {H : Hp} {N : List Str} : ∀ {vs : List V} {ds : List PyData}, IsL H vs ds → Slo u H (L2.start N vs) (args N.length ds) := fun {vs ds} h => by
  have hl := h.length
  refine ⟨?_, fun i d e => ?_, fun i e => ?_⟩
  · unfold L2.start args
    simp [hl]
  · unfold args at e
    unfold L2.start
    rw [List.getElem?_append] at e
    by_cases hi : i < (ds.map Sl.d).length
    · rw [if_pos hi, List.getElem?_map] at e
      obtain ⟨d', h1, h2⟩ := Option.map_eq_some_iff.mp e
      cases h2
      obtain ⟨v, h3, h4⟩ := h.get h1
      rw [List.length_map] at hi
      refine ⟨v, ?_, h4⟩
      rw [List.getElem?_append_left (by rw [List.length_map]; omega), List.getElem?_map, h3]; rfl
    · rw [if_neg hi, List.getElem?_replicate] at e
      split at e <;> cases e
  · unfold args at e
    rw [List.getElem?_append] at e
    by_cases hi : i < (ds.map Sl.d).length
    · rw [if_pos hi, List.getElem?_map] at e
      obtain ⟨d', h1, h2⟩ := Option.map_eq_some_iff.mp e
      cases h2
    · rw [if_neg hi, List.getElem?_replicate] at e
      split at e <;> cases e
/-- what the body of a def with the promise R must do -/
def BodyOk (N : Nat) (t : TS) (ds : List PyData) (d : PyData) : Prop := ∀ V0 A0 D, Ret ⟨none, V0, A0⟩ D 0 d → Run ⟨none, V0, A0⟩ V0 D t 0 (args N ds) none
theorem body_go {N : List Str} {t : TS} {ds : List PyData} {d : PyData} (h : BodyOk N.length t ds d) {V A : Hp} {vs : List L2.V} {Q : VK} {nx : L2.St → Hp → Prop} (s : Same V A) (i : IsL V vs ds) (q : ∀ v V' A', Fr none V A V' A' → Is V' v d → Q v A') :
    t { nx := nx, rt := Q } (L2.start N vs) A :=
  h V A { nx := nx, rt := Q } (fun v V' A' f _ iv => q v V' A' f iv) _ A ⟨V, Fr.refl s, Same.refl V, slo_args i, trivial, fun a e => by cases e⟩
theorem fn_data {P : Program} {w : World} {K : PySem.W.Frag} {mg : Str → Option Value} {base : Heap} {x qual : Str} {st : Stmt} {f : Addr} {fd : FuncData} {N ps : List Str} {k : Nat} (R : List PyData → PyData → Prop) (F : Fun K x qual st f fd) (S : FnScope N ps (defScope st))
    (har : ∀ ds d, R ds d → ds.length = ps.length)
    (hbody : ∀ ds d, R ds d → ∃ t, BodyOk N.length t ds d ∧ ∀ (cdv : Value) (A : Around) (outer : List PySem.Env) (s : Shared) (H : Hp) (E : XK), Room k (A.deeper (envOfC qual (defScope st) s.heap.objs.size f cdv)) →
      PSs (cxOf CX0 P w K mg base N qual (defScope st) f cdv A outer s H E).nox (defBody st) t) : FnOk P w K mg base CX0 (k + 1) f fd ps (spD R) := by
  refine F.ok S (fun vs H Q E h => ?_) (fun cdv A outer s H vs Q E hr h => ?_)
  · obtain ⟨V, ds, d, _, i, r, _⟩ := h
    rw [i.length, har ds d r]
  · obtain ⟨V, ds, d, sv, i, r, q⟩ := h
    obtain ⟨t, hb, hp⟩ := hbody ds d r
    exact ⟨t, hp cdv A outer s H E hr, body_go hb sv i q⟩
/-- a def of the text, as its callers take it -/
def Def (P : Program) (w : World) (K : PySem.W.Frag) (mg : Str → Option Value) (base : Heap) (x : Str) (k : Nat) (ps : List Str) (sp : Sp) : Prop :=
  ∃ f fd, FnOk P w K mg base CX0 k f fd ps sp ∧ mg x = some (.ref f) ∧ PySem.W.keepIn K (.ref f) = true ∧ Binds K fd ps []
section
variable {X : Cx} {k j : Nat} {ps : List Str} {sp : Sp} {x : Str} {p pos : Pos} {e : Expr} {es : List Expr} {t : TA}
theorem pe_def (F : Def X.prog X.w X.K X.mg X.base x k ps sp) (hr : Room j X.A) (hk : k ≤ j) (hg : Gl X x) (ha : PA X (e :: es) t) (hd : (x == ("__debug__" : Str)) = false := by decide)
    (hs : starEach (e :: es) X.env = (false, eval e X.env) :: starEach es X.env := by rfl) (hpl : (backTo pos (starEach es X.env)).any (·.1) = false := by rfl) : PE X (.Call (.Name x p) (e :: es) [] pos) (tCall sp [] E0 t) := by
  obtain ⟨f, fd, F1, hm, hkp, hb⟩ := F
  exact pe_call F1 (hr.mono hk) hg hm hkp hb .nil pass0 ha hd hs hpl
end
end K4

/-! ## Ed4 -/
/-! further constructs: a walk over a list or a tuple, enumerate of either, sorted(set(list)), a def without arguments -/
namespace K4
open PySem PySem.Spec PyProof.Rows L2
open AutoSeq1 (wpAny_loadPart')

/-! ### for x in a list or a tuple -/
def iSeqA (K : PySem.W.Frag) (tl : TE) : TI := fun σ H R => tl σ H fun x H1 => ∃ a, x = .ref a ∧ (((∃ xs, SqL K H1 a xs) ∧ R (Itl K a) H1) ∨ ((∃ xs, SqT K H1 a xs) ∧ R (Itt K a) H1))
theorem pi_seqA {X : Cx} {tg l : Expr} {tl : TE} (hl : PE X l tl) : PI X tg l (iSeqA X.K tl) := by
  refine ⟨fun pins s σ H R I h => ?_⟩
  refine thn (hl.run pins s σ H _ I h) fun v s1 hv => ?_
  obtain ⟨x, H1, I1, r1, a, e, q⟩ := hv
  subst e
  cases r1
  have fin : ∀ {J : It} {tn : Nat → Heap → Prop} {o : Obj}, Turn X.prog X.w X.K tg J [s1.heap.objs.size] s1.heap.objs.size tn → o.isFreed = false → tn 0 (s1.heap.push o) → R J H1 → PIE X pins σ tg R (.ref s1.heap.objs.size) { s1 with heap := s1.heap.push o } := fun {J tn o} T hf st r => by
    refine ⟨s1.heap.objs.size, [s1.heap.objs.size], _, _, H1, rfl, I1.kept (t' := s1.toks) fun b ob z => Heap.get?_push_of_some _ z, T, st, fun b hb => ?_, r⟩
    have eb : b = s1.heap.objs.size := by simpa using hb
    rw [eb]
    exact I1.fpOk (Nat.le_refl _) (I1.hok.fresh (Nat.le_refl _))
  rcases q with ⟨⟨xs, hq⟩, r⟩ | ⟨⟨xs, hq⟩, r⟩
  · obtain ⟨its, rv, p, hz⟩ := I1.list hq
    exact wpAny_pyIter_list p.isList (fin (turn_list a _) rfl ⟨_, Heap.get?_push_size _ rfl, rfl, rfl⟩ r)
  · obtain ⟨its, rv, p, hz⟩ := I1.tuple hq
    exact wpAny_pyIter_tuple (show s1.heap.IsTuple a its.toArray from p) (fin (turn_tuple a _) rfl ⟨_, Heap.get?_push_size _ rfl, rfl, rfl⟩ r)

/-! ### enumerate of a tuple -/
set_option maxHeartbeats 1000000 in
theorem enum_new1 {v : Value} {o : Obj} {G : Heap → Prop} (B : Begins v o G) :
    Meets (Builtin.«enumerate.__new__» ⟨[.type "enumerate", v], []⟩) (fun _ R s => G s.heap ∧
      R (.ok (.ret (.ref (s.heap.push o).objs.size))) { s with heap := (s.heap.push o).push { cls := .type "enumerate", data := .fields #[.none, .bool false, .ref s.heap.objs.size, rawInt 0, .none, .none] } }) :=
  .of_wp fun prog w A R s h => by
    obtain ⟨hp, gs, dr, tk, os⟩ := s
    obtain ⟨h1, h⟩ := h
    have hsub := sub_enumerate
    have it1 : ∀ {A' : Around} {E : Value → Shared → Prop} {Q : Value → Shared → Prop}, Q (.ref hp.objs.size) ⟨hp.push o, gs, dr, tk, os⟩ → wpAny (model prog w) A' (pyIter v) Q E ⟨hp, gs, dr, tk, os⟩ := fun z => B.iter prog w _ _ ⟨hp, gs, dr, tk, os⟩ _ h1 z
    wp_walk using it1
    refine wpAny_stack_any fun st => wpAny_pure ?_
    split
    · rename_i c _ _ _ _ _
      cases (c == Value.type "enumerate")
      all_goals
        wp_walk using it1
        exact ⟨_, rfl, h⟩
    · wp_walk using it1
      exact ⟨_, rfl, h⟩
section
variable {prog : Program} {w : World} {A : Around} {E : Value → Shared → Prop} {s : Shared}
theorem enum_call1 {v : Value} {o : Obj} {G : Heap → Prop} {Q : Value → Shared → Prop} (B : Begins v o G) (h1 : G s.heap)
    (h : ∀ h', IsEnum h' (s.heap.objs.size + 1) s.heap.objs.size 0 .none → h'.get? s.heap.objs.size = some o → (∀ b ob, s.heap.get? b = some ob → h'.get? b = some ob) → Q (.ref (s.heap.objs.size + 1)) { s with heap := h' }) :
    wpAny (model prog w) A (call (.type "enumerate") [v]) Q E s := by
  refine callType_new PySem.F.called_enumerate (by decide) (PySem.F.typeCall_enumerate_1 _) (PySem.F.newCall_enumerate_1 _) (fun obj => PySem.F.args_object_init_2 obj _) PySem.F.entry_enumerate_new (enum_new1 B) ⟨h1, ?_⟩
  have hz : (s.heap.push o).objs.size = s.heap.objs.size + 1 := Heap.size_push ..
  have he := Heap.get?_push_size (s.heap.push o) (o := { cls := .type "enumerate", data := .fields #[.none, .bool false, .ref s.heap.objs.size, rawInt 0, .none, .none] }) rfl
  rw [hz] at he
  show _ ∧ _
  rw [hz]
  exact ⟨⟨_, he, rfl⟩, h _ he (Heap.get?_push_of_some _ (Heap.get?_push_size _ B.free)) fun b ob z => Heap.get?_push_of_some _ (Heap.get?_push_of_some _ z)⟩
end
/-- the tuple at a, each item in a new pair -/
def IteT (K : PySem.W.Frag) (a : Addr) : It where
  go := fun i H => ∃ (xs : List V) (x : V), SqT K H a xs ∧ xs[i]? = some x
  yld := fun i H v H' => ∃ T x, v = .ref T ∧ H T = none ∧ H' = upd H T (.tup [.int (i : Nat), x]) ∧ ∀ xs, SqT K H a xs → xs[i]? = some x
  stop := fun i H => ∃ xs : List V, SqT K H a xs ∧ xs.length ≤ i
theorem turn_enumT {P : Program} {w : World} {K : PySem.W.Frag} {elts : List Expr} {kk : Nat} {tpos : Pos} (a e it : Addr) :
    Turn P w K (.Tuple elts kk tpos) (IteT K a) [e, it] e (fun i h => (∃ old, IsEnum h e it ((i : Nat) : Int) old) ∧ h.IsTupleIter it a i ∧ e ≠ it ∧ e ≠ a ∧ a ≠ it) where
  mem := by simp
  obj := fun i h st b hb => by
    obtain ⟨⟨old, he⟩, ⟨o, ho, hc, hd⟩, _⟩ := st
    rcases (show b = e ∨ b = it by simpa using hb) with z | z
    · rw [z]; exact ⟨_, he, fun v q => nomatch q⟩
    · rw [z]; exact ⟨o, ho, fun v q => by rw [hd] at q; cases q⟩
  keep := fun i h h' st k => by
    obtain ⟨⟨old, he⟩, hi, hne⟩ := st
    exact ⟨⟨old, k e (by simp) _ he⟩, hi.at fun o q => k it (by simp) o q, hne⟩
  item := by
    intro X hP hw hK hc i pins s σ H E I hf st hg
    subst hP hw hK
    obtain ⟨⟨old, he⟩, hit, hne, hea, hai⟩ := st
    obtain ⟨xs, x, hq, hx⟩ := hg
    obtain ⟨its, rv, p, hz⟩ := I.tuple hq
    obtain ⟨u, hu, ru⟩ := rv.get hx
    have hel : e < s.heap.objs.size := Heap.lt_size he
    have hil : it < s.heap.objs.size := by obtain ⟨_, q, _⟩ := hit; exact Heap.lt_size q
    have hlt : i < its.toArray.size := by
      rw [List.size_toArray]
      exact (List.getElem?_eq_some_iff.mp hu).1
    refine wpAny_pyNext_enum_itemD (Draws.tuple (A := X.A.in1) (I.ok.hd hc) it a hai its.toArray) he ⟨hit, p⟩ hlt hne (by simp [hne, hea]) fun x' h' tk hx' ho hst hT hsz hk => ?_
    have ex : x' = u := by
      have q : its.toArray[i]? = some u := by simpa using hu
      rw [hx'] at q
      exact Option.some.inj q
    subst ex
    refine ⟨_, rfl, wpAny_letOwnedTupleGo_enum (s := { s with heap := h', toks := tk + 1 }) ho fun h'' he' sb => ?_⟩
    have hT2 : h''.get? s.heap.objs.size = some { cls := .type "tuple", data := .seq #[.int i tk, x'] } := (sb.2 _ (Nat.ne_of_gt hel)).trans hT
    have new : ObjOk X.prog X.w (upd H s.heap.objs.size (.tup [.int (i : Nat), x])) h'' s.heap.objs.size (.tup [.int (i : Nat), x]) :=
      ⟨by show 2 ≤ sizeLine; decide, [.int i tk, x'], .cons ⟨_, rfl⟩ (.cons ru .nil), ⟨_, hT2, rfl, _, rfl⟩⟩
    have I1 : Inv X pins σ (upd H s.heap.objs.size (.tup [.int (i : Nat), x])) { s with heap := h'', toks := tk + 1 } :=
      I.turnedNew (ch := [e, it]) (fun b ob hb q => (sb.2 b (fun z => hb (by simp [z]))).trans (hk b ob (fun z => hb (by simp [z])) (fun z => hb (by simp [z])) q)) hf (Nat.le_refl _) new
    refine ⟨.ref s.heap.objs.size, _, I1, rfl, ⟨_, x, rfl, I.hok.fresh (Nat.le_refl _), rfl, fun ys hy => by rw [I.tuple_inj hy hq]; exact hx⟩, ⟨⟨x', ?_⟩, hst.1.at fun o q => (sb.2 it (Ne.symm hne)).trans q, hne, hea, hai⟩, fun b hb => ?_⟩
    · rw [show ((i + 1 : Nat) : Int) = (i : Int) + 1 by omega]
      exact he'
    · have hlb : b < s.heap.objs.size := by
        rcases (show b = e ∨ b = it by simpa using hb) with z | z
        · rw [z]; exact hel
        · rw [z]; exact hil
      rw [upd_ne (Nat.ne_of_lt hlb)]
      exact (hf b hb).1
  done := by
    intro X hP hw hK hc i pins s σ H E I hf st hg
    subst hP hw hK
    obtain ⟨⟨old, he⟩, hit, hne, hea, hai⟩ := st
    obtain ⟨xs, hq, hx⟩ := hg
    obtain ⟨its, rv, p, hz⟩ := I.tuple hq
    obtain ⟨f0, f1, f2, f3, f4, f5⟩ := hf it (by simp)
    have hl := rv.length
    unfold pyNext
    have hT : s.TypeIs (.ref e) "enumerate" := ⟨_, he, rfl⟩
    refine wpAny_bind (wpAny_attempt (wpAny_callSpecial?_slot (name := Str.ofString "__next__") hT PySem.F.slot_enumerate_next
      (wpAny_call_entry PySem.F.slot_enumerate_next hT PySem.F.entry_enumerate_next ?_ (PySem.F.args_enumerate_next_1 _))))
    show wpAny _ _ (field (.ref e) 2 >>= _) _ _ _
    refine wpAny_bind (wpAny_field he rfl (x := .ref it) rfl ?_)
    refine wpAny_bind (wpAny_nextOf_tuple_end (A := X.A.in1) (I.ok.hd hc) hit p (by rw [List.getElem?_toArray]; exact List.getElem?_eq_none (by omega)) fun h' x hx1 hx2 => ?_)
    obtain ⟨o, ho, hcl⟩ := hx2
    refine wpAny_bind (wpAny_isInstance (T := "StopIteration") (b := true) ⟨o, ho, hcl⟩ isSubtype_stop ?_)
    exact wpAny_pure ⟨rfl, I.turned (t' := s.toks) (fun b o' hb q => hx1 b o' hb q) f0 f1 f3 f4 f5⟩
  self := fun A i s Q E st h => let ⟨⟨_, he⟩, _⟩ := st; wpAny_pyIter_enum he h
def iEnumA (K : PySem.W.Frag) (ta : TA) : TI := fun σ H R => ta σ H fun vs H1 => ∃ a xs, vs = [.ref a] ∧ ((SqL K H1 a xs ∧ R (Ite K a) H1) ∨ (SqT K H1 a xs ∧ R (IteT K a) H1))
theorem pi_enumA {X : Cx} {e : Expr} {ta : TA} {p pos tpos : Pos} {elts : List Expr} {kk : Nat} (hg : Gl X "enumerate") (hm : X.mg "enumerate" = none) (ha : PA X [e] ta) (hs : starEach [e] X.env = [(false, eval e X.env)] := by rfl) :
    PI X (.Tuple elts kk tpos) (.Call (.Name "enumerate" p) [e] [] pos) (iEnumA X.K ta) := by
  refine ⟨fun pins s σ H R I h => ?_⟩
  refine Call_ (ld_blt I hg hm boot_enumerate (PyProof.Rows.callWith_type1 (thn (ha.run pos pins s σ H _ I h) fun us s1 hv => ?_) hs rfl))
  obtain ⟨vs, H1, I1, r1, a, xs, ex, q⟩ := hv
  subst ex
  cases r1 with
  | cons r rr =>
    cases rr
    cases r
    have fp : ∀ b ∈ [s1.heap.objs.size + 1, s1.heap.objs.size], FpOk X pins H1 b := fun b hb => by
      have hle : s1.heap.objs.size ≤ b := by
        rcases (show b = s1.heap.objs.size + 1 ∨ b = s1.heap.objs.size by simpa using hb) with z | z <;> omega
      exact I1.fpOk hle (I1.hok.fresh hle)
    rcases q with ⟨hq, r⟩ | ⟨hq, r⟩
    · obtain ⟨its, rv, p', hz⟩ := I1.list hq
      refine call_enumerate_list p'.isList fun h' he hit hsz hk => wpAny_pyIter_enum he ?_
      exact ⟨s1.heap.objs.size + 1, [s1.heap.objs.size + 1, s1.heap.objs.size], _, _, H1, rfl, I1.kept (t' := s1.toks) hk, turn_enum a (s1.heap.objs.size + 1) s1.heap.objs.size, ⟨⟨.none, he⟩, hit, Nat.succ_ne_self _⟩, fp, r⟩
    · obtain ⟨its, rv, p', hz⟩ := I1.tuple hq
      have hal : a < s1.heap.objs.size := by obtain ⟨o, ho, _⟩ := id p'; exact Heap.lt_size ho
      refine enum_call1 (begins_tuple a its.toArray) (show s1.heap.IsTuple a its.toArray from p') fun h' he hit hk => wpAny_pyIter_enum he ?_
      exact ⟨s1.heap.objs.size + 1, [s1.heap.objs.size + 1, s1.heap.objs.size], _, _, H1, rfl, I1.kept (t' := s1.toks) hk, turn_enumT a (s1.heap.objs.size + 1) s1.heap.objs.size,
        ⟨⟨.none, he⟩, ⟨_, hit, rfl, rfl⟩, Nat.succ_ne_self _, Nat.ne_of_gt (Nat.lt_succ_of_lt hal), Nat.ne_of_lt hal⟩, fp, r⟩
section
variable {K : PySem.W.Frag} {ρ : List Sl} {tl : TE} {ta : TA} {ds : List PyData}
theorem it_seqL (h : EvD tl ρ (.list ds)) : ItD (iSeqA K tl) ρ ds := fun u σ V A e s R r => by
  refine h u σ V A e s _ fun v V1 A1 f1 i1 => ?_
  cases i1 with
  | @lst a xs _ k1 k2 =>
    refine ⟨a, rfl, .inl ⟨⟨xs, SqL.of (f1.sub _ _ k1)⟩, r _ V1 A1 f1 ?_⟩⟩
    unfold Wk
    rw [← k2.length]
    refine (walk_list (K := K) (a := a) (xs := xs)).mono (fun A' hs => SqL.of (hs _ _ k1)) fun i A' x A'' hi hs y W w1 w2 => ?_
    obtain ⟨rfl, hx⟩ := y
    obtain ⟨d, h1, h2⟩ := k2.geti hx
    exact ⟨W, d, h1, Fr.refl w2, h2.mono w1⟩
theorem it_seqT (h : EvD tl ρ (.tuple ds)) : ItD (iSeqA K tl) ρ ds := fun u σ V A e s R r => by
  refine h u σ V A e s _ fun v V1 A1 f1 i1 => ?_
  cases i1 with
  | @tup a xs _ k1 k2 =>
    refine ⟨a, rfl, .inr ⟨⟨xs, SqT.of (f1.sub _ _ k1)⟩, r _ V1 A1 f1 ?_⟩⟩
    unfold Wk
    rw [← k2.length]
    refine (walk_tup (K := K) (a := a) (xs := xs)).mono (fun A' hs => SqT.of (hs _ _ k1)) fun i A' x A'' hi hs y W w1 w2 => ?_
    obtain ⟨rfl, hx⟩ := y
    obtain ⟨d, h1, h2⟩ := k2.geti hx
    exact ⟨W, d, h1, Fr.refl w2, h2.mono w1⟩
theorem it_enumL (h : EvA ta ρ [.list ds]) : ItD (iEnumA K ta) ρ (enumD ds) := fun u σ V A e s R r => by
  refine h u σ V A e s _ fun vs V1 A1 f1 i1 => ?_
  cases i1 with
  | cons j1 j2 =>
    cases j2
    cases j1 with
    | @lst a xs _ k1 k2 =>
      refine ⟨a, xs, rfl, .inl ⟨SqL.of (f1.sub _ _ k1), r _ V1 A1 f1 ?_⟩⟩
      have hl := k2.length
      refine wk_pair (d1 := fun i => .int (i : Int)) (d2 := fun i => (ds[i]?).getD .none) (walk_enum (K := K) (a := a) (xs := xs)) (fun A' hs => SqL.of (hs _ _ k1)) (fun i v hi e => ?_) (fun i v hi e => ?_) (by unfold enumD; rw [List.length_map, List.length_zipIdx, hl]) fun i hi => ?_
      · cases e
        exact .int _
      · obtain ⟨d, h1, h2⟩ := k2.geti e
        rw [h1]; exact h2
      · have hd : ds[i]? = some (ds[i]'(by omega)) := List.getElem?_eq_getElem _
        rw [enumD_get hd, hd]; rfl
theorem walk_enumT {a : Addr} {xs : List V} : Walk (IteT K a) xs.length (fun H => SqT K H a xs) (YPair (fun i => some (.int (i : Nat))) (fun i => xs[i]?)) := by
  refine ⟨fun i A hi q => ⟨xs, xs[i], q, by simp [hi]⟩, fun _ q => ⟨xs, q, Nat.le_refl _⟩, fun i A v A' _ q y => ?_⟩
  obtain ⟨T, x, h1, h2, h3, h4⟩ := y
  exact ⟨T, .int (i : Nat), x, h1, h2, h3, rfl, h4 xs q⟩
theorem it_enumT (h : EvA ta ρ [.tuple ds]) : ItD (iEnumA K ta) ρ (enumD ds) := fun u σ V A e s R r => by
  refine h u σ V A e s _ fun vs V1 A1 f1 i1 => ?_
  cases i1 with
  | cons j1 j2 =>
    cases j2
    cases j1 with
    | @tup a xs _ k1 k2 =>
      refine ⟨a, xs, rfl, .inr ⟨SqT.of (f1.sub _ _ k1), r _ V1 A1 f1 ?_⟩⟩
      have hl := k2.length
      refine wk_pair (d1 := fun i => .int (i : Int)) (d2 := fun i => (ds[i]?).getD .none) (walk_enumT (K := K) (a := a) (xs := xs)) (fun A' hs => SqT.of (hs _ _ k1)) (fun i v hi e => ?_) (fun i v hi e => ?_) (by unfold enumD; rw [List.length_map, List.length_zipIdx, hl]) fun i hi => ?_
      · cases e
        exact .int _
      · obtain ⟨d, h1, h2⟩ := k2.geti e
        rw [h1]; exact h2
      · have hd : ds[i]? = some (ds[i]'(by omega)) := List.getElem?_eq_getElem _
        rw [enumD_get hd, hd]; rfl
end

/-! ### set(xs) of a list of ints, sorted -/
section
variable {P : Program} {w : World} {A : Around} {E : Value → Shared → Prop} {s : Shared}
set_option maxHeartbeats 3200000 in
theorem set_of_ints {l : Addr} {items : Array Value} (ns : List Int) {Q : Value → Shared → Prop} (hh : A.handled = none) (hl : s.heap.IsList l items) (hit : IntsAre items.toList ns) (hb : ns.length + 1 < scanBound)
    (h : ∀ (h' : Heap) (tk c : Nat), SetR w h' s.heap.objs.size (fun j => decide (j ∈ ns)) c → c ≤ ns.length → (∀ b o, s.heap.get? b = some o → h'.get? b = some o) → Q (.ref s.heap.objs.size) { s with heap := h', toks := tk }) :
    wpAny (model P w) A (call (.type "set") [.ref l]) Q E s := by
  have hisz : items.size = ns.length := by rw [← IntsAre.length hit, Array.length_toList]
  obtain ⟨c, tl, hmro⟩ := PySem.F.called_set.mro
  have hmade := PySem.F.called_set.made
  have hsub := PySem.F.called_set.sub
  refine wpAny_call (codeAny_of_tree ?_)
  show wpAny _ _ (callAny (.type "set") _) _ _ _
  refine wpAny_pure ⟨Code.quiet_builtin _ (by decide +kernel), codeAny_builtin PySem.F.entry_type_call ?_⟩
  rw [Around.under_plain (weight_type_call_type "set" [.ref l] []) rfl]
  have t1 := PySem.F.called_set.notType
  have t2 := PySem.F.called_set.canCreate
  have t3 := PySem.F.typeCall_set_1 (.ref l)
  repeat (any_goals (first | assumption | wp_step))
  refine codeAny_mono (code_set_led1 (.ref l) (E := E) (Q₁ := fun obj s₁ => obj = .ref s.heap.objs.size ∧ s₁ = { s with heap := s.heap.push { cls := .type "set", dict := none, data := .set #[] 0 (.fresh 0 0 (!w.params.followText "set-order")) } }) ⟨rfl, rfl⟩) fun r s₁ hr => ?_
  cases r with
  | error e => exact hr
  | ok fl =>
    cases fl with
    | ret obj =>
      obtain ⟨rfl, rfl⟩ := hr
      have hS : (s.heap.push { cls := .type "set", dict := none, data := .set #[] 0 (.fresh 0 0 (!w.params.followText "set-order")) }).get? s.heap.objs.size = some { cls := .type "set", dict := none, data := .set #[] 0 (.fresh 0 0 (!w.params.followText "set-order")) } := Heap.get?_push_size _ rfl
      have hT : Shared.TypeIs { s with heap := s.heap.push { cls := .type "set", dict := none, data := .set #[] 0 (.fresh 0 0 (!w.params.followText "set-order")) } } (.ref s.heap.objs.size) "set" := ⟨_, hS, rfl⟩
      have hli := PySem.F.called_set.init.lookup
      have hbi := PySem.F.called_set.init.bind (.ref s.heap.objs.size)
      repeat (any_goals (first | assumption | wp_step))
      refine codeAny_mono (codeAny_call_builtin (R := wants (fun r s₂ => r = .none ∧ ∃ h' tk c, s₂ = { s with heap := h', toks := tk } ∧ SetR w h' s.heap.objs.size (fun j => decide (j ∈ ns)) c ∧ c ≤ ns.length ∧
          (∀ b o, s.heap.get? b = some o → h'.get? b = some o)) E) PySem.F.called_set.init.plain PySem.F.entry_set_init (check_set_init_1 hT ?_)) fun r₂ s₂ hr₂ => ?_
      · obtain ⟨⟨ocls, odict, odata, oslots⟩, hol, hcl, nl, hdl⟩ := hl
        simp only at hcl hdl
        subst hcl
        subst hdl
        have hol' : (s.heap.push { cls := .type "set", dict := none, data := .set #[] 0 (.fresh 0 0 (!w.params.followText "set-order")) }).get? l = some { cls := .type "list", dict := odict, data := .seq items nl, slots := oslots } := Heap.get?_push_of_some _ hol
        have hsls := PySem.F.sub_list_set
        have hslf := PySem.F.sub_list_frozenset
        have hne : (Value.type "list" == Value.type "dict") = false := by decide
        have hl1 : (s.heap.push { cls := .type "set", dict := none, data := .set #[] 0 (.fresh 0 0 (!w.params.followText "set-order")) }).IsList l items := ⟨_, hol', rfl, nl, rfl⟩
        unfold Builtin.«set.__init__» noKeywords Builtin.Frozenset.updateFrom
        generalize hPI : pyIter = PI
        wp_walk
        subst hPI
        refine wpAny_pyIter_list hl1 ?_
        refine wpAny_bind (wpAny_runValue ?_)
        have hlS : l < s.heap.objs.size := Heap.lt_size hol
        have hz1 : (s.heap.push { cls := .type "set", dict := none, data := .set #[] 0 (.fresh 0 0 (!w.params.followText "set-order")) }).objs.size = s.heap.objs.size + 1 := Heap.size_push ..
        have hneI : l ≠ (s.heap.push { cls := .type "set", dict := none, data := .set #[] 0 (.fresh 0 0 (!w.params.followText "set-order")) }).objs.size := by rw [hz1]; exact Nat.ne_of_lt (Nat.lt_succ_of_lt hlS)
        have hSf : s.heap.objs.size ∉ [(s.heap.push { cls := .type "set", dict := none, data := .set #[] 0 (.fresh 0 0 (!w.params.followText "set-order")) }).objs.size, l] := by
          rw [hz1]
          simp only [List.mem_cons, List.not_mem_nil, or_false, not_or]
          exact ⟨Nat.ne_of_lt (Nat.lt_succ_self _), Nat.ne_of_gt hlS⟩
        have hval : ∀ (i : Nat) (v : Value), items[i]? = some v → ∃ k t, ns[i]? = some k ∧ v = .int k t := fun i v hv => by
          have hi : i < ns.length := by rw [← hisz]; exact (Array.getElem?_eq_some_iff.mp hv).1
          obtain ⟨t, e⟩ := PyProof.Rows.IntsAre.int_at hit i v (by rw [Array.getElem?_toList]; exact hv)
          refine ⟨ns[i], t, List.getElem?_eq_getElem hi, ?_⟩
          rw [e, List.getD_eq_getElem?_getD, List.getElem?_eq_getElem hi] <;> rfl
        refine set_update_ints ((Walks.list (A := A.in1.in1.in1) (by simp [hh]) _ l hneI items).toS) s.heap.objs.size hSf ns hisz hb hval (items.size - 0) 0 _ (by omega) (Nat.zero_le _)
          ⟨⟨_, Heap.get?_push_size _ rfl, rfl, rfl⟩, (hl1.push _)⟩ ⟨0, Nat.le_refl 0, setR_new_at (Heap.get?_push_of_some _ hS)⟩ fun s' c' hm hc' hS' => ?_
        obtain ⟨h', g2, d', tk', os'⟩ := s'
        have eg : g2 = s.gens := hm.gens
        have ed : d' = s.drawn := hm.drawn
        have eo : os' = s.os := hm.os
        subst eg; subst ed; subst eo
        show wpAny _ _ _ _ _ _
        refine wpAny_pure ?_
        show wpAny _ _ (ret Value.none) _ _ _
        rw [hisz] at hc'
        refine wpAny_pure ⟨rfl, h', tk', c', rfl, hS', hc', fun b o e => ?_⟩
        have hb0 : b < s.heap.objs.size := Heap.lt_size e
        refine hm.heap b o ?_ (Heap.get?_push_of_some _ (Heap.get?_push_of_some _ e))
        rw [hz1]
        simp only [List.mem_cons, List.not_mem_nil, or_false, not_or]
        exact ⟨Nat.ne_of_lt hb0, Nat.ne_of_lt (Nat.lt_succ_of_lt hb0)⟩
      · cases r₂ with
        | error e => exact hr₂
        | ok fl₂ =>
          cases fl₂ with
          | ret r =>
            obtain ⟨rfl, h', tk, c', rfl, hS', hc', hk'⟩ := hr₂
            repeat (any_goals (first | assumption | wp_step))
            exact h _ _ _ hS' hc' hk'
          | _ => exact hr₂.elim
    | _ => exact hr.elim
end
def rSetOfI (K : PySem.W.Frag) (w : World) : List V → Hp → VK → Prop := fun vs H Q => ∃ (l : Addr) (ns : List Int), vs = [.ref l] ∧ SqL K H l (ns.map V.int) ∧ ns.length < 60 ∧
  ∀ p c, H p = none → c ≤ ns.length → Q (.ref p) (upd H p (SetO w p (fun j => decide (j ∈ ns)) c))
theorem cr_setOfI {X : Cx} (hc : X.calm = true) : CallR X (.type "set") (rSetOfI X.K X.w) := by
  intro pins s σ H vs us Q I r h
  obtain ⟨l, ns, rfl, hl, hz, q⟩ := h
  obtain ⟨u, rfl, ru⟩ := vals1 r
  cases ru
  obtain ⟨its, rv, p, _⟩ := I.list hl
  refine set_of_ints ns (I.ok.hd hc) p.isList (by simpa using intsAre_of rv) (by unfold scanBound; omega) fun h' tk c hS hle hk => ?_
  refine ⟨.ref _, upd H s.heap.objs.size (SetO X.w s.heap.objs.size (fun j => decide (j ∈ ns)) c), I.laid (t' := tk) hk (Nat.le_refl _) (setO_new hS), rfl, q _ c (I.hok.fresh (Nat.le_refl _)) hle⟩
/-- sorted(set(xs)) -/
theorem ed_sortedSet {K : PySem.W.Frag} {w : World} {ρ : List Sl} {te : TE} {ns ms : List Int} (h : EvD te ρ (.list (ns.map PyData.int))) (hz : ns.length < 60) (hp : ms.Pairwise (· < ·)) (hm : ∀ k : Int, k ∈ ms ↔ k ∈ ns) :
    EvD (tCB (rSortedSet w) (tCons (tCB (rSetOfI K w) (tCons te tNil)) tNil)) ρ (.list (ms.map PyData.int)) := fun u σ V A e s Q q =>
  h u σ V A e s _ fun v V1 A1 f1 i1 => by
    cases i1 with
    | @lst a xs _ k1 k2 =>
      have ex := k2.ints
      subst ex
      refine ⟨a, ns, rfl, SqL.of (f1.sub _ _ k1), hz, fun p c hp1 hc => ⟨p, _, c, rfl, upd_same, by omega, fun ms' l hs hk hl hl2 => ?_⟩⟩
      have em : ms' = ms := by
        have hn : ∀ {xs : List Int}, xs.Pairwise (· < ·) → xs.Nodup := fun h => h.imp fun h => Int.ne_of_lt h
        have hpm : ms'.Perm ms := (List.perm_ext_iff_of_nodup (hn hs) (hn hp)).mpr fun k => by rw [hk k, hm k, decide_eq_true_eq]
        exact hpm.eq_of_pairwise (le := (· < ·)) (fun a b _ _ h1 h2 => by omega) hs hp
      subst em
      have f2 : Fr none V1 A1 V1 (upd A1 p (SetO w p (fun j => decide (j ∈ ns)) c)) := Fr.hid f1.sub hp1
      exact q _ _ _ ((f1.trans f2).trans (Fr.alloc f2.sub hl2)) (.lst upd_same (isL_ints _))

section
variable {X : Cx} {k j : Nat} {ps : List Str} {sp : Sp} {x : Str} {p pos : Pos}
theorem pe_def0 (F : Def X.prog X.w X.K X.mg X.base x k ps sp) (hr : Room j X.A) (hk : k ≤ j) (hg : Gl X x) (hd : (x == ("__debug__" : Str)) = false := by decide) : PE X (.Call (.Name x p) [] [] pos) (tCall sp [] E0 tNil) := by
  obtain ⟨f, fd, F1, hm, hkp, hb⟩ := F
  exact pe_call0 F1 (hr.mono hk) hg hm hkp hb .nil pass0 hd
end
end K4

/-! ## Ed5 -/
/-! sorted of alike tuples -/
namespace K4
open PySem PySem.Spec PyProof.Rows L2
abbrev leD (a b : PyData) : Prop := PySem.W.dataLt b a = false
def rSortedTr (K : PySem.W.Frag) : List V → Hp → VK → Prop := fun vs H Q => ∃ (a : Addr) (xs : List V) (ds : List PyData), vs = [.ref a] ∧ SqL K H a xs ∧ DpAll K H xs ds ∧ PySem.W.AllAlike ds ∧ (∀ d ∈ ds, ∃ x r, d = .tuple (x :: r)) ∧ (∀ d ∈ ds, d.depth ≤ 8) ∧
  ∀ (zs : List (V × PyData)) (p : Addr), zs.Perm (xs.zip ds) → zs.Pairwise (fun a b => leD a.2 b.2) → H p = none → Q (.ref p) (upd H p (.lst (zs.map Prod.fst)))
theorem dp_len {K : PySem.W.Frag} {H : Hp} : ∀ {xs : List V} {ds : List PyData}, DpAll K H xs ds → xs.length = ds.length
  | _, _, .nil => rfl
  | _, _, .cons _ h => by rw [List.length_cons, List.length_cons, dp_len h]
theorem zip_snd {α β : Type} : ∀ {xs : List α} {ys : List β}, xs.length = ys.length → (xs.zip ys).map Prod.snd = ys
  | [], [], _ => rfl
  | x :: xs, y :: ys, h => by rw [List.zip_cons_cons, List.map_cons, zip_snd (by simpa using h)]
  | [], _ :: _, h => by simp at h
  | _ :: _, [], h => by simp at h
theorem each_zip {X : Cx} {pins : List (Addr × Obj)} {σ : L2.St} {H : Hp} {s : Shared} (I : Inv X pins σ H s) : ∀ {xs : List V} {ds : List PyData} {us : List Value}, DpAll X.K H xs ds → Vals xs us →
    PySem.W.EachIs (fun (u : Value) (b : V × PyData) => RelV b.1 u) us (xs.zip ds) ∧ PySem.W.EachIs (fun (u : Value) (b : V × PyData) => ∃ as, Reads s.heap u b.2 as) us (xs.zip ds)
  | _, _, _, .nil, .nil => ⟨.nil, .nil⟩
  | _, _, _, .cons d t, .cons r rs => by
    obtain ⟨h1, h2⟩ := each_zip I t rs
    exact ⟨.cons r h1, .cons (Dp.reads I _ _ _ d r) h2⟩
theorem vals_each : ∀ {us : List Value} {bs : List (V × PyData)}, PySem.W.EachIs (fun (u : Value) (b : V × PyData) => RelV b.1 u) us bs → Vals (bs.map Prod.fst) us
  | _, _, .nil => .nil
  | _, _, .cons r h => .cons r (vals_each h)
theorem cr_sortedTr {X : Cx} (hu : X.A.units + 64 < cLine) : CallR X (.builtin "sorted") (rSortedTr X.K) := by
  intro pins s σ H vs us Q I r h
  obtain ⟨a, xs, ds, rfl, hs, hd, hal, hk, hdep, q⟩ := h
  obtain ⟨its, rv, hl, hz⟩ := I.list hs
  rw [Vals.ref1 r]
  obtain ⟨e, er⟩ := each_zip I hd rv
  have es : (xs.zip ds).map Prod.snd = ds := zip_snd (dp_len hd)
  have hlz : (xs.zip ds).length = xs.length := by rw [List.length_zip, dp_len hd, Nat.min_self]
  refine PySem.W.sorted_data (bs := xs.zip ds) (enc := Prod.snd) (R := fun (u : Value) (b : V × PyData) => RelV b.1 u) hl.isList e er (by rw [es]; exact hal) (by rw [es]; exact .inl hk) (by rw [hlz]; exact hz) (fun b hb => ?_) fun out ho1 ho2 => ?_
  · have : b.2 ∈ ds := by rw [← es]; exact List.mem_map_of_mem hb
    have := hdep _ this
    omega
  · obtain ⟨ep, he'⟩ := PyProof.Rows.sortedAll_at s.heap its out.toArray
    have vo := vals_each ho2
    have hp := List.mergeSort_perm (xs.zip ds) (PySem.W.dataLe false (Prod.snd : V × PyData → PyData))
    have hw := PySem.W.sort_pairwise (PySem.W.sortLe_total (PyProof.Rows.listOrd PyProof.Rows.itemOrd) false fun b : V × PyData => PySem.W.keyToks b.2) (xs.zip ds)
    refine ⟨.ref _, upd H (s.heap.objs.size + 1) (.lst _), I.laid (t' := s.toks) (fun _ _ => PyProof.Rows.sortedAll_old) (Nat.le_succ _) ⟨?_, out, ep, vo, he'⟩, rfl, q _ _ hp (hw.imp fun {a b} h => ?_) (I.hok.fresh (Nat.le_succ _))⟩
    · rw [List.length_map, hp.length_eq, hlz]; exact hz
    · have h' : (!PySem.W.dataLt b.2 a.2) = true := h
      rwa [Bool.not_eq_true'] at h'
theorem zip_isL {H : Hp} : ∀ {xs : List V} {ds : List PyData}, IsL H xs ds → ∀ b ∈ xs.zip ds, Is H b.1 b.2
  | _, _, .nil, b, h => by simp at h
  | _, _, .cons h t, b, hb => by
    rw [List.zip_cons_cons] at hb
    rcases List.mem_cons.mp hb with e | hb
    · rw [e]; exact h
    · exact zip_isL t b hb
theorem isL_zip {H : Hp} : ∀ {zs : List (V × PyData)}, (∀ b ∈ zs, Is H b.1 b.2) → IsL H (zs.map Prod.fst) (zs.map Prod.snd)
  | [], _ => .nil
  | z :: zs, h => .cons (h z (by simp)) (isL_zip fun b hb => h b (List.mem_cons_of_mem _ hb))
/-- ms: the strictly sorted row of the same items -/
theorem ed_sortedTr {K : PySem.W.Frag} {ρ : List Sl} {te : TE} {ds ms : List PyData} (h : EvD te ρ (.list ds)) (hal : PySem.W.AllAlike ds) (hk : ∀ d ∈ ds, ∃ x r, d = .tuple (x :: r)) (hdep : ∀ d ∈ ds, d.depth ≤ 8) (hp : ms.Perm ds) (hs : ms.Pairwise fun a b => PySem.W.dataLt a b = true) :
    EvD (tCB (rSortedTr K) (tCons te tNil)) ρ (.list ms) := fun u σ V A e s Q q =>
  h u σ V A e s _ fun v V1 A1 f1 i1 => by
    cases i1 with
    | @lst a xs _ k1 k2 =>
      refine ⟨a, xs, ds, rfl, SqL.of (f1.sub _ _ k1), (k2.mono f1.sub).dp, hal, hk, hdep, fun zs p hz hw hn => ?_⟩
      have es : (xs.zip ds).map Prod.snd = ds := zip_snd k2.length
      have ez : zs.map Prod.snd = ms := by
        have h1 : (zs.map Prod.snd).Perm ms := by
          have := hz.map Prod.snd
          rw [es] at this
          exact this.trans hp.symm
        have asy : ∀ a b : PyData, PySem.W.dataLt a b = true → PySem.W.dataLt b a = false := fun a b h => PyProof.Rows.KeyOrd.klt_asymm (O := PyProof.Rows.listOrd PyProof.Rows.itemOrd) h
        have hw2 : (zs.map Prod.snd).Pairwise leD := List.pairwise_map.mpr hw
        have hs2 : ms.Pairwise leD := hs.imp fun {a b} h => asy a b h
        have key : ∀ {l : List PyData}, l.Pairwise (fun a b => PySem.W.dataLt a b = true) → ∀ a ∈ l, ∀ b ∈ l, leD a b → leD b a → a = b := by
          intro l hl
          induction l with
          | nil => intro a ha; cases ha
          | cons y ys ih =>
            obtain ⟨g1, g2⟩ := List.pairwise_cons.mp hl
            intro a ha b hb h1 h2
            rcases List.mem_cons.mp ha with ea | ha'
            · rcases List.mem_cons.mp hb with eb | hb'
              · rw [ea, eb]
              · have := g1 b hb'
                rw [← ea, show PySem.W.dataLt a b = false from h2] at this; cases this
            · rcases List.mem_cons.mp hb with eb | hb'
              · have := g1 a ha'
                rw [← eb, show PySem.W.dataLt b a = false from h1] at this; cases this
              · exact ih g2 a ha' b hb' h1 h2
        exact h1.eq_of_pairwise (le := leD) (fun a b ha hb h3 h4 => key hs a (h1.mem_iff.mp ha) b hb h3 h4) hw2 hs2
      have il : IsL V1 (zs.map Prod.fst) ms := by
        rw [← ez]
        exact isL_zip fun b hb => zip_isL k2 b (hz.mem_iff.mp hb)
      exact q _ _ _ (f1.trans (Fr.alloc f1.sub hn)) (.lst upd_same (il.mono (same_new (none_of f1.sub hn))))
end K4

/-! ## Spec -/
/-! what each def computes: data, mirrors, promises -/
namespace K4
open PySem PySem.Spec PyProof.Rows L2

/-! ### data -/
/-- share, least, most -/
structure Rule where
  s : Int
  l : Int
  m : Option Int
def encO : Option Int → PyData
  | none => .none
  | some i => .int i
def encR (r : Rule) : PyData := .tuple [.int r.s, .int r.l, encO r.m]
def encRs (rs : List Rule) : PyData := .tuple (rs.map encR)
def encRL (r : Rule) : PyData := .list [.int r.s, .int r.l, encO r.m]
def encRsL (rs : List Rule) : PyData := .list (rs.map encRL)
def encQ (q : Rat) : PyData := .tuple [.int q.num, .int (q.den : Int)]
def intD (ns : List Int) : List PyData := ns.map PyData.int
def qs (l : List Rat) : List PyData := l.map encQ
/-- what holds of the rules that come up -/
structure RsOk (rs : List Rule) : Prop where
  pos : 1 ≤ rs.length
  len : rs.length ≤ 5
  each : ∀ r ∈ rs, 1 ≤ r.s ∧ r.s ≤ 5 ∧ 0 ≤ r.l ∧ r.l ≤ 9 ∧ ∀ m, r.m = some m → r.l ≤ m ∧ m ≤ 21
  free : ∃ r ∈ rs, r.m = none
  sum : (rs.map (·.l)).sum ≤ 36

/-! ### the program, over whole numbers -/
def lcmI (a b : Int) : Int := ((Nat.lcm a.natAbs b.natAbs : Nat) : Int)
def lcmL (ns : List Int) : Int := ns.foldl lcmI 1
def whole (rs : List Rule) : Int := lcmL (rs.map (·.s))
def wouldBe1 (W at_ : Int) (r : Rule) : Int := match r.m with
  | none => max (at_ * r.s) (r.l * W)
  | some m => min (max (at_ * r.s) (r.l * W)) (m * W)
def wouldBe (rs : List Rule) (at_ : Int) : List Int := rs.map (wouldBe1 (whole rs) at_)
def turn1 (W : Int) (r : Rule) : List Int := (r.l * W / r.s) :: (match r.m with | none => [] | some m => [m * W / r.s])
def turnsRaw (rs : List Rule) : List Int := 0 :: (rs.map (turn1 (whole rs))).flatten
def insI (x : Int) : List Int → List Int
  | [] => [x]
  | y :: ys => if x < y then x :: y :: ys else if x = y then y :: ys else y :: insI x ys
/-- ascending, each once -/
def ascI (xs : List Int) : List Int := xs.foldr insI []
def turnsOf (rs : List Rule) : List Int := ascI (turnsRaw rs)
def grows (W at_ : Int) (r : Rule) : Bool := decide (r.l * W ≤ at_ * r.s) && (match r.m with | none => true | some m => decide (at_ * r.s < m * W))
def growing (rs : List Rule) (at_ : Int) : List Int := ((rs.zipIdx).filter fun p => grows (whole rs) at_ p.1).map fun p => (p.2 : Int)
def stretchL (rs : List Rule) (goal : Int) : List Int := (turnsOf rs).filter fun at_ => decide ((wouldBe rs at_).sum ≤ goal)
def stretchAt (rs : List Rule) (goal : Int) : Int := (stretchL rs goal).getLast?.getD 0
def leastsOf (rs : List Rule) : Int := (rs.map (·.l)).sum
def shareAt (rs : List Rule) (p : Int) : Int := (rs[p.toNat]?.map (·.s)).getD 0
def givenAll (rs : List Rule) (width : Int) : List Rat :=
  if width < leastsOf rs then rs.map fun r => Rat.divInt (width * r.l) (leastsOf rs)
  else
    let at_ := stretchAt rs (width * whole rs)
    let more := growing rs at_
    let left := width * whole rs - (wouldBe rs at_).sum
    let shares := (more.map (shareAt rs)).sum
    ((wouldBe rs at_).zipIdx).map fun p => if more.contains (p.2 : Int) = true then Rat.divInt (p.1 * shares + left * shareAt rs (p.2 : Int)) (shares * whole rs) else Rat.divInt p.1 (whole rs)
def partsOf (cols : List (List Rat)) : Int := lcmL (cols.map fun col => lcmL (col.map fun q => (q.den : Int)))
def rowOf (parts : Int) (cols : List (List Rat)) (p : Nat) : List Int := cols.map fun col => ((col[p]?).getD 0).num * (parts / (((col[p]?).getD 0).den : Int))
/-- the LAYOUT of EXACT widths -/
def layoutD (cols : List (List Rat)) (panes : Nat) : PyData := .tuple [.int (partsOf cols), .tuple ((List.range panes).map fun p => .tuple (intD (rowOf (partsOf cols) cols p)))]
def widths (last : Int) : List Int := (List.range (last + 1).toNat).map fun i : Nat => (i : Int)
def ruleLayout (rs : List Rule) (last : Int) : PyData := layoutD ((widths last).map (givenAll rs)) rs.length
def freeAt (rs : List Rule) (width : Int) : List Int :=
  if width < leastsOf rs then ((rs.zipIdx).filter fun p => decide (0 < p.1.l)).map fun p => (p.2 : Int) else growing rs (stretchAt rs (width * whole rs))
/-- a stop: where, the pane, least or most -/
structure Stop (α : Type) where
  at_ : α
  pane : Int
  big : Bool
def wordOf (b : Bool) : Str := if b = true then Str.ofString "most" else Str.ofString "least"
def encT (x : Stop Int) : PyData := .tuple [.int x.at_, .int x.pane, .str (wordOf x.big)]
def encTQ (x : Stop Rat) : PyData := .tuple [encQ x.at_, .int x.pane, .str (wordOf x.big)]
def stop1 (rs : List Rule) (p : Rule × Nat) : List (Stop Int) :=
  (if p.1.m = some p.1.l then [] else [⟨(wouldBe rs (p.1.l * whole rs / p.1.s)).sum, (p.2 : Int), false⟩]) ++
  (match p.1.m with | none => [] | some m => [⟨(wouldBe rs (if p.1.m = some p.1.l then 0 else m * whole rs / p.1.s)).sum, (p.2 : Int), true⟩])
def stopsRaw (rs : List Rule) : List (Stop Int) := ((rs.zipIdx).map (stop1 rs)).flatten
def ltS {α : Type} (lt : α → α → Bool) (x y : Stop α) : Bool := lt x.at_ y.at_ || (!lt y.at_ x.at_ && (decide (x.pane < y.pane) || (decide (x.pane = y.pane) && (!x.big && y.big))))
def insS {α : Type} (lt : α → α → Bool) (x : Stop α) : List (Stop α) → List (Stop α)
  | [] => [x]
  | y :: ys => if ltS lt y x = true then y :: insS lt x ys else x :: y :: ys
def sortS {α : Type} (lt : α → α → Bool) (xs : List (Stop α)) : List (Stop α) := xs.foldr (insS lt) []
def ltI (a b : Int) : Bool := decide (a < b)
def ltQ (a b : Rat) : Bool := decide (a < b)
def stopsP (rs : List Rule) (last : Int) : List (Stop Rat) := ((sortS ltI (stopsRaw rs)).filter fun x => decide (x.at_ ≤ last * whole rs)).map fun x => ⟨Rat.divInt x.at_ (whole rs), x.pane, x.big⟩
def turnRows (last : Int) : Int → List Int → List (List Int)
  | ahead, [] => [(widths last).map fun w => max (w - ahead) 0]
  | ahead, m :: ms => ((widths last).map fun w => min (max (w - ahead) 0) m) :: turnRows last (ahead + m) ms
def byTurns (mosts : List Int) (last : Int) : PyData := .tuple [.int 1, .tuple ((turnRows last 0 mosts).map fun r => .tuple (intD r))]

/-! ### kinds -/
mutual
/-- a tuple in the place of each list -/
def tupD : PyData → PyData
  | .list xs => .tuple (tupAll xs)
  | .tuple xs => .tuple (tupAll xs)
  | .none => .none | .bool b => .bool b | .int i => .int i | .str x => .str x | .dict k => .dict k
def tupAll : List PyData → List PyData
  | [] => []
  | x :: xs => tupD x :: tupAll xs
end
mutual
def lstD : PyData → PyData
  | .list xs => .list (lstAll xs)
  | .tuple xs => .list (lstAll xs)
  | .none => .none | .bool b => .bool b | .int i => .int i | .str x => .str x | .dict k => .dict k
def lstAll : List PyData → List PyData
  | [] => []
  | x :: xs => lstD x :: lstAll xs
end
mutual
def dep : PyData → Nat
  | .list xs => depAll xs + 1
  | .tuple xs => depAll xs + 1
  | .none => 0 | .bool _ => 0 | .int _ => 0 | .str _ => 0 | .dict _ => 0
def depAll : List PyData → Nat
  | [] => 0
  | x :: xs => max (dep x) (depAll xs)
end
mutual
/-- lists and tuples not too long, == told by shape -/
def wide : PyData → Bool
  | .list xs => decide (xs.length ≤ 50000) && wideAll xs
  | .tuple xs => decide (xs.length ≤ 50000) && wideAll xs
  | .none => true | .bool _ => true | .int _ => true | .str x => PyData.strOk x | .dict _ => false
def wideAll : List PyData → Bool
  | [] => true
  | x :: xs => wide x && wideAll xs
end
def isNumD (d : PyData) : Bool := isIntD d && !isBoolD d
def intOf : PyData → Int
  | .int i => i
  | .bool b => if b = true then 1 else 0
  | _ => 0
def itemsOf : PyData → List PyData
  | .tuple xs => xs
  | .list xs => xs
  | _ => []
def isTupOf (d : PyData) (n : Int) : Bool := isTupD d && decide (((itemsOf d).length : Int) = n)
def isRuleD (d : PyData) : Bool := match d with
  | .tuple [a, b, c] => isNumD a && isNumD b && (decide (1 ≤ intOf a) && decide (0 ≤ intOf b)) && (isNone c || (isNumD c && decide (intOf b ≤ intOf c)))
  | _ => false
def noneThird (d : PyData) : Bool := match d with
  | .tuple [_, _, c] => isNone c
  | _ => false
def isRulesD (d : PyData) : Bool := match d with
  | .tuple xs => xs.all isRuleD && xs.any noneThird
  | _ => false

/-! ### the law, over fractions -/
def wideQ1 (t : Rat) (r : Rule) : Rat :=
  let own := t * (r.s : Rat)
  let own := if own < (r.l : Rat) then (r.l : Rat) else own
  match r.m with
  | none => own
  | some m => if (m : Rat) < own then (m : Rat) else own
def wideQ (rs : List Rule) (t : Rat) : List Rat := rs.map (wideQ1 t)
def sumQ (l : List Rat) : Rat := l.foldl (· + ·) 0
def insQ (l : List Rat) (x : Rat) : List Rat :=
  let k := (l.filter fun y => decide (y < x)).length
  if (l.drop k).take 1 = [x] then l else l.take k ++ [x] ++ l.drop k
def ordQ (l : List Rat) : List Rat := l.foldl insQ []
def turnQ1 (r : Rule) : List Rat := Rat.divInt r.l r.s :: (match r.m with | none => [] | some m => [Rat.divInt m r.s])
def turnsQ (rs : List Rule) : List Rat := ordQ (0 :: (rs.map turnQ1).flatten)
def lastTurnL (rs : List Rule) (width : Int) : List Rat := (turnsQ rs).filter fun t => !decide ((width : Rat) < sumQ (wideQ rs t))
def lastTurn (rs : List Rule) (width : Int) : Rat := (lastTurnL rs width).getLast?.getD 0
def growsQ (t : Rat) (r : Rule) : Bool := !decide (t * (r.s : Rat) < (r.l : Rat)) && (match r.m with | none => true | some m => decide (t * (r.s : Rat) < (m : Rat)))
def moreQ (rs : List Rule) (t : Rat) : List Int := ((rs.zipIdx).filter fun p => growsQ t p.1).map fun p => (p.2 : Int)
def paceQ (rs : List Rule) (t : Rat) : Int := ((moreQ rs t).map (shareAt rs)).sum
def reachQ (rs : List Rule) (width : Int) : Rat := lastTurn rs width + ((width : Rat) - sumQ (wideQ rs (lastTurn rs width))) / (paceQ rs (lastTurn rs width) : Rat)
def exactQ (rs : List Rule) (width : Int) : List Rat :=
  if width < leastsOf rs then rs.map fun r => Rat.divInt (width * r.l) (leastsOf rs) else wideQ rs (reachQ rs width)
def freeQ (rs : List Rule) (width : Int) : List Int :=
  if width < leastsOf rs then ((rs.zipIdx).filter fun p => decide (0 < p.1.l)).map fun p => (p.2 : Int) else moreQ rs (lastTurn rs width)
def stopQ1 (rs : List Rule) (p : Rule × Nat) : List (Stop Rat) :=
  (if p.1.m = some p.1.l then [] else [⟨sumQ (wideQ rs (Rat.divInt p.1.l p.1.s)), (p.2 : Int), false⟩]) ++
  (match p.1.m with | none => [] | some m => [⟨sumQ (wideQ rs (if p.1.m = some p.1.l then 0 else Rat.divInt m p.1.s)), (p.2 : Int), true⟩])
def stopsRawQ (rs : List Rule) : List (Stop Rat) := ((rs.zipIdx).map (stopQ1 rs)).flatten
def stopRow (found : List (Stop Rat)) (last : Int) (t : Rat) : List (Stop Rat) := if (last : Rat) < t then [] else sortS ltQ (found.filter fun x => decide (x.at_ = t))
def stopsQ (rs : List Rule) (last : Int) : List (Stop Rat) := ((ordQ ((stopsRawQ rs).map (·.at_))).map (stopRow (stopsRawQ rs) last)).flatten

/-! ### promises -/
abbrev Rel := List PyData → PyData → Prop
def R_p_is_number : Rel := fun ds d => ∃ x, ds = [x] ∧ d = .bool (isNumD x)
def R_tuple_of (n : Nat) : Rel := fun ds d => ∃ x, ds = [x] ∧ dep x ≤ n ∧ wide x = true ∧ d = tupD x
def R_lists (n : Nat) : Rel := fun ds d => ∃ x, ds = [x] ∧ dep x ≤ n ∧ wide x = true ∧ d = lstD x
def R_same (n : Nat) : Rel := fun ds d => ∃ x, ds = [x, x] ∧ dep x ≤ n ∧ wide x = true ∧ d = .bool true
def R_p_tuple_of (n : Nat) : Rel := R_tuple_of n
def R_l_lists (n : Nat) : Rel := R_lists n
def R_l_same (n : Nat) : Rel := R_same n
def R_p_is_tuple_of : Rel := fun ds d => ∃ x n, ds = [x, .int n] ∧ d = .bool (isTupOf x n)
def R_p_is_rule : Rel := fun ds d => ∃ x, ds = [x] ∧ d = .bool (isRuleD x)
def R_p_is_rules : Rel := fun ds d => ∃ x, ds = [x] ∧ (itemsOf x).length ≤ 100 ∧ d = .bool (isRulesD x)
def R_p_in_lowest : Rel := fun ds d => ∃ t b : Int, ds = [.int t, .int b] ∧ 0 < b ∧ b < 1073741824 ∧ d = encQ (Rat.divInt t b)
def R_p_least_common : Rel := fun ds d => ∃ ns : List Int, ds = [.list (intD ns)] ∧ ns.length ≤ 1000 ∧ (∃ M : Nat, 0 < M ∧ M < 2 ^ 64 ∧ ∀ n ∈ ns, 0 < n ∧ n.natAbs ∣ M) ∧ d = .int (lcmL ns)
def R_p_common_share : Rel := fun ds d => ∃ rs, ds = [encRs rs] ∧ RsOk rs ∧ d = .int (whole rs)
def R_p_would_be : Rel := fun ds d => ∃ rs, ∃ t : Int, ds = [encRs rs, .int t] ∧ RsOk rs ∧ d = .list (intD (wouldBe rs t))
def R_p_turns_of : Rel := fun ds d => ∃ rs, ds = [encRs rs] ∧ RsOk rs ∧ d = .list (intD (turnsOf rs))
def R_p_growing : Rel := fun ds d => ∃ rs, ∃ t : Int, ds = [encRs rs, .int t] ∧ RsOk rs ∧ d = .tuple (intD (growing rs t))
def R_p_stretch_at : Rel := fun ds d => ∃ rs, ∃ g : Int, ds = [encRs rs, .int g] ∧ RsOk rs ∧ stretchL rs g ≠ [] ∧ d = .int (stretchAt rs g)
def R_p_leasts_of : Rel := fun ds d => ∃ rs, ds = [encRs rs] ∧ RsOk rs ∧ d = .int (leastsOf rs)
def R_p_given_all : Rel := fun ds d => ∃ rs, ∃ w : Int, ds = [encRs rs, .int w] ∧ RsOk rs ∧ 0 ≤ w ∧ d = .list (qs (givenAll rs w))
def IsRs (x : PyData) (rs : List Rule) : Prop := x = encRs rs ∨ x = encRsL rs ∨ x = .list (rs.map encR)
def R_p_width_given : Rel := fun ds d => ∃ x rs, ∃ p : Nat, ∃ w : Int, ds = [x, .int (p : Int), .int w] ∧ IsRs x rs ∧ RsOk rs ∧ p < rs.length ∧ 0 ≤ w ∧ d = encQ (((givenAll rs w)[p]?).getD 0)
def R_p_rule_layout : Rel := fun ds d => ∃ x rs, ∃ w : Int, ds = [x, .int w] ∧ IsRs x rs ∧ RsOk rs ∧ 0 ≤ w ∧ w ≤ 100 ∧ d = ruleLayout rs w
def R_p_free_at : Rel := fun ds d => ∃ x rs, ∃ w : Int, ds = [x, .int w] ∧ IsRs x rs ∧ RsOk rs ∧ 0 ≤ w ∧ d = .tuple (intD (freeAt rs w))
def R_p_stops : Rel := fun ds d => ∃ x rs, ∃ w : Int, ds = [x, .int w] ∧ IsRs x rs ∧ RsOk rs ∧ 0 ≤ w ∧ d = .list ((stopsP rs w).map encTQ)
def sharesRs (ns : List Int) : List Rule := ns.map fun s => ⟨s, 0, none⟩
def R_p_by_shares : Rel := fun ds d => ∃ x, ∃ ns : List Int, ∃ w : Int, ds = [x, .int w] ∧ (x = .list (intD ns) ∨ x = .tuple (intD ns)) ∧ RsOk (sharesRs ns) ∧ 0 ≤ w ∧ w ≤ 100 ∧ d = ruleLayout (sharesRs ns) w
def R_p_even : Rel := fun ds d => ∃ n : Nat, ∃ w : Int, ds = [.int (n : Int), .int w] ∧ 1 ≤ n ∧ n ≤ 5 ∧ 0 ≤ w ∧ w ≤ 100 ∧ d = ruleLayout (sharesRs (List.replicate n 1)) w
def R_p_by_turns : Rel := fun ds d => ∃ x, ∃ ns : List Int, ∃ w : Int, ds = [x, .int w] ∧ (x = .list (intD ns) ∨ x = .tuple (intD ns)) ∧ ns.length ≤ 10 ∧ 0 ≤ w ∧ w ≤ 100 ∧ d = byTurns ns w
def R_l_shared : Rel := fun ds d => ∃ a b : Int, ds = [.int a, .int b] ∧ 0 ≤ a ∧ 0 ≤ b ∧ d = .int ((Nat.gcd a.natAbs b.natAbs : Nat) : Int)
def R_l_frac : Rel := fun ds d => ∃ t b : Int, ds = [.int t, .int b] ∧ 0 ≤ t ∧ 0 < b ∧ b < 1073741824 ∧ d = encQ (Rat.divInt t b)
/-- a denominator that is small -/
def Sm (q : Rat) : Prop := 0 ≤ q ∧ q.den < 32768
def R_l_plus : Rel := fun ds d => ∃ a b : Rat, ds = [encQ a, encQ b] ∧ Sm a ∧ Sm b ∧ d = encQ (a + b)
def R_l_less : Rel := fun ds d => ∃ a b : Rat, ds = [encQ a, encQ b] ∧ Sm a ∧ Sm b ∧ b ≤ a ∧ d = encQ (a - b)
def R_l_times : Rel := fun ds d => ∃ a b : Rat, ds = [encQ a, encQ b] ∧ Sm a ∧ Sm b ∧ b.num < 1000000 ∧ d = encQ (a * b)
def R_l_over : Rel := fun ds d => ∃ a b : Rat, ds = [encQ a, encQ b] ∧ Sm a ∧ Sm b ∧ 0 < b ∧ b.num < 32768 ∧ d = encQ (a / b)
def R_l_above : Rel := fun ds d => ∃ a b : Rat, ds = [encQ a, encQ b] ∧ Sm a ∧ Sm b ∧ d = .bool (decide (b < a))
def R_l_sum : Rel := fun ds d => ∃ l : List Rat, ds = [.list (qs l)] ∧ l.length ≤ 1000 ∧ (∃ M : Nat, 0 < M ∧ M < 32768 ∧ ∀ q ∈ l, 0 ≤ q ∧ q.den ∣ M) ∧ d = encQ (sumQ l)
def R_l_wide : Rel := fun ds d => ∃ rs t, ds = [encRs rs, encQ t] ∧ RsOk rs ∧ Sm t ∧ d = .list (qs (wideQ rs t))
def R_l_ordered : Rel := fun ds d => ∃ l : List Rat, ds = [.list (qs l)] ∧ l.length ≤ 1000 ∧ (∀ q ∈ l, Sm q) ∧ d = .list (qs (ordQ l))
def R_l_turns : Rel := fun ds d => ∃ rs, ds = [encRs rs] ∧ RsOk rs ∧ d = .list (qs (turnsQ rs))
def R_l_last_turn : Rel := fun ds d => ∃ rs, ∃ w : Int, ds = [encRs rs, .int w] ∧ RsOk rs ∧ leastsOf rs ≤ w ∧ d = encQ (lastTurn rs w)
def R_l_more : Rel := fun ds d => ∃ rs t, ds = [encRs rs, encQ t] ∧ RsOk rs ∧ Sm t ∧ d = .tuple (intD (moreQ rs t))
def R_l_exact : Rel := fun ds d => ∃ rs, ∃ w : Int, ds = [encRs rs, .int w] ∧ RsOk rs ∧ 0 ≤ w ∧ d = .list (qs (exactQ rs w))
def R_l_free : Rel := fun ds d => ∃ rs, ∃ w : Int, ds = [encRs rs, .int w] ∧ RsOk rs ∧ 0 ≤ w ∧ d = .tuple (intD (freeQ rs w))
def R_l_stops : Rel := fun ds d => ∃ rs, ∃ w : Int, ds = [encRs rs, .int w] ∧ RsOk rs ∧ 0 ≤ w ∧ d = .list ((stopsQ rs w).map encTQ)
/-- columns of one length, their denominators in a small number -/
structure ColsOk (cols : List (List Rat)) (panes : Nat) : Prop where
  ne : 0 < cols.length
  few : cols.length ≤ 1000
  len : ∀ c ∈ cols, c.length = panes
  fewp : panes ≤ 100
  den : ∃ M : Nat, 0 < M ∧ M < 2 ^ 64 ∧ ∀ c ∈ cols, ∀ q ∈ c, q.den ∣ M ∧ q.den < 1073741824
def R_l_layout : Rel := fun ds d => ∃ cols panes, ds = [.list (cols.map fun c => .list (qs c))] ∧ ColsOk cols panes ∧ d = layoutD cols panes
def R_l_is_count : Rel := fun ds d => ∃ x, ∃ n : Int, ds = [x, .int n] ∧ d = .bool (isNumD x && decide (n ≤ intOf x))
def R_l_are_rules : Rel := fun ds d => ∃ x, ds = [x] ∧ (itemsOf x).length ≤ 100 ∧ SeqAt.shaped x = true ∧ d = .bool (isRulesD x)
def R_l_by_hand_right : Rel := fun ds d => ds = [] ∧ d = .bool true
end K4

/-! ## Tms -/
namespace K4
open PySem PySem.Spec PyProof.Rows L2
def t_p_is_number (K : PySem.W.Frag) (w : World) : TS :=
  (tSeq (tRet (tAndV (tCB (rIsi K) (tCons (tVar 0) (tCons (tC (.ty "int")) tNil))) (tNotV (tCB (rIsi K) (tCons (tVar 0) (tCons (tC (.ty "bool")) tNil))))))
  tNext)

def t_p_tuple_of (K : PySem.W.Frag) (w : World) (R : List PyData → PyData → Prop) : TS :=
  (tSeq (tIfS (tB (tCB (rIsiT K) (tCons (tVar 0) (tCons (tTup (tCons (tC (.ty "list")) (tCons (tC (.ty "tuple")) tNil))) tNil)))) (tSeq (tRet (tCB (rTupOf K) (tCons (tLc (iSeqA K (tVar 0)) (gName 1) tYes (tCall (spD R) [] E0 (tCons (tVar 1) tNil)) [1]) tNil)))
  tNext) tNext)
  (tSeq (tRet (tVar 0))
  tNext))

def t_p_is_tuple_of (K : PySem.W.Frag) (w : World) : TS :=
  (tSeq (tRet (tAndV (tCB (rIsi K) (tCons (tVar 0) (tCons (tC (.ty "tuple")) tNil))) (tOp (rEqD K) (tCB (rLen K) (tCons (tVar 0) tNil)) (tVar 1))))
  tNext)

def t_p_is_rule (K : PySem.W.Frag) (w : World) : TS :=
  (tSeq (tIfS (tOr (tNot (tB (tCall (spD R_p_is_tuple_of) [] E0 (tCons (tVar 0) (tCons (tC (.int 3)) tNil))))) (tOr (tNot (tB (tCall (spD R_p_is_number) [] E0 (tCons (tOp (rIxA K) (tVar 0) (tC (.int 0))) tNil)))) (tNot (tB (tCall (spD R_p_is_number) [] E0 (tCons (tOp (rIxA K) (tVar 0) (tC (.int 1))) tNil)))))) (tSeq (tRet (tC (.bl false)))
  tNext) tNext)
  (tSeq (tIfS (tOr (tTest (tOp (rLtI) (tOp (rIxA K) (tVar 0) (tC (.int 0))) (tC (.int 1)))) (tTest (tOp (rLtI) (tOp (rIxA K) (tVar 0) (tC (.int 1))) (tC (.int 0))))) (tSeq (tRet (tC (.bl false)))
  tNext) tNext)
  (tSeq (tRet (tOrV (tOp rIsNon (tOp (rIxA K) (tVar 0) (tC (.int 2))) (tC .non)) (tAndV (tCall (spD R_p_is_number) [] E0 (tCons (tOp (rIxA K) (tVar 0) (tC (.int 2))) tNil)) (tOp (rGeI) (tOp (rIxA K) (tVar 0) (tC (.int 2))) (tOp (rIxA K) (tVar 0) (tC (.int 1)))))))
  tNext)))

def t_p_is_rules (K : PySem.W.Frag) (w : World) : TS :=
  (tSeq (tIfS (tOr (tNot (tB (tCB (rIsi K) (tCons (tVar 0) (tCons (tC (.ty "tuple")) tNil))))) (tNot (tB (tCB (rAll K) (tCons (tLc (iSeqA K (tVar 0)) (gName 1) tYes (tCall (spD R_p_is_rule) [] E0 (tCons (tVar 1) tNil)) [1]) tNil))))) (tSeq (tRet (tC (.bl false)))
  tNext) tNext)
  (tSeq (tRet (tCB (rAny K) (tCons (tLc (iSeqA K (tVar 0)) (gName 1) tYes (tOp rIsNon (tOp (rIxA K) (tVar 1) (tC (.int 2))) (tC .non)) [1]) tNil)))
  tNext))

def t_p_in_lowest (K : PySem.W.Frag) (w : World) : TS :=
  (tSeq (tAsg (tCB rGcd (tCons (tVar 0) (tCons (tVar 1) tNil))) (gName 2))
  (tSeq (tRet (tTup (tCons (tOp (rDivI) (tVar 0) (tVar 2)) (tCons (tOp (rDivI) (tVar 1) (tVar 2)) tNil))))
  tNext))

def t_p_least_common (K : PySem.W.Frag) (w : World) : TS :=
  (tSeq (tAsg (tC (.int 1)) (gName 1))
  (tSeq (tFor (iSeqA K (tVar 0)) (gName 2) (tSeq (tAsg (tCB rLcm (tCons (tVar 1) (tCons (tVar 2) tNil))) (gName 1))
  tNext))
  (tSeq (tRet (tVar 1))
  tNext)))

def t_p_common_share (K : PySem.W.Frag) (w : World) : TS :=
  (tSeq (tRet (tCall (spD R_p_least_common) [] E0 (tCons (tLc (iSeqA K (tVar 0)) (gName 1) tYes (tOp (rIxA K) (tVar 1) (tC (.int 0))) [1]) tNil)))
  tNext)

def t_p_would_be (K : PySem.W.Frag) (w : World) : TS :=
  (tSeq (tPar 2 3 (tCons (tCall (spD R_p_common_share) [] E0 (tCons (tVar 0) tNil)) (tCons (tLst tNil) tNil)))
  (tSeq (tFor (iSeqA K (tVar 0)) (gTup K 3 (gCons (gName 4) (gCons (gName 5) (gCons (gName 6) gNil)))) (tSeq (tAsg (tCB (rMax2) (tCons (tOp (rMulA) (tVar 1) (tVar 4)) (tCons (tOp (rMulA) (tVar 5) (tVar 2)) tNil))) (gName 7))
  (tSeq (tDrop (tBM K "list" rAppend (tVar 3) (tCons (tIf (tTest (tOp rIsNon (tVar 6) (tC .non))) (tVar 7) (tCB (rMin2) (tCons (tVar 7) (tCons (tOp (rMulA) (tVar 6) (tVar 2)) tNil)))) tNil)))
  tNext)))
  (tSeq (tRet (tVar 3))
  tNext)))

def t_p_turns_of (K : PySem.W.Frag) (w : World) : TS :=
  (tSeq (tPar 1 2 (tCons (tCall (spD R_p_common_share) [] E0 (tCons (tVar 0) tNil)) (tCons (tLst (tCons (tC (.int 0)) tNil)) tNil)))
  (tSeq (tFor (iSeqA K (tVar 0)) (gTup K 3 (gCons (gName 3) (gCons (gName 4) (gCons (gName 5) gNil)))) (tSeq (tDrop (tBM K "list" rAppend (tVar 2) (tCons (tOp (rDivI) (tOp (rMulA) (tVar 4) (tVar 1)) (tVar 3)) tNil)))
  (tSeq (tIfS (tTest (tOp rNotNon (tVar 5) (tC .non))) (tSeq (tDrop (tBM K "list" rAppend (tVar 2) (tCons (tOp (rDivI) (tOp (rMulA) (tVar 5) (tVar 1)) (tVar 3)) tNil)))
  tNext) tNext)
  tNext)))
  (tSeq (tRet (tCB (rSortedSet w) (tCons (tCB (rSetOfI K w) (tCons (tVar 2) tNil)) tNil)))
  tNext)))

def t_p_growing (K : PySem.W.Frag) (w : World) : TS :=
  (tSeq (tPar 2 3 (tCons (tCall (spD R_p_common_share) [] E0 (tCons (tVar 0) tNil)) (tCons (tLst tNil) tNil)))
  (tSeq (tFor (iEnumA K (tCons (tVar 0) tNil)) (gTup K 2 (gCons (gName 4) (gCons (gTup K 3 (gCons (gName 5) (gCons (gName 6) (gCons (gName 7) gNil)))) gNil))) (tSeq (tIfS (tAnd (tTest (tOp (rGeI) (tOp (rMulA) (tVar 1) (tVar 5)) (tOp (rMulA) (tVar 6) (tVar 2)))) (tOr (tTest (tOp rIsNon (tVar 7) (tC .non))) (tTest (tOp (rLtI) (tOp (rMulA) (tVar 1) (tVar 5)) (tOp (rMulA) (tVar 7) (tVar 2)))))) (tSeq (tDrop (tBM K "list" rAppend (tVar 3) (tCons (tVar 4) tNil)))
  tNext) tNext)
  tNext))
  (tSeq (tRet (tCB (rTupOf K) (tCons (tVar 3) tNil)))
  tNext)))

def t_p_stretch_at (K : PySem.W.Frag) (w : World) : TS :=
  (tSeq (tRet (tOp (rIxA K) (tLc (iSeqA K (tCall (spD R_p_turns_of) [] E0 (tCons (tVar 0) tNil))) (gName 2) (tTest (tOp (rLeI) (tCB (rSum K) (tCons (tCall (spD R_p_would_be) [] E0 (tCons (tVar 0) (tCons (tVar 2) tNil))) tNil)) (tVar 1))) (tVar 2) [2]) (tUn rNegI (tC (.int 1)))))
  tNext)

def t_p_leasts_of (K : PySem.W.Frag) (w : World) : TS :=
  (tSeq (tRet (tCB (rSum K) (tCons (tLc (iSeqA K (tVar 0)) (gName 1) tYes (tOp (rIxA K) (tVar 1) (tC (.int 1))) [1]) tNil)))
  tNext)

def t_p_given_all (K : PySem.W.Frag) (w : World) : TS :=
  (tSeq (tIfS (tTest (tOp (rLtI) (tVar 1) (tCall (spD R_p_leasts_of) [] E0 (tCons (tVar 0) tNil)))) (tSeq (tRet (tLc (iSeqA K (tVar 0)) (gName 10) tYes (tCall (spD R_p_in_lowest) [] E0 (tCons (tOp (rMulA) (tVar 1) (tOp (rIxA K) (tVar 10) (tC (.int 1)))) (tCons (tCall (spD R_p_leasts_of) [] E0 (tCons (tVar 0) tNil)) tNil))) [10]))
  tNext) tNext)
  (tSeq (tAsg (tCall (spD R_p_common_share) [] E0 (tCons (tVar 0) tNil)) (gName 2))
  (tSeq (tAsg (tCall (spD R_p_stretch_at) [] E0 (tCons (tVar 0) (tCons (tOp (rMulA) (tVar 1) (tVar 2)) tNil))) (gName 3))
  (tSeq (tPar 4 5 (tCons (tCall (spD R_p_would_be) [] E0 (tCons (tVar 0) (tCons (tVar 3) tNil))) (tCons (tCall (spD R_p_growing) [] E0 (tCons (tVar 0) (tCons (tVar 3) tNil))) tNil)))
  (tSeq (tPar 6 7 (tCons (tOp (rSubI) (tOp (rMulA) (tVar 1) (tVar 2)) (tCB (rSum K) (tCons (tVar 4) tNil))) (tCons (tCB (rSum K) (tCons (tLc (iSeqA K (tVar 5)) (gName 9) tYes (tOp (rIxA K) (tOp (rIxA K) (tVar 0) (tVar 9)) (tC (.int 0))) [9]) tNil)) tNil)))
  (tSeq (tAsg (tLst tNil) (gName 8))
  (tSeq (tFor (iEnumA K (tCons (tVar 4) tNil)) (gTup K 2 (gCons (gName 9) (gCons (gName 10) gNil))) (tSeq (tIfS (tTest (tOp (rIn K false) (tVar 9) (tVar 5))) (tSeq (tDrop (tBM K "list" rAppend (tVar 8) (tCons (tCall (spD R_p_in_lowest) [] E0 (tCons (tOp (rAddA K) (tOp (rMulA) (tVar 10) (tVar 7)) (tOp (rMulA) (tVar 6) (tOp (rIxA K) (tOp (rIxA K) (tVar 0) (tVar 9)) (tC (.int 0))))) (tCons (tOp (rMulA) (tVar 7) (tVar 2)) tNil))) tNil)))
  tNext) (tSeq (tDrop (tBM K "list" rAppend (tVar 8) (tCons (tCall (spD R_p_in_lowest) [] E0 (tCons (tVar 10) (tCons (tVar 2) tNil))) tNil)))
  tNext))
  tNext))
  (tSeq (tRet (tVar 8))
  tNext))))))))

def t_p_width_given (K : PySem.W.Frag) (w : World) : TS :=
  (tSeq (tAsg (tCall (spD (R_p_tuple_of 12)) [] E0 (tCons (tVar 0) tNil)) (gName 3))
  (tSeq (tIfS (tOr (tNot (tB (tCall (spD R_p_is_number) [] E0 (tCons (tVar 1) tNil)))) (tNot (tTest (tChain (rLeI) (rLtI) (tC (.int 0)) (tVar 1) (tCB (rLen K) (tCons (tVar 3) tNil)))))) (tSeq tNever
  tNext) tNext)
  (tSeq (tRet (tOp (rIxA K) (tCall (spD R_p_given_all) [] E0 (tCons (tVar 3) (tCons (tVar 2) tNil))) (tVar 1)))
  tNext)))

def t_p_rule_layout (K : PySem.W.Frag) (w : World) : TS :=
  (tSeq (tAsg (tCall (spD (R_p_tuple_of 12)) [] E0 (tCons (tVar 0) tNil)) (gName 2))
  (tSeq (tAsg (tLc (iRng1 (tCons (tOp (rAddA K) (tVar 1) (tC (.int 1))) tNil)) (gName 7) tYes (tCall (spD R_p_given_all) [] E0 (tCons (tVar 2) (tCons (tVar 7) tNil))) [7]) (gName 3))
  (tSeq (tAsg (tCall (spD R_p_least_common) [] E0 (tCons (tLc (iSeqA K (tVar 3)) (gName 8) tYes (tCall (spD R_p_least_common) [] E0 (tCons (tLc (iSeqA K (tVar 8)) (gTup K 2 (gCons (gName 9) (gCons (gName 10) gNil))) tYes (tVar 10) [9, 10]) tNil)) [8]) tNil)) (gName 4))
  (tSeq (tAsg (tLst tNil) (gName 5))
  (tSeq (tFor (iRng1 (tCons (tCB (rLen K) (tCons (tVar 2) tNil)) tNil)) (gName 6) (tSeq (tDrop (tBM K "list" rAppend (tVar 5) (tCons (tCB (rTupOf K) (tCons (tLc (iSeqA K (tVar 3)) (gName 8) tYes (tOp (rMulA) (tOp (rIxA K) (tOp (rIxA K) (tVar 8) (tVar 6)) (tC (.int 0))) (tOp (rDivI) (tVar 4) (tOp (rIxA K) (tOp (rIxA K) (tVar 8) (tVar 6)) (tC (.int 1))))) [8]) tNil)) tNil)))
  tNext))
  (tSeq (tRet (tTup (tCons (tVar 4) (tCons (tCB (rTupOf K) (tCons (tVar 5) tNil)) tNil))))
  tNext))))))

def t_p_free_at (K : PySem.W.Frag) (w : World) : TS :=
  (tSeq (tAsg (tCall (spD (R_p_tuple_of 12)) [] E0 (tCons (tVar 0) tNil)) (gName 2))
  (tSeq (tIfS (tTest (tOp (rLtI) (tVar 1) (tCall (spD R_p_leasts_of) [] E0 (tCons (tVar 2) tNil)))) (tSeq (tRet (tCB (rTupOf K) (tCons (tLc (iEnumA K (tCons (tVar 2) tNil)) (gTup K 2 (gCons (gName 3) (gCons (gName 4) gNil))) (tTest (tOp (rGtI) (tOp (rIxA K) (tVar 4) (tC (.int 1))) (tC (.int 0)))) (tVar 3) [3, 4]) tNil)))
  tNext) tNext)
  (tSeq (tRet (tCall (spD R_p_growing) [] E0 (tCons (tVar 2) (tCons (tCall (spD R_p_stretch_at) [] E0 (tCons (tVar 2) (tCons (tOp (rMulA) (tVar 1) (tCall (spD R_p_common_share) [] E0 (tCons (tVar 2) tNil))) tNil))) tNil))))
  tNext)))

def t_p_by_shares (K : PySem.W.Frag) (w : World) : TS :=
  (tSeq (tRet (tCall (spD R_p_rule_layout) [] E0 (tCons (tLc (iSeqA K (tVar 0)) (gName 2) tYes (tTup (tCons (tVar 2) (tCons (tC (.int 0)) (tCons (tC .non) tNil)))) [2]) (tCons (tVar 1) tNil))))
  tNext)

def t_p_even (K : PySem.W.Frag) (w : World) : TS :=
  (tSeq (tRet (tCall (spD R_p_by_shares) [] E0 (tCons (tOp (rMulA) (tLst (tCons (tC (.int 1)) tNil)) (tVar 0)) (tCons (tVar 1) tNil))))
  tNext)

def t_p_by_turns (K : PySem.W.Frag) (w : World) : TS :=
  (tSeq (tAsg (tTup (tCons (tC (.int 0)) (tCons (tLst tNil) tNil))) (gTup K 2 (gCons (gName 2) (gCons (gName 3) gNil))))
  (tSeq (tFor (iSeqA K (tVar 0)) (gName 4) (tSeq (tDrop (tBM K "list" rAppend (tVar 3) (tCons (tCB (rTupOf K) (tCons (tLc (iRng1 (tCons (tOp (rAddA K) (tVar 1) (tC (.int 1))) tNil)) (gName 5) tYes (tCB (rMin2) (tCons (tCB (rMax2) (tCons (tOp (rSubI) (tVar 5) (tVar 2)) (tCons (tC (.int 0)) tNil))) (tCons (tVar 4) tNil))) [5]) tNil)) tNil)))
  (tSeq (tAsg (tOp (rAddA K) (tVar 2) (tVar 4)) (gName 2))
  tNext)))
  (tSeq (tDrop (tBM K "list" rAppend (tVar 3) (tCons (tCB (rTupOf K) (tCons (tLc (iRng1 (tCons (tOp (rAddA K) (tVar 1) (tC (.int 1))) tNil)) (gName 5) tYes (tCB (rMax2) (tCons (tOp (rSubI) (tVar 5) (tVar 2)) (tCons (tC (.int 0)) tNil))) [5]) tNil)) tNil)))
  (tSeq (tRet (tTup (tCons (tC (.int 1)) (tCons (tCB (rTupOf K) (tCons (tVar 3) tNil)) tNil))))
  tNext))))

def t_l_same (K : PySem.W.Frag) (w : World) (R : List PyData → PyData → Prop) : TS :=
  (tSeq (tIfS (tB (tCB (rIsiT K) (tCons (tVar 1) (tCons (tTup (tCons (tC (.ty "list")) (tCons (tC (.ty "tuple")) tNil))) tNil)))) (tSeq (tIfS (tOr (tTest (tOp (rNeD K) (tCB (rIsi K) (tCons (tVar 0) (tCons (tC (.ty "list")) tNil))) (tCB (rIsi K) (tCons (tVar 1) (tCons (tC (.ty "list")) tNil))))) (tTest (tOp (rNeD K) (tCB (rIsi K) (tCons (tVar 0) (tCons (tC (.ty "tuple")) tNil))) (tCB (rIsi K) (tCons (tVar 1) (tCons (tC (.ty "tuple")) tNil)))))) (tSeq (tRet (tC (.bl false)))
  tNext) tNext)
  (tSeq (tRet (tAndV (tOp (rEqD K) (tCB (rLen K) (tCons (tVar 0) tNil)) (tCB (rLen K) (tCons (tVar 1) tNil))) (tCB (rAll K) (tCons (tLc (RZ.iZipA K (tCons (tVar 0) (tCons (tVar 1) tNil))) (gTup K 2 (gCons (gName 2) (gCons (gName 3) gNil))) tYes (tCall (spD R) [] E0 (tCons (tVar 2) (tCons (tVar 3) tNil))) [2, 3]) tNil))))
  tNext)) tNext)
  (tSeq (tIfS (tOr (tTest (tOp rIsNon (tVar 1) (tC .non))) (tB (tCB (rIsiT K) (tCons (tVar 1) (tCons (tTup (tCons (tC (.ty "bool")) (tCons (tC (.ty "str")) tNil))) tNil))))) (tSeq (tRet (tAndV (tOp (rEqD K) (tVar 0) (tVar 1)) (tAndV (tOp (rEqD K) (tCB (rIsi K) (tCons (tVar 0) (tCons (tC (.ty "bool")) tNil))) (tCB (rIsi K) (tCons (tVar 1) (tCons (tC (.ty "bool")) tNil)))) (tOp (rEqD K) (tOp rIsNon (tVar 0) (tC .non)) (tOp rIsNon (tVar 1) (tC .non))))))
  tNext) tNext)
  (tSeq (tRet (tAndV (tCB (rIsi K) (tCons (tVar 0) (tCons (tC (.ty "int")) tNil))) (tAndV (tNotV (tCB (rIsi K) (tCons (tVar 0) (tCons (tC (.ty "bool")) tNil)))) (tOp (rEqD K) (tVar 0) (tVar 1)))))
  tNext)))

def t_l_lists (K : PySem.W.Frag) (w : World) (R : List PyData → PyData → Prop) : TS :=
  (tSeq (tRet (tIf (tB (tCB (rIsiT K) (tCons (tVar 0) (tCons (tTup (tCons (tC (.ty "list")) (tCons (tC (.ty "tuple")) tNil))) tNil)))) (tLc (iSeqA K (tVar 0)) (gName 1) tYes (tCall (spD R) [] E0 (tCons (tVar 1) tNil)) [1]) (tVar 0)))
  tNext)

def t_l_shared (K : PySem.W.Frag) (w : World) : TS :=
  (tSeq (tWhile (tTest (tOp (rGtI) (tVar 1) (tC (.int 0)))) (tSeq (tPar 0 1 (tCons (tVar 1) (tCons (tOp (rModI) (tCB (rInt1) (tCons (tVar 0) tNil)) (tVar 1)) tNil)))
  tNext))
  (tSeq (tRet (tVar 0))
  tNext))

def t_l_frac (K : PySem.W.Frag) (w : World) : TS :=
  (tSeq (tAsg (tCall (spD R_l_shared) [] E0 (tCons (tVar 0) (tCons (tVar 1) tNil))) (gName 2))
  (tSeq (tRet (tTup (tCons (tOp (rDivI) (tVar 0) (tVar 2)) (tCons (tOp (rDivI) (tVar 1) (tVar 2)) tNil))))
  tNext))

def t_l_plus (K : PySem.W.Frag) (w : World) : TS :=
  (tSeq (tRet (tCall (spD R_l_frac) [] E0 (tCons (tOp (rAddA K) (tOp (rMulA) (tOp (rIxA K) (tVar 0) (tC (.int 0))) (tOp (rIxA K) (tVar 1) (tC (.int 1)))) (tOp (rMulA) (tOp (rIxA K) (tVar 1) (tC (.int 0))) (tOp (rIxA K) (tVar 0) (tC (.int 1))))) (tCons (tOp (rMulA) (tOp (rIxA K) (tVar 0) (tC (.int 1))) (tOp (rIxA K) (tVar 1) (tC (.int 1)))) tNil))))
  tNext)

def t_l_less (K : PySem.W.Frag) (w : World) : TS :=
  (tSeq (tRet (tCall (spD R_l_frac) [] E0 (tCons (tOp (rSubI) (tOp (rMulA) (tOp (rIxA K) (tVar 0) (tC (.int 0))) (tOp (rIxA K) (tVar 1) (tC (.int 1)))) (tOp (rMulA) (tOp (rIxA K) (tVar 1) (tC (.int 0))) (tOp (rIxA K) (tVar 0) (tC (.int 1))))) (tCons (tOp (rMulA) (tOp (rIxA K) (tVar 0) (tC (.int 1))) (tOp (rIxA K) (tVar 1) (tC (.int 1)))) tNil))))
  tNext)

def t_l_times (K : PySem.W.Frag) (w : World) : TS :=
  (tSeq (tRet (tCall (spD R_l_frac) [] E0 (tCons (tOp (rMulA) (tOp (rIxA K) (tVar 0) (tC (.int 0))) (tOp (rIxA K) (tVar 1) (tC (.int 0)))) (tCons (tOp (rMulA) (tOp (rIxA K) (tVar 0) (tC (.int 1))) (tOp (rIxA K) (tVar 1) (tC (.int 1)))) tNil))))
  tNext)

def t_l_over (K : PySem.W.Frag) (w : World) : TS :=
  (tSeq (tRet (tCall (spD R_l_frac) [] E0 (tCons (tOp (rMulA) (tOp (rIxA K) (tVar 0) (tC (.int 0))) (tOp (rIxA K) (tVar 1) (tC (.int 1)))) (tCons (tOp (rMulA) (tOp (rIxA K) (tVar 0) (tC (.int 1))) (tOp (rIxA K) (tVar 1) (tC (.int 0)))) tNil))))
  tNext)

def t_l_above (K : PySem.W.Frag) (w : World) : TS :=
  (tSeq (tRet (tOp (rGtI) (tOp (rMulA) (tOp (rIxA K) (tVar 0) (tC (.int 0))) (tOp (rIxA K) (tVar 1) (tC (.int 1)))) (tOp (rMulA) (tOp (rIxA K) (tVar 1) (tC (.int 0))) (tOp (rIxA K) (tVar 0) (tC (.int 1))))))
  tNext)

def t_l_sum (K : PySem.W.Frag) (w : World) : TS :=
  (tSeq (tAsg (tTup (tCons (tC (.int 0)) (tCons (tC (.int 1)) tNil))) (gName 1))
  (tSeq (tFor (iSeqA K (tVar 0)) (gName 2) (tSeq (tAsg (tCall (spD R_l_plus) [] E0 (tCons (tVar 1) (tCons (tVar 2) tNil))) (gName 1))
  tNext))
  (tSeq (tRet (tVar 1))
  tNext)))

def t_l_wide (K : PySem.W.Frag) (w : World) : TS :=
  (tSeq (tAsg (tLst tNil) (gName 2))
  (tSeq (tFor (iSeqA K (tVar 0)) (gTup K 3 (gCons (gName 3) (gCons (gName 4) (gCons (gName 5) gNil)))) (tSeq (tAsg (tCall (spD R_l_times) [] E0 (tCons (tVar 1) (tCons (tTup (tCons (tVar 3) (tCons (tC (.int 1)) tNil))) tNil))) (gName 6))
  (tSeq (tAsg (tIf (tB (tCall (spD R_l_above) [] E0 (tCons (tTup (tCons (tVar 4) (tCons (tC (.int 1)) tNil))) (tCons (tVar 6) tNil)))) (tTup (tCons (tVar 4) (tCons (tC (.int 1)) tNil))) (tVar 6)) (gName 6))
  (tSeq (tDrop (tBM K "list" rAppend (tVar 2) (tCons (tIf (tAnd (tTest (tOp rNotNon (tVar 5) (tC .non))) (tB (tCall (spD R_l_above) [] E0 (tCons (tVar 6) (tCons (tTup (tCons (tVar 5) (tCons (tC (.int 1)) tNil))) tNil))))) (tTup (tCons (tVar 5) (tCons (tC (.int 1)) tNil))) (tVar 6)) tNil)))
  tNext))))
  (tSeq (tRet (tVar 2))
  tNext)))

def t_l_ordered (K : PySem.W.Frag) (w : World) : TS :=
  (tSeq (tAsg (tLst tNil) (gName 1))
  (tSeq (tFor (iSeqA K (tVar 0)) (gName 2) (tSeq (tAsg (tCB (rLen K) (tCons (tLc (iSeqA K (tVar 1)) (gName 4) (tB (tCall (spD R_l_above) [] E0 (tCons (tVar 2) (tCons (tVar 4) tNil)))) (tVar 4) [4]) tNil)) (gName 3))
  (tSeq (tIfS (tTest (tOp (rNeD K) (tSl (rSlX K) (tVar 1) (tPart (tVar 3)) (tPart (tOp (rAddA K) (tVar 3) (tC (.int 1))))) (tLst (tCons (tVar 2) tNil)))) (tSeq (tAsg (tOp (rAddA K) (tOp (rAddA K) (tSl (rSlX K) (tVar 1) tNoPart (tPart (tVar 3))) (tLst (tCons (tVar 2) tNil))) (tSl (rSlX K) (tVar 1) (tPart (tVar 3)) tNoPart)) (gName 1))
  tNext) tNext)
  tNext)))
  (tSeq (tRet (tVar 1))
  tNext)))

def t_l_turns (K : PySem.W.Frag) (w : World) : TS :=
  (tSeq (tAsg (tLst (tCons (tTup (tCons (tC (.int 0)) (tCons (tC (.int 1)) tNil))) tNil)) (gName 1))
  (tSeq (tFor (iSeqA K (tVar 0)) (gTup K 3 (gCons (gName 2) (gCons (gName 3) (gCons (gName 4) gNil)))) (tSeq (tDrop (tBM K "list" rAppend (tVar 1) (tCons (tCall (spD R_l_frac) [] E0 (tCons (tVar 3) (tCons (tVar 2) tNil))) tNil)))
  (tSeq (tIfS (tTest (tOp rNotNon (tVar 4) (tC .non))) (tSeq (tDrop (tBM K "list" rAppend (tVar 1) (tCons (tCall (spD R_l_frac) [] E0 (tCons (tVar 4) (tCons (tVar 2) tNil))) tNil)))
  tNext) tNext)
  tNext)))
  (tSeq (tRet (tCall (spD R_l_ordered) [] E0 (tCons (tVar 1) tNil)))
  tNext)))

def t_l_last_turn (K : PySem.W.Frag) (w : World) : TS :=
  (tSeq (tRet (tOp (rIxA K) (tLc (iSeqA K (tCall (spD R_l_turns) [] E0 (tCons (tVar 0) tNil))) (gName 2) (tNot (tB (tCall (spD R_l_above) [] E0 (tCons (tCall (spD R_l_sum) [] E0 (tCons (tCall (spD R_l_wide) [] E0 (tCons (tVar 0) (tCons (tVar 2) tNil))) tNil)) (tCons (tTup (tCons (tVar 1) (tCons (tC (.int 1)) tNil))) tNil))))) (tVar 2) [2]) (tUn rNegI (tC (.int 1)))))
  tNext)

def t_l_more (K : PySem.W.Frag) (w : World) : TS :=
  (tSeq (tAsg (tLst tNil) (gName 2))
  (tSeq (tFor (iEnumA K (tCons (tVar 0) tNil)) (gTup K 2 (gCons (gName 3) (gCons (gTup K 3 (gCons (gName 4) (gCons (gName 5) (gCons (gName 6) gNil)))) gNil))) (tSeq (tAsg (tCall (spD R_l_times) [] E0 (tCons (tVar 1) (tCons (tTup (tCons (tVar 4) (tCons (tC (.int 1)) tNil))) tNil))) (gName 7))
  (tSeq (tIfS (tAnd (tNot (tB (tCall (spD R_l_above) [] E0 (tCons (tTup (tCons (tVar 5) (tCons (tC (.int 1)) tNil))) (tCons (tVar 7) tNil))))) (tOr (tTest (tOp rIsNon (tVar 6) (tC .non))) (tB (tCall (spD R_l_above) [] E0 (tCons (tTup (tCons (tVar 6) (tCons (tC (.int 1)) tNil))) (tCons (tVar 7) tNil)))))) (tSeq (tDrop (tBM K "list" rAppend (tVar 2) (tCons (tVar 3) tNil)))
  tNext) tNext)
  tNext)))
  (tSeq (tRet (tCB (rTupOf K) (tCons (tVar 2) tNil)))
  tNext)))

def t_l_exact (K : PySem.W.Frag) (w : World) : TS :=
  (tSeq (tAsg (tCB (rSum K) (tCons (tLc (iSeqA K (tVar 0)) (gName 6) tYes (tOp (rIxA K) (tVar 6) (tC (.int 1))) [6]) tNil)) (gName 2))
  (tSeq (tIfS (tTest (tOp (rLtI) (tVar 1) (tVar 2))) (tSeq (tRet (tLc (iSeqA K (tVar 0)) (gName 6) tYes (tCall (spD R_l_frac) [] E0 (tCons (tOp (rMulA) (tVar 1) (tOp (rIxA K) (tVar 6) (tC (.int 1)))) (tCons (tVar 2) tNil))) [6]))
  tNext) tNext)
  (tSeq (tAsg (tCall (spD R_l_last_turn) [] E0 (tCons (tVar 0) (tCons (tVar 1) tNil))) (gName 3))
  (tSeq (tAsg (tCall (spD R_l_less) [] E0 (tCons (tTup (tCons (tVar 1) (tCons (tC (.int 1)) tNil))) (tCons (tCall (spD R_l_sum) [] E0 (tCons (tCall (spD R_l_wide) [] E0 (tCons (tVar 0) (tCons (tVar 3) tNil))) tNil)) tNil))) (gName 4))
  (tSeq (tAsg (tCB (rSum K) (tCons (tLc (iSeqA K (tCall (spD R_l_more) [] E0 (tCons (tVar 0) (tCons (tVar 3) tNil)))) (gName 7) tYes (tOp (rIxA K) (tOp (rIxA K) (tVar 0) (tVar 7)) (tC (.int 0))) [7]) tNil)) (gName 5))
  (tSeq (tRet (tCall (spD R_l_wide) [] E0 (tCons (tVar 0) (tCons (tCall (spD R_l_plus) [] E0 (tCons (tVar 3) (tCons (tCall (spD R_l_over) [] E0 (tCons (tVar 4) (tCons (tTup (tCons (tVar 5) (tCons (tC (.int 1)) tNil))) tNil))) tNil))) tNil))))
  tNext))))))

def t_l_free (K : PySem.W.Frag) (w : World) : TS :=
  (tSeq (tIfS (tTest (tOp (rLtI) (tVar 1) (tCB (rSum K) (tCons (tLc (iSeqA K (tVar 0)) (gName 2) tYes (tOp (rIxA K) (tVar 2) (tC (.int 1))) [2]) tNil)))) (tSeq (tRet (tCB (rTupOf K) (tCons (tLc (iEnumA K (tCons (tVar 0) tNil)) (gTup K 2 (gCons (gName 3) (gCons (gName 2) gNil))) (tTest (tOp (rGtI) (tOp (rIxA K) (tVar 2) (tC (.int 1))) (tC (.int 0)))) (tVar 3) [3, 2]) tNil)))
  tNext) tNext)
  (tSeq (tRet (tCall (spD R_l_more) [] E0 (tCons (tVar 0) (tCons (tCall (spD R_l_last_turn) [] E0 (tCons (tVar 0) (tCons (tVar 1) tNil))) tNil))))
  tNext))

def t_l_layout (K : PySem.W.Frag) (w : World) : TS :=
  (tSeq (tAsg (tC (.int 1)) (gName 1))
  (tSeq (tFor (iSeqA K (tVar 0)) (gName 2) (tSeq (tFor (iSeqA K (tVar 2)) (gName 3) (tSeq (tAsg (tOp (rDivI) (tOp (rMulA) (tVar 1) (tOp (rIxA K) (tVar 3) (tC (.int 1)))) (tCall (spD R_l_shared) [] E0 (tCons (tVar 1) (tCons (tOp (rIxA K) (tVar 3) (tC (.int 1))) tNil)))) (gName 1))
  tNext))
  tNext))
  (tSeq (tRet (tTup (tCons (tVar 1) (tCons (tCB (rTupOf K) (tCons (tLc (iRng1 (tCons (tCB (rLen K) (tCons (tOp (rIxA K) (tVar 0) (tC (.int 0))) tNil)) tNil)) (gName 4) tYes (tCB (rTupOf K) (tCons (tLc (iSeqA K (tVar 0)) (gName 2) tYes (tOp (rMulA) (tOp (rIxA K) (tOp (rIxA K) (tVar 2) (tVar 4)) (tC (.int 0))) (tOp (rDivI) (tVar 1) (tOp (rIxA K) (tOp (rIxA K) (tVar 2) (tVar 4)) (tC (.int 1))))) [2]) tNil)) [4]) tNil)) tNil))))
  tNext)))

def t_l_is_count (K : PySem.W.Frag) (w : World) : TS :=
  (tSeq (tRet (tAndV (tCB (rIsi K) (tCons (tVar 0) (tCons (tC (.ty "int")) tNil))) (tAndV (tNotV (tCB (rIsi K) (tCons (tVar 0) (tCons (tC (.ty "bool")) tNil)))) (tOp (rGeI) (tVar 0) (tVar 1)))))
  tNext)

def t_l_are_rules (K : PySem.W.Frag) (w : World) : TS :=
  (tSeq (tIfS (tOr (tNot (tB (tCB (rIsi K) (tCons (tVar 0) (tCons (tC (.ty "tuple")) tNil))))) (tTest (tOp (rEqD K) (tVar 0) (tTup tNil)))) (tSeq (tRet (tC (.bl false)))
  tNext) tNext)
  (tSeq (tFor (iSeqA K (tVar 0)) (gName 1) (tSeq (tIfS (tOr (tNot (tB (tCB (rIsi K) (tCons (tVar 1) (tCons (tC (.ty "tuple")) tNil))))) (tOr (tTest (tOp (rNeD K) (tCB (rLen K) (tCons (tVar 1) tNil)) (tC (.int 3)))) (tOr (tNot (tB (tCall (spD R_l_is_count) [] E0 (tCons (tOp (rIxA K) (tVar 1) (tC (.int 0))) (tCons (tC (.int 1)) tNil))))) (tNot (tB (tCall (spD R_l_is_count) [] E0 (tCons (tOp (rIxA K) (tVar 1) (tC (.int 1))) (tCons (tC (.int 0)) tNil)))))))) (tSeq (tRet (tC (.bl false)))
  tNext) tNext)
  (tSeq (tIfS (tAnd (tTest (tOp rNotNon (tOp (rIxA K) (tVar 1) (tC (.int 2))) (tC .non))) (tNot (tB (tCall (spD R_l_is_count) [] E0 (tCons (tOp (rIxA K) (tVar 1) (tC (.int 2))) (tCons (tOp (rIxA K) (tVar 1) (tC (.int 1))) tNil)))))) (tSeq (tRet (tC (.bl false)))
  tNext) tNext)
  tNext)))
  (tSeq (tRet (tOp (rNeD K) (tLc (iSeqA K (tVar 0)) (gName 1) (tTest (tOp rIsNon (tOp (rIxA K) (tVar 1) (tC (.int 2))) (tC .non))) (tC (.int 1)) [1]) (tLst tNil)))
  tNext)))

end K4

/-! ## Math1 -/
/-! plain: sorted lists, fractions with a common denominator, growth between turns -/
namespace K4
open PySem

/-! ### lists -/
theorem uniq_sorted {α : Type} (lt : α → α → Prop) (irr : ∀ x, ¬ lt x x) (asy : ∀ a b, lt a b → ¬ lt b a) {l m : List α} (hl : l.Pairwise lt) (hm : m.Pairwise lt) (h : ∀ x, x ∈ l ↔ x ∈ m) : l = m := by
  have nd : ∀ {k : List α}, k.Pairwise lt → k.Nodup := fun hk => List.Pairwise.imp (S := fun a b => a ≠ b) (fun {a b} (hab : lt a b) (e : a = b) => irr b (e ▸ hab)) hk
  exact ((List.perm_ext_iff_of_nodup (nd hl) (nd hm)).mpr h).eq_of_pairwise (le := lt) (fun a b _ _ h1 h2 => absurd h2 (asy a b h1)) hl hm
theorem insI_mem (x y : Int) : ∀ l : List Int, y ∈ insI x l ↔ y = x ∨ y ∈ l
  | [] => by simp [insI]
  | z :: zs => by
    have ih := insI_mem x y zs
    unfold insI
    split
    · simp
    · split
      · rename_i h; subst h; simp
      · simp only [List.mem_cons, ih]; grind
theorem insI_sorted (x : Int) : ∀ l : List Int, l.Pairwise (· < ·) → (insI x l).Pairwise (· < ·)
  | [], _ => by simp [insI]
  | z :: zs, h => by
    obtain ⟨h1, h2⟩ := List.pairwise_cons.mp h
    have ih := insI_sorted x zs h2
    unfold insI
    split
    · rename_i hx
      refine List.pairwise_cons.mpr ⟨fun y hy => ?_, h⟩
      rcases List.mem_cons.mp hy with e | e
      · omega
      · have := h1 y e; omega
    · split
      · exact h
      · refine List.pairwise_cons.mpr ⟨fun y hy => ?_, ih⟩
        rcases (insI_mem x y zs).mp hy with e | e
        · omega
        · exact h1 y e
theorem ascI_mem (y : Int) : ∀ l : List Int, y ∈ ascI l ↔ y ∈ l
  | [] => by simp [ascI]
  | x :: xs => by
    have ih := ascI_mem y xs
    show y ∈ insI x (ascI xs) ↔ _
    rw [insI_mem, ih, List.mem_cons]
theorem ascI_sorted : ∀ l : List Int, (ascI l).Pairwise (· < ·)
  | [] => by simp [ascI]
  | x :: xs => insI_sorted x _ (ascI_sorted xs)
theorem getLast_max {α : Type} (lt : α → α → Prop) : ∀ {l : List α} {x : α}, l.Pairwise lt → l.getLast? = some x → ∀ y ∈ l, y = x ∨ lt y x
  | [], x, _, h, _, _ => by simp at h
  | [a], x, _, h, y, hy => by
    simp at h hy
    exact .inl (hy.trans h)
  | a :: b :: l, x, hp, h, y, hy => by
    rw [List.getLast?_cons_cons] at h
    obtain ⟨h1, h2⟩ := List.pairwise_cons.mp hp
    rcases List.mem_cons.mp hy with e | e
    · exact .inr (by rw [e]; exact h1 x (List.mem_of_getLast? h))
    · exact getLast_max lt h2 h y e

/-! ### fractions over a common denominator -/
def Dv (M : Nat) (q : Rat) : Prop := ∃ k : Int, q = Rat.divInt k (M : Int)
section
variable {M : Nat} (hM : 0 < M)
include hM
theorem dv_den {q : Rat} (h : Dv M q) : q.den ∣ M := by
  obtain ⟨k, rfl⟩ := h
  rw [Rat.den_divInt, if_neg (by omega), Int.natAbs_natCast]
  have e : Int.gcd (M : Int) k ∣ M := Int.natCast_dvd_natCast.mp (Int.gcd_dvd_left (M : Int) k)
  exact Nat.div_dvd_of_dvd e
theorem den_dv {q : Rat} (h : q.den ∣ M) : Dv M q := by
  obtain ⟨c, rfl⟩ := h
  have hc : c ≠ 0 := fun e => by subst e; simp at hM
  refine ⟨q.num * c, ?_⟩
  rw [Int.natCast_mul, Rat.divInt_mul_right (by omega), Rat.num_divInt_den]
theorem dv_add {a b : Rat} (ha : Dv M a) (hb : Dv M b) : Dv M (a + b) := by
  obtain ⟨i, rfl⟩ := ha
  obtain ⟨j, rfl⟩ := hb
  refine ⟨i + j, ?_⟩
  rw [Rat.divInt_add_divInt _ _ (by omega) (by omega), ← Int.add_mul, Rat.divInt_mul_right (by omega)]
theorem dv_sub {a b : Rat} (ha : Dv M a) (hb : Dv M b) : Dv M (a - b) := by
  obtain ⟨i, rfl⟩ := ha
  obtain ⟨j, rfl⟩ := hb
  refine ⟨i - j, ?_⟩
  rw [Rat.divInt_sub_divInt _ _ (by omega) (by omega), ← Int.sub_mul, Rat.divInt_mul_right (by omega)]
theorem dv_int (n : Int) : Dv M (n : Rat) := by
  refine ⟨n * M, ?_⟩
  rw [show (M : Int) = 1 * M by omega, ← Int.mul_assoc, Rat.divInt_mul_right (by omega), Int.mul_one, Rat.divInt_eq_div]
  simp only [Int.cast_ofNat_Int, Rat.intCast_one]
  grind
theorem dv_mulI {a : Rat} (ha : Dv M a) (n : Int) : Dv M (a * (n : Rat)) := by
  obtain ⟨i, rfl⟩ := ha
  refine ⟨i * n, ?_⟩
  rw [show ((n : Int) : Rat) = Rat.divInt n 1 by rw [Rat.divInt_eq_div]; simp only [Rat.intCast_one]; grind, Rat.divInt_mul_divInt, Int.mul_one]
end
theorem dv_mono {M N : Nat} (hM : 0 < M) (hN : 0 < N) (h : M ∣ N) {q : Rat} (hq : Dv M q) : Dv N q := den_dv hN (Nat.dvd_trans (dv_den hM hq) h)
theorem sm_of {M : Nat} (hM : 0 < M) (h2 : M < 32768) {q : Rat} (h0 : 0 ≤ q) (h : Dv M q) : Sm q := ⟨h0, Nat.lt_of_le_of_lt (Nat.le_of_dvd hM (dv_den hM h)) h2⟩
theorem sumQ_from (l : List Rat) : ∀ a : Rat, l.foldl (· + ·) a = a + sumQ l := by
  induction l with
  | nil => intro a; show a = a + 0; grind
  | cons x xs ih =>
    intro a
    rw [List.foldl_cons, ih]
    show a + x + sumQ xs = a + List.foldl (· + ·) (0 + x) xs
    rw [ih]
    grind
theorem sumQ_nil : sumQ [] = 0 := rfl
theorem sumQ_cons (x : Rat) (l : List Rat) : sumQ (x :: l) = x + sumQ l := by
  show List.foldl (· + ·) (0 + x) l = _
  rw [sumQ_from]
  grind
theorem sumQ_snoc (l : List Rat) (x : Rat) : sumQ (l ++ [x]) = sumQ l + x := by
  unfold sumQ
  rw [List.foldl_append]; rfl
theorem sumQ_dv {M : Nat} (hM : 0 < M) : ∀ {l : List Rat}, (∀ q ∈ l, Dv M q) → Dv M (sumQ l)
  | [], _ => dv_int hM 0
  | x :: xs, h => by
    rw [sumQ_cons]
    exact dv_add hM (h x (by simp)) (sumQ_dv hM fun q hq => h q (List.mem_cons_of_mem _ hq))
theorem sumQ_nonneg : ∀ {l : List Rat}, (∀ q ∈ l, 0 ≤ q) → 0 ≤ sumQ l
  | [], _ => by rw [sumQ_nil]; grind
  | x :: xs, h => by
    rw [sumQ_cons]
    exact Rat.add_nonneg (h x (by simp)) (sumQ_nonneg fun q hq => h q (List.mem_cons_of_mem _ hq))

/-! ### one pane -/
structure VR (r : Rule) : Prop where
  s : 1 ≤ r.s
  l : 0 ≤ r.l
  m : ∀ m, r.m = some m → r.l ≤ m
theorem RsOk.vr {rs : List Rule} (ok : RsOk rs) : ∀ r ∈ rs, VR r := fun r hr => by
  obtain ⟨h1, h2, h3, h4, h5⟩ := ok.each r hr
  exact ⟨h1, h3, fun m hm => (h5 m hm).1⟩
section
variable {r : Rule} (v : VR r) {t u : Rat}
theorem wq_def : wideQ1 t r = (match r.m with | none => (if t * (r.s : Rat) < (r.l : Rat) then (r.l : Rat) else t * (r.s : Rat)) | some m => (if (m : Rat) < (if t * (r.s : Rat) < (r.l : Rat) then (r.l : Rat) else t * (r.s : Rat)) then (m : Rat) else (if t * (r.s : Rat) < (r.l : Rat) then (r.l : Rat) else t * (r.s : Rat)))) := rfl
include v
theorem wq_low (h : t * (r.s : Rat) ≤ (r.l : Rat)) : wideQ1 t r = (r.l : Rat) := by
  rw [wq_def]
  cases hm : r.m with
  | none => dsimp only; grind
  | some m =>
    have h1 : (r.l : Rat) ≤ (m : Rat) := Rat.intCast_le_intCast.mpr (v.m m hm)
    dsimp only; grind
theorem wq_mid (h : (r.l : Rat) ≤ t * (r.s : Rat)) (h2 : ∀ m, r.m = some m → t * (r.s : Rat) ≤ (m : Rat)) : wideQ1 t r = t * (r.s : Rat) := by
  rw [wq_def]
  cases hm : r.m with
  | none => dsimp only; grind
  | some m =>
    have h1 := h2 m hm
    dsimp only; grind
theorem wq_high {m : Int} (hm : r.m = some m) (h : (m : Rat) ≤ t * (r.s : Rat)) : wideQ1 t r = (m : Rat) := by
  have h1 : (r.l : Rat) ≤ (m : Rat) := Rat.intCast_le_intCast.mpr (v.m m hm)
  rw [wq_def, hm]
  dsimp only; grind
theorem wq_nonneg (h : 0 ≤ t) : 0 ≤ wideQ1 t r := by
  have h0 : (0 : Rat) ≤ (r.l : Rat) := Rat.intCast_nonneg.mpr v.l
  rw [wq_def]
  cases hm : r.m with
  | none => dsimp only; grind
  | some m =>
    have h1 : (r.l : Rat) ≤ (m : Rat) := Rat.intCast_le_intCast.mpr (v.m m hm)
    dsimp only; grind
theorem wq_dv {M : Nat} (hM : 0 < M) (h : Dv M t) : Dv M (wideQ1 t r) := by
  have a := dv_mulI hM h r.s
  have b := dv_int hM r.l
  rw [wq_def]
  cases hm : r.m with
  | none => dsimp only; split <;> assumption
  | some m =>
    have c := dv_int hM m
    dsimp only; split <;> first | assumption | (split <;> assumption)
omit v in
theorem grows_iff : growsQ t r = true ↔ (r.l : Rat) ≤ t * (r.s : Rat) ∧ ∀ m, r.m = some m → t * (r.s : Rat) < (m : Rat) := by
  unfold growsQ
  rw [Bool.and_eq_true]
  refine and_congr (by rw [Bool.not_eq_true', decide_eq_false_iff_not, Rat.not_lt]) ?_
  cases hm : r.m with
  | none => simp
  | some m => simp
theorem spos : (0 : Rat) < (r.s : Rat) := Rat.intCast_pos.mpr (by have := v.s; omega)
theorem lt_turn (n : Int) : t < Rat.divInt n r.s ↔ t * (r.s : Rat) < (n : Rat) := by
  rw [Rat.divInt_eq_div, Rat.lt_div_iff (spos v)]
theorem le_turn (n : Int) : t ≤ Rat.divInt n r.s ↔ t * (r.s : Rat) ≤ (n : Rat) := by
  rw [← Rat.not_lt, ← Rat.not_lt, Rat.divInt_eq_div, Rat.div_lt_iff (spos v)]
/-- between two neighbouring turns -/
theorem wq_step {a b : Rat} (hab : a ≤ b) (h : ∀ x ∈ turnQ1 r, x ≤ a ∨ b ≤ x) : wideQ1 b r = wideQ1 a r + (if growsQ a r = true then (b - a) * (r.s : Rat) else 0) := by
  have hs := spos v
  have hmul : a * (r.s : Rat) ≤ b * (r.s : Rat) := Rat.mul_le_mul_of_nonneg_right hab (Rat.le_of_lt hs)
  have hl := h (Rat.divInt r.l r.s) (by unfold turnQ1; exact List.mem_cons_self)
  by_cases hg : growsQ a r = true
  · rw [if_pos hg]
    obtain ⟨h1, h2⟩ := grows_iff.mp hg
    rw [wq_mid v h1 fun m hm => Rat.le_of_lt (h2 m hm)]
    rw [wq_mid v (Rat.le_trans h1 hmul) fun m hm => ?_]
    · grind
    · have hx := h (Rat.divInt m r.s) (by unfold turnQ1; rw [hm]; simp)
      have h3 := (lt_turn v m).mpr (h2 m hm)
      rcases hx with q | q
      · exact absurd h3 (Rat.not_lt.mpr q)
      · exact (le_turn v m).mp q
  · rw [if_neg hg]
    have hz : ∀ x : Rat, x + 0 = x := fun x => by grind
    rw [hz]
    by_cases h1 : (r.l : Rat) ≤ a * (r.s : Rat)
    · have h2 : ∃ m, r.m = some m ∧ (m : Rat) ≤ a * (r.s : Rat) := by
        cases hm : r.m with
        | none => exact absurd (grows_iff.mpr ⟨h1, fun m e => by rw [hm] at e; cases e⟩) hg
        | some m =>
          refine ⟨m, rfl, ?_⟩
          by_cases h3 : a * (r.s : Rat) < (m : Rat)
          · exact absurd (grows_iff.mpr ⟨h1, fun m' e => by rw [hm] at e; cases e; exact h3⟩) hg
          · exact Rat.not_lt.mp h3
      obtain ⟨m, hm, hle⟩ := h2
      rw [wq_high v hm hle, wq_high v hm (Rat.le_trans hle hmul)]
    · have h2 : a * (r.s : Rat) < (r.l : Rat) := Rat.not_le.mp h1
      have h3 := (lt_turn v r.l).mpr h2
      rw [wq_low v (Rat.le_of_lt h2)]
      rcases hl with q | q
      · exact absurd h3 (Rat.not_lt.mpr q)
      · exact wq_low v ((le_turn v r.l).mp q)
end
end K4

/-! ## Math2 -/
/-! plain: turns in order, the last turn, what is reached -/
namespace K4
open PySem

/-! ### insertion by counting -/
theorem split_lt : ∀ {l : List Rat} (x : Rat), l.Pairwise (· < ·) → ∃ a b, l = a ++ b ∧ (∀ y ∈ a, y < x) ∧ (∀ y ∈ b, ¬ y < x) ∧ (l.filter fun y => decide (y < x)).length = a.length
  | [], x, _ => ⟨[], [], rfl, by simp, by simp, rfl⟩
  | y :: ys, x, h => by
    obtain ⟨h1, h2⟩ := List.pairwise_cons.mp h
    by_cases hy : y < x
    · obtain ⟨a, b, e, ha, hb, hl⟩ := split_lt x h2
      refine ⟨y :: a, b, by rw [e]; rfl, fun z hz => ?_, hb, ?_⟩
      · rcases List.mem_cons.mp hz with q | q
        · rw [q]; exact hy
        · exact ha z q
      · rw [List.filter_cons, if_pos (decide_eq_true hy), List.length_cons, List.length_cons, hl]
    · refine ⟨[], y :: ys, rfl, by simp, fun z hz => ?_, ?_⟩
      · rcases List.mem_cons.mp hz with q | q
        · rw [q]; exact hy
        · have := h1 z q
          grind
      · have hn : (y :: ys).filter (fun z => decide (z < x)) = [] := by
          refine List.filter_eq_nil_iff.mpr fun z hz => ?_
          rcases List.mem_cons.mp hz with q | q
          · rw [q]; simpa using hy
          · have := h1 z q
            simp only [decide_eq_true_eq]
            grind
        rw [hn]
theorem insQ_spec {l : List Rat} (x : Rat) (h : l.Pairwise (· < ·)) : (insQ l x).Pairwise (· < ·) ∧ ∀ y, y ∈ insQ l x ↔ y = x ∨ y ∈ l := by
  obtain ⟨a, b, e, ha, hb, hl⟩ := split_lt x h
  have hd : l.drop a.length = b := by rw [e, List.drop_left]
  have ht : l.take a.length = a := by rw [e, List.take_left]
  unfold insQ
  rw [hl]
  dsimp only
  rw [hd, ht]
  obtain ⟨p1, p2, p3⟩ := List.pairwise_append.mp (by rw [e] at h; exact h)
  by_cases h1 : b.take 1 = [x]
  · rw [if_pos h1]
    have hx : x ∈ b := by
      cases b with
      | nil => simp at h1
      | cons z zs => simp at h1; rw [h1]; simp
    refine ⟨h, fun y => ⟨.inr, fun q => ?_⟩⟩
    rcases q with q | q
    · rw [q, e]; exact List.mem_append_right _ hx
    · exact q
  · rw [if_neg h1]
    have hgt : ∀ y ∈ b, x < y := by
      cases b with
      | nil => simp
      | cons z zs =>
        have hz : ¬ z < x := hb z (by simp)
        have hne : z ≠ x := fun q => h1 (by rw [q]; rfl)
        have hzx : x < z := by grind
        intro y hy
        rcases List.mem_cons.mp hy with q | q
        · rw [q]; exact hzx
        · have := (List.pairwise_cons.mp p2).1 y q
          grind
    refine ⟨?_, fun y => ?_⟩
    · rw [List.append_assoc, List.pairwise_append]
      refine ⟨p1, ?_, fun y hy z hz => ?_⟩
      · show (x :: b).Pairwise (· < ·)
        exact List.pairwise_cons.mpr ⟨hgt, p2⟩
      · rcases List.mem_append.mp hz with q | q
        · rw [List.mem_singleton.mp q]; exact ha y hy
        · exact p3 y hy z q
    · rw [e]
      simp only [List.mem_append, List.mem_singleton]
      grind
theorem ordQ_from : ∀ (xs l : List Rat), l.Pairwise (· < ·) → (xs.foldl insQ l).Pairwise (· < ·) ∧ ∀ y, y ∈ xs.foldl insQ l ↔ y ∈ l ∨ y ∈ xs
  | [], l, h => ⟨h, fun y => by simp⟩
  | x :: xs, l, h => by
    obtain ⟨h1, h2⟩ := insQ_spec x h
    obtain ⟨h3, h4⟩ := ordQ_from xs (insQ l x) h1
    refine ⟨h3, fun y => ?_⟩
    rw [List.foldl_cons, h4 y, h2 y, List.mem_cons]
    grind
theorem ordQ_sorted (l : List Rat) : (ordQ l).Pairwise (· < ·) := (ordQ_from l [] List.Pairwise.nil).1
theorem ordQ_mem (l : List Rat) (y : Rat) : y ∈ ordQ l ↔ y ∈ l := by
  have h := (ordQ_from l [] List.Pairwise.nil).2 y
  unfold ordQ
  rw [h]; simp
theorem uniqQ {l m : List Rat} (hl : l.Pairwise (· < ·)) (hm : m.Pairwise (· < ·)) (h : ∀ x, x ∈ l ↔ x ∈ m) : l = m :=
  uniq_sorted (· < ·) (fun x => Rat.lt_irrefl) (fun a b h1 h2 => by grind) hl hm h

/-! ### turns -/
theorem turnsQ_sorted (rs : List Rule) : (turnsQ rs).Pairwise (· < ·) := ordQ_sorted _
theorem turnsQ_mem (rs : List Rule) (x : Rat) : x ∈ turnsQ rs ↔ x = 0 ∨ ∃ r ∈ rs, x ∈ turnQ1 r := by
  unfold turnsQ
  rw [ordQ_mem, List.mem_cons]
  refine or_congr Iff.rfl ?_
  rw [List.mem_flatten]
  constructor
  · rintro ⟨l, h1, h2⟩
    obtain ⟨r, h3, rfl⟩ := List.mem_map.mp h1
    exact ⟨r, h3, h2⟩
  · rintro ⟨r, h1, h2⟩
    exact ⟨_, List.mem_map_of_mem h1, h2⟩
theorem turnQ1_nonneg {r : Rule} (v : VR r) : ∀ x ∈ turnQ1 r, 0 ≤ x := by
  intro x hx
  unfold turnQ1 at hx
  have hs := v.s
  have hl := v.l
  rcases List.mem_cons.mp hx with e | e
  · rw [e]; exact Rat.divInt_nonneg hl (by omega)
  · cases hm : r.m with
    | none => rw [hm] at e; simp at e
    | some m =>
      rw [hm] at e
      rw [List.mem_singleton.mp e]
      have := v.m m hm
      exact Rat.divInt_nonneg (by omega) (by omega)
section
variable {rs : List Rule} (ok : RsOk rs)
include ok
theorem turns_nonneg : ∀ x ∈ turnsQ rs, 0 ≤ x := fun x hx => by
  rcases (turnsQ_mem rs x).mp hx with e | ⟨r, h1, h2⟩
  · rw [e]; exact Rat.le_refl
  · exact turnQ1_nonneg (ok.vr r h1) x h2
theorem turns_dv : ∀ x ∈ turnsQ rs, Dv 60 x := fun x hx => by
  rcases (turnsQ_mem rs x).mp hx with e | ⟨r, h1, h2⟩
  · rw [e]; exact dv_int (by decide) 0
  · obtain ⟨b1, b2, _⟩ := ok.each r h1
    have key : ∀ n : Int, Dv 60 (Rat.divInt n r.s) := fun n => by
      have hd : r.s.toNat ∣ 60 := by
        have : r.s = 1 ∨ r.s = 2 ∨ r.s = 3 ∨ r.s = 4 ∨ r.s = 5 := by omega
        rcases this with e | e | e | e | e <;> rw [e] <;> decide
      exact dv_mono (M := r.s.toNat) (by omega) (by decide) hd ⟨n, by rw [show ((r.s.toNat : Nat) : Int) = r.s by omega]⟩
    unfold turnQ1 at h2
    rcases List.mem_cons.mp h2 with e | e
    · rw [e]; exact key _
    · cases hm : r.m with
      | none => rw [hm] at e; simp at e
      | some m =>
        rw [hm] at e
        rw [List.mem_singleton.mp e]
        exact key _
end
/-- all together -/
def tot (rs : List Rule) (t : Rat) : Rat := sumQ (wideQ rs t)
theorem tot_cons (r : Rule) (rs : List Rule) (t : Rat) : tot (r :: rs) t = wideQ1 t r + tot rs t := by
  unfold tot wideQ
  rw [List.map_cons, sumQ_cons]
/-- the pace by sums -/
def paceS (rs : List Rule) (t : Rat) : Int := (rs.map fun r => if growsQ t r = true then r.s else 0).sum
theorem pick_sum (f : Rule → Int) (p : Rule → Bool) : ∀ (rs : List Rule) (all : List Rule) (k : Nat), (∀ i r, rs[i]? = some r → (all[k + i]?.map f).getD 0 = f r) →
    ((((rs.zipIdx k).filter fun q => p q.1).map fun q => (q.2 : Int)).map fun (i : Int) => (all[i.toNat]?.map f).getD 0).sum = (rs.map fun r => if p r = true then f r else 0).sum
  | [], all, k, _ => rfl
  | r :: rs, all, k, h => by
    have ih := pick_sum f p rs all (k + 1) fun i r' hi => by
      have := h (i + 1) r' (by simpa using hi)
      rw [← this]
      congr 3
      omega
    rw [List.zipIdx_cons, List.filter_cons, List.map_cons, List.sum_cons]
    have h0 := h 0 r rfl
    by_cases hp : p r = true
    · rw [if_pos hp, if_pos hp, List.map_cons, List.map_cons, List.sum_cons, ih]
      congr 1
    · rw [if_neg hp, if_neg hp, ih, Int.zero_add]
theorem pace_eq (rs : List Rule) (t : Rat) : paceQ rs t = paceS rs t := by
  unfold paceQ moreQ paceS
  have h := pick_sum (fun r => r.s) (fun r => growsQ t r) rs rs 0 fun i r hi => by rw [Nat.zero_add, hi]; rfl
  exact h
theorem tot_step {a b : Rat} (hab : a ≤ b) : ∀ {rs : List Rule}, (∀ r ∈ rs, VR r) → (∀ r ∈ rs, ∀ x ∈ turnQ1 r, x ≤ a ∨ b ≤ x) → tot rs b = tot rs a + (b - a) * (paceS rs a : Rat)
  | [], _, _ => by
    show (0 : Rat) = 0 + (b - a) * ((0 : Int) : Rat)
    rw [Rat.intCast_zero]; grind
  | r :: rs, h, ht => by
    have ih := tot_step hab (rs := rs) (fun q hq => h q (List.mem_cons_of_mem _ hq)) fun q hq => ht q (List.mem_cons_of_mem _ hq)
    rw [tot_cons, tot_cons, ih, wq_step (h r (by simp)) hab (ht r (by simp))]
    have e : paceS (r :: rs) a = (if growsQ a r = true then r.s else 0) + paceS rs a := by
      unfold paceS; rw [List.map_cons, List.sum_cons]
    rw [e, Rat.intCast_add]
    by_cases hg : growsQ a r = true
    · rw [if_pos hg, if_pos hg]; grind
    · rw [if_neg hg, if_neg hg, Rat.intCast_zero]; grind
theorem tot_zero : ∀ {rs : List Rule}, (∀ r ∈ rs, VR r) → tot rs 0 = ((leastsOf rs : Int) : Rat)
  | [], _ => rfl
  | r :: rs, h => by
    have ih := tot_zero (rs := rs) fun q hq => h q (List.mem_cons_of_mem _ hq)
    have v := h r (by simp)
    have h0 : (0 : Rat) ≤ (r.l : Rat) := Rat.intCast_nonneg.mpr v.l
    rw [tot_cons, ih, wq_low v (by rw [Rat.zero_mul]; exact h0)]
    unfold leastsOf
    rw [List.map_cons, List.sum_cons, Rat.intCast_add]
theorem pace_nonneg : ∀ {rs : List Rule} (t : Rat), (∀ r ∈ rs, VR r) → 0 ≤ paceS rs t
  | [], _, _ => Int.le_refl 0
  | r :: rs, t, h => by
    have ih := pace_nonneg (rs := rs) t fun q hq => h q (List.mem_cons_of_mem _ hq)
    have v := h r (by simp)
    unfold paceS at ih ⊢
    rw [List.map_cons, List.sum_cons]
    have := v.s
    split <;> omega
theorem pace_zero : ∀ {rs : List Rule} {t : Rat}, (∀ r ∈ rs, VR r) → paceS rs t = 0 → ∀ r ∈ rs, growsQ t r = false
  | [], _, _, _ => by simp
  | r :: rs, t, h, e => by
    have v := h r (by simp)
    have hs := v.s
    have h1 := pace_nonneg (rs := rs) t fun q hq => h q (List.mem_cons_of_mem _ hq)
    have e' : (if growsQ t r = true then r.s else 0) + paceS rs t = 0 := by
      have e2 : paceS (r :: rs) t = (if growsQ t r = true then r.s else 0) + paceS rs t := by unfold paceS; rw [List.map_cons, List.sum_cons]
      rw [← e2]; exact e
    intro q hq
    by_cases hg : growsQ t r = true
    · rw [if_pos hg] at e'; omega
    · rw [if_neg hg] at e'
      rcases List.mem_cons.mp hq with k | k
      · rw [k]; simpa using hg
      · exact pace_zero (fun q hq => h q (List.mem_cons_of_mem _ hq)) (by omega) q k
theorem pace_le : ∀ {rs : List Rule} (t : Rat), (∀ r ∈ rs, 1 ≤ r.s ∧ r.s ≤ 5) → paceS rs t ≤ 5 * rs.length
  | [], _, _ => Int.le_refl 0
  | r :: rs, t, h => by
    have ih := pace_le (rs := rs) t fun q hq => h q (List.mem_cons_of_mem _ hq)
    have v := h r (by simp)
    unfold paceS at ih ⊢
    rw [List.map_cons, List.sum_cons, List.length_cons]
    split <;> omega

/-! ### the last turn -/
section
variable {rs : List Rule} (ok : RsOk rs) {w : Int} (hw : leastsOf rs ≤ w)
include ok hw
theorem last_ne : lastTurnL rs w ≠ [] := by
  have hm : (0 : Rat) ∈ lastTurnL rs w := by
    unfold lastTurnL
    refine List.mem_filter.mpr ⟨(turnsQ_mem rs 0).mpr (.inl rfl), ?_⟩
    have h0 := tot_zero ok.vr
    unfold tot at h0
    rw [h0, Bool.not_eq_true', decide_eq_false_iff_not, Rat.not_lt]
    exact Rat.intCast_le_intCast.mpr hw
  intro e
  rw [e] at hm
  cases hm
theorem last_mem : lastTurn rs w ∈ lastTurnL rs w ∧ (lastTurnL rs w).getLast? = some (lastTurn rs w) := by
  have hne := last_ne ok hw
  have e : (lastTurnL rs w).getLast? = some ((lastTurnL rs w).getLast hne) := List.getLast?_eq_some_getLast hne
  have e2 : lastTurn rs w = (lastTurnL rs w).getLast hne := by unfold lastTurn; rw [e]; rfl
  rw [e2]
  exact ⟨List.getLast_mem hne, e⟩
theorem last_turn : lastTurn rs w ∈ turnsQ rs ∧ tot rs (lastTurn rs w) ≤ (w : Rat) := by
  have h := (last_mem ok hw).1
  unfold lastTurnL at h
  obtain ⟨h1, h2⟩ := List.mem_filter.mp h
  refine ⟨h1, ?_⟩
  rw [Bool.not_eq_true', decide_eq_false_iff_not, Rat.not_lt] at h2
  exact h2
theorem last_above : ∀ u ∈ turnsQ rs, lastTurn rs w < u → (w : Rat) < tot rs u := fun u hu hlt => by
  by_cases h : (w : Rat) < tot rs u
  · exact h
  · have hm : u ∈ lastTurnL rs w := by
      unfold lastTurnL
      refine List.mem_filter.mpr ⟨hu, ?_⟩
      rw [Bool.not_eq_true', decide_eq_false_iff_not]
      exact h
    have hp : (lastTurnL rs w).Pairwise (· < ·) := (turnsQ_sorted rs).filter _
    rcases getLast_max (· < ·) hp (last_mem ok hw).2 u hm with e | e
    · rw [e] at hlt; exact absurd hlt Rat.lt_irrefl
    · grind
/-- the least turn above -/
theorem next_turn {u : Rat} (hu : u ∈ turnsQ rs) (hlt : lastTurn rs w < u) : ∃ b ∈ turnsQ rs, lastTurn rs w < b ∧ b ≤ u ∧ ∀ x ∈ turnsQ rs, x ≤ lastTurn rs w ∨ b ≤ x := by
  have key : ∀ (l : List Rat), l.Pairwise (· < ·) → u ∈ l → ∃ b ∈ l, lastTurn rs w < b ∧ b ≤ u ∧ ∀ x ∈ l, x ≤ lastTurn rs w ∨ b ≤ x := by
    intro l
    induction l with
    | nil => intro _ h; cases h
    | cons y ys ih =>
      intro hp hm
      obtain ⟨h1, h2⟩ := List.pairwise_cons.mp hp
      by_cases hy : lastTurn rs w < y
      · refine ⟨y, by simp, hy, ?_, fun x hx => ?_⟩
        · rcases List.mem_cons.mp hm with e | e
          · rw [e]; exact Rat.le_refl
          · exact Rat.le_of_lt (h1 u e)
        · rcases List.mem_cons.mp hx with e | e
          · rw [e]; exact .inr Rat.le_refl
          · exact .inr (Rat.le_of_lt (h1 x e))
      · rcases List.mem_cons.mp hm with e | e
        · rw [e] at hlt; exact absurd hlt hy
        · obtain ⟨b, k1, k2, k3, k4⟩ := ih h2 e
          refine ⟨b, List.mem_cons_of_mem _ k1, k2, k3, fun x hx => ?_⟩
          rcases List.mem_cons.mp hx with q | q
          · rw [q]; exact .inl (Rat.not_lt.mp hy)
          · exact k4 x q
  exact key _ (turnsQ_sorted rs) hu
theorem pace_pos : 0 < paceQ rs (lastTurn rs w) := by
  rw [pace_eq]
  have h0 := pace_nonneg (lastTurn rs w) ok.vr
  rcases Int.lt_or_eq_of_le h0 with q | q
  · exact q
  · exfalso
    obtain ⟨r, hr, hm⟩ := ok.free
    have v := ok.vr r hr
    have hg := pace_zero ok.vr q.symm r hr
    have hlow : lastTurn rs w * (r.s : Rat) < (r.l : Rat) := by
      by_cases h : lastTurn rs w * (r.s : Rat) < (r.l : Rat)
      · exact h
      · have : growsQ (lastTurn rs w) r = true := grows_iff.mpr ⟨Rat.not_lt.mp h, fun m e => by rw [hm] at e; cases e⟩
        rw [this] at hg; cases hg
    have hu := (lt_turn v r.l).mpr hlow
    have hmem : Rat.divInt r.l r.s ∈ turnsQ rs := (turnsQ_mem rs _).mpr (.inr ⟨r, hr, by unfold turnQ1; exact List.mem_cons_self⟩)
    obtain ⟨b, k1, k2, k3, k4⟩ := next_turn ok hw hmem hu
    have hst := tot_step (Rat.le_of_lt k2) ok.vr fun r' hr' x hx => k4 x ((turnsQ_mem rs x).mpr (.inr ⟨r', hr', hx⟩))
    have h1 := last_above ok hw b k1 k2
    have h2 := (last_turn ok hw).2
    rw [hst, ← q, Rat.intCast_zero] at h1
    grind
/-- what is reached lies ahead of the next turn -/
theorem reach_step : lastTurn rs w ≤ reachQ rs w ∧ (∀ x ∈ turnsQ rs, x ≤ lastTurn rs w ∨ reachQ rs w ≤ x) := by
  have hp : (0 : Rat) < (paceQ rs (lastTurn rs w) : Rat) := Rat.intCast_pos.mpr (pace_pos ok hw)
  have hS := (last_turn ok hw).2
  unfold tot at hS
  have e : reachQ rs w = lastTurn rs w + ((w : Rat) - sumQ (wideQ rs (lastTurn rs w))) / (paceQ rs (lastTurn rs w) : Rat) := rfl
  have hd : 0 ≤ ((w : Rat) - sumQ (wideQ rs (lastTurn rs w))) / (paceQ rs (lastTurn rs w) : Rat) := by
    rw [Rat.div_def]
    exact Rat.mul_nonneg (by grind) (Rat.le_of_lt (Rat.inv_pos.mpr hp))
  refine ⟨by rw [e]; grind, fun x hx => ?_⟩
  by_cases hlt : lastTurn rs w < x
  · right
    obtain ⟨b, k1, k2, k3, k4⟩ := next_turn ok hw hx hlt
    have hst := tot_step (Rat.le_of_lt k2) ok.vr fun r' hr' y hy => k4 y ((turnsQ_mem rs y).mpr (.inr ⟨r', hr', hy⟩))
    have h1 := last_above ok hw b k1 k2
    rw [hst, ← pace_eq] at h1
    unfold tot at h1
    have h2 : ((w : Rat) - sumQ (wideQ rs (lastTurn rs w))) / (paceQ rs (lastTurn rs w) : Rat) < b - lastTurn rs w := (Rat.div_lt_iff hp).mpr (by grind)
    rw [e]
    grind
  · exact .inl (Rat.not_lt.mp hlt)
theorem reach_wide : ∀ r ∈ rs, wideQ1 (reachQ rs w) r = wideQ1 (lastTurn rs w) r + (if growsQ (lastTurn rs w) r = true then ((w : Rat) - tot rs (lastTurn rs w)) / (paceQ rs (lastTurn rs w) : Rat) * (r.s : Rat) else 0) := fun r hr => by
  obtain ⟨h1, h2⟩ := reach_step ok hw
  rw [wq_step (ok.vr r hr) h1 fun x hx => h2 x ((turnsQ_mem rs x).mpr (.inr ⟨r, hr, hx⟩))]
  have e : reachQ rs w - lastTurn rs w = ((w : Rat) - tot rs (lastTurn rs w)) / (paceQ rs (lastTurn rs w) : Rat) := by
    unfold reachQ tot; grind
  rw [e]
end
end K4

/-! ## Math3 -/
/-! plain: the program's whole numbers are the law's fractions, times the common share -/
namespace K4
open PySem

/-! ### the common share -/
theorem lcm_fold_dvd : ∀ (ns : List Int) (a : Int), a.natAbs ∣ (ns.foldl lcmI a).natAbs ∧ ∀ n ∈ ns, n.natAbs ∣ (ns.foldl lcmI a).natAbs
  | [], a => ⟨Nat.dvd_refl _, by simp⟩
  | x :: xs, a => by
    obtain ⟨h1, h2⟩ := lcm_fold_dvd xs (lcmI a x)
    have e : (lcmI a x).natAbs = Nat.lcm a.natAbs x.natAbs := by unfold lcmI; rw [Int.natAbs_natCast]
    refine ⟨Nat.dvd_trans (by rw [e]; exact Nat.dvd_lcm_left _ _) h1, fun n hn => ?_⟩
    rcases List.mem_cons.mp hn with q | q
    · rw [q]; exact Nat.dvd_trans (by rw [e]; exact Nat.dvd_lcm_right _ _) h1
    · exact h2 n q
theorem lcm_fold_pos {M : Nat} : ∀ (ns : List Int) (a : Int), 0 < a → a.natAbs ∣ M → (∀ n ∈ ns, 0 < n ∧ n.natAbs ∣ M) → 0 < ns.foldl lcmI a ∧ (ns.foldl lcmI a).natAbs ∣ M
  | [], a, h1, h2, _ => ⟨h1, h2⟩
  | n :: ns, a, h1, h2, h => by
    have hn := h n (by simp)
    refine lcm_fold_pos ns (lcmI a n) ?_ ?_ fun m hm => h m (List.mem_cons_of_mem _ hm)
    · unfold lcmI
      have := Nat.lcm_pos (show 0 < a.natAbs by omega) (show 0 < n.natAbs by omega)
      omega
    · unfold lcmI; rw [Int.natAbs_natCast]; exact Nat.lcm_dvd h2 hn.2
section
variable {rs : List Rule} (ok : RsOk rs)
include ok
theorem share_dvd60 : ∀ r ∈ rs, 0 < r.s ∧ r.s.natAbs ∣ 60 := fun r hr => by
  obtain ⟨b1, b2, _⟩ := ok.each r hr
  refine ⟨by omega, ?_⟩
  have : r.s = 1 ∨ r.s = 2 ∨ r.s = 3 ∨ r.s = 4 ∨ r.s = 5 := by omega
  rcases this with e | e | e | e | e <;> rw [e] <;> decide
theorem whole_pos : 0 < whole rs ∧ (whole rs).natAbs ∣ 60 := by
  unfold whole lcmL
  refine lcm_fold_pos _ 1 (by decide) (by simp) fun n hn => ?_
  obtain ⟨r, h1, rfl⟩ := List.mem_map.mp hn
  exact share_dvd60 ok r h1
theorem whole_le : whole rs ≤ 60 := by
  have h := whole_pos ok
  have := Nat.le_of_dvd (by decide) h.2
  omega
theorem share_dvd : ∀ r ∈ rs, r.s ∣ whole rs := fun r hr => by
  have h := (lcm_fold_dvd (rs.map (·.s)) 1).2 r.s (List.mem_map_of_mem hr)
  exact Int.natAbs_dvd_natAbs.mp h
end

/-! ### scaled -/
section
variable {W a : Int} {t : Rat} (hW : 0 < W) (ht : t * (W : Rat) = (a : Rat))
include hW ht
theorem W_posQ : (0 : Rat) < (W : Rat) := Rat.intCast_pos.mpr hW
theorem lt_scale (s n : Int) : t * (s : Rat) < (n : Rat) ↔ a * s < n * W := by
  have hp := W_posQ hW ht
  rw [← Rat.mul_lt_mul_right hp, ← Rat.intCast_lt_intCast, Rat.intCast_mul, Rat.intCast_mul, ← ht]
  have e : t * (s : Rat) * (W : Rat) = t * (W : Rat) * (s : Rat) := by grind
  rw [e]
theorem le_scale (s n : Int) : (n : Rat) ≤ t * (s : Rat) ↔ n * W ≤ a * s := by
  rw [← Rat.not_lt, lt_scale hW ht]
  omega
theorem gt_scale (s n : Int) : (n : Rat) < t * (s : Rat) ↔ n * W < a * s := by
  have hp := W_posQ hW ht
  rw [← Rat.mul_lt_mul_right hp, ← Rat.intCast_lt_intCast, Rat.intCast_mul, Rat.intCast_mul, ← ht]
  have e : t * (s : Rat) * (W : Rat) = t * (W : Rat) * (s : Rat) := by grind
  rw [e]
theorem would_wide {r : Rule} (v : VR r) : ((wouldBe1 W a r : Int) : Rat) = wideQ1 t r * (W : Rat) := by
  have e1 : ((a * r.s : Int) : Rat) = t * (r.s : Rat) * (W : Rat) := by rw [Rat.intCast_mul, ← ht]; grind
  have e2 : ∀ n : Int, ((n * W : Int) : Rat) = (n : Rat) * (W : Rat) := fun n => Rat.intCast_mul n W
  have hs := lt_scale hW ht r.s r.l
  unfold wouldBe1
  cases hm : r.m with
  | none =>
    dsimp only
    by_cases h : a * r.s < r.l * W
    · rw [Int.max_eq_right (by omega), e2, wq_low v (Rat.le_of_lt (hs.mpr h))]
    · rw [Int.max_eq_left (by omega), e1, wq_mid v (Rat.not_lt.mp fun z => h (hs.mp z)) fun m e => by rw [hm] at e; cases e]
  | some m =>
    have hlm : r.l * W ≤ m * W := Int.mul_le_mul_of_nonneg_right (v.m m hm) (Int.le_of_lt hW)
    have hms := gt_scale hW ht r.s m
    dsimp only
    by_cases h : a * r.s < r.l * W
    · rw [Int.max_eq_right (by omega), Int.min_eq_left hlm, e2, wq_low v (Rat.le_of_lt (hs.mpr h))]
    · rw [Int.max_eq_left (by omega)]
      by_cases h2 : m * W < a * r.s
      · rw [Int.min_eq_right (by omega), e2, wq_high v hm (Rat.le_of_lt (hms.mpr h2))]
      · rw [Int.min_eq_left (by omega), e1, wq_mid v (Rat.not_lt.mp fun z => h (hs.mp z)) fun m' e => by rw [hm] at e; cases e; exact Rat.not_lt.mp fun z => h2 (hms.mp z)]
theorem grows_scale (r : Rule) : grows W a r = growsQ t r := by
  unfold grows growsQ
  congr 1
  · have h := lt_scale hW ht r.s r.l
    rw [← decide_not]
    exact decide_eq_decide.mpr ⟨fun z y => by have := h.mp y; omega, fun z => Int.not_lt.mp fun y => z (h.mpr y)⟩
  · cases hm : r.m with
    | none => rfl
    | some m => exact decide_eq_decide.mpr (lt_scale hW ht r.s m).symm
end
theorem divW {W : Int} (hW : 0 < W) (a : Int) : Rat.divInt a W * (W : Rat) = (a : Rat) := by
  have hp : (W : Rat) ≠ 0 := by
    intro e
    have : (0 : Rat) < (W : Rat) := Rat.intCast_pos.mpr hW
    rw [e] at this
    exact Rat.lt_irrefl this
  rw [Rat.divInt_eq_div, Rat.div_mul_cancel hp]
theorem eq_divW {W : Int} (hW : 0 < W) {a : Int} {q : Rat} (h : (a : Rat) = q * (W : Rat)) : Rat.divInt a W = q := by
  have hp : (W : Rat) ≠ 0 := by
    intro e
    have : (0 : Rat) < (W : Rat) := Rat.intCast_pos.mpr hW
    rw [e] at this
    exact Rat.lt_irrefl this
  rw [Rat.divInt_eq_div, h, Rat.mul_div_cancel hp]
theorem sum_scale {W a : Int} {t : Rat} (hW : 0 < W) (ht : t * (W : Rat) = (a : Rat)) : ∀ {rs : List Rule}, (∀ r ∈ rs, VR r) → (((rs.map (wouldBe1 W a)).sum : Int) : Rat) = tot rs t * (W : Rat)
  | [], _ => by
    show ((0 : Int) : Rat) = 0 * (W : Rat)
    rw [Rat.zero_mul, Rat.intCast_zero]
  | r :: rs, h => by
    have ih := sum_scale hW ht (rs := rs) fun q hq => h q (List.mem_cons_of_mem _ hq)
    rw [List.map_cons, List.sum_cons, Rat.intCast_add, ih, would_wide hW ht (h r (by simp)), tot_cons]
    grind
section
variable {rs : List Rule} (ok : RsOk rs)
include ok
theorem sum_at (a : Int) {t : Rat} (ht : t * (whole rs : Rat) = (a : Rat)) : (((wouldBe rs a).sum : Int) : Rat) = tot rs t * (whole rs : Rat) := sum_scale (whole_pos ok).1 ht ok.vr
theorem turn_exact : ∀ r ∈ rs, ∀ n : Int, Rat.divInt n r.s * (whole rs : Rat) = ((n * whole rs / r.s : Int) : Rat) := fun r hr n => by
  obtain ⟨c, hc⟩ := share_dvd ok r hr
  have hs := (share_dvd60 ok r hr).1
  have hp : (r.s : Rat) ≠ 0 := by
    intro e
    have : (0 : Rat) < (r.s : Rat) := Rat.intCast_pos.mpr hs
    rw [e] at this
    exact Rat.lt_irrefl this
  have e1 : n * whole rs / r.s = n * c := by
    rw [hc, show n * (r.s * c) = n * c * r.s by rw [Int.mul_comm r.s c, Int.mul_assoc], Int.mul_ediv_cancel _ (by omega)]
  rw [e1, hc, Rat.intCast_mul, Rat.intCast_mul, Rat.divInt_eq_div]
  have h2 : (n : Rat) / (r.s : Rat) * (r.s : Rat) = (n : Rat) := Rat.div_mul_cancel hp
  grind
theorem turn1_map : ∀ r ∈ rs, (turn1 (whole rs) r).map (fun a => Rat.divInt a (whole rs)) = turnQ1 r := fun r hr => by
  have hW := (whole_pos ok).1
  have key : ∀ n : Int, Rat.divInt (n * whole rs / r.s) (whole rs) = Rat.divInt n r.s := fun n => eq_divW hW (turn_exact ok r hr n).symm
  unfold turn1 turnQ1
  rw [List.map_cons, key]
  cases hm : r.m with
  | none => rfl
  | some m => rw [List.map_cons, key]; rfl
theorem turns_map : turnsQ rs = (turnsOf rs).map fun a => Rat.divInt a (whole rs) := by
  have hW := (whole_pos ok).1
  refine uniqQ (turnsQ_sorted rs) ?_ fun x => ?_
  · rw [List.pairwise_map]
    refine (ascI_sorted (turnsRaw rs)).imp fun {a b} hab => ?_
    rw [← Rat.mul_lt_mul_right (Rat.intCast_pos.mpr hW), divW hW, divW hW]
    exact Rat.intCast_lt_intCast.mpr hab
  · rw [turnsQ_mem]
    have hz : Rat.divInt 0 (whole rs) = 0 := Rat.zero_divInt _
    constructor
    · rintro (e | ⟨r, h1, h2⟩)
      · refine List.mem_map.mpr ⟨0, (ascI_mem _ _).mpr (by unfold turnsRaw; exact List.mem_cons_self), by rw [hz, e]⟩
      · rw [← turn1_map ok r h1] at h2
        obtain ⟨a, h3, h4⟩ := List.mem_map.mp h2
        refine List.mem_map.mpr ⟨a, (ascI_mem _ _).mpr ?_, h4⟩
        unfold turnsRaw
        exact List.mem_cons_of_mem _ (List.mem_flatten.mpr ⟨_, List.mem_map_of_mem h1, h3⟩)
    · intro h
      obtain ⟨a, h3, h4⟩ := List.mem_map.mp h
      have h5 := (ascI_mem _ _).mp h3
      unfold turnsRaw at h5
      rcases List.mem_cons.mp h5 with e | e
      · left; rw [← h4, e, hz]
      · obtain ⟨l, h6, h7⟩ := List.mem_flatten.mp e
        obtain ⟨r, h8, rfl⟩ := List.mem_map.mp h6
        right
        refine ⟨r, h8, ?_⟩
        rw [← turn1_map ok r h8, ← h4]
        exact List.mem_map_of_mem h7
theorem stretch_map (w : Int) : lastTurnL rs w = (stretchL rs (w * whole rs)).map fun a => Rat.divInt a (whole rs) := by
  have hW := (whole_pos ok).1
  unfold lastTurnL stretchL
  rw [turns_map ok, List.filter_map]
  congr 1
  refine List.filter_congr fun a _ => ?_
  show (!decide ((w : Rat) < sumQ (wideQ rs (Rat.divInt a (whole rs))))) = decide ((wouldBe rs a).sum ≤ w * whole rs)
  have h := sum_at ok a (divW hW a)
  unfold tot at h
  rw [← decide_not]
  refine decide_eq_decide.mpr ?_
  rw [Rat.not_lt, ← Rat.intCast_le_intCast, h, Rat.intCast_mul]
  exact ⟨fun z => Rat.mul_le_mul_of_nonneg_right z (Rat.le_of_lt (Rat.intCast_pos.mpr hW)), fun z => Rat.le_of_mul_le_mul_right z (Rat.intCast_pos.mpr hW)⟩
theorem last_map (w : Int) : lastTurn rs w = Rat.divInt (stretchAt rs (w * whole rs)) (whole rs) := by
  unfold lastTurn stretchAt
  rw [stretch_map ok, List.getLast?_map]
  cases (stretchL rs (w * whole rs)).getLast? with
  | none => exact (Rat.zero_divInt _).symm
  | some a => rfl
theorem stretch_ne {w : Int} (hw : leastsOf rs ≤ w) : stretchL rs (w * whole rs) ≠ [] := fun e => by
  have h := last_ne ok hw
  rw [stretch_map ok, e] at h
  exact h rfl
theorem growing_map (a : Int) {t : Rat} (ht : t * (whole rs : Rat) = (a : Rat)) : growing rs a = moreQ rs t := by
  unfold growing moreQ
  congr 1
  exact List.filter_congr fun p _ => grows_scale (whole_pos ok).1 ht p.1
theorem free_map (w : Int) : freeAt rs w = freeQ rs w := by
  unfold freeAt freeQ
  split
  · rfl
  · exact growing_map ok _ (by rw [last_map ok w]; exact divW (whole_pos ok).1 _)
omit ok in
theorem more_has (t : Rat) {p : Nat} {r : Rule} (h : rs[p]? = some r) : (moreQ rs t).contains (p : Int) = growsQ t r := by
  unfold moreQ
  rw [Bool.eq_iff_iff, List.contains_iff_mem, List.mem_map]
  constructor
  · rintro ⟨q, h1, h2⟩
    obtain ⟨h3, h4⟩ := List.mem_filter.mp h1
    have h5 := List.mem_zipIdx_iff_getElem?.mp (show (q.1, q.2) ∈ rs.zipIdx from h3)
    have e : q.2 = p := by omega
    rw [e, h] at h5
    have e2 : r = q.1 := Option.some.inj h5
    rw [e2]; exact h4
  · intro hg
    refine ⟨(r, p), List.mem_filter.mpr ⟨List.mem_zipIdx_iff_getElem?.mpr h, hg⟩, rfl⟩
theorem given_exact (w : Int) : givenAll rs w = exactQ rs w := by
  have hW := (whole_pos ok).1
  have hWq : (0 : Rat) < (whole rs : Rat) := Rat.intCast_pos.mpr hW
  unfold givenAll exactQ
  by_cases hw : w < leastsOf rs
  · rw [if_pos hw, if_pos hw]
  · rw [if_neg hw, if_neg hw]
    have hw' : leastsOf rs ≤ w := by omega
    have ht : lastTurn rs w * (whole rs : Rat) = ((stretchAt rs (w * whole rs) : Int) : Rat) := by rw [last_map ok w]; exact divW hW _
    have hpp := pace_pos ok hw'
    have hppq : (0 : Rat) < (paceQ rs (lastTurn rs w) : Rat) := Rat.intCast_pos.mpr hpp
    have hS := sum_at ok _ ht
    dsimp only
    rw [growing_map ok _ ht]
    have ep : ((moreQ rs (lastTurn rs w)).map (shareAt rs)).sum = paceQ rs (lastTurn rs w) := rfl
    rw [ep]
    refine List.ext_getElem? fun i => ?_
    unfold wideQ
    rw [List.getElem?_map, List.getElem?_map, List.getElem?_zipIdx]
    unfold wouldBe
    rw [List.getElem?_map]
    cases hr : rs[i]? with
    | none => rfl
    | some r =>
      have hm : r ∈ rs := List.mem_of_getElem? hr
      have v := ok.vr r hm
      show some _ = some _
      congr 1
      dsimp only
      rw [Nat.zero_add, more_has (lastTurn rs w) hr, reach_wide ok hw' r hm]
      have hown := would_wide hW ht v
      have hsh : shareAt rs (i : Int) = r.s := by unfold shareAt; rw [Int.toNat_natCast, hr]; rfl
      by_cases hg : growsQ (lastTurn rs w) r = true
      · rw [if_pos hg, if_pos hg, hsh]
        refine eq_divW (Int.mul_pos hpp hW) ?_
        unfold wouldBe at hS
        rw [Rat.intCast_add, Rat.intCast_mul, Rat.intCast_mul, Rat.intCast_mul, Rat.intCast_sub, Rat.intCast_mul, hown, hS]
        have h2 : ((w : Rat) - tot rs (lastTurn rs w)) / (paceQ rs (lastTurn rs w) : Rat) * (paceQ rs (lastTurn rs w) : Rat) = (w : Rat) - tot rs (lastTurn rs w) := Rat.div_mul_cancel (by intro e; rw [e] at hppq; exact Rat.lt_irrefl hppq)
        generalize ((w : Rat) - tot rs (lastTurn rs w)) / (paceQ rs (lastTurn rs w) : Rat) = X at h2 ⊢
        grind
      · rw [if_neg hg, if_neg hg]
        refine eq_divW hW ?_
        rw [hown]; grind
end
end K4

/-! ## Math4 -/
/-! plain: many times as great; shares alone; stops; panes one behind the other -/
namespace K4
open PySem

/-! ### many times as great -/
def scaleR (k : Int) (r : Rule) : Rule := ⟨r.s, r.l * k, r.m.map (· * k)⟩
section
variable {k : Int} (hk : 0 < k)
include hk
theorem kpos : (0 : Rat) < (k : Rat) := Rat.intCast_pos.mpr hk
theorem scale_vr {r : Rule} (v : VR r) : VR (scaleR k r) := by
  refine ⟨v.s, Int.mul_nonneg v.l (Int.le_of_lt hk), fun m hm => ?_⟩
  show r.l * k ≤ m
  have hm' : r.m.map (· * k) = some m := hm
  obtain ⟨m0, h1, h2⟩ := Option.map_eq_some_iff.mp hm'
  rw [← h2]
  exact Int.mul_le_mul_of_nonneg_right (v.m m0 h1) (Int.le_of_lt hk)
theorem scale_lt (t : Rat) (s n : Int) : t * (k : Rat) * (s : Rat) < ((n * k : Int) : Rat) ↔ t * (s : Rat) < (n : Rat) := by
  rw [Rat.intCast_mul, show t * (k : Rat) * (s : Rat) = t * (s : Rat) * (k : Rat) by grind, Rat.mul_lt_mul_right (kpos hk)]
theorem scale_gt (t : Rat) (s n : Int) : ((n * k : Int) : Rat) < t * (k : Rat) * (s : Rat) ↔ (n : Rat) < t * (s : Rat) := by
  rw [Rat.intCast_mul, show t * (k : Rat) * (s : Rat) = t * (s : Rat) * (k : Rat) by grind, Rat.mul_lt_mul_right (kpos hk)]
theorem scale_wide (t : Rat) (r : Rule) : wideQ1 (t * (k : Rat)) (scaleR k r) = wideQ1 t r * (k : Rat) := by
  have h1 := scale_lt hk t r.s r.l
  have e1 : (if t * (k : Rat) * (r.s : Rat) < ((r.l * k : Int) : Rat) then ((r.l * k : Int) : Rat) else t * (k : Rat) * (r.s : Rat)) = (if t * (r.s : Rat) < (r.l : Rat) then (r.l : Rat) else t * (r.s : Rat)) * (k : Rat) := by
    by_cases h : t * (r.s : Rat) < (r.l : Rat)
    · rw [if_pos (h1.mpr h), if_pos h, Rat.intCast_mul]
    · rw [if_neg fun z => h (h1.mp z), if_neg h]; grind
  rw [wq_def, wq_def]
  cases hm : r.m with
  | none =>
    have e2 : (scaleR k r).m = none := by show r.m.map (· * k) = none; rw [hm]; rfl
    rw [e2]
    exact e1
  | some m =>
    have e2 : (scaleR k r).m = some (m * k) := by show r.m.map (· * k) = _; rw [hm]; rfl
    rw [e2]
    show (if ((m * k : Int) : Rat) < (if t * (k : Rat) * (r.s : Rat) < ((r.l * k : Int) : Rat) then ((r.l * k : Int) : Rat) else t * (k : Rat) * (r.s : Rat)) then ((m * k : Int) : Rat) else (if t * (k : Rat) * (r.s : Rat) < ((r.l * k : Int) : Rat) then ((r.l * k : Int) : Rat) else t * (k : Rat) * (r.s : Rat))) = _
    rw [e1]
    dsimp only
    generalize (if t * (r.s : Rat) < (r.l : Rat) then (r.l : Rat) else t * (r.s : Rat)) = X
    have h3 : ((m * k : Int) : Rat) < X * (k : Rat) ↔ (m : Rat) < X := by rw [Rat.intCast_mul, Rat.mul_lt_mul_right (kpos hk)]
    by_cases h : (m : Rat) < X
    · rw [if_pos (h3.mpr h), if_pos h, Rat.intCast_mul]
    · rw [if_neg fun z => h (h3.mp z), if_neg h]
theorem scale_grows (t : Rat) (r : Rule) : growsQ (t * (k : Rat)) (scaleR k r) = growsQ t r := by
  unfold growsQ
  congr 1
  · congr 1
    exact decide_eq_decide.mpr (scale_lt hk t r.s r.l)
  · cases hm : r.m with
    | none =>
      have e2 : (scaleR k r).m = none := by show r.m.map (· * k) = none; rw [hm]; rfl
      rw [e2]
    | some m =>
      have e2 : (scaleR k r).m = some (m * k) := by show r.m.map (· * k) = _; rw [hm]; rfl
      rw [e2]
      exact decide_eq_decide.mpr (scale_lt hk t r.s m)
theorem scale_wides (t : Rat) (rs : List Rule) : wideQ (rs.map (scaleR k)) (t * (k : Rat)) = (wideQ rs t).map (· * (k : Rat)) := by
  unfold wideQ
  rw [List.map_map, List.map_map]
  exact List.map_congr_left fun r _ => scale_wide hk t r
omit hk in
theorem sum_mul (l : List Rat) (x : Rat) : sumQ (l.map (· * x)) = sumQ l * x := by
  induction l with
  | nil => rw [List.map_nil, sumQ_nil, Rat.zero_mul]
  | cons y ys ih => rw [List.map_cons, sumQ_cons, sumQ_cons, ih]; grind
theorem scale_turn (r : Rule) : turnQ1 (scaleR k r) = (turnQ1 r).map (· * (k : Rat)) := by
  have key : ∀ n : Int, Rat.divInt (n * k) r.s = Rat.divInt n r.s * (k : Rat) := fun n => by
    rw [Rat.divInt_eq_div, Rat.divInt_eq_div, Rat.intCast_mul, Rat.div_def, Rat.div_def]; grind
  unfold turnQ1
  rw [List.map_cons]
  congr 1
  · exact key r.l
  · cases hm : r.m with
    | none =>
      have e2 : (scaleR k r).m = none := by show r.m.map (· * k) = none; rw [hm]; rfl
      rw [e2]; rfl
    | some m =>
      have e2 : (scaleR k r).m = some (m * k) := by show r.m.map (· * k) = _; rw [hm]; rfl
      rw [e2]
      show [Rat.divInt (m * k) r.s] = [Rat.divInt m r.s * (k : Rat)]
      rw [key]
theorem scale_turns (rs : List Rule) : turnsQ (rs.map (scaleR k)) = (turnsQ rs).map (· * (k : Rat)) := by
  refine uniqQ (turnsQ_sorted _) ?_ fun x => ?_
  · rw [List.pairwise_map]
    exact (turnsQ_sorted rs).imp fun {a b} hab => (Rat.mul_lt_mul_right (kpos hk)).mpr hab
  · rw [turnsQ_mem, List.mem_map]
    constructor
    · rintro (e | ⟨r, h1, h2⟩)
      · exact ⟨0, (turnsQ_mem rs 0).mpr (.inl rfl), by rw [Rat.zero_mul, e]⟩
      · obtain ⟨r0, h3, rfl⟩ := List.mem_map.mp h1
        rw [scale_turn hk] at h2
        obtain ⟨y, h4, h5⟩ := List.mem_map.mp h2
        exact ⟨y, (turnsQ_mem rs y).mpr (.inr ⟨r0, h3, h4⟩), h5⟩
    · rintro ⟨y, h1, h2⟩
      rcases (turnsQ_mem rs y).mp h1 with e | ⟨r, h3, h4⟩
      · left; rw [← h2, e, Rat.zero_mul]
      · right
        refine ⟨scaleR k r, List.mem_map_of_mem h3, ?_⟩
        rw [scale_turn hk, ← h2]
        exact List.mem_map_of_mem h4
theorem scale_lastL (rs : List Rule) (w : Int) : lastTurnL (rs.map (scaleR k)) (w * k) = (lastTurnL rs w).map (· * (k : Rat)) := by
  unfold lastTurnL
  rw [scale_turns hk, List.filter_map]
  congr 1
  refine List.filter_congr fun t _ => ?_
  show (!decide (((w * k : Int) : Rat) < sumQ (wideQ (rs.map (scaleR k)) (t * (k : Rat))))) = !decide ((w : Rat) < sumQ (wideQ rs t))
  congr 1
  rw [scale_wides hk, sum_mul, Rat.intCast_mul]
  exact decide_eq_decide.mpr (Rat.mul_lt_mul_right (kpos hk))
theorem scale_last (rs : List Rule) (w : Int) : lastTurn (rs.map (scaleR k)) (w * k) = lastTurn rs w * (k : Rat) := by
  unfold lastTurn
  rw [scale_lastL hk, List.getLast?_map]
  cases (lastTurnL rs w).getLast? with
  | none => exact (Rat.zero_mul _).symm
  | some a => rfl
theorem scale_more (rs : List Rule) (t : Rat) : moreQ (rs.map (scaleR k)) (t * (k : Rat)) = moreQ rs t := by
  unfold moreQ
  rw [List.zipIdx_map, List.filter_map, List.map_map]
  have e : (rs.zipIdx.filter ((fun p : Rule × Nat => growsQ (t * (k : Rat)) p.1) ∘ Prod.map (scaleR k) id)) = rs.zipIdx.filter fun p => growsQ t p.1 := List.filter_congr fun p _ => scale_grows hk t p.1
  rw [e]
  rfl
omit hk in
theorem scale_share (rs : List Rule) (p : Int) : shareAt (rs.map (scaleR k)) p = shareAt rs p := by
  unfold shareAt
  rw [List.getElem?_map]
  cases rs[p.toNat]? <;> rfl
theorem scale_pace (rs : List Rule) (t : Rat) : paceQ (rs.map (scaleR k)) (t * (k : Rat)) = paceQ rs t := by
  unfold paceQ
  rw [scale_more hk]
  congr 1
  exact List.map_congr_left fun p _ => scale_share rs p
theorem scale_leasts : ∀ rs : List Rule, leastsOf (rs.map (scaleR k)) = leastsOf rs * k
  | [] => (Int.zero_mul k).symm
  | r :: rs => by
    have ih := scale_leasts rs
    unfold leastsOf at ih ⊢
    rw [List.map_cons, List.map_cons, List.sum_cons, ih, List.map_cons, List.sum_cons]
    show r.l * k + _ = _
    rw [Int.add_mul]
theorem scale_exact (rs : List Rule) (w : Int) : exactQ (rs.map (scaleR k)) (w * k) = (exactQ rs w).map (· * (k : Rat)) := by
  unfold exactQ
  have hl := scale_leasts hk rs
  have hiff : w * k < leastsOf rs * k ↔ w < leastsOf rs := Int.mul_lt_mul_right hk
  by_cases h : w < leastsOf rs
  · rw [if_pos (by rw [hl]; exact hiff.mpr h), if_pos h, List.map_map, List.map_map]
    refine List.map_congr_left fun r _ => ?_
    show Rat.divInt (w * k * (r.l * k)) (leastsOf (rs.map (scaleR k))) = Rat.divInt (w * r.l) (leastsOf rs) * (k : Rat)
    rw [hl, show w * k * (r.l * k) = w * r.l * k * k by grind, Rat.divInt_mul_right (by omega), Rat.divInt_eq_div, Rat.divInt_eq_div, Rat.intCast_mul, Rat.div_def, Rat.div_def]
    grind
  · rw [if_neg (by rw [hl]; exact fun z => h (hiff.mp z)), if_neg h]
    have e : reachQ (rs.map (scaleR k)) (w * k) = reachQ rs w * (k : Rat) := by
      unfold reachQ
      rw [scale_last hk, scale_wides hk, sum_mul, scale_pace hk, Rat.intCast_mul, Rat.div_def, Rat.div_def]
      grind
    rw [e, scale_wides hk]
end

/-! ### shares alone -/
theorem shares_leasts : ∀ ns : List Int, leastsOf (sharesRs ns) = 0
  | [] => rfl
  | n :: ns => by
    have ih := shares_leasts ns
    unfold leastsOf sharesRs at ih ⊢
    rw [List.map_cons, List.map_cons, List.sum_cons, ih]; rfl
theorem shares_grow (n : Int) : growsQ 0 ⟨n, 0, none⟩ = true := by
  unfold growsQ
  rw [Rat.zero_mul]
  simp
theorem shares_pace : ∀ ns : List Int, paceS (sharesRs ns) 0 = ns.sum
  | [] => rfl
  | n :: ns => by
    have ih := shares_pace ns
    unfold paceS sharesRs at ih ⊢
    rw [List.map_cons, List.map_cons, List.sum_cons, ih, if_pos (shares_grow n), List.sum_cons]
theorem shares_turns (ns : List Int) : ∀ x ∈ turnsQ (sharesRs ns), x = 0 := fun x hx => by
  rcases (turnsQ_mem _ x).mp hx with e | ⟨r, h1, h2⟩
  · exact e
  · unfold sharesRs at h1
    obtain ⟨s, _, rfl⟩ := List.mem_map.mp h1
    unfold turnQ1 at h2
    rw [List.mem_singleton.mp h2]
    exact Rat.zero_divInt _
theorem shares_exact {ns : List Int} (ok : RsOk (sharesRs ns)) {w : Int} (hw : 0 ≤ w) : exactQ (sharesRs ns) w = ns.map fun s => Rat.divInt (w * s) ns.sum := by
  have hle : leastsOf (sharesRs ns) ≤ w := by rw [shares_leasts]; exact hw
  have h0 : lastTurn (sharesRs ns) w = 0 := shares_turns ns _ (last_turn ok hle).1
  have hpp := pace_pos ok hle
  rw [h0, pace_eq, shares_pace] at hpp
  unfold exactQ
  rw [if_neg (by omega)]
  refine List.ext_getElem? fun i => ?_
  unfold wideQ
  rw [List.getElem?_map, List.getElem?_map]
  cases hs : ns[i]? with
  | none =>
    have : (sharesRs ns)[i]? = none := by unfold sharesRs; rw [List.getElem?_map, hs]; rfl
    rw [this]; rfl
  | some s =>
    have hi : (sharesRs ns)[i]? = some ⟨s, 0, none⟩ := by unfold sharesRs; rw [List.getElem?_map, hs]; rfl
    have hm := List.mem_of_getElem? hi
    have v := ok.vr _ hm
    rw [hi]
    show some _ = some _
    congr 1
    have ht0 : tot (sharesRs ns) 0 = 0 := by rw [tot_zero ok.vr, shares_leasts]; rfl
    rw [reach_wide ok hle _ hm, h0, shares_grow, if_pos rfl, pace_eq, shares_pace, ht0, wq_low v (by rw [Rat.zero_mul]; exact Rat.le_refl)]
    show ((0 : Int) : Rat) + ((w : Rat) - 0) / (ns.sum : Rat) * (s : Rat) = Rat.divInt (w * s) ns.sum
    rw [Rat.intCast_zero, Rat.divInt_eq_div, Rat.intCast_mul, Rat.div_def, Rat.div_def]
    grind

/-! ### stops -/
section
variable {α : Type} {lt : α → α → Bool}
/-- lt tells apart: a total order -/
structure Tot (lt : α → α → Bool) : Prop where
  irr : ∀ a, lt a a = false
  tr : ∀ a b c, lt a b = true → lt b c = true → lt a c = true
  tri : ∀ a b, lt a b = false → lt b a = false → a = b
theorem tot_I : Tot ltI := ⟨fun a => by simp [ltI], fun a b c h1 h2 => by simp only [ltI, decide_eq_true_eq] at *; omega, fun a b h1 h2 => by simp only [ltI, decide_eq_false_iff_not] at *; omega⟩
theorem tot_Q : Tot ltQ := ⟨fun a => by simp only [ltQ, decide_eq_false_iff_not]; exact Rat.lt_irrefl, fun a b c h1 h2 => by simp only [ltQ, decide_eq_true_eq] at *; grind, fun a b h1 h2 => by simp only [ltQ, decide_eq_false_iff_not] at *; grind⟩
theorem Tot.asy (o : Tot lt) {a b : α} (h : lt a b = true) : lt b a = false := by
  cases q : lt b a with
  | false => rfl
  | true => have := o.tr a b a h q; rw [o.irr] at this; cases this
theorem ltS_iff (o : Tot lt) (x y : Stop α) : ltS lt x y = true ↔ lt x.at_ y.at_ = true ∨ (x.at_ = y.at_ ∧ (x.pane < y.pane ∨ (x.pane = y.pane ∧ x.big = false ∧ y.big = true))) := by
  unfold ltS
  simp only [Bool.or_eq_true, Bool.and_eq_true, Bool.not_eq_true', decide_eq_true_eq]
  constructor
  · rintro (h | ⟨h1, h2⟩)
    · exact .inl h
    · by_cases q : lt x.at_ y.at_ = true
      · exact .inl q
      · exact .inr ⟨o.tri _ _ (by simpa using q) h1, h2⟩
  · rintro (h | ⟨h1, h2⟩)
    · exact .inl h
    · exact .inr ⟨by rw [h1, o.irr], h2⟩
theorem tot_S (o : Tot lt) : Tot (ltS lt) := by
  refine ⟨fun a => ?_, fun a b c h1 h2 => ?_, fun a b h1 h2 => ?_⟩
  · cases q : ltS lt a a with
    | false => rfl
    | true =>
      rcases (ltS_iff o a a).mp q with h | ⟨_, h | ⟨_, h3, h4⟩⟩
      · rw [o.irr] at h; cases h
      · omega
      · rw [h3] at h4; cases h4
  · rw [ltS_iff o] at h1 h2 ⊢
    rcases h1 with h1 | ⟨e1, h1⟩ <;> rcases h2 with h2 | ⟨e2, h2⟩
    · exact .inl (o.tr _ _ _ h1 h2)
    · exact .inl (by rw [← e2]; exact h1)
    · exact .inl (by rw [e1]; exact h2)
    · refine .inr ⟨e1.trans e2, ?_⟩
      rcases h1 with h1 | ⟨h1, h3, h4⟩ <;> rcases h2 with h2 | ⟨h2, h5, h6⟩
      · exact .inl (by omega)
      · exact .inl (by omega)
      · exact .inl (by omega)
      · rw [h4] at h5; cases h5
  · have n1 := fun z => Bool.false_ne_true (h1.symm.trans ((ltS_iff o a b).mpr z))
    have n2 := fun z => Bool.false_ne_true (h2.symm.trans ((ltS_iff o b a).mpr z))
    obtain ⟨t1, p1, b1⟩ := a
    obtain ⟨t2, p2, b2⟩ := b
    dsimp only at n1 n2
    have e1 : t1 = t2 := o.tri _ _ (by cases q : lt t1 t2 with | false => rfl | true => exact absurd (.inl q) n1) (by cases q : lt t2 t1 with | false => rfl | true => exact absurd (.inl q) n2)
    subst e1
    have e2 : p1 = p2 := by
      rcases Int.lt_trichotomy p1 p2 with q | q | q
      · exact absurd (.inr ⟨rfl, .inl q⟩) n1
      · exact q
      · exact absurd (.inr ⟨rfl, .inl q⟩) n2
    subst e2
    have e3 : b1 = b2 := by
      cases b1 <;> cases b2
      · rfl
      · exact absurd (.inr ⟨rfl, .inr ⟨rfl, rfl, rfl⟩⟩) n1
      · exact absurd (.inr ⟨rfl, .inr ⟨rfl, rfl, rfl⟩⟩) n2
      · rfl
    rw [e3]
theorem insS_mem (x y : Stop α) : ∀ l : List (Stop α), y ∈ insS lt x l ↔ y = x ∨ y ∈ l
  | [] => by simp [insS]
  | z :: zs => by
    have ih := insS_mem x y zs
    unfold insS
    split
    · simp only [List.mem_cons, ih]; grind
    · simp
theorem sortS_mem (y : Stop α) : ∀ l : List (Stop α), y ∈ sortS lt l ↔ y ∈ l
  | [] => by simp [sortS]
  | x :: xs => by
    have ih := sortS_mem y xs
    show y ∈ insS lt x (sortS lt xs) ↔ _
    rw [insS_mem, ih, List.mem_cons]
theorem insS_sorted (o : Tot lt) (x : Stop α) : ∀ l : List (Stop α), x ∉ l → l.Pairwise (fun a b => ltS lt a b = true) → (insS lt x l).Pairwise fun a b => ltS lt a b = true
  | [], _, _ => by simp [insS]
  | z :: zs, hn, h => by
    obtain ⟨h1, h2⟩ := List.pairwise_cons.mp h
    have hn2 : x ∉ zs := fun q => hn (List.mem_cons_of_mem _ q)
    have ih := insS_sorted o x zs hn2 h2
    have T := tot_S o
    unfold insS
    split
    · rename_i hz
      refine List.pairwise_cons.mpr ⟨fun y hy => ?_, ih⟩
      rcases (insS_mem x y zs).mp hy with e | e
      · rw [e]; exact hz
      · exact h1 y e
    · rename_i hz
      have hxz : ltS lt x z = true := by
        cases q : ltS lt x z with
        | true => rfl
        | false => exact absurd (T.tri x z q (by simpa using hz)) fun e => hn (by rw [e]; simp)
      refine List.pairwise_cons.mpr ⟨fun y hy => ?_, h⟩
      rcases List.mem_cons.mp hy with e | e
      · rw [e]; exact hxz
      · exact T.tr _ _ _ hxz (h1 y e)
theorem sortS_sorted (o : Tot lt) : ∀ l : List (Stop α), l.Nodup → (sortS lt l).Pairwise fun a b => ltS lt a b = true
  | [], _ => by simp [sortS]
  | x :: xs, h => by
    obtain ⟨h1, h2⟩ := List.nodup_cons.mp h
    exact insS_sorted o x (sortS lt xs) (fun q => h1 ((sortS_mem x xs).mp q)) (sortS_sorted o xs h2)
theorem uniqS (o : Tot lt) {l m : List (Stop α)} (hl : l.Pairwise fun a b => ltS lt a b = true) (hm : m.Pairwise fun a b => ltS lt a b = true) (h : ∀ x, x ∈ l ↔ x ∈ m) : l = m :=
  uniq_sorted (fun a b => ltS lt a b = true) (fun x q => by rw [(tot_S o).irr] at q; cases q) (fun a b h1 h2 => by rw [(tot_S o).asy h1] at h2; cases h2) hl hm h
end
def toQ (W : Int) (x : Stop Int) : Stop Rat := ⟨Rat.divInt x.at_ W, x.pane, x.big⟩
/-- pane and word tell a stop -/
theorem raw_keys {α : Type} (f g : Rule → α) : ∀ (rs : List Rule) (k : Nat), ((((rs.zipIdx k).map fun p => (if p.1.m = some p.1.l then [] else [(⟨f p.1, (p.2 : Int), false⟩ : Stop α)]) ++ (match p.1.m with | none => [] | some _ => [(⟨g p.1, (p.2 : Int), true⟩ : Stop α)])).flatten).map fun x => (x.pane, x.big)).Nodup ∧
    ∀ x ∈ (((rs.zipIdx k).map fun p => (if p.1.m = some p.1.l then [] else [(⟨f p.1, (p.2 : Int), false⟩ : Stop α)]) ++ (match p.1.m with | none => [] | some _ => [(⟨g p.1, (p.2 : Int), true⟩ : Stop α)])).flatten), (k : Int) ≤ x.pane
  | [], k => by simp
  | r :: rs, k => by
    obtain ⟨ih1, ih2⟩ := raw_keys f g rs (k + 1)
    rw [List.zipIdx_cons, List.map_cons, List.flatten_cons]
    constructor
    · rw [List.map_append, List.nodup_append]
      refine ⟨?_, ih1, ?_⟩
      · dsimp only
        split <;> (cases r.m <;> simp)
      · intro a ha b hb
        obtain ⟨x, hx, rfl⟩ := List.mem_map.mp hb
        have h2 := ih2 x hx
        have h1 : a.1 = (k : Int) := by
          obtain ⟨y, hy, rfl⟩ := List.mem_map.mp ha
          dsimp only at hy ⊢
          rcases List.mem_append.mp hy with q | q
          · split at q
            · cases q
            · rw [List.mem_singleton.mp q]
          · cases hm : r.m with
            | none => rw [hm] at q; cases q
            | some m => rw [hm] at q; rw [List.mem_singleton.mp q]
        intro e
        rw [e] at h1
        dsimp only at h1
        omega
    · intro x hx
      rcases List.mem_append.mp hx with q | q
      · rcases List.mem_append.mp q with q | q
        · dsimp only at q
          split at q
          · cases q
          · rw [List.mem_singleton.mp q]; exact Int.le_refl _
        · dsimp only at q
          cases hm : r.m with
          | none => rw [hm] at q; cases q
          | some m => rw [hm] at q; rw [List.mem_singleton.mp q]; exact Int.le_refl _
      · have := ih2 x q
        omega
theorem rawP_form (rs : List Rule) : stopsRaw rs = ((rs.zipIdx 0).map fun p => (if p.1.m = some p.1.l then [] else [(⟨(wouldBe rs (p.1.l * whole rs / p.1.s)).sum, (p.2 : Int), false⟩ : Stop Int)]) ++ (match p.1.m with | none => [] | some _ => [(⟨(wouldBe rs (if p.1.m = some p.1.l then 0 else (p.1.m.getD 0) * whole rs / p.1.s)).sum, (p.2 : Int), true⟩ : Stop Int)])).flatten := by
  unfold stopsRaw
  congr 1
  refine List.map_congr_left fun p _ => ?_
  unfold stop1
  congr 1
  cases hm : p.1.m with
  | none => rfl
  | some m => rfl
theorem nodup_map {α β : Type} {f : α → β} {l : List α} (h : (l.map f).Nodup) : l.Nodup := List.Pairwise.of_map f (fun a b hab e => hab (by rw [e])) h
theorem rawP_nodup (rs : List Rule) : (stopsRaw rs).Nodup := by
  rw [rawP_form]
  exact nodup_map (raw_keys (fun r => (wouldBe rs (r.l * whole rs / r.s)).sum) (fun r => (wouldBe rs (if r.m = some r.l then 0 else (r.m.getD 0) * whole rs / r.s)).sum) rs 0).1
theorem rawQ_form (rs : List Rule) : stopsRawQ rs = ((rs.zipIdx 0).map fun p => (if p.1.m = some p.1.l then [] else [(⟨sumQ (wideQ rs (Rat.divInt p.1.l p.1.s)), (p.2 : Int), false⟩ : Stop Rat)]) ++ (match p.1.m with | none => [] | some _ => [(⟨sumQ (wideQ rs (if p.1.m = some p.1.l then 0 else Rat.divInt (p.1.m.getD 0) p.1.s)), (p.2 : Int), true⟩ : Stop Rat)])).flatten := by
  unfold stopsRawQ
  congr 1
  refine List.map_congr_left fun p _ => ?_
  unfold stopQ1
  congr 1
  cases hm : p.1.m with
  | none => rfl
  | some m => rfl
theorem rawQ_nodup (rs : List Rule) : (stopsRawQ rs).Nodup := by
  rw [rawQ_form]
  exact nodup_map (raw_keys (fun r => sumQ (wideQ rs (Rat.divInt r.l r.s))) (fun r => sumQ (wideQ rs (if r.m = some r.l then 0 else Rat.divInt (r.m.getD 0) r.s))) rs 0).1
section
variable {rs : List Rule} (ok : RsOk rs)
include ok
theorem raw_map : stopsRawQ rs = (stopsRaw rs).map (toQ (whole rs)) := by
  have hW := (whole_pos ok).1
  have key : ∀ (a : Int) (t : Rat), t * (whole rs : Rat) = (a : Rat) → sumQ (wideQ rs t) = Rat.divInt (wouldBe rs a).sum (whole rs) := fun a t ht => (eq_divW hW (sum_at ok a ht)).symm
  unfold stopsRawQ stopsRaw
  rw [List.map_flatten, List.map_map]
  congr 1
  refine List.map_congr_left fun p hp => ?_
  have hr : p.1 ∈ rs := List.fst_mem_of_mem_zipIdx hp
  show stopQ1 rs p = (stop1 rs p).map (toQ (whole rs))
  unfold stopQ1 stop1
  rw [List.map_append]
  congr 1
  · split
    · rfl
    · rw [List.map_cons, List.map_nil, key _ _ (turn_exact ok p.1 hr p.1.l)]
      rfl
  · cases hm : p.1.m with
    | none => rfl
    | some m =>
      dsimp only
      rw [List.map_cons, List.map_nil]
      congr 1
      by_cases he : some m = some p.1.l
      · rw [if_pos he, if_pos he, key 0 0 (by rw [Rat.zero_mul]; rfl)]
        rfl
      · rw [if_neg he, if_neg he, key _ _ (turn_exact ok p.1 hr m)]
        rfl
theorem stops_eq (last : Int) : stopsP rs last = stopsQ rs last := by
  have hW := (whole_pos ok).1
  have hWq : (0 : Rat) < (whole rs : Rat) := Rat.intCast_pos.mpr hW
  have hlt : ∀ a b : Int, Rat.divInt a (whole rs) < Rat.divInt b (whole rs) ↔ a < b := fun a b => by
    rw [← Rat.mul_lt_mul_right hWq, divW hW, divW hW]; exact Rat.intCast_lt_intCast
  have hltw : ∀ a : Int, (last : Rat) < Rat.divInt a (whole rs) ↔ last * whole rs < a := fun a => by
    rw [← Rat.mul_lt_mul_right hWq, divW hW, ← Rat.intCast_mul]; exact Rat.intCast_lt_intCast
  refine uniqS tot_Q ?_ ?_ fun x => ?_
  · unfold stopsP
    rw [List.pairwise_map]
    refine ((sortS_sorted tot_I _ (rawP_nodup rs)).filter _).imp fun {a b} h => ?_
    rw [ltS_iff tot_I] at h
    rw [ltS_iff tot_Q]
    rcases h with h | ⟨h1, h2⟩
    · left
      simp only [ltI, ltQ, decide_eq_true_eq] at h ⊢
      exact (hlt _ _).mpr h
    · exact .inr ⟨by rw [h1], h2⟩
  · unfold stopsQ
    rw [List.pairwise_flatten]
    constructor
    · intro l hl
      obtain ⟨t, _, rfl⟩ := List.mem_map.mp hl
      unfold stopRow
      split
      · exact List.Pairwise.nil
      · exact sortS_sorted tot_Q _ ((rawQ_nodup rs).filter _)
    · rw [List.pairwise_map]
      refine (ordQ_sorted _).imp fun {t u} htu => ?_
      intro x hx y hy
      have at_of : ∀ {t : Rat} {x : Stop Rat}, x ∈ stopRow (stopsRawQ rs) last t → x.at_ = t := fun {t x} h => by
        unfold stopRow at h
        split at h
        · cases h
        · have h2 := (sortS_mem x _).mp h
          simpa using (List.mem_filter.mp h2).2
      rw [ltS_iff tot_Q]
      left
      rw [at_of hx, at_of hy]
      simpa [ltQ] using htu
  · have m1 : x ∈ stopsP rs last ↔ ∃ y ∈ stopsRaw rs, y.at_ ≤ last * whole rs ∧ toQ (whole rs) y = x := by
      unfold stopsP
      rw [List.mem_map]
      constructor
      · rintro ⟨y, h1, h2⟩
        obtain ⟨h3, h4⟩ := List.mem_filter.mp h1
        exact ⟨y, (sortS_mem y _).mp h3, by simpa using h4, h2⟩
      · rintro ⟨y, h1, h2, h3⟩
        exact ⟨y, List.mem_filter.mpr ⟨(sortS_mem y _).mpr h1, by simpa using h2⟩, h3⟩
    have m2 : x ∈ stopsQ rs last ↔ x ∈ stopsRawQ rs ∧ ¬ (last : Rat) < x.at_ := by
      unfold stopsQ
      rw [List.mem_flatten]
      constructor
      · rintro ⟨l, h1, h2⟩
        obtain ⟨t, h3, rfl⟩ := List.mem_map.mp h1
        unfold stopRow at h2
        split at h2
        · cases h2
        · rename_i hn
          obtain ⟨h4, h5⟩ := List.mem_filter.mp ((sortS_mem x _).mp h2)
          have h5' : x.at_ = t := by simpa using h5
          exact ⟨h4, by rw [h5']; exact hn⟩
      · rintro ⟨h1, h2⟩
        refine ⟨_, List.mem_map_of_mem ((ordQ_mem _ x.at_).mpr (List.mem_map_of_mem h1)), ?_⟩
        unfold stopRow
        rw [if_neg h2]
        exact (sortS_mem x _).mpr (List.mem_filter.mpr ⟨h1, by simp⟩)
    rw [m1, m2, raw_map ok, List.mem_map]
    constructor
    · rintro ⟨y, h1, h2, rfl⟩
      refine ⟨⟨y, h1, rfl⟩, fun z => ?_⟩
      have := (hltw y.at_).mp z
      omega
    · rintro ⟨⟨y, h1, rfl⟩, h2⟩
      refine ⟨y, h1, ?_, rfl⟩
      exact Int.not_lt.mp fun z => h2 ((hltw y.at_).mpr z)
end

/-! ### panes one behind the other -/
def lawRows (last : Int) : Int → List Int → List (List Int)
  | _, [] => []
  | ahead, m :: ms => ((widths last).map fun w => max 0 (min (w - ahead) m)) :: lawRows last (ahead + m) ms
theorem rows_eq {last : Int} (hl : last ≤ 30) : ∀ (ms : List Int) (ahead : Int), 0 ≤ ahead → (∀ m ∈ ms, 0 ≤ m) → lawRows last ahead (ms ++ [40]) = turnRows last ahead ms
  | [], ahead, h0, _ => by
    show [_] = [_]
    congr 1
    refine List.map_congr_left fun w hw => ?_
    unfold widths at hw
    obtain ⟨i, h1, rfl⟩ := List.mem_map.mp hw
    have := List.mem_range.mp h1
    omega
  | m :: ms, ahead, h0, h => by
    have hm := h m (by simp)
    have ih := rows_eq hl ms (ahead + m) (by omega) fun x hx => h x (List.mem_cons_of_mem _ hx)
    show _ :: lawRows last (ahead + m) (ms ++ [40]) = _ :: turnRows last (ahead + m) ms
    rw [ih]
    congr 1
    exact List.map_congr_left fun w _ => by omega
end K4

/-! ## Runs1 -/
/-! rules by shape, and the small defs -/
namespace K4
open PySem PySem.Spec PyProof.Rows L2
section
variable {K : PySem.W.Frag} {ρ : List Sl}
theorem opd_ix0T {a : PyData} {ds : List PyData} : OpD (rIxA K) (.tuple (a :: ds)) (.int 0) a := opd_ixT (j := 0) rfl rfl
theorem opd_ix1T {a b : PyData} {ds : List PyData} : OpD (rIxA K) (.tuple (a :: b :: ds)) (.int 1) b := opd_ixT (j := 1) rfl rfl
theorem opd_ix2T {a b c : PyData} {ds : List PyData} : OpD (rIxA K) (.tuple (a :: b :: c :: ds)) (.int 2) c := opd_ixT (j := 2) rfl rfl
theorem cmul_l {i j : Int} (h1 : -(2 ^ 64) < i) (h2 : i < 2 ^ 64) : CMul i j := .inl ⟨h1, h2⟩
theorem cmul_r {i j : Int} (h1 : -(2 ^ 64) < j) (h2 : j < 2 ^ 64) : CMul i j := .inr ⟨h1, h2⟩
/-- shape -/
def Shp (n : Nat) (d : PyData) : Prop := d.canLay0 = true ∧ d.depth ≤ n
theorem shaped_of {n : Nat} {d : PyData} (h : Shp n d) (hn : n ≤ 64 := by decide) : SeqAt.shaped d = true := by
  unfold SeqAt.shaped
  rw [h.1, decide_eq_true (Nat.le_trans h.2 hn)]; rfl
theorem shp_int (n : Nat) (i : Int) : Shp n (.int i) := ⟨by simp [PyData.canLay0], by simp [PyData.depth]⟩
theorem shp_bool (n : Nat) (i : Bool) : Shp n (.bool i) := ⟨by simp [PyData.canLay0], by simp [PyData.depth]⟩
theorem shp_none (n : Nat) : Shp n .none := ⟨by simp [PyData.canLay0], by simp [PyData.depth]⟩
theorem shp_all {n : Nat} : ∀ {ds : List PyData}, (∀ d ∈ ds, Shp n d) → PyData.canLayAll0 ds = true ∧ PyData.depthAll ds ≤ n
  | [], _ => ⟨by simp [PyData.canLayAll0], by simp [PyData.depthAll]⟩
  | d :: ds, h => by
    have h1 := h d (by simp)
    have h2 := shp_all fun e he => h e (List.mem_cons_of_mem _ he)
    refine ⟨by simp [PyData.canLayAll0, h1.1, h2.1], ?_⟩
    simp only [PyData.depthAll]
    exact Nat.max_le.mpr ⟨h1.2, h2.2⟩
theorem shp_tup {n : Nat} {ds : List PyData} (h : ∀ d ∈ ds, Shp n d) : Shp (n + 1) (.tuple ds) := by
  have q := shp_all h
  exact ⟨by simpa [PyData.canLay0] using q.1, by simp only [PyData.depth]; omega⟩
theorem shp_lst {n : Nat} {ds : List PyData} (h : ∀ d ∈ ds, Shp n d) : Shp (n + 1) (.list ds) := by
  have q := shp_all h
  exact ⟨by simpa [PyData.canLay0] using q.1, by simp only [PyData.depth]; omega⟩
theorem shp_Q (n : Nat) (q : Rat) : Shp (n + 1) (encQ q) := shp_tup fun d hd => by
  rcases List.mem_cons.mp hd with e | hd
  · rw [e]; exact shp_int _ _
  · rw [List.mem_singleton.mp hd]; exact shp_int _ _
theorem shp_O (n : Nat) (o : Option Int) : Shp n (encO o) := by
  cases o with
  | none => exact shp_none n
  | some i => exact shp_int n i
theorem beq_dec (i j : Int) : (i == j) = decide (i = j) := Bool.eq_iff_iff.mpr (by simp)
theorem opd_eqI {i j : Int} : OpD (rEqD K) (.int i) (.int j) (.bool (decide (i = j))) := by
  have h := opd_eq (K := K) (shaped_of (shp_int 0 i)) (shaped_of (shp_int 0 j))
  rwa [show PyData.eqv (.int i) (.int j) = decide (i = j) by simp only [PyData.eqv]; exact beq_dec i j] at h
theorem opd_neI {i j : Int} : OpD (rNeD K) (.int i) (.int j) (.bool (!decide (i = j))) := by
  have h := opd_ne (K := K) (shaped_of (shp_int 0 i)) (shaped_of (shp_int 0 j))
  rwa [show PyData.eqv (.int i) (.int j) = decide (i = j) by simp only [PyData.eqv]; exact beq_dec i j] at h
theorem eqv_O (o : Option Int) (i : Int) : PyData.eqv (encO o) (.int i) = decide (o = some i) := by
  cases o with
  | none => simp [encO, PyData.eqv]
  | some j => simp only [encO, PyData.eqv, Option.some.injEq]; exact beq_dec j i
theorem eqv_O' (o : Option Int) (i : Int) : PyData.eqv (.int i) (encO o) = decide (o = some i) := by
  cases o with
  | none => simp [encO, PyData.eqv]
  | some j =>
    simp only [encO, PyData.eqv, Option.some.injEq]
    rw [beq_dec]
    exact decide_eq_decide.mpr eq_comm
theorem opd_eqO {o : Option Int} {j : Int} : OpD (rEqD K) (encO o) (.int j) (.bool (decide (o = some j))) := by
  have h := opd_eq (K := K) (shaped_of (shp_O 0 o)) (shaped_of (shp_int 0 j))
  rwa [eqv_O] at h
theorem opd_eqO' {o : Option Int} {j : Int} : OpD (rEqD K) (.int j) (encO o) (.bool (decide (o = some j))) := by
  have h := opd_eq (K := K) (shaped_of (shp_int 0 j)) (shaped_of (shp_O 0 o))
  rwa [eqv_O'] at h
theorem opd_neO {o : Option Int} {j : Int} : OpD (rNeD K) (encO o) (.int j) (.bool (!decide (o = some j))) := by
  have h := opd_ne (K := K) (shaped_of (shp_O 0 o)) (shaped_of (shp_int 0 j))
  rwa [eqv_O] at h
theorem opd_neO' {o : Option Int} {j : Int} : OpD (rNeD K) (.int j) (encO o) (.bool (!decide (o = some j))) := by
  have h := opd_ne (K := K) (shaped_of (shp_int 0 j)) (shaped_of (shp_O 0 o))
  rwa [eqv_O'] at h
theorem isNone_O (o : Option Int) : isNone (encO o) = o.isNone := by cases o <;> rfl
theorem opd_isNO {o : Option Int} : OpD rIsNon (encO o) .none (.bool o.isNone) := by
  have h := opd_isN (d := encO o)
  rwa [isNone_O] at h
theorem opd_notNO {o : Option Int} : OpD rNotNon (encO o) .none (.bool o.isSome) := by
  have h := opd_notN (d := encO o)
  rwa [isNone_O, show (!o.isNone) = o.isSome by cases o <;> rfl] at h
theorem sl_nil : SlLe [] [] := trivial
theorem sl_same {a : Sl} {r s : List Sl} (h : SlLe r s) : SlLe (a :: r) (a :: s) := ⟨.inr rfl, h⟩
theorem sl_no {a : Sl} {r s : List Sl} (h : SlLe r s) : SlLe (a :: r) (.no :: s) := ⟨.inl rfl, h⟩
theorem run_turn {c : Ct} {P : Hp} {D : Ends} {n : Nat} {ρ ρ' : List Sl} {own own' : Option (Nat × List PyData)} (hD : D.nx = Sta c P n ρ' own') (hw : SlLe ρ ρ') (ho : own = own') : Run c P D tNext n ρ own := fun σ A ⟨V, h1, h2, h3, h4, h5⟩ => by
  show D.nx σ A
  rw [hD, ← ho]
  exact ⟨V, h1, h2, h3.le hw, h4, h5⟩
/-- comprehensions of ints, bools, fractions -/
theorem ed_lcI {α : Type} {wi : TI} {g : TG} {te : TE} {vs js : List Nat} {enc : α → PyData} {xs : List α} {ρ' : α → List Sl} {f : α → Int} (hit : ItD wi ρ (xs.map enc)) (hg : ∀ x ∈ xs, Tg g js (wipeS ρ vs) (enc x) (ρ' x)) (he : ∀ x ∈ xs, EvD te (ρ' x) (.int (f x)))
    (hz : xs.length ≤ 100000) (hjs : ∀ j ∈ js, j ∈ vs := by decide) : EvD (tLc wi g tYes te vs) ρ (.list (intD (xs.map f))) := ed_is (ed_lc1 hit hg he hz hjs) (by unfold intD; rw [List.map_map]; rfl)
theorem ed_lcB {α : Type} {wi : TI} {g : TG} {te : TE} {vs js : List Nat} {enc : α → PyData} {xs : List α} {ρ' : α → List Sl} {f : α → Bool} (hit : ItD wi ρ (xs.map enc)) (hg : ∀ x ∈ xs, Tg g js (wipeS ρ vs) (enc x) (ρ' x)) (he : ∀ x ∈ xs, EvD te (ρ' x) (.bool (f x)))
    (hz : xs.length ≤ 100000) (hjs : ∀ j ∈ js, j ∈ vs := by decide) : EvD (tLc wi g tYes te vs) ρ (.list ((xs.map f).map PyData.bool)) := ed_is (ed_lc1 hit hg he hz hjs) (by rw [List.map_map]; rfl)
theorem ed_lcQ {α : Type} {wi : TI} {g : TG} {te : TE} {vs js : List Nat} {enc : α → PyData} {xs : List α} {ρ' : α → List Sl} {f : α → Rat} (hit : ItD wi ρ (xs.map enc)) (hg : ∀ x ∈ xs, Tg g js (wipeS ρ vs) (enc x) (ρ' x)) (he : ∀ x ∈ xs, EvD te (ρ' x) (encQ (f x)))
    (hz : xs.length ≤ 100000) (hjs : ∀ j ∈ js, j ∈ vs := by decide) : EvD (tLc wi g tYes te vs) ρ (.list (qs (xs.map f))) := ed_is (ed_lc1 hit hg he hz hjs) (by unfold qs; rw [List.map_map]; rfl)
theorem ed_lcFI {α : Type} {wi : TI} {g : TG} {tt : TT} {te : TE} {vs js : List Nat} {enc : α → PyData} {xs : List α} {ρ' : α → List Sl} {p : α → Bool} {f : α → Int} (hit : ItD wi ρ (xs.map enc)) (hg : ∀ x ∈ xs, Tg g js (wipeS ρ vs) (enc x) (ρ' x)) (ht : ∀ x ∈ xs, EvB tt (ρ' x) (p x))
    (he : ∀ x ∈ xs, p x = true → EvD te (ρ' x) (.int (f x))) (hz : xs.length ≤ 100000) (hjs : ∀ j ∈ js, j ∈ vs := by decide) : EvD (tLc wi g tt te vs) ρ (.list (intD ((xs.filter p).map f))) := ed_is (ed_lc hit hg ht he hz hjs) (by unfold intD; rw [List.map_map]; rfl)
theorem ed_lcFQ {α : Type} {wi : TI} {g : TG} {tt : TT} {te : TE} {vs js : List Nat} {enc : α → PyData} {xs : List α} {ρ' : α → List Sl} {p : α → Bool} {f : α → Rat} (hit : ItD wi ρ (xs.map enc)) (hg : ∀ x ∈ xs, Tg g js (wipeS ρ vs) (enc x) (ρ' x)) (ht : ∀ x ∈ xs, EvB tt (ρ' x) (p x))
    (he : ∀ x ∈ xs, p x = true → EvD te (ρ' x) (encQ (f x))) (hz : xs.length ≤ 100000) (hjs : ∀ j ∈ js, j ∈ vs := by decide) : EvD (tLc wi g tt te vs) ρ (.list (qs ((xs.filter p).map f))) := ed_is (ed_lc hit hg ht he hz hjs) (by unfold qs; rw [List.map_map]; rfl)
/-- enumerate of what is encoded -/
theorem enumD_map {α : Type} (enc : α → PyData) (xs : List α) : enumD (xs.map enc) = xs.zipIdx.map fun p => .tuple [.int (p.2 : Int), enc p.1] := by
  unfold enumD
  rw [List.zipIdx_map, List.map_map]
  rfl
theorem it_enumLm {α : Type} {enc : α → PyData} {xs : List α} {ta : TA} (h : EvA ta ρ [.list (xs.map enc)]) : ItD (iEnumA K ta) ρ (xs.zipIdx.map fun p => .tuple [.int (p.2 : Int), enc p.1]) := it_is (it_enumL h) (enumD_map enc xs)
theorem it_enumTm {α : Type} {enc : α → PyData} {xs : List α} {ta : TA} (h : EvA ta ρ [.tuple (xs.map enc)]) : ItD (iEnumA K ta) ρ (xs.zipIdx.map fun p => .tuple [.int (p.2 : Int), enc p.1]) := it_is (it_enumT h) (enumD_map enc xs)
theorem cad_sumI {ns : List Int} : CaD (rSum K) [.list (intD ns)] (.int ns.sum) := cad_sum
/-- a range told by its numbers -/
theorem it_rngW {n : Int} {ta : TA} (h : EvA ta ρ [.int (n + 1)]) (h0 : 0 ≤ n) (h1 : n ≤ 10000) : ItD (iRng1 ta) ρ ((widths n).map PyData.int) := by
  have e : n + 1 = ((n + 1).toNat : Int) := by omega
  rw [e] at h
  exact it_is (it_rng h (by omega)) (by unfold widths; rw [List.map_map]; rfl)
theorem widths_len {n : Int} (h0 : 0 ≤ n) (h1 : n ≤ 10000) : (widths n).length ≤ 100000 := by
  unfold widths
  rw [List.length_map, List.length_range]; omega
theorem mem_widths {n x : Int} (h : x ∈ widths n) : 0 ≤ x ∧ x ≤ n := by
  obtain ⟨i, h1, h2⟩ := List.mem_map.mp h
  have := List.mem_range.mp h1
  omega
end
local macro_rules | `(tactic| walk_at "sl") => `(tactic| repeat' (first | exact sl_nil | refine sl_same ?_ | refine sl_no ?_))
local macro_rules | `(tactic| walk_at "ed1") => `(tactic| first
  | ((with_reducible apply ed_var); (exact rfl))
  | with_reducible exact ed_int | with_reducible exact ed_non | with_reducible exact ed_bl | with_reducible exact ed_str | with_reducible exact ea_nil | with_reducible exact eo_none | with_reducible exact eb_yes
  | with_reducible apply ed_isInt | with_reducible apply ed_isBool | with_reducible apply ed_isList | with_reducible apply ed_isTup
  | with_reducible apply ed_op | with_reducible apply ed_un | with_reducible apply ed_cb | with_reducible apply ea_cons | with_reducible apply eo_some | with_reducible apply ed_tup | with_reducible apply ed_lst | with_reducible apply ed_sl
  | with_reducible apply eb_test | with_reducible apply eb_B | with_reducible apply eb_not | with_reducible apply ed_notV
  | with_reducible exact opd_add | with_reducible exact opd_sub | with_reducible exact opd_lt | with_reducible exact opd_le | with_reducible exact opd_gt | with_reducible exact opd_ge | with_reducible exact und_neg
  | with_reducible exact opd_isNO | with_reducible exact opd_notNO | with_reducible exact opd_isN | with_reducible exact opd_notN | with_reducible exact opd_eqI | with_reducible exact opd_neI | with_reducible exact opd_eqO | with_reducible exact opd_eqO' | with_reducible exact opd_neO | with_reducible exact opd_neO'
  | with_reducible apply opd_mul | with_reducible apply opd_div | with_reducible apply opd_mod
  | exact opd_ix0T | exact opd_ix1T | exact opd_ix2T
  | with_reducible exact cad_max | with_reducible exact cad_min | with_reducible exact cad_abs | with_reducible exact cad_intI | with_reducible exact cad_intB | with_reducible exact cad_gcd | with_reducible apply cad_lcm
  | exact cad_sumI | exact cad_sum | exact cad_all | exact cad_any | exact cad_len | exact cad_lenT | exact cad_tupL | exact cad_lstL | exact cad_lstT
  | exact sld_L | exact sld_T
  | (show List.length _ ≤ 100000; simp only [List.length_cons, List.length_nil]; omega)
  | exact cmul_l (by omega) (by omega) | exact cmul_r (by omega) (by omega)
  | exact opd_notN | exact opd_isN)
local macro_rules | `(tactic| walk_at "ed") => `(tactic| repeat' (walk_at "ed1"))

section
variable {K : PySem.W.Frag} {w : World} {ds : List PyData} {d : PyData}
theorem body_is_number (h : R_p_is_number ds d) : BodyOk 1 (t_p_is_number K w) ds d := by
  obtain ⟨x, rfl, rfl⟩ := h
  intro V0 A0 D hr
  refine run_retS ?_ hr
  refine ed_andV ?_ fun _ => ?_ <;> walk_at "ed"
theorem body_is_tuple_of (h : R_p_is_tuple_of ds d) : BodyOk 2 (t_p_is_tuple_of K w) ds d := by
  obtain ⟨x, n, rfl, rfl⟩ := h
  intro V0 A0 D hr
  refine run_retS ?_ hr
  refine ed_andV (by walk_at "ed") fun h => ?_
  cases x <;> first | cases h | skip
  walk_at "ed"
  exact opd_eqI
theorem rat_low {t b : Int} (hb : 0 < b) : ((Rat.divInt t b).num = t / ((Nat.gcd t.natAbs b.natAbs : Nat) : Int)) ∧ (((Rat.divInt t b).den : Int) = b / ((Nat.gcd t.natAbs b.natAbs : Nat) : Int)) := by
  obtain ⟨n, rfl⟩ : ∃ n : Nat, b = n := ⟨b.natAbs, by omega⟩
  rw [Rat.divInt_ofNat, Rat.num_mkRat, Rat.den_mkRat, if_neg (by omega), if_neg (by omega), Int.natAbs_natCast, Nat.gcd_comm]
  exact ⟨rfl, by simp⟩
theorem gcd_le {t b : Int} (hb : 0 < b) : 0 < ((Nat.gcd t.natAbs b.natAbs : Nat) : Int) ∧ ((Nat.gcd t.natAbs b.natAbs : Nat) : Int) ≤ b := by
  have h1 := Nat.gcd_pos_of_pos_right t.natAbs (show 0 < b.natAbs by omega)
  have h2 := Nat.gcd_le_right t.natAbs (show 0 < b.natAbs by omega)
  omega
theorem body_in_lowest (h : R_p_in_lowest ds d) : BodyOk 3 (t_p_in_lowest K w) ds d := by
  obtain ⟨t, b, rfl, hb, hb2, rfl⟩ := h
  intro V0 A0 D hr
  have hg := gcd_le (t := t) hb
  refine run_asg (by walk_at "ed") ?_
  refine run_retS (ed_is (by walk_at "ed" <;> omega) ?_) hr
  have q := rat_low (t := t) hb
  unfold encQ
  rw [q.1, q.2]
theorem lcmI_dvd {M : Nat} {a b : Int} (h1 : a.natAbs ∣ M) (h2 : b.natAbs ∣ M) : (lcmI a b).natAbs ∣ M := by
  unfold lcmI
  rw [Int.natAbs_natCast]
  exact Nat.lcm_dvd h1 h2
theorem lcmI_pos {a b : Int} (h1 : 0 < a) (h2 : 0 < b) : 0 < lcmI a b := by
  unfold lcmI
  have := Nat.lcm_pos (show 0 < a.natAbs by omega) (show 0 < b.natAbs by omega)
  omega
theorem lcm_fold {M : Nat} : ∀ (ns : List Int) (a : Int), 0 < a → a.natAbs ∣ M → (∀ n ∈ ns, 0 < n ∧ n.natAbs ∣ M) → 0 < ns.foldl lcmI a ∧ (ns.foldl lcmI a).natAbs ∣ M
  | [], a, h1, h2, _ => ⟨h1, h2⟩
  | n :: ns, a, h1, h2, h => by
    have hn := h n (by simp)
    exact lcm_fold ns (lcmI a n) (lcmI_pos h1 hn.1) (lcmI_dvd h2 hn.2) fun m hm => h m (List.mem_cons_of_mem _ hm)
theorem lcmL_ok {M : Nat} {ns : List Int} (h : ∀ n ∈ ns, 0 < n ∧ n.natAbs ∣ M) : 0 < lcmL ns ∧ (lcmL ns).natAbs ∣ M := lcm_fold ns 1 (by decide) (by simp) h
theorem body_least_common (h : R_p_least_common ds d) : BodyOk 3 (t_p_least_common K w) ds d := by
  obtain ⟨ns, rfl, hz, ⟨M, hM, hM2, hd⟩, rfl⟩ := h
  intro V0 A0 D hr
  refine run_asg (by walk_at "ed") ?_
  refine run_for (enc := PyData.int) (xs := ns) (fun pre => [.d (.list (intD ns)), .d (.int (lcmL pre)), .no]) (fun _ => none) (it_seqL (ed_var rfl)) (by walk_at "sl") rfl ?_ ?_
  · intro pre x post P' e
    refine ⟨_, _, tg_name, offNone, ?_⟩
    have hx := hd x (by rw [e]; simp)
    have hp := lcmL_ok (M := M) (ns := pre) fun n hn => hd n (by rw [e]; simp [hn])
    have b1 := Nat.le_of_dvd hM hx.2
    have b2 := Nat.le_of_dvd hM hp.2
    refine run_asg (by walk_at "ed" <;> exact Nat.lt_of_le_of_lt (by assumption) hM2) ?_
    refine run_turn rfl ?_ rfl
    have ee : lcmL (pre ++ [x]) = lcmI (lcmL pre) x := by unfold lcmL; rw [List.foldl_append]; rfl
    rw [ee]
    walk_at "sl"
  · exact run_retS (ed_var rfl) hr
theorem body_common_share (h : R_p_common_share ds d) : BodyOk 2 (t_p_common_share K w) ds d := by
  obtain ⟨rs, rfl, ok, rfl⟩ := h
  intro V0 A0 D hr
  refine run_retS (ed_call (ea_cons (ed_lcI (f := fun r : Rule => r.s) (it_seqT (ed_var rfl)) (fun x hx => tg_name) (fun x hx => by walk_at "ed") (by have := ok.len; omega)) ea_nil) ⟨rs.map (fun r : Rule => r.s), rfl, by rw [List.length_map]; have := ok.len; omega, ⟨60, by decide, by decide, fun n hn => ?_⟩, rfl⟩) hr
  obtain ⟨r, h1, rfl⟩ := List.mem_map.mp hn
  obtain ⟨h2, h3, _⟩ := ok.each r h1
  refine ⟨by omega, ?_⟩
  have : r.s = 1 ∨ r.s = 2 ∨ r.s = 3 ∨ r.s = 4 ∨ r.s = 5 := by omega
  rcases this with e | e | e | e | e <;> rw [e] <;> decide
theorem body_leasts_of (h : R_p_leasts_of ds d) : BodyOk 2 (t_p_leasts_of K w) ds d := by
  obtain ⟨rs, rfl, ok, rfl⟩ := h
  intro V0 A0 D hr
  exact run_retS (ed_cb (ea_cons (ed_lcI (f := fun r : Rule => r.l) (it_seqT (ed_var rfl)) (fun x hx => tg_name) (fun x hx => by walk_at "ed") (by have := ok.len; omega)) ea_nil) cad_sumI) hr
theorem body_would_be (h : R_p_would_be ds d) : BodyOk 8 (t_p_would_be K w) ds d := by
  obtain ⟨rs, t, rfl, ok, rfl⟩ := h
  intro V0 A0 D hr
  refine run_parNew (d := .int (whole rs)) (ed_call (ea_cons (ed_var rfl) ea_nil) ⟨rs, rfl, ok, rfl⟩) (by decide) (show 3 < 8 by decide) ?_
  refine run_for (enc := encR) (xs := rs) (fun pre => [.d (encRs rs), .d (.int t), .d (.int (whole rs)), .no, .no, .no, .no, .no]) (fun pre => some (3, intD (pre.map (wouldBe1 (whole rs) t)))) (it_seqT (ed_var rfl)) (by walk_at "sl") rfl ?_ ?_
  · intro pre x post P' e
    obtain ⟨h1, h2, h3, h4, h5⟩ := ok.each x (by rw [e]; simp)
    have hl : pre.length < 100000 := by
      have := ok.len
      rw [e] at this
      simp at this
      omega
    refine ⟨_, _, tg_tup (tgl_cons tg_name (tgl_cons tg_name (tgl_cons tg_name tgl_nil))), offSome (by decide), ?_⟩
    refine run_asg (d := .int (max (t * x.s) (x.l * whole rs))) (by walk_at "ed") ?_
    refine run_app (d := .int (wouldBe1 (whole rs) t x)) (ed_if (by walk_at "ed") (fun hn => ?_) (fun hn => ?_)) (by simpa [intD] using hl) ?_
    · refine ed_is (ed_var rfl) ?_
      unfold wouldBe1
      cases hm : x.m with
      | none => rfl
      | some m => rw [hm] at hn; cases hn
    · cases hm : x.m with
      | none => rw [hm] at hn; cases hn
      | some m =>
        have hb := h5 m hm
        rw [show encO (some m) = .int m from rfl]
        refine ed_is (by walk_at "ed") ?_
        unfold wouldBe1
        rw [hm]
    · refine run_turn rfl (by walk_at "sl") ?_
      rw [List.map_append]; unfold intD; rw [List.map_append]; rfl
  · refine run_done (run_retS (ed_var rfl) hr)
end
end K4

/-! ## Runs2 -/
/-! the law's fractions -/
namespace K4
open PySem PySem.Spec PyProof.Rows L2
local macro_rules | `(tactic| walk_at "sl") => `(tactic| repeat' (first | exact sl_nil | refine sl_same ?_ | refine sl_no ?_))
local macro_rules | `(tactic| walk_at "ed1") => `(tactic| first
  | ((with_reducible apply ed_var); (exact rfl))
  | with_reducible exact ed_int | with_reducible exact ed_non | with_reducible exact ed_bl | with_reducible exact ed_str | with_reducible exact ea_nil | with_reducible exact eo_none | with_reducible exact eb_yes
  | with_reducible apply ed_isInt | with_reducible apply ed_isBool | with_reducible apply ed_isList | with_reducible apply ed_isTup
  | with_reducible apply ed_op | with_reducible apply ed_un | with_reducible apply ed_cb | with_reducible apply ea_cons | with_reducible apply eo_some | with_reducible apply ed_tup | with_reducible apply ed_lst | with_reducible apply ed_sl
  | with_reducible apply eb_test | with_reducible apply eb_B | with_reducible apply eb_not | with_reducible apply ed_notV
  | with_reducible exact opd_add | with_reducible exact opd_sub | with_reducible exact opd_lt | with_reducible exact opd_le | with_reducible exact opd_gt | with_reducible exact opd_ge | with_reducible exact und_neg
  | with_reducible exact opd_isNO | with_reducible exact opd_notNO | with_reducible exact opd_isN | with_reducible exact opd_notN | with_reducible exact opd_eqI | with_reducible exact opd_neI | with_reducible exact opd_eqO | with_reducible exact opd_eqO' | with_reducible exact opd_neO | with_reducible exact opd_neO'
  | with_reducible apply opd_mul | with_reducible apply opd_div | with_reducible apply opd_mod
  | exact opd_ix0T | exact opd_ix1T | exact opd_ix2T
  | with_reducible exact cad_max | with_reducible exact cad_min | with_reducible exact cad_abs | with_reducible exact cad_intI | with_reducible exact cad_intB | with_reducible exact cad_gcd | with_reducible apply cad_lcm
  | exact cad_sumI | exact cad_sum | exact cad_all | exact cad_any | exact cad_len | exact cad_lenT | exact cad_tupL | exact cad_lstL | exact cad_lstT
  | exact sld_L | exact sld_T
  | (show List.length _ ≤ 100000; simp only [List.length_cons, List.length_nil]; omega)
  | exact cmul_l (by omega) (by omega) | exact cmul_r (by omega) (by omega)
  | exact opd_notN | exact opd_isN)
local macro_rules | `(tactic| walk_at "ed") => `(tactic| repeat' (walk_at "ed1"))
section
variable {K : PySem.W.Frag} {w : World} {ds : List PyData} {d : PyData}
theorem body_l_shared (h : R_l_shared ds d) : BodyOk 2 (t_l_shared K w) ds d := by
  obtain ⟨a, b, rfl, ha, hb, rfl⟩ := h
  intro V0 A0 D hr
  refine run_while (β := Int × Int) (fun p => [.d (.int p.1), .d (.int p.2)]) (fun p => p.2.natAbs) (fun p => 0 ≤ p.1 ∧ 0 ≤ p.2 ∧ Nat.gcd p.1.natAbs p.2.natAbs = Nat.gcd a.natAbs b.natAbs) (a, b) (by walk_at "sl") ⟨ha, hb, rfl⟩ ?_
  rintro ⟨x, y⟩ ⟨hx, hy, hg⟩
  dsimp only at hx hy hg ⊢
  refine ⟨decide (0 < y), by walk_at "ed", fun h => ⟨(y, x % y), ?_⟩, fun h => ?_⟩
  · have hpos : 0 < y := of_decide_eq_true h
    have h1 := Int.emod_nonneg x (show y ≠ 0 by omega)
    have h2 := Int.emod_lt_of_pos x hpos
    refine ⟨⟨hy, h1, ?_⟩, by show (x % y).natAbs < y.natAbs; omega, ?_⟩
    · show Nat.gcd y.natAbs (x % y).natAbs = Nat.gcd a.natAbs b.natAbs
      rw [← hg, Int.natAbs_emod_of_nonneg hx, Nat.gcd_comm y.natAbs, ← Nat.gcd_rec, Nat.gcd_comm]
    · refine run_par (by walk_at "ed" <;> omega) ?_
      exact run_turn rfl (by walk_at "sl") rfl
  · have hy0 : y = 0 := by
      have := of_decide_eq_false h
      omega
    refine run_retS (ed_var rfl) ?_
    subst hy0
    rw [Int.natAbs_zero, Nat.gcd_zero_right] at hg
    rw [← hg, Int.natAbs_of_nonneg hx] at hr
    exact hr
theorem rat_lowN {t b : Int} (ht : 0 ≤ t) (hb : 0 < b) : encQ (Rat.divInt t b) = .tuple [.int (t / ((Nat.gcd t.natAbs b.natAbs : Nat) : Int)), .int (b / ((Nat.gcd t.natAbs b.natAbs : Nat) : Int))] := by
  have q := rat_low (t := t) hb
  unfold encQ
  rw [q.1, q.2]
theorem body_l_frac (h : R_l_frac ds d) : BodyOk 3 (t_l_frac K w) ds d := by
  obtain ⟨t, b, rfl, ht, hb, hb2, rfl⟩ := h
  intro V0 A0 D hr
  have hg := gcd_le (t := t) hb
  refine run_asg (ed_call (ea_cons (ed_var rfl) (ea_cons (ed_var rfl) ea_nil)) ⟨t, b, rfl, ht, Int.le_of_lt hb, rfl⟩) ?_
  refine run_retS (ed_is (by walk_at "ed" <;> omega) ?_) hr
  rw [rat_lowN ht hb]
theorem opd_q0 {q : Rat} : OpD (rIxA K) (encQ q) (.int 0) (.int q.num) := opd_ix0T
theorem opd_q1 {q : Rat} : OpD (rIxA K) (encQ q) (.int 1) (.int (q.den : Int)) := opd_ix1T
theorem sm_num {q : Rat} (h : Sm q) : 0 ≤ q.num := Rat.num_nonneg.mpr h.1
theorem sm_den {q : Rat} (h : Sm q) : 0 < (q.den : Int) ∧ (q.den : Int) < 32768 := ⟨by have := q.den_pos; omega, by have := h.2; omega⟩
theorem mul_small {a b : Int} (h1 : 0 < a ∧ a < 32768) (h2 : 0 < b ∧ b < 32768) : 0 < a * b ∧ a * b < 1073741824 := by
  refine ⟨Int.mul_pos h1.1 h2.1, ?_⟩
  have : a * b ≤ 32767 * 32767 := Int.mul_le_mul (by omega) (by omega) (by omega) (by omega)
  omega
theorem add_eq (a b : Rat) : a + b = Rat.divInt (a.num * (b.den : Int) + b.num * (a.den : Int)) ((a.den : Int) * (b.den : Int)) := by
  rw [Rat.add_def', ← Rat.divInt_ofNat, Int.natCast_mul]
theorem sub_eq (a b : Rat) : a - b = Rat.divInt (a.num * (b.den : Int) - b.num * (a.den : Int)) ((a.den : Int) * (b.den : Int)) := by
  rw [Rat.sub_def', ← Rat.divInt_ofNat, Int.natCast_mul]
theorem mul_eq (a b : Rat) : a * b = Rat.divInt (a.num * b.num) ((a.den : Int) * (b.den : Int)) := by
  rw [Rat.mul_def', ← Rat.divInt_ofNat, Int.natCast_mul]
theorem div_eq (a b : Rat) : a / b = Rat.divInt (a.num * (b.den : Int)) ((a.den : Int) * b.num) := by
  rw [Rat.div_def, Rat.inv_def]
  conv => lhs; rw [← Rat.num_divInt_den a]
  rw [Rat.divInt_mul_divInt]
theorem body_l_plus (h : R_l_plus ds d) : BodyOk 2 (t_l_plus K w) ds d := by
  obtain ⟨a, b, rfl, ha, hb, rfl⟩ := h
  intro V0 A0 D hr
  have h1 := sm_den ha
  have h2 := sm_den hb
  have h3 := mul_small h1 h2
  have n1 := Int.mul_nonneg (sm_num ha) (Int.le_of_lt h2.1)
  have n2 := Int.mul_nonneg (sm_num hb) (Int.le_of_lt h1.1)
  refine run_retS (ed_call (by walk_at "ed") ⟨_, _, rfl, Int.add_nonneg n1 n2, h3.1, h3.2, ?_⟩) hr
  rw [add_eq]
theorem body_l_less (h : R_l_less ds d) : BodyOk 2 (t_l_less K w) ds d := by
  obtain ⟨a, b, rfl, ha, hb, hle, rfl⟩ := h
  intro V0 A0 D hr
  have h1 := sm_den ha
  have h2 := sm_den hb
  have h3 := mul_small h1 h2
  have n1 := (Rat.le_iff b a).mp hle
  refine run_retS (ed_call (by walk_at "ed") ⟨_, _, rfl, by omega, h3.1, h3.2, ?_⟩) hr
  rw [sub_eq]
theorem body_l_times (h : R_l_times ds d) : BodyOk 2 (t_l_times K w) ds d := by
  obtain ⟨a, b, rfl, ha, hb, hn, rfl⟩ := h
  intro V0 A0 D hr
  have h1 := sm_den ha
  have h2 := sm_den hb
  have h3 := mul_small h1 h2
  have n0 := sm_num hb
  have n1 := Int.mul_nonneg (sm_num ha) (sm_num hb)
  refine run_retS (ed_call (by walk_at "ed") ⟨_, _, rfl, n1, h3.1, h3.2, ?_⟩) hr
  rw [mul_eq]
theorem body_l_over (h : R_l_over ds d) : BodyOk 2 (t_l_over K w) ds d := by
  obtain ⟨a, b, rfl, ha, hb, hpos, hn, rfl⟩ := h
  intro V0 A0 D hr
  have h1 := sm_den ha
  have h2 := sm_den hb
  have hb0 : 0 < b.num := by
    have := sm_num hb
    rcases Int.lt_or_eq_of_le this with q | q
    · exact q
    · rw [Rat.num_eq_zero.mp q.symm] at hpos
      exact absurd hpos Rat.lt_irrefl
  have h3 := mul_small h1 ⟨hb0, hn⟩
  have n1 := Int.mul_nonneg (sm_num ha) (Int.le_of_lt h2.1)
  refine run_retS (ed_call (by walk_at "ed") ⟨_, _, rfl, n1, h3.1, h3.2, ?_⟩) hr
  rw [div_eq]
theorem body_l_above (h : R_l_above ds d) : BodyOk 2 (t_l_above K w) ds d := by
  obtain ⟨a, b, rfl, ha, hb, rfl⟩ := h
  intro V0 A0 D hr
  have h1 := sm_den ha
  have h2 := sm_den hb
  refine run_retS (ed_is (by walk_at "ed") ?_) hr
  congr 1
  exact decide_eq_decide.mpr (Rat.lt_iff b a).symm
end
end K4

/-! ## Runs3 -/
/-! the law's own growth -/
namespace K4
open PySem PySem.Spec PyProof.Rows L2
local macro_rules | `(tactic| walk_at "sl") => `(tactic| repeat' (first | exact sl_nil | refine sl_same ?_ | refine sl_no ?_))
local macro_rules | `(tactic| walk_at "ed1") => `(tactic| first
  | ((with_reducible apply ed_var); (exact rfl))
  | with_reducible exact ed_int | with_reducible exact ed_non | with_reducible exact ed_bl | with_reducible exact ed_str | with_reducible exact ea_nil | with_reducible exact eo_none | with_reducible exact eb_yes
  | with_reducible apply ed_isInt | with_reducible apply ed_isBool | with_reducible apply ed_isList | with_reducible apply ed_isTup
  | with_reducible apply ed_op | with_reducible apply ed_un | with_reducible apply ed_cb | with_reducible apply ea_cons | with_reducible apply eo_some | with_reducible apply ed_tup | with_reducible apply ed_lst | with_reducible apply ed_sl
  | with_reducible apply eb_test | with_reducible apply eb_B | with_reducible apply eb_not | with_reducible apply ed_notV
  | with_reducible exact opd_add | with_reducible exact opd_sub | with_reducible exact opd_lt | with_reducible exact opd_le | with_reducible exact opd_gt | with_reducible exact opd_ge | with_reducible exact und_neg
  | with_reducible exact opd_isNO | with_reducible exact opd_notNO | with_reducible exact opd_isN | with_reducible exact opd_notN | with_reducible exact opd_eqI | with_reducible exact opd_neI | with_reducible exact opd_eqO | with_reducible exact opd_eqO' | with_reducible exact opd_neO | with_reducible exact opd_neO'
  | with_reducible apply opd_mul | with_reducible apply opd_div | with_reducible apply opd_mod
  | exact opd_ix0T | exact opd_ix1T | exact opd_ix2T
  | with_reducible exact cad_max | with_reducible exact cad_min | with_reducible exact cad_abs | with_reducible exact cad_intI | with_reducible exact cad_intB | with_reducible exact cad_gcd | with_reducible apply cad_lcm
  | exact cad_sumI | exact cad_sum | exact cad_all | exact cad_any | exact cad_len | exact cad_lenT | exact cad_tupL | exact cad_lstL | exact cad_lstT
  | exact sld_L | exact sld_T
  | (show List.length _ ≤ 100000; simp only [List.length_cons, List.length_nil]; omega)
  | exact cmul_l (by omega) (by omega) | exact cmul_r (by omega) (by omega)
  | exact opd_notN | exact opd_isN)
local macro_rules | `(tactic| walk_at "ed") => `(tactic| repeat' (walk_at "ed1"))
section
variable {K : PySem.W.Frag} {w : World} {ds : List PyData} {d : PyData}
theorem qs_snoc (l : List Rat) (x : Rat) : qs (l ++ [x]) = qs l ++ [encQ x] := by unfold qs; rw [List.map_append]; rfl
theorem intD_snoc (l : List Int) (x : Int) : intD (l ++ [x]) = intD l ++ [.int x] := by unfold intD; rw [List.map_append]; rfl
theorem ed_one {te : TE} {ρ : List Sl} {n : Int} (h : EvD te ρ (.int n)) : EvD (tTup (tCons te (tCons (tC (.int 1)) tNil))) ρ (encQ (n : Rat)) := ed_tup (ds := [.int n, .int 1]) (ea_cons h (ea_cons ed_int ea_nil)) (by simp)
theorem body_l_sum (h : R_l_sum ds d) : BodyOk 3 (t_l_sum K w) ds d := by
  obtain ⟨l, rfl, hz, ⟨M, hM, hM2, hd⟩, rfl⟩ := h
  intro V0 A0 D hr
  refine run_asg (d := encQ 0) (ed_one (n := 0) ed_int) ?_
  refine run_for (enc := encQ) (xs := l) (fun pre => [.d (.list (qs l)), .d (encQ (sumQ pre)), .no]) (fun _ => none) (it_seqL (ed_var rfl)) (by walk_at "sl") rfl ?_ ?_
  · intro pre x post P' e
    refine ⟨_, _, tg_name, offNone, ?_⟩
    have hx := hd x (by rw [e]; simp)
    have hp : ∀ q ∈ pre, 0 ≤ q ∧ q.den ∣ M := fun q hq => hd q (by rw [e]; simp [hq])
    have s1 : Sm (sumQ pre) := sm_of hM hM2 (sumQ_nonneg fun q hq => (hp q hq).1) (sumQ_dv hM fun q hq => den_dv hM (hp q hq).2)
    have s2 : Sm x := sm_of hM hM2 hx.1 (den_dv hM hx.2)
    refine run_asg (ed_call (ea_cons (ed_var rfl) (ea_cons (ed_var rfl) ea_nil)) ⟨_, _, rfl, s1, s2, rfl⟩) ?_
    refine run_turn rfl ?_ rfl
    rw [sumQ_snoc]
    walk_at "sl"
  · exact run_retS (ed_var rfl) hr
theorem sm_int {n : Int} (h : 0 ≤ n) : Sm (n : Rat) := ⟨Rat.intCast_nonneg.mpr h, by show 1 < 32768; decide⟩
theorem enc_one (n : Int) : PyData.tuple [.int n, .int 1] = encQ (n : Rat) := rfl
theorem sm_mul_int {t : Rat} (h : Sm t) {n : Int} (hn : 0 ≤ n) : Sm (t * (n : Rat)) := by
  have hp := t.den_pos
  have h1 := dv_mulI hp (den_dv hp (Nat.dvd_refl _)) n
  exact sm_of hp h.2 (Rat.mul_nonneg h.1 (Rat.intCast_nonneg.mpr hn)) h1
theorem body_l_wide (h : R_l_wide ds d) : BodyOk 7 (t_l_wide K w) ds d := by
  obtain ⟨rs, t, rfl, ok, ht, rfl⟩ := h
  intro V0 A0 D hr
  refine run_new (ds := []) ea_nil (show 2 < 7 by decide) (by decide) ?_
  refine run_for (enc := encR) (xs := rs) (fun pre => [.d (encRs rs), .d (encQ t), .no, .no, .no, .no, .no]) (fun pre => some (2, qs (wideQ pre t))) (it_seqT (ed_var rfl)) (by walk_at "sl") rfl ?_ ?_
  · intro pre x post P' e
    obtain ⟨h1, h2, h3, h4, h5⟩ := ok.each x (by rw [e]; simp)
    have hl : (qs (wideQ pre t)).length < 100000 := by
      have := ok.len
      rw [e] at this
      simp [qs, wideQ] at this ⊢
      omega
    have sown := sm_mul_int ht (n := x.s) (by omega)
    have slow := sm_int h3
    refine ⟨_, _, tg_tup (tgl_cons tg_name (tgl_cons tg_name (tgl_cons tg_name tgl_nil))), offSome (by decide), ?_⟩
    refine run_asg (d := encQ (t * (x.s : Rat))) (ed_call (ea_cons (ed_var rfl) (ea_cons (d := encQ (x.s : Rat)) (ed_one (ed_var rfl)) ea_nil)) ⟨_, _, rfl, ht, sm_int (by omega), by show x.s < 1000000; omega, rfl⟩) ?_
    refine run_asg (d := encQ (if t * (x.s : Rat) < (x.l : Rat) then (x.l : Rat) else t * (x.s : Rat))) (ed_if (b := decide (t * (x.s : Rat) < (x.l : Rat))) (eb_B (ed_call (ea_cons (d := encQ (x.l : Rat)) (ed_one (ed_var rfl)) (ea_cons (ed_var rfl) ea_nil)) ⟨_, _, rfl, slow, sown, rfl⟩)) (fun hb => ?_) (fun hb => ?_)) ?_
    · rw [if_pos (of_decide_eq_true hb)]
      exact ed_is (by walk_at "ed") (enc_one _)
    · rw [if_neg (of_decide_eq_false hb)]
      exact ed_var rfl
    · have sX : Sm (if t * (x.s : Rat) < (x.l : Rat) then (x.l : Rat) else t * (x.s : Rat)) := by split <;> assumption
      have eX : wideQ1 t x = (match x.m with | none => (if t * (x.s : Rat) < (x.l : Rat) then (x.l : Rat) else t * (x.s : Rat)) | some m => if (m : Rat) < (if t * (x.s : Rat) < (x.l : Rat) then (x.l : Rat) else t * (x.s : Rat)) then (m : Rat) else (if t * (x.s : Rat) < (x.l : Rat) then (x.l : Rat) else t * (x.s : Rat))) := rfl
      generalize (if t * (x.s : Rat) < (x.l : Rat) then (x.l : Rat) else t * (x.s : Rat)) = X at sX eX ⊢
      refine run_app (d := encQ (wideQ1 t x)) ?_ hl ?_
      · rw [eX]
        cases hm : x.m with
        | none =>
          refine ed_if (b := false) (eb_is (eb_and (a := false) (b := false) (by walk_at "ed") (fun z => by cases z)) rfl) (fun z => by cases z) fun _ => ed_var rfl
        | some m =>
          have hb := h5 m hm
          have sm := sm_int (show 0 ≤ m by omega)
          refine ed_if (b := decide ((m : Rat) < X)) (eb_is (eb_and (a := true) (b := decide ((m : Rat) < X)) (by walk_at "ed") fun _ => eb_B (ed_call (ea_cons (ed_var rfl) (ea_cons (d := encQ (m : Rat)) (ed_one (ed_var rfl)) ea_nil)) ⟨_, _, rfl, sX, sm, rfl⟩)) (Bool.true_and _)) (fun hb => ?_) (fun hb => ?_)
          · dsimp only
            rw [if_pos (of_decide_eq_true hb)]
            exact ed_is (by walk_at "ed") (enc_one _)
          · dsimp only
            rw [if_neg (of_decide_eq_false hb)]
            exact ed_var rfl
      · refine run_turn rfl (by walk_at "sl") ?_
        unfold wideQ
        rw [List.map_append, ← qs_snoc]; rfl
  · exact run_done (run_retS (ed_var rfl) hr)
theorem eqvAll_cons (x y : PyData) (xs ys : List PyData) : PyData.eqvAll (x :: xs) (y :: ys) = (PyData.eqv x y && PyData.eqvAll xs ys) := by simp [PyData.eqvAll]
theorem eqv_Q (a b : Rat) : PyData.eqv (encQ a) (encQ b) = decide (a = b) := by
  unfold encQ
  simp only [PyData.eqv, PyData.eqvAll]
  rw [Bool.and_true, Bool.eq_iff_iff, Bool.and_eq_true, decide_eq_true_eq, beq_iff_eq, beq_iff_eq]
  constructor
  · rintro ⟨h1, h2⟩
    exact Rat.ext h1 (by omega)
  · rintro rfl
    exact ⟨rfl, rfl⟩
theorem opd_eqQ {a b : Rat} : OpD (rEqD K) (encQ a) (encQ b) (.bool (decide (a = b))) := by
  have h := opd_eq (K := K) (shaped_of (shp_Q 0 a)) (shaped_of (shp_Q 0 b))
  rwa [eqv_Q] at h
theorem eqv_Q1 (l : List Rat) (x : Rat) : PyData.eqv (.list (qs l)) (.list [encQ x]) = decide (l = [x]) := by
  simp only [PyData.eqv]
  cases l with
  | nil => simp [qs, PyData.eqvAll]
  | cons y ys =>
    show PyData.eqvAll (encQ y :: qs ys) (encQ x :: []) = _
    rw [eqvAll_cons, eqv_Q]
    cases ys with
    | nil =>
      show (decide (y = x) && PyData.eqvAll [] []) = _
      simp [PyData.eqvAll]
    | cons z zs =>
      show (decide (y = x) && PyData.eqvAll (encQ z :: qs zs) []) = _
      simp [PyData.eqvAll]
theorem shp_qs (n : Nat) (l : List Rat) : Shp (n + 2) (.list (qs l)) := shp_lst fun d hd => by
  unfold qs at hd
  obtain ⟨q, _, rfl⟩ := List.mem_map.mp hd
  exact shp_Q n q
theorem insQ_len (l : List Rat) (x : Rat) : (insQ l x).length ≤ l.length + 1 := by
  unfold insQ
  dsimp only
  split
  · omega
  · simp only [List.length_append, List.length_cons, List.length_nil, List.length_take, List.length_drop]
    omega
theorem ordQ_len : ∀ (xs l : List Rat), (xs.foldl insQ l).length ≤ l.length + xs.length
  | [], l => by simp
  | x :: xs, l => by
    have h1 := ordQ_len xs (insQ l x)
    have h2 := insQ_len l x
    rw [List.foldl_cons, List.length_cons]
    omega
theorem body_l_ordered (h : R_l_ordered ds d) : BodyOk 5 (t_l_ordered K w) ds d := by
  obtain ⟨l, rfl, hz, hs, rfl⟩ := h
  intro V0 A0 D hr
  refine run_asg (d := .list (qs [])) (ed_lst ea_nil) ?_
  refine run_for (enc := encQ) (xs := l) (fun pre => [.d (.list (qs l)), .d (.list (qs (ordQ pre))), .no, .no, .no]) (fun _ => none) (it_seqL (ed_var rfl)) (by walk_at "sl") rfl ?_ ?_
  · intro pre x post P' e
    have hx := hs x (by rw [e]; simp)
    have hp : ∀ q ∈ ordQ pre, Sm q := fun q hq => hs q (by rw [e]; simp [(ordQ_mem pre q).mp hq])
    have hlen : (ordQ pre).length ≤ 1000 := by
      have := ordQ_len pre []
      have h2 : pre.length ≤ l.length := by rw [e]; simp
      unfold ordQ
      simp at this
      omega
    refine ⟨_, _, tg_name, offNone, ?_⟩
    have hk : ((ordQ pre).filter fun y => decide (y < x)).length ≤ (ordQ pre).length := List.length_filter_le _ _
    refine run_asg (d := .int (((ordQ pre).filter fun y => decide (y < x)).length : Int)) (ed_cb (ea_cons (ed_is (ed_lcFQ (f := fun y : Rat => y) (it_seqL (ed_var rfl)) (fun y hy => tg_name) (fun y hy => eb_B (ed_call (ea_cons (ed_var rfl) (ea_cons (ed_var rfl) ea_nil)) ⟨_, _, rfl, hx, hp y hy, rfl⟩)) (fun y hy _ => ed_var rfl) (by omega)) rfl) ea_nil) (by rw [List.map_id']; have q := cad_len (K := K) (ds := qs ((ordQ pre).filter fun y => decide (y < x))); rwa [show (qs ((ordQ pre).filter fun y => decide (y < x))).length = ((ordQ pre).filter fun y => decide (y < x)).length from List.length_map _] at q)) ?_
    have ek : insQ (ordQ pre) x = (if ((ordQ pre).drop ((ordQ pre).filter fun y => decide (y < x)).length).take 1 = [x] then ordQ pre else (ordQ pre).take ((ordQ pre).filter fun y => decide (y < x)).length ++ [x] ++ (ordQ pre).drop ((ordQ pre).filter fun y => decide (y < x)).length) := rfl
    have es : ordQ (pre ++ [x]) = insQ (ordQ pre) x := by unfold ordQ; rw [List.foldl_append]; rfl
    rw [← es] at ek
    generalize ((ordQ pre).filter fun y => decide (y < x)).length = k at hk ek ⊢
    have ecut : cutD (qs (ordQ pre)) (some (k : Int)) (some ((k : Int) + 1)) = qs (((ordQ pre).drop k).take 1) := by
      rw [show ((k : Int) + 1) = ((k + 1 : Nat) : Int) by omega, cut_at, List.drop_take]
      unfold qs
      rw [Nat.add_sub_cancel_left, List.map_take, List.map_drop]
    refine run_if (b := !decide (((ordQ pre).drop k).take 1 = [x])) (eb_test (ed_op (x := .list (qs (((ordQ pre).drop k).take 1))) (y := .list [encQ x]) (ed_is (by walk_at "ed") (by rw [ecut])) (by walk_at "ed") ?_)) (fun hb => ?_) (fun hb => ?_)
    · have q := opd_ne (K := K) (shaped_of (shp_qs 0 (((ordQ pre).drop k).take 1))) (shaped_of (shp_qs 0 [x]))
      have q2 := eqv_Q1 (((ordQ pre).drop k).take 1) x
      rw [show PyData.list [encQ x] = PyData.list (qs [x]) from rfl] at q2 ⊢
      rwa [q2] at q
    · have hn : ¬ ((ordQ pre).drop k).take 1 = [x] := by simpa using hb
      rw [if_neg hn] at ek
      refine run_asg (d := .list (qs (ordQ (pre ++ [x])))) (ed_is (d := .list (qs ((ordQ pre).take k) ++ [encQ x] ++ qs ((ordQ pre).drop k))) (ed_op (x := .list (qs ((ordQ pre).take k) ++ [encQ x])) (y := .list (qs ((ordQ pre).drop k))) (ed_op (x := .list (qs ((ordQ pre).take k))) (y := .list [encQ x]) (ed_is (by walk_at "ed") (by rw [cut_to]; unfold qs; rw [List.map_take])) (by walk_at "ed") (opd_cat (by simp [qs]; omega))) (ed_is (by walk_at "ed") (by rw [cut_from]; unfold qs; rw [List.map_drop])) (opd_cat (by simp [qs]; omega))) (by rw [ek]; unfold qs; rw [List.map_append, List.map_append]; rfl)) ?_
      exact run_turn rfl (by walk_at "sl") rfl
    · have hn : ((ordQ pre).drop k).take 1 = [x] := by simpa using hb
      rw [if_pos hn] at ek
      refine run_next (run_turn rfl ?_ rfl)
      rw [ek]
      walk_at "sl"
  · exact run_retS (ed_var rfl) hr
end
end K4

/-! ## Runs4 -/
/-! the law's turns, exact widths, layouts -/
namespace K4
open PySem PySem.Spec PyProof.Rows L2
local macro_rules | `(tactic| walk_at "sl") => `(tactic| repeat' (first | exact sl_nil | refine sl_same ?_ | refine sl_no ?_))
local macro_rules | `(tactic| walk_at "ed1") => `(tactic| first
  | ((with_reducible apply ed_var); (exact rfl))
  | with_reducible exact ed_int | with_reducible exact ed_non | with_reducible exact ed_bl | with_reducible exact ed_str | with_reducible exact ea_nil | with_reducible exact eo_none | with_reducible exact eb_yes
  | with_reducible apply ed_isInt | with_reducible apply ed_isBool | with_reducible apply ed_isList | with_reducible apply ed_isTup
  | with_reducible apply ed_op | with_reducible apply ed_un | with_reducible apply ed_cb | with_reducible apply ea_cons | with_reducible apply eo_some | with_reducible apply ed_tup | with_reducible apply ed_lst | with_reducible apply ed_sl
  | with_reducible apply eb_test | with_reducible apply eb_B | with_reducible apply eb_not | with_reducible apply ed_notV
  | with_reducible exact opd_add | with_reducible exact opd_sub | with_reducible exact opd_lt | with_reducible exact opd_le | with_reducible exact opd_gt | with_reducible exact opd_ge | with_reducible exact und_neg
  | with_reducible exact opd_isNO | with_reducible exact opd_notNO | with_reducible exact opd_isN | with_reducible exact opd_notN | with_reducible exact opd_eqI | with_reducible exact opd_neI | with_reducible exact opd_eqO | with_reducible exact opd_eqO' | with_reducible exact opd_neO | with_reducible exact opd_neO'
  | with_reducible apply opd_mul | with_reducible apply opd_div | with_reducible apply opd_mod
  | exact opd_ix0T | exact opd_ix1T | exact opd_ix2T
  | with_reducible exact cad_max | with_reducible exact cad_min | with_reducible exact cad_abs | with_reducible exact cad_intI | with_reducible exact cad_intB | with_reducible exact cad_gcd | with_reducible apply cad_lcm
  | exact cad_sumI | exact cad_sum | exact cad_all | exact cad_any | exact cad_len | exact cad_lenT | exact cad_tupL | exact cad_lstL | exact cad_lstT
  | exact sld_L | exact sld_T
  | (show List.length _ ≤ 100000; simp only [List.length_cons, List.length_nil]; omega)
  | exact cmul_l (by omega) (by omega) | exact cmul_r (by omega) (by omega)
  | exact opd_notN | exact opd_isN)
local macro_rules | `(tactic| walk_at "ed") => `(tactic| repeat' (walk_at "ed1"))
section
variable {K : PySem.W.Frag} {w : World} {ds : List PyData} {d : PyData}
theorem qs_len (l : List Rat) : (qs l).length = l.length := by unfold qs; rw [List.length_map]
theorem intD_len (l : List Int) : (intD l).length = l.length := by unfold intD; rw [List.length_map]
theorem turnQ1_len (r : Rule) : (turnQ1 r).length ≤ 2 := by
  unfold turnQ1
  cases r.m <;> simp
theorem flat_len {α β : Type} (f : α → List β) (n : Nat) (h : ∀ a, (f a).length ≤ n) : ∀ l : List α, ((l.map f).flatten).length ≤ n * l.length
  | [] => by simp
  | a :: l => by
    have ih := flat_len f n h l
    have := h a
    rw [List.map_cons, List.flatten_cons, List.length_append, List.length_cons, Nat.mul_add]
    omega
theorem sm_turn {r : Rule} (h1 : 1 ≤ r.s) (h2 : r.s ≤ 5) {n : Int} (hn : 0 ≤ n) : Sm (Rat.divInt n r.s) := by
  refine sm_of (M := r.s.toNat) (by omega) (by omega) (Rat.divInt_nonneg hn (by omega)) ⟨n, by rw [show ((r.s.toNat : Nat) : Int) = r.s by omega]⟩
theorem body_l_turns (h : R_l_turns ds d) : BodyOk 5 (t_l_turns K w) ds d := by
  obtain ⟨rs, rfl, ok, rfl⟩ := h
  intro V0 A0 D hr
  refine run_new (ds := qs [0]) (ea_cons (ed_one (n := 0) ed_int) ea_nil) (show 1 < 5 by decide) (by simp [qs]) ?_
  refine run_for (enc := encR) (xs := rs) (fun pre => [.d (encRs rs), .no, .no, .no, .no]) (fun pre => some (1, qs (0 :: (pre.map turnQ1).flatten))) (it_seqT (ed_var rfl)) (by walk_at "sl") rfl ?_ ?_
  · intro pre x post P' e
    obtain ⟨h1, h2, h3, h4, h5⟩ := ok.each x (by rw [e]; simp)
    have hl : (qs (0 :: (pre.map turnQ1).flatten)).length < 1000 := by
      have a := flat_len turnQ1 2 turnQ1_len pre
      have b := ok.len
      rw [e] at b
      rw [qs_len, List.length_cons]
      simp at b
      omega
    have es : qs (0 :: ((pre ++ [x]).map turnQ1).flatten) = qs (0 :: (pre.map turnQ1).flatten) ++ qs (turnQ1 x) := by
      unfold qs
      rw [List.map_append, List.flatten_append, ← List.map_append]
      simp
    refine ⟨_, _, tg_tup (tgl_cons tg_name (tgl_cons tg_name (tgl_cons tg_name tgl_nil))), offSome (by decide), ?_⟩
    refine run_app (d := encQ (Rat.divInt x.l x.s)) (ed_call (ea_cons (ed_var rfl) (ea_cons (ed_var rfl) ea_nil)) ⟨_, _, rfl, h3, by omega, by omega, rfl⟩) (by omega) ?_
    refine run_if (b := x.m.isSome) (by walk_at "ed") (fun hb => ?_) (fun hb => ?_)
    · cases hm : x.m with
      | none => rw [hm] at hb; cases hb
      | some m =>
        have hb := h5 m hm
        refine run_app (d := encQ (Rat.divInt m x.s)) (ed_call (ea_cons (ed_var rfl) (ea_cons (ed_var rfl) ea_nil)) ⟨_, _, rfl, by omega, by omega, by omega, rfl⟩) (by rw [List.length_append]; simp; omega) ?_
        refine run_next (run_turn rfl (by walk_at "sl") ?_)
        rw [es]
        unfold turnQ1
        rw [hm, List.append_assoc]; rfl
    · cases hm : x.m with
      | some m => rw [hm] at hb; cases hb
      | none =>
        refine run_next (run_turn rfl (by walk_at "sl") ?_)
        rw [es]
        unfold turnQ1
        rw [hm]; rfl
  · refine run_done ?_
    refine run_retS (ed_call (ea_cons (ed_var rfl) ea_nil) ⟨_, rfl, ?_, fun q hq => ?_, rfl⟩) hr
    · have a := flat_len turnQ1 2 turnQ1_len rs
      have b := ok.len
      rw [List.length_cons]
      omega
    · have := turns_nonneg ok q ((ordQ_mem _ q).mpr hq)
      exact sm_of (by decide : 0 < 60) (by decide) this (turns_dv ok q ((ordQ_mem _ q).mpr hq))
section
variable {rs : List Rule} (ok : RsOk rs)
include ok
theorem sm_t {t : Rat} (h0 : 0 ≤ t) (h : Dv 60 t) : Sm t := sm_of (by decide) (by decide) h0 h
theorem wides_ok {t : Rat} (h0 : 0 ≤ t) (h : Dv 60 t) : ∀ q ∈ wideQ rs t, 0 ≤ q ∧ Dv 60 q := fun q hq => by
  unfold wideQ at hq
  obtain ⟨r, h1, rfl⟩ := List.mem_map.mp hq
  exact ⟨wq_nonneg (ok.vr r h1) h0, wq_dv (ok.vr r h1) (by decide) h⟩
theorem tot_sm {t : Rat} (h0 : 0 ≤ t) (h : Dv 60 t) : 0 ≤ tot rs t ∧ Dv 60 (tot rs t) :=
  ⟨sumQ_nonneg fun q hq => (wides_ok ok h0 h q hq).1, sumQ_dv (by decide) fun q hq => (wides_ok ok h0 h q hq).2⟩
theorem wideQ_len (t : Rat) : (wideQ rs t).length ≤ 5 := by
  unfold wideQ
  rw [List.length_map]
  exact ok.len
/-- sum(wide(rules, at)) -/
theorem ed_tot {ρ : List Sl} {t1 t2 : TE} {t : Rat} (h1 : EvD t1 ρ (encRs rs)) (h2 : EvD t2 ρ (encQ t)) (h0 : 0 ≤ t) (hd : Dv 60 t) :
    EvD (tCall (spD R_l_sum) [] E0 (tCons (tCall (spD R_l_wide) [] E0 (tCons t1 (tCons t2 tNil))) tNil)) ρ (encQ (tot rs t)) :=
  ed_call (ea_cons (ed_call (ea_cons h1 (ea_cons h2 ea_nil)) ⟨_, _, rfl, ok, sm_t ok h0 hd, rfl⟩) ea_nil) ⟨_, rfl, Nat.le_trans (wideQ_len ok t) (by decide), ⟨60, by decide, by decide, fun q hq => ⟨(wides_ok ok h0 hd q hq).1, dv_den (by decide) (wides_ok ok h0 hd q hq).2⟩⟩, rfl⟩
end
theorem turns_len (rs : List Rule) : (turnsQ rs).length ≤ 1 + 2 * rs.length := by
  unfold turnsQ ordQ
  have h := ordQ_len (0 :: (rs.map turnQ1).flatten) []
  have a := flat_len turnQ1 2 turnQ1_len rs
  rw [List.length_cons, List.length_nil] at h
  omega
theorem body_l_last_turn (h : R_l_last_turn ds d) : BodyOk 3 (t_l_last_turn K w) ds d := by
  obtain ⟨rs, wd, rfl, ok, hw, rfl⟩ := h
  intro V0 A0 D hr
  have hw0 : 0 ≤ wd := by
    have h0 : 0 ≤ leastsOf rs := by
      unfold leastsOf
      have : ∀ l : List Rule, (∀ r ∈ l, VR r) → 0 ≤ (l.map (·.l)).sum := by
        intro l
        induction l with
        | nil => intro _; exact Int.le_refl 0
        | cons r l ih =>
          intro h
          have := (h r (by simp)).l
          have := ih fun q hq => h q (List.mem_cons_of_mem _ hq)
          rw [List.map_cons, List.sum_cons]; omega
      exact this rs ok.vr
    omega
  have hlist : EvD (tLc (iSeqA K (tCall (spD R_l_turns) [] E0 (tCons (tVar 0) tNil))) (gName 2) (tNot (tB (tCall (spD R_l_above) [] E0 (tCons (tCall (spD R_l_sum) [] E0 (tCons (tCall (spD R_l_wide) [] E0 (tCons (tVar 0) (tCons (tVar 2) tNil))) tNil)) (tCons (tTup (tCons (tVar 1) (tCons (tC (.int 1)) tNil))) tNil))))) (tVar 2) [2]) (args 3 [encRs rs, .int wd]) (.list (qs (lastTurnL rs wd))) := by
    refine ed_is (ed_lcFQ (p := fun t => !decide ((wd : Rat) < tot rs t)) (f := fun t : Rat => t) (it_seqL (ed_call (ea_cons (ed_var rfl) ea_nil) ⟨_, rfl, ok, rfl⟩)) (fun t ht => tg_name) (fun t ht => eb_not (eb_B (ed_call (ea_cons (ed_tot ok (ed_var rfl) (ed_var rfl) (turns_nonneg ok t ht) (turns_dv ok t ht)) (ea_cons (ed_one (ed_var rfl)) ea_nil)) ⟨_, _, rfl, ?_, sm_int hw0, rfl⟩))) (fun t ht _ => ed_var rfl) ?_) ?_
    · have q := tot_sm ok (turns_nonneg ok t ht) (turns_dv ok t ht)
      exact sm_of (by decide : 0 < 60) (by decide) q.1 q.2
    · have := turns_len rs
      have := ok.len
      omega
    · rw [List.map_id']; rfl
  refine run_retS (ed_op hlist (ed_un ed_int und_neg) (opd_lastL (d := encQ (lastTurn rs wd)) ?_)) hr
  unfold qs
  rw [List.getLast?_map, (last_mem ok hw).2]; rfl
theorem moreQ_mem {rs : List Rule} {t : Rat} {p : Int} (h : p ∈ moreQ rs t) : ∃ i : Nat, ∃ r, p = (i : Int) ∧ rs[i]? = some r := by
  unfold moreQ at h
  obtain ⟨q, h1, rfl⟩ := List.mem_map.mp h
  obtain ⟨h2, _⟩ := List.mem_filter.mp h1
  exact ⟨q.2, q.1, rfl, List.mem_zipIdx_iff_getElem?.mp (show (q.1, q.2) ∈ rs.zipIdx from h2)⟩
theorem moreQ_len (rs : List Rule) (t : Rat) : (moreQ rs t).length ≤ rs.length := by
  unfold moreQ
  rw [List.length_map]
  exact Nat.le_trans (List.length_filter_le _ _) (by rw [List.length_zipIdx]; exact Nat.le_refl _)
theorem body_l_more (h : R_l_more ds d) : BodyOk 8 (t_l_more K w) ds d := by
  obtain ⟨rs, t, rfl, ok, ht, rfl⟩ := h
  intro V0 A0 D hr
  refine run_new (ds := []) ea_nil (show 2 < 8 by decide) (by decide) ?_
  refine run_for (enc := fun p : Rule × Nat => .tuple [.int (p.2 : Int), encR p.1]) (xs := rs.zipIdx) (fun pre => [.d (encRs rs), .d (encQ t), .no, .no, .no, .no, .no, .no]) (fun pre => some (2, intD ((pre.filter fun p => growsQ t p.1).map fun p => (p.2 : Int)))) (it_enumTm (ea_cons (ed_var rfl) ea_nil)) (by walk_at "sl") rfl ?_ ?_
  · intro pre x post P' e
    have hm : x.1 ∈ rs := by
      have : x ∈ rs.zipIdx := by rw [e]; simp
      exact List.fst_mem_of_mem_zipIdx this
    obtain ⟨h1, h2, h3, h4, h5⟩ := ok.each x.1 hm
    have hl : (intD ((pre.filter fun p => growsQ t p.1).map fun p => (p.2 : Int))).length < 1000 := by
      rw [intD_len, List.length_map]
      have a := List.length_filter_le (fun p : Rule × Nat => growsQ t p.1) pre
      have b := ok.len
      have c : pre.length ≤ rs.length := by
        have := congrArg List.length e
        rw [List.length_zipIdx, List.length_append] at this
        omega
      omega
    have sown := sm_mul_int ht (n := x.1.s) (by omega)
    have slow := sm_int h3
    refine ⟨_, _, tg_tup (tgl_cons tg_name (tgl_cons (tg_tup (tgl_cons tg_name (tgl_cons tg_name (tgl_cons tg_name tgl_nil)))) tgl_nil)), offSome (by decide), ?_⟩
    refine run_asg (d := encQ (t * (x.1.s : Rat))) (ed_call (ea_cons (ed_var rfl) (ea_cons (d := encQ (x.1.s : Rat)) (ed_one (ed_var rfl)) ea_nil)) ⟨_, _, rfl, ht, sm_int (by omega), by show x.1.s < 1000000; omega, rfl⟩) ?_
    refine run_if (b := growsQ t x.1) ?_ (fun hb => ?_) (fun hb => ?_)
    · unfold growsQ
      refine eb_and (eb_not (eb_B (ed_call (ea_cons (d := encQ (x.1.l : Rat)) (ed_one (ed_var rfl)) (ea_cons (ed_var rfl) ea_nil)) ⟨_, _, rfl, slow, sown, rfl⟩))) fun _ => ?_
      cases hmm : x.1.m with
      | none => exact eb_is (eb_or (a := true) (b := true) (by walk_at "ed") (fun z => by cases z)) rfl
      | some m =>
        have hb := h5 m hmm
        exact eb_is (eb_or (a := false) (b := decide (t * (x.1.s : Rat) < (m : Rat))) (by walk_at "ed") fun _ => eb_B (ed_call (ea_cons (d := encQ (m : Rat)) (ed_one (ed_var rfl)) (ea_cons (ed_var rfl) ea_nil)) ⟨_, _, rfl, sm_int (by omega), sown, rfl⟩)) (Bool.false_or _)
    · refine run_app (d := .int (x.2 : Int)) (ed_var rfl) (by omega) (run_next (run_turn rfl (by walk_at "sl") ?_))
      rw [List.filter_append, List.map_append, ← intD_snoc]
      simp [hb]
    · refine run_next (run_turn rfl (by walk_at "sl") ?_)
      rw [List.filter_append, List.map_append]
      simp [hb]
  · refine run_done ?_
    exact run_retS (by walk_at "ed") hr
theorem ed_leasts {rs : List Rule} (ok : RsOk rs) {ρ : List Sl} {t1 : TE} {j : Nat} (h1 : EvD t1 ρ (encRs rs)) (hj : ∀ x : PyData, ((wipeS ρ [j]).set j (.d x))[j]? = some (.d x)) :
    EvD (tCB (rSum K) (tCons (tLc (iSeqA K t1) (gName j) tYes (tOp (rIxA K) (tVar j) (tC (.int 1))) [j]) tNil)) ρ (.int (leastsOf rs)) :=
  ed_cb (ea_cons (ed_lcI (f := fun r : Rule => r.l) (it_seqT h1) (fun x hx => tg_name) (fun x hx => ed_op (ed_var (hj _)) ed_int opd_ix1T) (by have := ok.len; omega) (by simp)) ea_nil) cad_sumI
theorem reach_nonneg {rs : List Rule} (ok : RsOk rs) {wd : Int} (hw : leastsOf rs ≤ wd) : 0 ≤ reachQ rs wd := Rat.le_trans (turns_nonneg ok _ (last_turn ok hw).1) (reach_step ok hw).1
theorem body_l_exact (h : R_l_exact ds d) : BodyOk 8 (t_l_exact K w) ds d := by
  obtain ⟨rs, wd, rfl, ok, hw, rfl⟩ := h
  intro V0 A0 D hr
  have hlen := ok.len
  refine run_asg (ed_leasts ok (ed_var rfl) fun x => rfl) ?_
  refine run_if (b := decide (wd < leastsOf rs)) (by walk_at "ed") (fun hb => ?_) (fun hb => ?_)
  · have hlt := of_decide_eq_true hb
    have hsum := ok.sum
    unfold exactQ at hr
    rw [if_pos hlt] at hr
    refine run_retS (ed_lcQ (f := fun r : Rule => Rat.divInt (wd * r.l) (leastsOf rs)) (it_seqT (ed_var rfl)) (fun x hx => tg_name) (fun x hx => ?_) (by omega)) hr
    obtain ⟨h1, h2, h3, h4, h5⟩ := ok.each x hx
    refine ed_call (ea_cons (d := .int (wd * x.l)) (ed_op (y := .int x.l) (ed_var rfl) (by walk_at "ed") (opd_mul (cmul_r (by omega) (by omega)))) (ea_cons (ed_var rfl) ea_nil)) ⟨_, _, rfl, Int.mul_nonneg hw h3, by omega, ?_, rfl⟩
    have : leastsOf rs ≤ 36 := hsum
    omega
  · have hge := of_decide_eq_false hb
    have hle : leastsOf rs ≤ wd := by omega
    unfold exactQ at hr
    rw [if_neg hge] at hr
    obtain ⟨hm, htot⟩ := last_turn ok hle
    have t0 := turns_nonneg ok _ hm
    have tdv := turns_dv ok _ hm
    have tsm := sm_t ok t0 tdv
    have q := tot_sm ok t0 tdv
    have qsm : Sm (tot rs (lastTurn rs wd)) := sm_t ok q.1 q.2
    have hpp := pace_pos ok hle
    have hpl : paceQ rs (lastTurn rs wd) ≤ 25 := by
      rw [pace_eq]
      have := pace_le (rs := rs) (lastTurn rs wd) fun r hr => ⟨(ok.each r hr).1, (ok.each r hr).2.1⟩
      omega
    have hleft : 0 ≤ (wd : Rat) - tot rs (lastTurn rs wd) := by grind
    have ldv : Dv 60 ((wd : Rat) - tot rs (lastTurn rs wd)) := dv_sub (by decide) (dv_int (by decide) wd) q.2
    have ppos : (0 : Rat) < (paceQ rs (lastTurn rs wd) : Rat) := Rat.intCast_pos.mpr hpp
    refine run_next ?_
    refine run_asg (d := encQ (lastTurn rs wd)) (ed_call (ea_cons (ed_var rfl) (ea_cons (ed_var rfl) ea_nil)) ⟨_, _, rfl, ok, hle, rfl⟩) ?_
    refine run_asg (d := encQ ((wd : Rat) - tot rs (lastTurn rs wd))) (ed_call (ea_cons (d := encQ (wd : Rat)) (ed_one (ed_var rfl)) (ea_cons (ed_tot ok (ed_var rfl) (ed_var rfl) t0 tdv) ea_nil)) ⟨_, _, rfl, sm_int hw, qsm, htot, rfl⟩) ?_
    refine run_asg (d := .int (paceQ rs (lastTurn rs wd))) (ed_cb (ea_cons (ed_lcI (f := shareAt rs) (it_seqT (ds := intD (moreQ rs (lastTurn rs wd))) (ed_call (ea_cons (ed_var rfl) (ea_cons (ed_var rfl) ea_nil)) ⟨_, _, rfl, ok, tsm, rfl⟩)) (fun x hx => tg_name) (fun x hx => ?_) ?_) ea_nil) cad_sumI) ?_
    · obtain ⟨i, r, rfl, hi⟩ := moreQ_mem hx
      have e : shareAt rs (i : Int) = r.s := by unfold shareAt; rw [Int.toNat_natCast, hi]; rfl
      rw [e]
      exact ed_op (x := encR r) (ed_op (ed_var rfl) (ed_var rfl) (opd_ixT (j := i) (by rw [List.getElem?_map, hi]; rfl) rfl)) ed_int opd_ix0T
    · have := moreQ_len rs (lastTurn rs wd)
      omega
    · have odv : Dv (60 * (paceQ rs (lastTurn rs wd)).toNat) (((wd : Rat) - tot rs (lastTurn rs wd)) / (paceQ rs (lastTurn rs wd) : Rat)) := by
        obtain ⟨k, hk⟩ := ldv
        refine ⟨k, ?_⟩
        rw [hk, Int.natCast_mul, show (((paceQ rs (lastTurn rs wd)).toNat : Nat) : Int) = paceQ rs (lastTurn rs wd) by omega, Rat.divInt_eq_div, Rat.divInt_eq_div, Rat.intCast_mul, Rat.div_def, Rat.div_def, Rat.div_def, Rat.inv_mul_rev]
        grind
      have hM : 0 < 60 * (paceQ rs (lastTurn rs wd)).toNat := by omega
      have hM2 : 60 * (paceQ rs (lastTurn rs wd)).toNat < 32768 := by omega
      have o0 : 0 ≤ ((wd : Rat) - tot rs (lastTurn rs wd)) / (paceQ rs (lastTurn rs wd) : Rat) := by
        rw [Rat.div_def]
        exact Rat.mul_nonneg hleft (Rat.le_of_lt (Rat.inv_pos.mpr ppos))
      have rdv : Dv (60 * (paceQ rs (lastTurn rs wd)).toNat) (reachQ rs wd) := dv_add hM (dv_mono (by decide : 0 < 60) hM (Nat.dvd_mul_right _ _) tdv) odv
      have rsm : Sm (reachQ rs wd) := sm_of hM hM2 (reach_nonneg ok hle) rdv
      refine run_retS (ed_call (ea_cons (ed_var rfl) (ea_cons (d := encQ (reachQ rs wd)) (ed_call (ea_cons (ed_var rfl) (ea_cons (ed_call (ea_cons (ed_var rfl) (ea_cons (d := encQ (paceQ rs (lastTurn rs wd) : Rat)) (ed_one (ed_var rfl)) ea_nil)) ⟨_, _, rfl, sm_t ok hleft ldv, sm_int (by omega), ppos, ?_, rfl⟩) ea_nil)) ⟨_, _, rfl, tsm, sm_of hM hM2 o0 odv, rfl⟩) ea_nil)) ⟨_, _, rfl, ok, rsm, rfl⟩) hr
      show paceQ rs (lastTurn rs wd) < 32768
      omega
theorem body_l_free (h : R_l_free ds d) : BodyOk 4 (t_l_free K w) ds d := by
  obtain ⟨rs, wd, rfl, ok, hw, rfl⟩ := h
  intro V0 A0 D hr
  have hlen := ok.len
  refine run_if (b := decide (wd < leastsOf rs)) (eb_test (ed_op (ed_var rfl) (ed_leasts ok (ed_var rfl) fun x => rfl) opd_lt)) (fun hb => ?_) (fun hb => ?_)
  · have hlt := of_decide_eq_true hb
    unfold freeQ at hr
    rw [if_pos hlt] at hr
    refine run_retS (ed_cb (ea_cons (ed_lcFI (α := Rule × Nat) (p := fun p => decide (0 < p.1.l)) (f := fun p => (p.2 : Int)) (it_enumTm (enc := encR) (xs := rs) (ea_cons (ed_var rfl) ea_nil)) (fun x hx => tg_tup (tgl_cons tg_name (tgl_cons tg_name tgl_nil))) (fun x hx => by walk_at "ed") (fun x hx _ => ed_var rfl) (by rw [List.length_zipIdx]; omega)) ea_nil) cad_tupL) hr
  · have hge := of_decide_eq_false hb
    have hle : leastsOf rs ≤ wd := by omega
    unfold freeQ at hr
    rw [if_neg hge] at hr
    obtain ⟨hm, htot⟩ := last_turn ok hle
    have tsm := sm_t ok (turns_nonneg ok _ hm) (turns_dv ok _ hm)
    refine run_next ?_
    exact run_retS (ed_call (ea_cons (ed_var rfl) (ea_cons (ed_call (ea_cons (ed_var rfl) (ea_cons (ed_var rfl) ea_nil)) ⟨_, _, rfl, ok, hle, rfl⟩) ea_nil)) ⟨_, _, rfl, ok, tsm, rfl⟩) hr
end
end K4

/-! ## Runs5 -/
/-! the program's rules -/
namespace K4
open PySem PySem.Spec PyProof.Rows L2
local macro_rules | `(tactic| walk_at "sl") => `(tactic| repeat' (first | exact sl_nil | refine sl_same ?_ | refine sl_no ?_))
local macro_rules | `(tactic| walk_at "ed1") => `(tactic| first
  | ((with_reducible apply ed_var); (exact rfl))
  | with_reducible exact ed_int | with_reducible exact ed_non | with_reducible exact ed_bl | with_reducible exact ed_str | with_reducible exact ea_nil | with_reducible exact eo_none | with_reducible exact eb_yes
  | with_reducible apply ed_isInt | with_reducible apply ed_isBool | with_reducible apply ed_isList | with_reducible apply ed_isTup
  | with_reducible apply ed_op | with_reducible apply ed_un | with_reducible apply ed_cb | with_reducible apply ea_cons | with_reducible apply eo_some | with_reducible apply ed_tup | with_reducible apply ed_lst | with_reducible apply ed_sl
  | with_reducible apply eb_test | with_reducible apply eb_B | with_reducible apply eb_not | with_reducible apply ed_notV
  | with_reducible exact opd_add | with_reducible exact opd_sub | with_reducible exact opd_lt | with_reducible exact opd_le | with_reducible exact opd_gt | with_reducible exact opd_ge | with_reducible exact und_neg
  | with_reducible exact opd_isNO | with_reducible exact opd_notNO | with_reducible exact opd_isN | with_reducible exact opd_notN | with_reducible exact opd_eqI | with_reducible exact opd_neI | with_reducible exact opd_eqO | with_reducible exact opd_eqO' | with_reducible exact opd_neO | with_reducible exact opd_neO'
  | with_reducible apply opd_mul | with_reducible apply opd_div | with_reducible apply opd_mod
  | exact opd_ix0T | exact opd_ix1T | exact opd_ix2T
  | with_reducible exact cad_max | with_reducible exact cad_min | with_reducible exact cad_abs | with_reducible exact cad_intI | with_reducible exact cad_intB | with_reducible exact cad_gcd | with_reducible apply cad_lcm
  | exact cad_sumI | exact cad_sum | exact cad_all | exact cad_any | exact cad_len | exact cad_lenT | exact cad_tupL | exact cad_lstL | exact cad_lstT
  | exact sld_L | exact sld_T
  | (show List.length _ ≤ 100000; simp only [List.length_cons, List.length_nil]; omega)
  | exact cmul_l (by omega) (by omega) | exact cmul_r (by omega) (by omega)
  | exact opd_notN | exact opd_isN)
local macro_rules | `(tactic| walk_at "ed") => `(tactic| repeat' (walk_at "ed1"))
section
variable {K : PySem.W.Frag} {w : World} {ds : List PyData} {d : PyData}
theorem turn1_len (W : Int) (r : Rule) : (turn1 W r).length ≤ 2 := by
  unfold turn1
  cases r.m <;> simp
theorem body_turns_of (h : R_p_turns_of ds d) : BodyOk 6 (t_p_turns_of K w) ds d := by
  obtain ⟨rs, rfl, ok, rfl⟩ := h
  intro V0 A0 D hr
  refine run_parNew1 (d := .int (whole rs)) (ds := intD [0]) (ed_call (ea_cons (ed_var rfl) ea_nil) ⟨rs, rfl, ok, rfl⟩) (ea_cons ed_int ea_nil) (by simp [intD]) (by decide) (show 2 < 6 by decide) ?_
  refine run_for (enc := encR) (xs := rs) (fun pre => [.d (encRs rs), .d (.int (whole rs)), .no, .no, .no, .no]) (fun pre => some (2, intD (0 :: (pre.map (turn1 (whole rs))).flatten))) (it_seqT (ed_var rfl)) (by walk_at "sl") rfl ?_ ?_
  · intro pre x post P' e
    obtain ⟨h1, h2, h3, h4, h5⟩ := ok.each x (by rw [e]; simp)
    have hl : (intD (0 :: (pre.map (turn1 (whole rs))).flatten)).length < 1000 := by
      have a := flat_len (turn1 (whole rs)) 2 (turn1_len _) pre
      have b := ok.len
      rw [e] at b
      rw [intD_len, List.length_cons]
      simp at b
      omega
    have es : intD (0 :: ((pre ++ [x]).map (turn1 (whole rs))).flatten) = intD (0 :: (pre.map (turn1 (whole rs))).flatten) ++ intD (turn1 (whole rs) x) := by
      unfold intD
      rw [List.map_append, List.flatten_append, ← List.map_append]
      simp
    refine ⟨_, _, tg_tup (tgl_cons tg_name (tgl_cons tg_name (tgl_cons tg_name tgl_nil))), offSome (by decide), ?_⟩
    refine run_app (d := .int (x.l * whole rs / x.s)) (by walk_at "ed" <;> omega) (by omega) ?_
    refine run_if (b := x.m.isSome) (by walk_at "ed") (fun hb => ?_) (fun hb => ?_)
    · cases hm : x.m with
      | none => rw [hm] at hb; cases hb
      | some m =>
        have hb := h5 m hm
        rw [show encO (some m) = .int m from rfl]
        refine run_app (d := .int (m * whole rs / x.s)) (by walk_at "ed" <;> omega) (by rw [List.length_append]; simp; omega) ?_
        refine run_next (run_turn rfl (by walk_at "sl") ?_)
        rw [es]
        unfold turn1
        rw [hm, List.append_assoc]; rfl
    · cases hm : x.m with
      | some m => rw [hm] at hb; cases hb
      | none =>
        refine run_next (run_turn rfl (by walk_at "sl") ?_)
        rw [es]
        unfold turn1
        rw [hm]; rfl
  · refine run_done ?_
    refine run_retS (ed_sortedSet (ns := turnsRaw rs) (ms := turnsOf rs) (ed_var rfl) ?_ (ascI_sorted _) fun k => ascI_mem k _) hr
    have a := flat_len (turn1 (whole rs)) 2 (turn1_len _) rs
    have b := ok.len
    unfold turnsRaw
    rw [List.length_cons]
    omega
theorem body_growing (h : R_p_growing ds d) : BodyOk 8 (t_p_growing K w) ds d := by
  obtain ⟨rs, t, rfl, ok, rfl⟩ := h
  intro V0 A0 D hr
  refine run_parNew (d := .int (whole rs)) (ed_call (ea_cons (ed_var rfl) ea_nil) ⟨rs, rfl, ok, rfl⟩) (by decide) (show 3 < 8 by decide) ?_
  refine run_for (enc := fun p : Rule × Nat => .tuple [.int (p.2 : Int), encR p.1]) (xs := rs.zipIdx) (fun pre => [.d (encRs rs), .d (.int t), .d (.int (whole rs)), .no, .no, .no, .no, .no]) (fun pre => some (3, intD ((pre.filter fun p => grows (whole rs) t p.1).map fun p => (p.2 : Int)))) (it_enumTm (ea_cons (ed_var rfl) ea_nil)) (by walk_at "sl") rfl ?_ ?_
  · intro pre x post P' e
    have hm : x.1 ∈ rs := by
      have : x ∈ rs.zipIdx := by rw [e]; simp
      exact List.fst_mem_of_mem_zipIdx this
    obtain ⟨h1, h2, h3, h4, h5⟩ := ok.each x.1 hm
    have hl : (intD ((pre.filter fun p => grows (whole rs) t p.1).map fun p => (p.2 : Int))).length < 1000 := by
      rw [intD_len, List.length_map]
      have a := List.length_filter_le (fun p : Rule × Nat => grows (whole rs) t p.1) pre
      have b := ok.len
      have c : pre.length ≤ rs.length := by
        have := congrArg List.length e
        rw [List.length_zipIdx, List.length_append] at this
        omega
      omega
    refine ⟨_, _, tg_tup (tgl_cons tg_name (tgl_cons (tg_tup (tgl_cons tg_name (tgl_cons tg_name (tgl_cons tg_name tgl_nil)))) tgl_nil)), offSome (by decide), ?_⟩
    refine run_if (b := grows (whole rs) t x.1) ?_ (fun hb => ?_) (fun hb => ?_)
    · unfold grows
      refine eb_and (by walk_at "ed") fun _ => ?_
      cases hmm : x.1.m with
      | none => exact eb_is (eb_or (a := true) (b := true) (by walk_at "ed") (fun z => by cases z)) rfl
      | some m =>
        have hb := h5 m hmm
        rw [show encO (some m) = .int m from rfl]
        exact eb_is (eb_or (a := false) (b := decide (t * x.1.s < m * whole rs)) (by walk_at "ed") fun _ => by walk_at "ed") (Bool.false_or _)
    · refine run_app (d := .int (x.2 : Int)) (ed_var rfl) (by omega) (run_next (run_turn rfl (by walk_at "sl") ?_))
      rw [List.filter_append, List.map_append, ← intD_snoc]
      simp [hb]
    · refine run_next (run_turn rfl (by walk_at "sl") ?_)
      rw [List.filter_append, List.map_append]
      simp [hb]
  · refine run_done ?_
    exact run_retS (by walk_at "ed") hr
theorem ascI_len : ∀ l : List Int, (ascI l).length ≤ l.length
  | [] => by simp [ascI]
  | x :: xs => by
    have ih := ascI_len xs
    have key : ∀ l : List Int, (insI x l).length ≤ l.length + 1 := by
      intro l
      induction l with
      | nil => simp [insI]
      | cons y ys ih =>
        unfold insI
        split
        · simp
        · split
          · simp
          · simp only [List.length_cons]; omega
    have := key (ascI xs)
    show (insI x (ascI xs)).length ≤ _
    rw [List.length_cons]
    omega
theorem turnsOf_len (rs : List Rule) : (turnsOf rs).length ≤ 1 + 2 * rs.length := by
  have a := flat_len (turn1 (whole rs)) 2 (turn1_len _) rs
  have b := ascI_len (turnsRaw rs)
  unfold turnsOf
  unfold turnsRaw at b ⊢
  rw [List.length_cons] at b
  omega
theorem body_stretch_at (h : R_p_stretch_at ds d) : BodyOk 3 (t_p_stretch_at K w) ds d := by
  obtain ⟨rs, g, rfl, ok, hne, rfl⟩ := h
  intro V0 A0 D hr
  have hlen := ok.len
  have htl := turnsOf_len rs
  refine run_retS (ed_op (ed_is (ed_lcFI (p := fun a => decide ((wouldBe rs a).sum ≤ g)) (f := fun a : Int => a) (it_seqL (ed_call (ea_cons (ed_var rfl) ea_nil) ⟨_, rfl, ok, rfl⟩)) (fun t ht => tg_name) (fun t ht => eb_test (ed_op (ed_cb (ea_cons (ed_call (ea_cons (ed_var rfl) (ea_cons (ed_var rfl) ea_nil)) ⟨_, _, rfl, ok, rfl⟩) ea_nil) cad_sumI) (ed_var rfl) opd_le)) (fun t ht _ => ed_var rfl) (by omega)) rfl) (ed_un ed_int und_neg) (opd_lastL (d := .int (stretchAt rs g)) ?_)) hr
  rw [List.map_id']
  have e : (stretchL rs g).getLast? = some ((stretchL rs g).getLast hne) := List.getLast?_eq_some_getLast hne
  have e2 : stretchAt rs g = (stretchL rs g).getLast hne := by unfold stretchAt; rw [e]; rfl
  show (intD (stretchL rs g)).getLast? = _
  unfold intD
  rw [List.getLast?_map, e, e2]; rfl
theorem body_given_all (h : R_p_given_all ds d) : BodyOk 11 (t_p_given_all K w) ds d := by
  obtain ⟨rs, wd, rfl, ok, hw, rfl⟩ := h
  intro V0 A0 D hr
  have hlen := ok.len
  have hWp := (whole_pos ok).1
  have hWl := whole_le ok
  have hls : EvD (tCall (spD R_p_leasts_of) [] E0 (tCons (tVar 0) tNil)) (args 11 [encRs rs, .int wd]) (.int (leastsOf rs)) := ed_call (ea_cons (ed_var rfl) ea_nil) ⟨_, rfl, ok, rfl⟩
  refine run_if (b := decide (wd < leastsOf rs)) (eb_test (ed_op (ed_var rfl) hls opd_lt)) (fun hb => ?_) (fun hb => ?_)
  · have hlt := of_decide_eq_true hb
    have hsum : leastsOf rs ≤ 36 := ok.sum
    unfold givenAll at hr
    rw [if_pos hlt] at hr
    refine run_retS (ed_lcQ (f := fun r : Rule => Rat.divInt (wd * r.l) (leastsOf rs)) (it_seqT (ed_var rfl)) (fun x hx => tg_name) (fun x hx => ?_) (by omega)) hr
    obtain ⟨h1, h2, h3, h4, h5⟩ := ok.each x hx
    exact ed_call (ea_cons (d := .int (wd * x.l)) (ed_op (y := .int x.l) (ed_var rfl) (by walk_at "ed") (opd_mul (cmul_r (by omega) (by omega)))) (ea_cons (ed_call (ea_cons (ed_var rfl) ea_nil) ⟨_, rfl, ok, rfl⟩) ea_nil)) ⟨_, _, rfl, by omega, by omega, rfl⟩
  · have hge := of_decide_eq_false hb
    have hle : leastsOf rs ≤ wd := by omega
    have hne := stretch_ne ok hle
    unfold givenAll at hr
    rw [if_neg hge] at hr
    dsimp only at hr
    have ht : lastTurn rs wd * (whole rs : Rat) = ((stretchAt rs (wd * whole rs) : Int) : Rat) := by rw [last_map ok wd]; exact divW hWp _
    have hmore := growing_map ok _ ht
    have hpp := pace_pos ok hle
    have hpl : paceQ rs (lastTurn rs wd) ≤ 25 := by
      rw [pace_eq]
      have := pace_le (rs := rs) (lastTurn rs wd) fun r hr => ⟨(ok.each r hr).1, (ok.each r hr).2.1⟩
      omega
    have hsh : ((growing rs (stretchAt rs (wd * whole rs))).map (shareAt rs)).sum = paceQ rs (lastTurn rs wd) := by rw [hmore]; rfl
    refine run_next ?_
    refine run_asg (d := .int (whole rs)) (ed_call (ea_cons (ed_var rfl) ea_nil) ⟨_, rfl, ok, rfl⟩) ?_
    refine run_asg (d := .int (stretchAt rs (wd * whole rs))) (ed_call (ea_cons (ed_var rfl) (ea_cons (d := .int (wd * whole rs)) (by walk_at "ed") ea_nil)) ⟨_, _, rfl, ok, hne, rfl⟩) ?_
    refine run_par (d1 := .list (intD (wouldBe rs (stretchAt rs (wd * whole rs))))) (d2 := .tuple (intD (growing rs (stretchAt rs (wd * whole rs))))) (ea_cons (ed_call (ea_cons (ed_var rfl) (ea_cons (ed_var rfl) ea_nil)) ⟨_, _, rfl, ok, rfl⟩) (ea_cons (ed_call (ea_cons (ed_var rfl) (ea_cons (ed_var rfl) ea_nil)) ⟨_, _, rfl, ok, rfl⟩) ea_nil)) ?_
    refine run_par (d1 := .int (wd * whole rs - (wouldBe rs (stretchAt rs (wd * whole rs))).sum)) (d2 := .int (paceQ rs (lastTurn rs wd))) (ea_cons (by walk_at "ed") (ea_cons (ed_is (ed_cb (ea_cons (ed_lcI (f := shareAt rs) (it_seqT (ds := intD (growing rs (stretchAt rs (wd * whole rs)))) (ed_var rfl)) (fun x hx => tg_name) (fun x hx => ?_) ?_) ea_nil) cad_sumI) (by rw [hsh])) ea_nil)) ?_
    · rw [hmore] at hx
      obtain ⟨i, r, rfl, hi⟩ := moreQ_mem hx
      have e : shareAt rs (i : Int) = r.s := by unfold shareAt; rw [Int.toNat_natCast, hi]; rfl
      rw [e]
      exact ed_op (x := encR r) (ed_op (ed_var rfl) (ed_var rfl) (opd_ixT (j := i) (by rw [List.getElem?_map, hi]; rfl) rfl)) ed_int opd_ix0T
    · rw [hmore]
      have := moreQ_len rs (lastTurn rs wd)
      omega
    · rw [hsh] at hr
      generalize hAt : stretchAt rs (wd * whole rs) = at_ at hr hmore ⊢
      generalize paceQ rs (lastTurn rs wd) = pc at hr hpp hpl ⊢
      generalize hL : wd * whole rs - (wouldBe rs at_).sum = left at hr ⊢
      have hwl : (wouldBe rs at_).length = rs.length := by unfold wouldBe; rw [List.length_map]
      refine run_new (ds := []) ea_nil (show 8 < 11 by decide) (by decide) ?_
      refine run_for (enc := fun p : Int × Nat => .tuple [.int (p.2 : Int), .int p.1]) (xs := (wouldBe rs at_).zipIdx) (fun pre => [.d (encRs rs), .d (.int wd), .d (.int (whole rs)), .d (.int at_), .d (.list (intD (wouldBe rs at_))), .d (.tuple (intD (growing rs at_))), .d (.int left), .d (.int pc), .no, .no, .no])
        (fun pre => some (8, qs (pre.map fun p => if (growing rs at_).contains (p.2 : Int) = true then Rat.divInt (p.1 * pc + left * shareAt rs (p.2 : Int)) (pc * whole rs) else Rat.divInt p.1 (whole rs)))) (it_enumLm (enc := PyData.int) (ea_cons (ed_var rfl) ea_nil)) (by walk_at "sl") rfl ?_ ?_
      · intro pre x post P' e
        have hmx : x ∈ (wouldBe rs at_).zipIdx := by rw [e]; simp
        have hix : (wouldBe rs at_)[x.2]? = some x.1 := List.mem_zipIdx_iff_getElem?.mp (show (x.1, x.2) ∈ (wouldBe rs at_).zipIdx from hmx)
        obtain ⟨r, hri⟩ : ∃ r, rs[x.2]? = some r := by
          have h1 := (List.getElem?_eq_some_iff.mp hix).1
          exact ⟨rs[x.2]'(by omega), List.getElem?_eq_getElem _⟩
        obtain ⟨h1, h2, h3, h4, h5⟩ := ok.each r (List.mem_of_getElem? hri)
        have esh : shareAt rs (x.2 : Int) = r.s := by unfold shareAt; rw [Int.toNat_natCast, hri]; rfl
        have hl : (qs (pre.map fun p => if (growing rs at_).contains (p.2 : Int) = true then Rat.divInt (p.1 * pc + left * shareAt rs (p.2 : Int)) (pc * whole rs) else Rat.divInt p.1 (whole rs))).length < 1000 := by
          rw [qs_len, List.length_map]
          have := congrArg List.length e
          rw [List.length_zipIdx, List.length_append, hwl] at this
          omega
        have hpw : 0 < pc * whole rs ∧ pc * whole rs < 1073741824 := by
          refine ⟨Int.mul_pos hpp hWp, ?_⟩
          have : pc * whole rs ≤ 25 * 60 := Int.mul_le_mul hpl hWl (by omega) (by omega)
          omega
        refine ⟨_, _, tg_tup (tgl_cons tg_name (tgl_cons tg_name tgl_nil)), offSome (by decide), ?_⟩
        refine run_if (b := (growing rs at_).contains (x.2 : Int)) (eb_test (ed_op (ed_var rfl) (ed_var rfl) opd_in)) (fun hb => ?_) (fun hb => ?_)
        · refine run_app (d := encQ (Rat.divInt (x.1 * pc + left * r.s) (pc * whole rs))) (ed_call (ea_cons (d := .int (x.1 * pc + left * r.s)) ?_ (ea_cons (d := .int (pc * whole rs)) (by walk_at "ed") ea_nil)) ⟨_, _, rfl, hpw.1, hpw.2, rfl⟩) (by omega) (run_next (run_turn rfl (by walk_at "sl") ?_))
          · exact ed_op (x := .int (x.1 * pc)) (y := .int (left * r.s)) (by walk_at "ed") (ed_op (y := .int r.s) (ed_var rfl) (ed_op (x := encR r) (ed_op (ed_var rfl) (ed_var rfl) (opd_ixT (j := x.2) (by rw [List.getElem?_map, hri]; rfl) rfl)) ed_int opd_ix0T) (opd_mul (cmul_r (by omega) (by omega)))) opd_add
          · rw [List.map_append, ← qs_snoc]
            simp only [List.map_cons, List.map_nil]
            rw [if_pos hb, esh]
        · refine run_app (d := encQ (Rat.divInt x.1 (whole rs))) (ed_call (ea_cons (ed_var rfl) (ea_cons (ed_var rfl) ea_nil)) ⟨_, _, rfl, hWp, by omega, rfl⟩) (by omega) (run_next (run_turn rfl (by walk_at "sl") ?_))
          rw [List.map_append, ← qs_snoc]
          simp only [List.map_cons, List.map_nil]
          rw [if_neg (by rw [hb]; simp)]
      · exact run_done (run_retS (ed_var rfl) hr)
end
end K4

/-! ## Runs6 -/
/-! the defs that call themselves; kinds of things -/
namespace K4
open PySem PySem.Spec PyProof.Rows L2
local macro_rules | `(tactic| walk_at "sl") => `(tactic| repeat' (first | exact sl_nil | refine sl_same ?_ | refine sl_no ?_))
local macro_rules | `(tactic| walk_at "ed1") => `(tactic| first
  | ((with_reducible apply ed_var); (exact rfl))
  | with_reducible exact ed_int | with_reducible exact ed_non | with_reducible exact ed_bl | with_reducible exact ed_str | with_reducible exact ea_nil | with_reducible exact eo_none | with_reducible exact eb_yes
  | with_reducible apply ed_isInt | with_reducible apply ed_isBool | with_reducible apply ed_isList | with_reducible apply ed_isTup
  | with_reducible apply ed_op | with_reducible apply ed_un | with_reducible apply ed_cb | with_reducible apply ea_cons | with_reducible apply eo_some | with_reducible apply ed_tup | with_reducible apply ed_lst | with_reducible apply ed_sl
  | with_reducible apply eb_test | with_reducible apply eb_B | with_reducible apply eb_not | with_reducible apply ed_notV
  | with_reducible exact opd_add | with_reducible exact opd_sub | with_reducible exact opd_lt | with_reducible exact opd_le | with_reducible exact opd_gt | with_reducible exact opd_ge | with_reducible exact und_neg
  | with_reducible exact opd_isNO | with_reducible exact opd_notNO | with_reducible exact opd_isN | with_reducible exact opd_notN | with_reducible exact opd_eqI | with_reducible exact opd_neI | with_reducible exact opd_eqO | with_reducible exact opd_eqO' | with_reducible exact opd_neO | with_reducible exact opd_neO'
  | with_reducible apply opd_mul | with_reducible apply opd_div | with_reducible apply opd_mod
  | exact opd_ix0T | exact opd_ix1T | exact opd_ix2T
  | with_reducible exact cad_max | with_reducible exact cad_min | with_reducible exact cad_abs | with_reducible exact cad_intI | with_reducible exact cad_intB | with_reducible exact cad_gcd | with_reducible apply cad_lcm
  | exact cad_sumI | exact cad_sum | exact cad_all | exact cad_any | exact cad_len | exact cad_lenT | exact cad_tupL | exact cad_lstL | exact cad_lstT
  | exact sld_L | exact sld_T
  | (show List.length _ ≤ 100000; simp only [List.length_cons, List.length_nil]; omega)
  | exact cmul_l (by omega) (by omega) | exact cmul_r (by omega) (by omega)
  | exact opd_notN | exact opd_isN)
local macro_rules | `(tactic| walk_at "ed") => `(tactic| repeat' (walk_at "ed1"))
section
variable {K : PySem.W.Frag} {w : World} {ds : List PyData} {d : PyData}
theorem tupAll_map : ∀ xs : List PyData, tupAll xs = xs.map tupD
  | [] => rfl
  | x :: xs => by simp only [tupAll, List.map_cons, tupAll_map xs]
theorem lstAll_map : ∀ xs : List PyData, lstAll xs = xs.map lstD
  | [] => rfl
  | x :: xs => by simp only [lstAll, List.map_cons, lstAll_map xs]
theorem depAll_le {n : Nat} : ∀ {xs : List PyData}, depAll xs ≤ n → ∀ x ∈ xs, dep x ≤ n
  | y :: ys, h, x, hx => by
    simp only [depAll] at h
    rcases List.mem_cons.mp hx with e | hx
    · rw [e]; omega
    · exact depAll_le (xs := ys) (by omega) x hx
theorem le_depAll {n : Nat} : ∀ {xs : List PyData}, (∀ x ∈ xs, dep x ≤ n) → depAll xs ≤ n
  | [], _ => Nat.zero_le _
  | y :: ys, h => by
    simp only [depAll]
    exact Nat.max_le.mpr ⟨h y (by simp), le_depAll fun x hx => h x (List.mem_cons_of_mem _ hx)⟩
theorem wideAll_mem : ∀ {xs : List PyData}, wideAll xs = true → ∀ x ∈ xs, wide x = true
  | y :: ys, h, x, hx => by
    simp only [wideAll, Bool.and_eq_true] at h
    rcases List.mem_cons.mp hx with e | hx
    · rw [e]; exact h.1
    · exact wideAll_mem h.2 x hx
theorem mem_wideAll : ∀ {xs : List PyData}, (∀ x ∈ xs, wide x = true) → wideAll xs = true
  | [], _ => rfl
  | y :: ys, h => by
    simp only [wideAll, Bool.and_eq_true]
    exact ⟨h y (by simp), mem_wideAll fun x hx => h x (List.mem_cons_of_mem _ hx)⟩
theorem wide_split {xs : List PyData} (h : (decide (xs.length ≤ 50000) && wideAll xs) = true) : xs.length ≤ 50000 ∧ ∀ x ∈ xs, wide x = true := by
  rw [Bool.and_eq_true] at h
  exact ⟨of_decide_eq_true h.1, wideAll_mem h.2⟩
theorem map_id2 (xs : List PyData) : xs = xs.map fun x => x := (List.map_id' xs).symm
/-- isinstance(x, (list, tuple)) -/
theorem ed_isLT {ρ : List Sl} {ta : TE} (h : EvD ta ρ d) : EvD (tCB (rIsiT K) (tCons ta (tCons (tTup (tCons (tC (.ty "list")) (tCons (tC (.ty "tuple")) tNil))) tNil))) ρ (.bool (isListD d || isTupD d)) := ed_isT2 h (kit_list d) (kit_tup d)
theorem ed_isBS {ρ : List Sl} {ta : TE} (h : EvD ta ρ d) : EvD (tCB (rIsiT K) (tCons ta (tCons (tTup (tCons (tC (.ty "bool")) (tCons (tC (.ty "str")) tNil))) tNil))) ρ (.bool (isBoolD d || isStrD d)) := ed_isT2 h (kit_bool d) (kit_str d)
/-- the parts' promise is R; a leaf asks nothing -/
theorem body_tuple_of {R : List PyData → PyData → Prop} {x : PyData} (hw : wide x = true) (h : ∀ y, dep y < dep x → wide y = true → R [y] (tupD y)) : BodyOk 2 (t_p_tuple_of K w R) [x] (tupD x) := by
  intro V0 A0 D hr
  have go : ∀ xs : List PyData, (∀ y ∈ xs, dep y < dep x) → xs.length ≤ 50000 → (∀ y ∈ xs, wide y = true) → ItD (iSeqA K (tVar 0)) (args 2 [x]) (xs.map fun y => y) → EvD (tCB (rTupOf K) (tCons (tLc (iSeqA K (tVar 0)) (gName 1) tYes (tCall (spD R) [] E0 (tCons (tVar 1) tNil)) [1]) tNil)) (args 2 [x]) (.tuple (xs.map tupD)) := fun xs h1 h2 h3 h4 =>
    ed_cb (ea_cons (ed_lc1 (f := tupD) h4 (fun y hy => tg_name) (fun y hy => ed_call (ea_cons (ed_var rfl) ea_nil) (h y (h1 y hy) (h3 y hy))) (by omega)) ea_nil) cad_tupL
  refine run_if (b := isListD x || isTupD x) (eb_B (ed_isLT (ed_var rfl))) (fun hb => ?_) (fun hb => ?_)
  · cases x with
    | list xs =>
      obtain ⟨h1, h2⟩ := wide_split (by simpa [wide] using hw)
      refine run_retS (go xs (fun y hy => ?_) h1 h2 (by rw [List.map_id']; exact it_seqL (ed_var rfl))) ?_
      · have := depAll_le (Nat.le_refl (depAll xs)) y hy
        simp only [dep]; omega
      · rw [show tupD (.list xs) = .tuple (xs.map tupD) by simp only [tupD, tupAll_map]] at hr
        exact hr
    | tuple xs =>
      obtain ⟨h1, h2⟩ := wide_split (by simpa [wide] using hw)
      refine run_retS (go xs (fun y hy => ?_) h1 h2 (by rw [List.map_id']; exact it_seqT (ed_var rfl))) ?_
      · have := depAll_le (Nat.le_refl (depAll xs)) y hy
        simp only [dep]; omega
      · rw [show tupD (.tuple xs) = .tuple (xs.map tupD) by simp only [tupD, tupAll_map]] at hr
        exact hr
    | none => cases hb
    | bool => cases hb
    | int => cases hb
    | str => cases hb
    | dict => cases hb
  · refine run_next (run_retS (ed_var rfl) ?_)
    cases x with
    | list xs => cases hb
    | tuple xs => cases hb
    | none => simpa only [tupD] using hr
    | bool => simpa only [tupD] using hr
    | int => simpa only [tupD] using hr
    | str => simpa only [tupD] using hr
    | dict => simpa only [tupD] using hr
theorem body_l_lists {R : List PyData → PyData → Prop} {x : PyData} (hw : wide x = true) (h : ∀ y, dep y < dep x → wide y = true → R [y] (lstD y)) : BodyOk 2 (t_l_lists K w R) [x] (lstD x) := by
  intro V0 A0 D hr
  have go : ∀ xs : List PyData, (∀ y ∈ xs, dep y < dep x) → xs.length ≤ 50000 → (∀ y ∈ xs, wide y = true) → ItD (iSeqA K (tVar 0)) (args 2 [x]) (xs.map fun y => y) → EvD (tLc (iSeqA K (tVar 0)) (gName 1) tYes (tCall (spD R) [] E0 (tCons (tVar 1) tNil)) [1]) (args 2 [x]) (.list (xs.map lstD)) := fun xs h1 h2 h3 h4 =>
    ed_lc1 (f := lstD) h4 (fun y hy => tg_name) (fun y hy => ed_call (ea_cons (ed_var rfl) ea_nil) (h y (h1 y hy) (h3 y hy))) (by omega)
  refine run_retS (ed_if (b := isListD x || isTupD x) (eb_B (ed_isLT (ed_var rfl))) (fun hb => ?_) (fun hb => ?_)) hr
  · cases x with
    | list xs =>
      obtain ⟨h1, h2⟩ := wide_split (by simpa [wide] using hw)
      refine ed_is (go xs (fun y hy => ?_) h1 h2 (by rw [List.map_id']; exact it_seqL (ed_var rfl))) (by simp only [lstD, lstAll_map])
      have := depAll_le (Nat.le_refl (depAll xs)) y hy
      simp only [dep]; omega
    | tuple xs =>
      obtain ⟨h1, h2⟩ := wide_split (by simpa [wide] using hw)
      refine ed_is (go xs (fun y hy => ?_) h1 h2 (by rw [List.map_id']; exact it_seqT (ed_var rfl))) (by simp only [lstD, lstAll_map])
      have := depAll_le (Nat.le_refl (depAll xs)) y hy
      simp only [dep]; omega
    | none => cases hb
    | bool => cases hb
    | int => cases hb
    | str => cases hb
    | dict => cases hb
  · refine ed_is (ed_var rfl) ?_
    cases x with
    | list xs => cases hb
    | tuple xs => cases hb
    | none => simp only [lstD]
    | bool => simp only [lstD]
    | int => simp only [lstD]
    | str => simp only [lstD]
    | dict => simp only [lstD]
theorem eqv_bb (a : Bool) : PyData.eqv (.bool a) (.bool a) = true := by cases a <;> decide
theorem opd_eqBB {a : Bool} : OpD (rEqD K) (.bool a) (.bool a) (.bool true) := by
  have h := opd_eq (K := K) (shaped_of (shp_bool 0 a)) (shaped_of (shp_bool 0 a))
  rwa [eqv_bb] at h
theorem opd_neBB {a : Bool} : OpD (rNeD K) (.bool a) (.bool a) (.bool false) := by
  have h := opd_ne (K := K) (shaped_of (shp_bool 0 a)) (shaped_of (shp_bool 0 a))
  rwa [eqv_bb] at h
theorem opd_eqSelf {x : PyData} (hx : SeqAt.shaped x = true) (hc : x.canLay0 = true) : OpD (rEqD K) x x (.bool true) := by
  have h := opd_eq (K := K) hx hx
  rwa [SeqAt.eqv_refl x hc] at h
theorem zipD_self : ∀ xs : List PyData, zipD xs xs = xs.map fun x => .tuple [x, x]
  | [] => rfl
  | x :: xs => by simp only [zipD, List.map_cons, zipD_self xs]
theorem body_l_same {R : List PyData → PyData → Prop} {x : PyData} (hw : wide x = true) (h : ∀ y, dep y < dep x → wide y = true → R [y, y] (.bool true)) : BodyOk 4 (t_l_same K w R) [x, x] (.bool true) := by
  intro V0 A0 D hr
  have go : ∀ xs : List PyData, (∀ y ∈ xs, dep y < dep x) → xs.length ≤ 50000 → (∀ y ∈ xs, wide y = true) → ItD (RZ.iZipA K (tCons (tVar 0) (tCons (tVar 1) tNil))) (args 4 [x, x]) (zipD xs xs) →
      EvD (tCB (rAll K) (tCons (tLc (RZ.iZipA K (tCons (tVar 0) (tCons (tVar 1) tNil))) (gTup K 2 (gCons (gName 2) (gCons (gName 3) gNil))) tYes (tCall (spD R) [] E0 (tCons (tVar 2) (tCons (tVar 3) tNil))) [2, 3]) tNil)) (args 4 [x, x]) (.bool true) := fun xs h1 h2 h3 h4 => by
    refine ed_is (ed_cb (ea_cons (ed_lcB (f := fun _ : PyData => true) (it_is h4 (zipD_self xs)) (fun y hy => tg_tup (tgl_cons tg_name (tgl_cons tg_name tgl_nil))) (fun y hy => ed_call (ea_cons (ed_var rfl) (ea_cons (ed_var rfl) ea_nil)) (h y (h1 y hy) (h3 y hy))) (by omega)) ea_nil) cad_all) ?_
    congr 1
    simp
  refine run_if (b := isListD x || isTupD x) (eb_B (ed_isLT (ed_var rfl))) (fun hb => ?_) (fun hb => ?_)
  · refine run_if (b := false) (eb_is (b := false || false) (eb_or (eb_test (ed_op (ed_isList (ed_var rfl)) (ed_isList (ed_var rfl)) opd_neBB)) fun _ => eb_test (ed_op (ed_isTup (ed_var rfl)) (ed_isTup (ed_var rfl)) opd_neBB)) rfl) (fun hb => by cases hb) (fun _ => ?_)
    refine run_next ?_
    have e1 : (true : Bool) = (true && true) := rfl
    cases x with
    | list xs =>
      obtain ⟨h1, h2⟩ := wide_split (by simpa [wide] using hw)
      refine run_retS (ed_is (ed_andV (a := true) (b := true) (ed_is (ed_op (ed_cb (ea_cons (ed_var rfl) ea_nil) cad_len) (ed_cb (ea_cons (ed_var rfl) ea_nil) cad_len) opd_eqI) (by simp)) fun _ => go xs (fun y hy => ?_) h1 h2 (it_zipL (ea_cons (ed_var rfl) (ea_cons (ed_var rfl) ea_nil)))) rfl) hr
      have := depAll_le (Nat.le_refl (depAll xs)) y hy
      simp only [dep]; omega
    | tuple xs =>
      obtain ⟨h1, h2⟩ := wide_split (by simpa [wide] using hw)
      refine run_retS (ed_is (ed_andV (a := true) (b := true) (ed_is (ed_op (ed_cb (ea_cons (ed_var rfl) ea_nil) cad_lenT) (ed_cb (ea_cons (ed_var rfl) ea_nil) cad_lenT) opd_eqI) (by simp)) fun _ => go xs (fun y hy => ?_) h1 h2 (it_zipT (ea_cons (ed_var rfl) (ea_cons (ed_var rfl) ea_nil)))) rfl) hr
      have := depAll_le (Nat.le_refl (depAll xs)) y hy
      simp only [dep]; omega
    | none => cases hb
    | bool => cases hb
    | int => cases hb
    | str => cases hb
    | dict => cases hb
  · refine run_next ?_
    have hlay : x.canLay0 = true ∧ SeqAt.shaped x = true := by
      cases x with
      | list xs => cases hb
      | tuple xs => cases hb
      | dict k => simp [wide] at hw
      | none => exact ⟨rfl, shaped_of (shp_none 0)⟩
      | bool b => exact ⟨by simp [PyData.canLay0], shaped_of (shp_bool 0 b)⟩
      | int b => exact ⟨by simp [PyData.canLay0], shaped_of (shp_int 0 b)⟩
      | str b => exact ⟨by simpa [PyData.canLay0, wide] using hw, shaped_of (n := 0) ⟨by simpa [PyData.canLay0, wide] using hw, by simp [PyData.depth]⟩⟩
    refine run_if (b := isNone x || (isBoolD x || isStrD x)) (eb_or (eb_test (ed_op (ed_var rfl) ed_non opd_isN)) fun _ => eb_B (ed_isBS (ed_var rfl))) (fun hb2 => ?_) (fun hb2 => ?_)
    · refine run_retS (ed_is (ed_andV (a := true) (b := true) (ed_op (ed_var rfl) (ed_var rfl) (opd_eqSelf hlay.2 hlay.1)) fun _ => ed_is (ed_andV (a := true) (b := true) (ed_op (ed_isBool (ed_var rfl)) (ed_isBool (ed_var rfl)) opd_eqBB) fun _ => ed_op (ed_op (ed_var rfl) ed_non opd_isN) (ed_op (ed_var rfl) ed_non opd_isN) opd_eqBB) rfl) rfl) hr
    · refine run_next (run_retS (ed_is (ed_andV (a := isIntD x) (b := true) (ed_isInt (ed_var rfl)) fun _ => ed_is (d := .bool (!isBoolD x && true)) (ed_andV (a := !isBoolD x) (b := true) (ed_notV (ed_isBool (ed_var rfl))) fun _ => ed_op (ed_var rfl) (ed_var rfl) (opd_eqSelf hlay.2 hlay.1)) ?_) ?_) hr)
      · cases x <;> first | rfl | exact Bool.noConfusion (show true = false from hb) | exact Bool.noConfusion (show true = false from hb2) | (simp [wide] at hw)
      · cases x <;> first | rfl | exact Bool.noConfusion (show true = false from hb) | exact Bool.noConfusion (show true = false from hb2) | (simp [wide] at hw)
end
end K4

/-! ## Runs7 -/
/-! rules or not: both tests -/
namespace K4
open PySem PySem.Spec PyProof.Rows L2
local macro_rules | `(tactic| walk_at "sl") => `(tactic| repeat' (first | exact sl_nil | refine sl_same ?_ | refine sl_no ?_))
local macro_rules | `(tactic| walk_at "ed1") => `(tactic| first
  | ((with_reducible apply ed_var); (exact rfl))
  | with_reducible exact ed_int | with_reducible exact ed_non | with_reducible exact ed_bl | with_reducible exact ed_str | with_reducible exact ea_nil | with_reducible exact eo_none | with_reducible exact eb_yes
  | with_reducible apply ed_isInt | with_reducible apply ed_isBool | with_reducible apply ed_isList | with_reducible apply ed_isTup
  | with_reducible apply ed_op | with_reducible apply ed_un | with_reducible apply ed_cb | with_reducible apply ea_cons | with_reducible apply eo_some | with_reducible apply ed_tup | with_reducible apply ed_lst | with_reducible apply ed_sl
  | with_reducible apply eb_test | with_reducible apply eb_B | with_reducible apply eb_not | with_reducible apply ed_notV
  | with_reducible exact opd_add | with_reducible exact opd_sub | with_reducible exact opd_lt | with_reducible exact opd_le | with_reducible exact opd_gt | with_reducible exact opd_ge | with_reducible exact und_neg
  | with_reducible exact opd_isNO | with_reducible exact opd_notNO | with_reducible exact opd_isN | with_reducible exact opd_notN | with_reducible exact opd_eqI | with_reducible exact opd_neI | with_reducible exact opd_eqO | with_reducible exact opd_eqO' | with_reducible exact opd_neO | with_reducible exact opd_neO'
  | with_reducible apply opd_mul | with_reducible apply opd_div | with_reducible apply opd_mod
  | exact opd_ix0T | exact opd_ix1T | exact opd_ix2T
  | with_reducible exact cad_max | with_reducible exact cad_min | with_reducible exact cad_abs | with_reducible exact cad_intI | with_reducible exact cad_intB | with_reducible exact cad_gcd | with_reducible apply cad_lcm
  | exact cad_sumI | exact cad_sum | exact cad_all | exact cad_any | exact cad_len | exact cad_lenT | exact cad_tupL | exact cad_lstL | exact cad_lstT
  | exact sld_L | exact sld_T
  | (show List.length _ ≤ 100000; simp only [List.length_cons, List.length_nil]; omega)
  | exact cmul_l (by omega) (by omega) | exact cmul_r (by omega) (by omega)
  | exact opd_notN | exact opd_isN)
local macro_rules | `(tactic| walk_at "ed") => `(tactic| repeat' (walk_at "ed1"))
section
variable {K : PySem.W.Frag} {w : World} {ds : List PyData} {d : PyData}
theorem num_int {x : PyData} (h : isNumD x = true) : ∃ i, x = .int i := by
  cases x <;> first | exact ⟨_, rfl⟩ | exact Bool.noConfusion (show false = true from h)
theorem three_of {x : PyData} (h : isTupOf x 3 = true) : ∃ a b c, x = .tuple [a, b, c] := by
  unfold isTupOf at h
  rw [Bool.and_eq_true, decide_eq_true_eq] at h
  obtain ⟨h1, h2⟩ := h
  cases x <;> first | exact Bool.noConfusion (show false = true from h1) | skip
  rename_i xs
  have : xs.length = 3 := by simp only [itemsOf] at h2; omega
  match xs, this with
  | [a, b, c], _ => exact ⟨a, b, c, rfl⟩
theorem not_three {x : PyData} (h : isTupOf x 3 = false) : isRuleD x = false := by
  unfold isRuleD
  split
  · simp [isTupOf, isTupD, itemsOf] at h
  · rfl
theorem rule_eq (a b c : PyData) : isRuleD (.tuple [a, b, c]) = (isNumD a && isNumD b && (decide (1 ≤ intOf a) && decide (0 ≤ intOf b)) && (isNone c || (isNumD c && decide (intOf b ≤ intOf c)))) := rfl
theorem rule_ints (i j : Int) (c : PyData) : isRuleD (.tuple [.int i, .int j, c]) = ((decide (1 ≤ i) && decide (0 ≤ j)) && (isNone c || (isNumD c && decide (j ≤ intOf c)))) := rfl
theorem b_four {a b c d e : Bool} (h : (false || (false || (!(a && c) || !(b && d)))) = true) : (a && b && (c && d) && e) = false := by
  revert h; cases a <;> cases b <;> cases c <;> cases d <;> cases e <;> decide
theorem b_four' {a b c d : Bool} (h : (false || (false || (!(a && c) || !(b && d)))) = false) : a = true ∧ b = true ∧ c = true ∧ d = true := by
  revert h; cases a <;> cases b <;> cases c <;> cases d <;> decide
theorem b_two {a b : Bool} (h : (!a && !b) = true) : (a || b) = false := by
  revert h; cases a <;> cases b <;> decide
theorem b_two' {a b : Bool} (h : (!a && !b) = false) : (a || b) = true := by
  revert h; cases a <;> cases b <;> decide
theorem ed_num {ρ : List Sl} {te : TE} {x : PyData} (h : EvD te ρ x) : EvD (tCall (spD R_p_is_number) [] E0 (tCons te tNil)) ρ (.bool (isNumD x)) := ed_call (ea_cons h ea_nil) ⟨x, rfl, rfl⟩
theorem body_is_rule (h : R_p_is_rule ds d) : BodyOk 1 (t_p_is_rule K w) ds d := by
  obtain ⟨x, rfl, rfl⟩ := h
  intro V0 A0 D hr
  have ht : EvB (tB (tCall (spD R_p_is_tuple_of) [] E0 (tCons (tVar 0) (tCons (tC (.int 3)) tNil)))) (args 1 [x]) (isTupOf x 3) := eb_B (ed_call (ea_cons (ed_var rfl) (ea_cons ed_int ea_nil)) ⟨_, _, rfl, rfl⟩)
  cases h3 : isTupOf x 3 with
  | false =>
    rw [h3] at ht
    refine run_if (b := true || true) (eb_or (eb_not ht) fun z => by cases z) (fun _ => ?_) (fun z => by cases z)
    rw [not_three h3] at hr
    exact run_retS ed_bl hr
  | true =>
    rw [h3] at ht
    obtain ⟨a, b, c, rfl⟩ := three_of h3
    refine run_if (b := (!true) || ((!isNumD a) || (!isNumD b))) (eb_or (eb_not ht) fun _ => eb_or (eb_not (eb_B (ed_num (ed_op (ed_var rfl) ed_int opd_ix0T)))) fun _ => eb_not (eb_B (ed_num (ed_op (ed_var rfl) ed_int opd_ix1T)))) (fun hb => ?_) (fun hb => ?_)
    · have e : isRuleD (.tuple [a, b, c]) = false := by
        unfold isRuleD
        cases ha : isNumD a <;> cases hb' : isNumD b <;> simp_all
      rw [e] at hr
      exact run_retS ed_bl hr
    · obtain ⟨ha, hb'⟩ : isNumD a = true ∧ isNumD b = true := by
        cases ha : isNumD a <;> cases hb' : isNumD b <;> simp_all
      obtain ⟨i, rfl⟩ := num_int ha
      obtain ⟨j, rfl⟩ := num_int hb'
      refine run_next ?_
      refine run_if (b := decide (i < 1) || decide (j < 0)) (eb_or (by walk_at "ed") fun _ => by walk_at "ed") (fun hb => ?_) (fun hb => ?_)
      · have e : isRuleD (.tuple [.int i, .int j, c]) = false := by
          simp only [Bool.or_eq_true, decide_eq_true_eq] at hb
          rw [rule_ints]
          rcases hb with q | q
          · rw [decide_eq_false (show ¬ 1 ≤ i by omega)]; simp
          · rw [decide_eq_false (show ¬ 0 ≤ j by omega)]; simp
        rw [e] at hr
        exact run_retS ed_bl hr
      · simp only [Bool.or_eq_false_iff, decide_eq_false_iff_not] at hb
        have e : isRuleD (.tuple [.int i, .int j, c]) = (isNone c || (isNumD c && decide (j ≤ intOf c))) := by
          rw [rule_ints, decide_eq_true (show 1 ≤ i by omega), decide_eq_true (show 0 ≤ j by omega)]
          rfl
        rw [e] at hr
        refine run_next (run_retS (ed_orV (ed_op (ed_op (ed_var rfl) ed_int opd_ix2T) ed_non opd_isN) fun _ => ed_andV (ed_num (ed_op (ed_var rfl) ed_int opd_ix2T)) fun hc => ?_) hr)
        obtain ⟨k, rfl⟩ := num_int hc
        exact ed_op (ed_op (ed_var rfl) ed_int opd_ix2T) (ed_op (ed_var rfl) ed_int opd_ix1T) opd_ge
theorem rule_three {x : PyData} (h : isRuleD x = true) : ∃ i j c, x = .tuple [.int i, .int j, c] ∧ 1 ≤ i ∧ 0 ≤ j ∧ (isNone c || (isNumD c && decide (j ≤ intOf c))) = true := by
  cases h3 : isTupOf x 3 with
  | false => rw [not_three h3] at h; cases h
  | true =>
    obtain ⟨a, b, c, rfl⟩ := three_of h3
    unfold isRuleD at h
    simp only [Bool.and_eq_true, decide_eq_true_eq] at h
    obtain ⟨⟨⟨ha, hb⟩, h1, h2⟩, h4⟩ := h
    obtain ⟨i, rfl⟩ := num_int ha
    obtain ⟨j, rfl⟩ := num_int hb
    exact ⟨i, j, c, rfl, h1, h2, h4⟩
theorem all_map_id {α : Type} (f : α → Bool) (xs : List α) : (xs.map f).all id = xs.all f := by rw [List.all_map]; rfl
theorem any_map_id {α : Type} (f : α → Bool) (xs : List α) : (xs.map f).any id = xs.any f := by rw [List.any_map]; rfl
theorem body_is_rules (h : R_p_is_rules ds d) : BodyOk 2 (t_p_is_rules K w) ds d := by
  obtain ⟨x, rfl, hz, rfl⟩ := h
  intro V0 A0 D hr
  cases ht : isTupD x with
  | false =>
    refine run_if (b := true || true) (eb_or (eb_is (eb_not (eb_B (ed_isTup (ed_var rfl)))) (by rw [ht]; rfl)) fun z => by cases z) (fun _ => ?_) (fun z => by cases z)
    rw [show isRulesD x = false by cases x <;> first | rfl | exact Bool.noConfusion (show true = false from ht)] at hr
    exact run_retS ed_bl hr
  | true =>
    obtain ⟨xs, rfl⟩ : ∃ xs, x = .tuple xs := by cases x <;> first | exact ⟨_, rfl⟩ | exact Bool.noConfusion (show false = true from ht)
    have hz' : xs.length ≤ 100 := hz
    have hit : ItD (iSeqA K (tVar 0)) (args 2 [.tuple xs]) (xs.map fun y => y) := by rw [List.map_id']; exact it_seqT (ed_var rfl)
    refine run_if (b := false || !(xs.all isRuleD)) (eb_or (eb_is (eb_not (eb_B (ed_isTup (ed_var rfl)))) rfl) fun _ => eb_not (eb_B (ed_is (ed_cb (ea_cons (ed_lcB (f := isRuleD) hit (fun y hy => tg_name) (fun y hy => ed_call (ea_cons (ed_var rfl) ea_nil) ⟨_, rfl, rfl⟩) (by omega)) ea_nil) cad_all) (by rw [all_map_id])))) (fun hb => ?_) (fun hb => ?_)
    · rw [show isRulesD (.tuple xs) = false by
        simp only [Bool.false_or, Bool.not_eq_true'] at hb
        simp only [isRulesD, hb, Bool.false_and]] at hr
      exact run_retS ed_bl hr
    · have ha : xs.all isRuleD = true := by simpa using hb
      have e : isRulesD (.tuple xs) = xs.any noneThird := by simp only [isRulesD, ha, Bool.true_and]
      rw [e, ← any_map_id] at hr
      refine run_next (run_retS (ed_cb (ea_cons (ed_lcB (f := noneThird) hit (fun y hy => tg_name) (fun y hy => ?_) (by omega)) ea_nil) cad_any) hr)
      obtain ⟨i, j, c, rfl, -⟩ := rule_three (List.all_eq_true.mp ha y hy)
      exact ed_op (ed_op (ed_var rfl) ed_int opd_ix2T) ed_non opd_isN
theorem body_l_is_count (h : R_l_is_count ds d) : BodyOk 2 (t_l_is_count K w) ds d := by
  obtain ⟨x, n, rfl, rfl⟩ := h
  intro V0 A0 D hr
  refine run_retS (ed_is (d := .bool (isIntD x && (!isBoolD x && decide (n ≤ intOf x)))) (ed_andV (ed_isInt (ed_var rfl)) fun h1 => ed_andV (ed_notV (ed_isBool (ed_var rfl))) fun h2 => ?_) ?_) hr
  · obtain ⟨i, rfl⟩ := num_int (x := x) (by unfold isNumD; rw [h1, h2]; rfl)
    exact ed_op (ed_var rfl) (ed_var rfl) opd_ge
  · unfold isNumD; rw [Bool.and_assoc]
theorem ed_cnt {ρ : List Sl} {te tn : TE} {x : PyData} {n : Int} (h : EvD te ρ x) (h2 : EvD tn ρ (.int n)) : EvD (tCall (spD R_l_is_count) [] E0 (tCons te (tCons tn tNil))) ρ (.bool (isNumD x && decide (n ≤ intOf x))) := ed_call (ea_cons h (ea_cons h2 ea_nil)) ⟨x, n, rfl, rfl⟩
/-- no urn, no such state -/
theorem run_no {V0 A0 P : Hp} {D : Ends} {t : TS} {n : Nat} {ρ : List Sl} {own : Option (Nat × List PyData)} (h : ρ[0]? = some .ur) : Run ⟨none, V0, A0⟩ P D t n ρ own := fun σ A ⟨V, h1, h2, h3, h4, h5⟩ => by
  obtain ⟨a, e, -⟩ := h3.urn 0 h
  cases e
theorem eqv_ones (n : Nat) : PyData.eqv (.list (intD (List.replicate n 1))) (.list []) = decide (n = 0) := by
  cases n with
  | zero => rfl
  | succ n => simp [intD, List.replicate_succ, PyData.eqv, PyData.eqvAll]
theorem body_l_are_rules (h : R_l_are_rules ds d) : BodyOk 2 (t_l_are_rules K w) ds d := by
  obtain ⟨x, rfl, hz, hs, rfl⟩ := h
  intro V0 A0 D hr
  cases ht : isTupD x with
  | false =>
    refine run_if (b := true || true) (eb_or (eb_is (eb_not (eb_B (ed_isTup (ed_var rfl)))) (by rw [ht]; rfl)) fun z => by cases z) (fun _ => ?_) (fun z => by cases z)
    rw [show isRulesD x = false by cases x <;> first | rfl | exact Bool.noConfusion (show true = false from ht)] at hr
    exact run_retS ed_bl hr
  | true =>
    obtain ⟨xs, rfl⟩ : ∃ xs, x = .tuple xs := by cases x <;> first | exact ⟨_, rfl⟩ | exact Bool.noConfusion (show false = true from ht)
    have hz' : xs.length ≤ 100 := hz
    have hit : ∀ ρ : List Sl, ρ[0]? = some (.d (.tuple xs)) → ItD (iSeqA K (tVar 0)) ρ (xs.map fun y => y) := fun ρ h => by rw [List.map_id']; exact it_seqT (ed_var h)
    refine run_if (b := false || PyData.eqv (.tuple xs) (.tuple [])) (eb_or (eb_is (eb_not (eb_B (ed_isTup (ed_var rfl)))) rfl) fun _ => eb_test (ed_op (ed_var rfl) (ed_tup ea_nil) (opd_eq hs rfl))) (fun hb => ?_) (fun hb => ?_)
    · have e : isRulesD (.tuple xs) = false := by
        cases xs with
        | nil => rfl
        | cons y ys => simp [PyData.eqv, PyData.eqvAll] at hb
      rw [e] at hr
      exact run_retS ed_bl hr
    · refine run_next ?_
      refine run_for (enc := fun y => y) (xs := xs) (fun pre => if pre.all isRuleD = true then [.d (.tuple xs), .no] else [.ur, .ur]) (fun _ => none) (hit _ rfl) (by walk_at "sl") rfl ?_ ?_
      · intro pre y post P' e
        cases hp : pre.all isRuleD with
        | false => exact ⟨_, _, tg_name, offNone, run_no rfl⟩
        | true =>
          refine ⟨_, _, tg_name, offNone, ?_⟩
          rw [if_pos rfl]
          have bad : isRuleD y = false → isRulesD (.tuple xs) = false := fun q => by
            have : xs.all isRuleD = false := by rw [e, List.all_append, List.all_cons, q]; simp
            simp only [isRulesD, this, Bool.false_and]
          have i3 : EvB (tTest (tOp (rNeD K) (tCB (rLen K) (tCons (tVar 1) tNil)) (tC (.int 3)))) [.d (.tuple xs), .d y] (!decide (((itemsOf y).length : Int) = 3)) ∨ isTupD y = false := by
            cases hy : isTupD y with
            | false => exact .inr rfl
            | true =>
              obtain ⟨ys, rfl⟩ : ∃ ys, y = .tuple ys := by cases y <;> first | exact ⟨_, rfl⟩ | exact Bool.noConfusion (show false = true from hy)
              exact .inl (eb_test (ed_op (ed_cb (ea_cons (ed_var rfl) ea_nil) cad_lenT) ed_int opd_neI))
          cases h3 : isTupOf y 3 with
          | false =>
            rw [bad (not_three h3)] at hr
            refine run_if (b := true) ?_ (fun _ => run_retS ed_bl hr) (fun z => by cases z)
            cases hy : isTupD y with
            | false => exact eb_or (a := true) (b := true) (eb_is (eb_not (eb_B (ed_isTup (ed_var rfl)))) (by rw [hy]; rfl)) (fun z => by cases z)
            | true =>
              refine eb_or (a := false) (b := true) (eb_is (eb_not (eb_B (ed_isTup (ed_var rfl)))) (by rw [hy]; rfl)) (fun _ => eb_or (a := true) (b := true) ?_ fun z => by cases z)
              rcases i3 with q | q
              · refine eb_is q ?_
                unfold isTupOf at h3
                rw [hy, Bool.true_and] at h3
                rw [h3]; rfl
              · rw [hy] at q; cases q
          | true =>
            obtain ⟨a, b, c, rfl⟩ := three_of h3
            have i4 := i3.resolve_right (by simp [isTupD])
            refine run_if (b := false || (false || (!(isNumD a && decide (1 ≤ intOf a)) || !(isNumD b && decide (0 ≤ intOf b))))) (eb_or (eb_is (eb_not (eb_B (ed_isTup (ed_var rfl)))) rfl) fun _ => eb_or (eb_is i4 rfl) fun _ => eb_or (eb_not (eb_B (ed_cnt (ed_op (ed_var rfl) ed_int opd_ix0T) ed_int))) fun _ => eb_not (eb_B (ed_cnt (ed_op (ed_var rfl) ed_int opd_ix1T) ed_int))) (fun hb => ?_) (fun hb => ?_)
            · rw [bad (by rw [rule_eq]; exact b_four hb)] at hr
              exact run_retS ed_bl hr
            · obtain ⟨h1, h2, h5, h6⟩ : isNumD a = true ∧ isNumD b = true ∧ decide (1 ≤ intOf a) = true ∧ decide (0 ≤ intOf b) = true := b_four' hb
              obtain ⟨i, rfl⟩ := num_int h1
              obtain ⟨j, rfl⟩ := num_int h2
              have er : isRuleD (.tuple [.int i, .int j, c]) = (isNone c || (isNumD c && decide (j ≤ intOf c))) := by
                rw [rule_eq, h1, h2, h5, h6]
                rfl
              refine run_next (run_if (b := !isNone c && !(isNumD c && decide (j ≤ intOf c))) (eb_and (eb_test (ed_op (ed_op (ed_var rfl) ed_int opd_ix2T) ed_non opd_notN)) fun _ => eb_not (eb_B (ed_cnt (ed_op (ed_var rfl) ed_int opd_ix2T) (ed_op (ed_var rfl) ed_int opd_ix1T)))) (fun hb => ?_) (fun hb => ?_))
              · rw [bad (by rw [er]; exact b_two hb)] at hr
                exact run_retS ed_bl hr
              · refine run_next (run_turn rfl ?_ rfl)
                have ey : isRuleD (.tuple [.int i, .int j, c]) = true := by rw [er]; exact b_two' hb
                rw [if_pos (by rw [List.all_append, hp, List.all_cons, ey]; rfl)]
                walk_at "sl"
      · cases ha : xs.all isRuleD with
        | false => exact run_no rfl
        | true =>
          rw [if_pos rfl]
          have e : isRulesD (.tuple xs) = xs.any noneThird := by simp only [isRulesD, ha, Bool.true_and]
          rw [e] at hr
          refine run_retS (ed_is (ed_op (x := .list (intD (List.replicate (xs.filter noneThird).length 1))) (y := .list []) (ed_is (ed_lcFI (p := noneThird) (f := fun _ => 1) (hit _ rfl) (fun y hy => tg_name) (fun y hy => eb_test ?_) (fun y hy _ => ed_int) (by omega)) ?_) (ed_lst ea_nil) (opd_ne (shaped_of (n := 1) (shp_lst fun z hz => ?_)) rfl)) ?_) hr
          · obtain ⟨i, j, c, rfl, -⟩ := rule_three (List.all_eq_true.mp ha y hy)
            exact ed_op (ed_op (ed_var rfl) ed_int opd_ix2T) ed_non opd_isN
          · rw [List.map_const']
          · obtain ⟨i, -, rfl⟩ := List.mem_map.mp hz
            exact shp_int 0 i
          · rw [eqv_ones]
            congr 1
            rw [Bool.eq_iff_iff]
            simp
end
end K4

/-! ## Runs8 -/
/-! layouts -/
namespace K4
open PySem PySem.Spec PyProof.Rows L2
local macro_rules | `(tactic| walk_at "sl") => `(tactic| repeat' (first | exact sl_nil | refine sl_same ?_ | refine sl_no ?_))
local macro_rules | `(tactic| walk_at "ed1") => `(tactic| first
  | ((with_reducible apply ed_var); (exact rfl))
  | with_reducible exact ed_int | with_reducible exact ed_non | with_reducible exact ed_bl | with_reducible exact ed_str | with_reducible exact ea_nil | with_reducible exact eo_none | with_reducible exact eb_yes
  | with_reducible apply ed_isInt | with_reducible apply ed_isBool | with_reducible apply ed_isList | with_reducible apply ed_isTup
  | with_reducible apply ed_op | with_reducible apply ed_un | with_reducible apply ed_cb | with_reducible apply ea_cons | with_reducible apply eo_some | with_reducible apply ed_tup | with_reducible apply ed_lst | with_reducible apply ed_sl
  | with_reducible apply eb_test | with_reducible apply eb_B | with_reducible apply eb_not | with_reducible apply ed_notV
  | with_reducible exact opd_add | with_reducible exact opd_sub | with_reducible exact opd_lt | with_reducible exact opd_le | with_reducible exact opd_gt | with_reducible exact opd_ge | with_reducible exact und_neg
  | with_reducible exact opd_isNO | with_reducible exact opd_notNO | with_reducible exact opd_isN | with_reducible exact opd_notN | with_reducible exact opd_eqI | with_reducible exact opd_neI | with_reducible exact opd_eqO | with_reducible exact opd_eqO' | with_reducible exact opd_neO | with_reducible exact opd_neO'
  | with_reducible apply opd_mul | with_reducible apply opd_div | with_reducible apply opd_mod
  | exact opd_ix0T | exact opd_ix1T | exact opd_ix2T
  | with_reducible exact cad_max | with_reducible exact cad_min | with_reducible exact cad_abs | with_reducible exact cad_intI | with_reducible exact cad_intB | with_reducible exact cad_gcd | with_reducible apply cad_lcm
  | exact cad_sumI | exact cad_sum | exact cad_all | exact cad_any | exact cad_len | exact cad_lenT | exact cad_tupL | exact cad_lstL | exact cad_lstT
  | exact sld_L | exact sld_T
  | (show List.length _ ≤ 100000; simp only [List.length_cons, List.length_nil]; omega)
  | exact cmul_l (by omega) (by omega) | exact cmul_r (by omega) (by omega)
  | exact opd_notN | exact opd_isN)
local macro_rules | `(tactic| walk_at "ed") => `(tactic| repeat' (walk_at "ed1"))
section
variable {K : PySem.W.Frag} {w : World} {ds : List PyData} {d : PyData}
/-! rules in lists -/
theorem tup_O (o : Option Int) : tupD (encO o) = encO o ∧ dep (encO o) = 0 ∧ wide (encO o) = true := by cases o <;> simp [encO, tupD, dep, wide]
theorem tup_R (r : Rule) : tupD (encR r) = encR r ∧ dep (encR r) = 1 ∧ wide (encR r) = true := by
  obtain ⟨h1, h2, h3⟩ := tup_O r.m
  simp [encR, tupD, tupAll, h1, dep, depAll, h2, wide, wideAll, h3]
theorem tup_RL (r : Rule) : tupD (encRL r) = encR r ∧ dep (encRL r) = 1 ∧ wide (encRL r) = true := by
  obtain ⟨h1, h2, h3⟩ := tup_O r.m
  simp [encRL, encR, tupD, tupAll, h1, dep, depAll, h2, wide, wideAll, h3]
theorem tup_rs {x : PyData} {rs : List Rule} (h : IsRs x rs) (ok : RsOk rs) : dep x ≤ 12 ∧ wide x = true ∧ tupD x = encRs rs := by
  have hl := ok.len
  have a1 : depAll (rs.map encR) ≤ 11 := le_depAll fun y hy => by
    obtain ⟨r, -, rfl⟩ := List.mem_map.mp hy
    rw [(tup_R r).2.1]; omega
  have a2 : depAll (rs.map encRL) ≤ 11 := le_depAll fun y hy => by
    obtain ⟨r, -, rfl⟩ := List.mem_map.mp hy
    rw [(tup_RL r).2.1]; omega
  have b1 : wideAll (rs.map encR) = true := mem_wideAll fun y hy => by
    obtain ⟨r, -, rfl⟩ := List.mem_map.mp hy
    exact (tup_R r).2.2
  have b2 : wideAll (rs.map encRL) = true := mem_wideAll fun y hy => by
    obtain ⟨r, -, rfl⟩ := List.mem_map.mp hy
    exact (tup_RL r).2.2
  have c1 : tupAll (rs.map encR) = rs.map encR := by
    rw [tupAll_map, List.map_map]
    exact List.map_congr_left fun r _ => (tup_R r).1
  have c2 : tupAll (rs.map encRL) = rs.map encR := by
    rw [tupAll_map, List.map_map]
    exact List.map_congr_left fun r _ => (tup_RL r).1
  have l1 : decide ((rs.map encR).length ≤ 50000) = true := by rw [List.length_map]; exact decide_eq_true (by omega)
  have l2 : decide ((rs.map encRL).length ≤ 50000) = true := by rw [List.length_map]; exact decide_eq_true (by omega)
  rcases h with rfl | rfl | rfl
  · refine ⟨by simp only [encRs, dep]; omega, by simp only [encRs, wide, b1, l1]; rfl, by simp only [encRs, tupD, c1]⟩
  · refine ⟨by simp only [encRsL, dep]; omega, by simp only [encRsL, wide, b2, l2]; rfl, by simp only [encRsL, encRs, tupD, c2]⟩
  · refine ⟨by simp only [dep]; omega, by simp only [wide, b1, l1]; rfl, by simp only [encRs, tupD, c1]⟩
theorem ed_tupOf {x : PyData} {rs : List Rule} (h : IsRs x rs) (ok : RsOk rs) {ρ : List Sl} {te : TE} (he : EvD te ρ x) : EvD (tCall (spD (R_p_tuple_of 12)) [] E0 (tCons te tNil)) ρ (encRs rs) := by
  obtain ⟨h1, h2, h3⟩ := tup_rs h ok
  exact ed_call (ea_cons he ea_nil) ⟨x, rfl, h1, h2, h3.symm⟩
theorem exact_len (rs : List Rule) (wd : Int) : (exactQ rs wd).length = rs.length := by
  unfold exactQ wideQ
  split <;> rw [List.length_map]
theorem given_len {rs : List Rule} (ok : RsOk rs) {wd : Int} (hw : 0 ≤ wd) : (givenAll rs wd).length = rs.length := by rw [given_exact ok, exact_len]
theorem body_width_given (h : R_p_width_given ds d) : BodyOk 4 (t_p_width_given K w) ds d := by
  obtain ⟨x, rs, p, wd, rfl, hx, ok, hp, hw, rfl⟩ := h
  intro V0 A0 D hr
  have hl := ok.len
  have hg := given_len ok hw
  refine run_asg (ed_tupOf hx ok (ed_var rfl)) ?_
  refine run_if (b := false || false) (eb_or (eb_is (eb_not (eb_B (ed_num (ed_var rfl)))) rfl) fun _ => eb_is (eb_not (eb_test (ed_chain (b := true) (c := true) (y := .int (p : Int)) ed_int (ed_var rfl) ?_ (fun _ => ed_cb (ea_cons (ed_var rfl) ea_nil) cad_lenT) fun _ => ?_))) rfl) (fun hb => by cases hb) (fun _ => run_next ?_)
  · have := opd_le (i := 0) (j := (p : Int))
    rwa [decide_eq_true (by omega)] at this
  · have := opd_lt (i := (p : Int)) (j := ((rs.map encR).length : Int))
    rwa [decide_eq_true (by rw [List.length_map]; omega)] at this
  · have hpl : p < (givenAll rs wd).length := by omega
    refine run_retS (ed_op (ed_call (ea_cons (ed_var rfl) (ea_cons (ed_var rfl) ea_nil)) ⟨rs, wd, rfl, ok, hw, rfl⟩) (ed_var rfl) (opd_ixL (j := p) ?_ rfl)) hr
    unfold qs
    rw [List.getElem?_map, List.getElem?_eq_getElem hpl]
    rfl
theorem body_free_at (h : R_p_free_at ds d) : BodyOk 5 (t_p_free_at K w) ds d := by
  obtain ⟨x, rs, wd, rfl, hx, ok, hw, rfl⟩ := h
  intro V0 A0 D hr
  have hl := ok.len
  refine run_asg (ed_tupOf hx ok (ed_var rfl)) ?_
  refine run_if (b := decide (wd < leastsOf rs)) (eb_test (ed_op (ed_var rfl) (ed_call (ea_cons (ed_var rfl) ea_nil) ⟨rs, rfl, ok, rfl⟩) opd_lt)) (fun hb => ?_) (fun hb => ?_)
  · unfold freeAt at hr
    rw [if_pos (of_decide_eq_true hb)] at hr
    refine run_retS (ed_cb (ea_cons (ed_lcFI (enc := fun p : Rule × Nat => .tuple [.int (p.2 : Int), encR p.1]) (xs := rs.zipIdx) (p := fun p => decide (0 < p.1.l)) (f := fun p => (p.2 : Int)) (it_enumTm (ea_cons (ed_var rfl) ea_nil)) (fun y hy => tg_tup (tgl_cons tg_name (tgl_cons tg_name tgl_nil))) (fun y hy => eb_test (ed_op (ed_op (ed_var rfl) ed_int opd_ix1T) ed_int opd_gt)) (fun y hy _ => ed_var rfl) (by rw [List.length_zipIdx]; omega)) ea_nil) cad_tupL) hr
  · have hge := of_decide_eq_false hb
    have hle : leastsOf rs ≤ wd := by omega
    have hWp := (whole_pos ok).1
    have hWl := whole_le ok
    unfold freeAt at hr
    rw [if_neg hge] at hr
    exact run_next (run_retS (ed_call (ea_cons (ed_var rfl) (ea_cons (ed_call (ea_cons (ed_var rfl) (ea_cons (ed_op (ed_var rfl) (ed_call (ea_cons (ed_var rfl) ea_nil) ⟨rs, rfl, ok, rfl⟩) (opd_mul (cmul_r (by omega) (by omega)))) ea_nil)) ⟨rs, _, rfl, ok, stretch_ne ok hle, rfl⟩) ea_nil)) ⟨rs, _, rfl, ok, rfl⟩) hr)
/-! denominators -/
def bigM : Nat := 60 * 144403552893600
theorem dvd_L : ∀ n : Nat, 0 < n → n ≤ 36 → n ∣ 144403552893600 := by
  intro n h1 h2
  have : ∀ m : Fin 37, 0 < m.val → m.val ∣ 144403552893600 := by decide +kernel
  exact this ⟨n, by omega⟩ h1
theorem divInt_den {t b : Int} (hb : 0 < b) : (Rat.divInt t b).den ∣ b.natAbs := by
  have h := (rat_low (t := t) hb).2
  have hg : ((Nat.gcd t.natAbs b.natAbs : Nat) : Int) ∣ b := by
    have := Nat.gcd_dvd_right t.natAbs b.natAbs
    exact Int.ofNat_dvd_left.mpr this
  have h2 := Int.ediv_dvd_of_dvd hg
  rw [← h] at h2
  have := Int.natAbs_dvd_natAbs.mpr h2
  rwa [Int.natAbs_natCast] at this
theorem den_low {t b : Int} (hb : 0 < b) {N : Nat} (h : b.natAbs ∣ N) (hN : 0 < N) (hs : b < 1073741824) : (Rat.divInt t b).den ∣ N ∧ (Rat.divInt t b).den < 1073741824 := by
  have h1 := divInt_den (t := t) hb
  refine ⟨Nat.dvd_trans h1 h, ?_⟩
  have := Nat.le_of_dvd (by omega) h1
  omega
theorem given_den {rs : List Rule} (ok : RsOk rs) {wd : Int} (hw : 0 ≤ wd) : ∀ q ∈ givenAll rs wd, q.den ∣ bigM ∧ q.den < 1073741824 := by
  intro q hq
  have hWp := whole_pos ok
  have hWl := whole_le ok
  have hM : 0 < bigM := by decide
  unfold givenAll at hq
  split at hq
  · rename_i hlt
    obtain ⟨r, hr, rfl⟩ := List.mem_map.mp hq
    have hsum : leastsOf rs ≤ 36 := ok.sum
    refine den_low (by omega) ?_ hM (by omega)
    exact Nat.dvd_trans (dvd_L _ (by omega) (by omega)) (Nat.dvd_mul_left _ _)
  · rename_i hge
    have hle : leastsOf rs ≤ wd := by omega
    have ht : lastTurn rs wd * (whole rs : Rat) = ((stretchAt rs (wd * whole rs) : Int) : Rat) := by rw [last_map ok wd]; exact divW hWp.1 _
    have hmore := growing_map ok _ ht
    have hpp := pace_pos ok hle
    have hpl : paceQ rs (lastTurn rs wd) ≤ 25 := by
      rw [pace_eq]
      have := pace_le (rs := rs) (lastTurn rs wd) fun r hr => ⟨(ok.each r hr).1, (ok.each r hr).2.1⟩
      have := ok.len
      omega
    have hsh : ((growing rs (stretchAt rs (wd * whole rs))).map (shareAt rs)).sum = paceQ rs (lastTurn rs wd) := by rw [hmore]; rfl
    dsimp only at hq
    rw [hsh] at hq
    obtain ⟨p, -, rfl⟩ := List.mem_map.mp hq
    have d60 : (whole rs).natAbs ∣ bigM := Nat.dvd_trans hWp.2 (Nat.dvd_mul_right _ _)
    split
    · refine den_low (Int.mul_pos hpp hWp.1) ?_ hM ?_
      · rw [Int.natAbs_mul, Nat.mul_comm]
        exact Nat.mul_dvd_mul hWp.2 (dvd_L _ (by omega) (by omega))
      · have : paceQ rs (lastTurn rs wd) * whole rs ≤ 25 * 60 := Int.mul_le_mul hpl hWl (by omega) (by omega)
        omega
    · exact den_low hWp.1 d60 hM (by omega)
theorem cols_ok {rs : List Rule} (ok : RsOk rs) {n : Int} (h0 : 0 ≤ n) (h1 : n ≤ 100) : ColsOk ((widths n).map (givenAll rs)) rs.length where
  ne := by rw [List.length_map]; unfold widths; rw [List.length_map, List.length_range]; omega
  few := by rw [List.length_map]; unfold widths; rw [List.length_map, List.length_range]; omega
  len := fun c hc => by
    obtain ⟨x, hx, rfl⟩ := List.mem_map.mp hc
    exact given_len ok (mem_widths hx).1
  fewp := by have := ok.len; omega
  den := ⟨bigM, by decide, by decide, fun c hc q hq => by
    obtain ⟨x, hx, rfl⟩ := List.mem_map.mp hc
    exact given_den ok (mem_widths hx).1 q hq⟩
theorem parts_ok {cols : List (List Rat)} {n : Nat} (ok : ColsOk cols n) : ∃ M : Nat, 0 < M ∧ M < 2 ^ 64 ∧ (0 < partsOf cols ∧ (partsOf cols).natAbs ∣ M) ∧ (∀ m ∈ cols.map fun col => lcmL (col.map fun q => (q.den : Int)), 0 < m ∧ m.natAbs ∣ M) ∧ ∀ c ∈ cols, ∀ m ∈ c.map (fun q => (q.den : Int)), 0 < m ∧ m.natAbs ∣ M := by
  obtain ⟨M, h1, h2, h3⟩ := ok.den
  have a : ∀ c ∈ cols, ∀ m ∈ c.map (fun q => (q.den : Int)), 0 < m ∧ m.natAbs ∣ M := fun c hc m hm => by
    obtain ⟨q, hq, rfl⟩ := List.mem_map.mp hm
    exact ⟨by have := q.den_pos; omega, by rw [Int.natAbs_natCast]; exact (h3 c hc q hq).1⟩
  have b : ∀ m ∈ cols.map fun col => lcmL (col.map fun q => (q.den : Int)), 0 < m ∧ m.natAbs ∣ M := fun m hm => by
    obtain ⟨c, hc, rfl⟩ := List.mem_map.mp hm
    exact lcmL_ok (a c hc)
  exact ⟨M, h1, h2, lcmL_ok b, b, a⟩
def colD (c : List Rat) : PyData := .list (qs c)
theorem qs_get {c : List Rat} {p : Nat} (h : p < c.length) : (qs c)[p]? = some (encQ ((c[p]?).getD 0)) := by
  unfold qs
  rw [List.getElem?_map, List.getElem?_eq_getElem h]; rfl
/-- one row -/
theorem ed_row {cols : List (List Rat)} {n p : Nat} (ok : ColsOk cols n) (hp : p < n) {ρ : List Sl} {a b c e : Nat} (ha : ρ[a]? = some (.d (.list (cols.map colD)))) (hb : ∀ x : PyData, ((wipeS ρ [c]).set c (.d x))[b]? = some (.d (.int (p : Int)))) (he : ∀ x : PyData, ((wipeS ρ [c]).set c (.d x))[e]? = some (.d (.int (partsOf cols)))) (hc : ∀ x : PyData, ((wipeS ρ [c]).set c (.d x))[c]? = some (.d x)) :
    EvD (tCB (rTupOf K) (tCons (tLc (iSeqA K (tVar a)) (gName c) tYes (tOp (rMulA) (tOp (rIxA K) (tOp (rIxA K) (tVar c) (tVar b)) (tC (.int 0))) (tOp (rDivI) (tVar e) (tOp (rIxA K) (tOp (rIxA K) (tVar c) (tVar b)) (tC (.int 1))))) [c]) tNil)) ρ (.tuple (intD (rowOf (partsOf cols) cols p))) := by
  obtain ⟨M, h1, h2, h3, h4, h5⟩ := parts_ok ok
  obtain ⟨-, -, -, h6⟩ := ok.den
  have hM := Nat.le_of_dvd h1 h3.2
  refine ed_cb (ea_cons (ed_lcI (f := fun col => ((col[p]?).getD 0).num * (partsOf cols / (((col[p]?).getD 0).den : Int))) (it_seqL (ed_var ha)) (fun x hx => tg_name) (fun x hx => ?_) (by have := ok.few; omega) (by simp)) ea_nil) cad_tupL
  have hxl : p < x.length := by rw [ok.len x hx]; exact hp
  have hq : EvD (tOp (rIxA K) (tVar c) (tVar b)) ((wipeS ρ [c]).set c (.d (colD x))) (encQ ((x[p]?).getD 0)) := ed_op (x := .list (qs x)) (ed_var (hc _)) (ed_var (hb _)) (opd_ixL (j := p) (qs_get hxl) rfl)
  have hmem : (x[p]?).getD 0 ∈ x := by rw [List.getElem?_eq_getElem hxl]; exact List.getElem_mem _
  obtain ⟨M2, -, -, hd⟩ := ok.den
  have hdl := (hd x hx _ hmem).2
  generalize (x[p]?).getD 0 = q at hq hmem hdl ⊢
  have hdp := q.den_pos
  refine ed_op (ed_op hq ed_int opd_q0) (ed_op (ed_var (he _)) (ed_op hq ed_int opd_q1) (opd_div (by omega) (by omega))) (opd_mul (cmul_r ?_ ?_))
  · have := Int.ediv_nonneg (show 0 ≤ partsOf cols by omega) (show 0 ≤ (q.den : Int) by omega)
    omega
  · have := Int.ediv_le_self (a := partsOf cols) (q.den : Int) (by omega)
    omega
theorem body_rule_layout (h : R_p_rule_layout ds d) : BodyOk 11 (t_p_rule_layout K w) ds d := by
  obtain ⟨x, rs, wd, rfl, hx, ok, hw, hw2, rfl⟩ := h
  intro V0 A0 D hr
  have hl := ok.len
  have hwl := widths_len hw (by omega)
  have ck := cols_ok ok hw hw2
  obtain ⟨M, h1, h2, h3, h4, h5⟩ := parts_ok ck
  refine run_asg (ed_tupOf hx ok (ed_var rfl)) ?_
  refine run_asg (d := .list (((widths wd).map (givenAll rs)).map colD)) (ed_is (ed_lc1 (enc := PyData.int) (xs := widths wd) (f := fun n => .list (qs (givenAll rs n))) (it_rngW (ea_cons (by walk_at "ed") ea_nil) hw (by omega)) (fun y hy => tg_name) (fun y hy => ed_call (ea_cons (ed_var rfl) (ea_cons (ed_var rfl) ea_nil)) ⟨rs, y, rfl, ok, (mem_widths hy).1, rfl⟩) hwl) (by rw [List.map_map]; rfl)) ?_
  unfold ruleLayout layoutD at hr
  generalize (widths wd).map (givenAll rs) = cols at ck h3 h4 h5 hr ⊢
  have hcf := ck.few
  refine run_asg (d := .int (partsOf cols)) (ed_call (ea_cons (ed_lcI (enc := colD) (xs := cols) (f := fun col => lcmL (col.map fun q => (q.den : Int))) (it_seqL (ed_var rfl)) (fun y hy => tg_name) (fun y hy => ed_call (ea_cons (ed_lcI (enc := encQ) (xs := y) (f := fun q => (q.den : Int)) (it_seqL (ed_var rfl)) (fun z hz => tg_tup (tgl_cons tg_name (tgl_cons tg_name tgl_nil))) (fun z hz => ed_var rfl) ?_) ea_nil) ⟨_, rfl, ?_, ⟨M, h1, h2, h5 y hy⟩, rfl⟩) (by omega)) ea_nil) ⟨_, rfl, by rw [List.length_map]; exact hcf, ⟨M, h1, h2, h4⟩, rfl⟩) ?_
  · have := ck.len y hy; have := ck.fewp; omega
  · have := ck.len y hy; have := ck.fewp; rw [List.length_map]; omega
  refine run_new (ds := []) ea_nil (show 5 < 11 by decide) (by decide) ?_
  refine run_for (enc := fun i : Nat => PyData.int (i : Int)) (xs := List.range rs.length) (fun pre => [.no, .d (.int wd), .d (encRs rs), .d (.list (cols.map colD)), .d (.int (partsOf cols)), .no, .no, .no, .no, .no, .no]) (fun pre => some (5, pre.map fun p => .tuple (intD (rowOf (partsOf cols) cols p)))) (it_rng (n := rs.length) (ea_cons (ed_is (ed_cb (ea_cons (ed_var rfl) ea_nil) cad_lenT) (by rw [List.length_map])) ea_nil) (by omega)) (by walk_at "sl") rfl ?_ ?_
  · intro pre y post P' e
    have hy : y < rs.length := List.mem_range.mp (by rw [e]; simp)
    refine ⟨_, _, tg_name, offSome (by decide), ?_⟩
    refine run_app (ed_row (p := y) ck hy rfl (fun _ => rfl) (fun _ => rfl) (fun _ => rfl)) ?_ ?_
    · rw [List.length_map]
      have := congrArg List.length e
      rw [List.length_range, List.length_append] at this
      omega
    · refine run_turn rfl (by walk_at "sl") ?_
      rw [List.map_append]; rfl
  · refine run_done (run_retS (ed_tup (ea_cons (ed_var rfl) (ea_cons (ed_cb (ea_cons (ed_var rfl) ea_nil) cad_tupL) ea_nil)) (by simp)) hr)
theorem body_by_shares (h : R_p_by_shares ds d) : BodyOk 3 (t_p_by_shares K w) ds d := by
  obtain ⟨x, ns, wd, rfl, hx, ok, hw, hw2, rfl⟩ := h
  intro V0 A0 D hr
  have hl : ns.length ≤ 5 := by have := ok.len; unfold sharesRs at this; rwa [List.length_map] at this
  have hit : ItD (iSeqA K (tVar 0)) (args 3 [x, .int wd]) (ns.map PyData.int) := by
    rcases hx with rfl | rfl
    · exact it_seqL (ed_var rfl)
    · exact it_seqT (ed_var rfl)
  refine run_retS (ed_call (ea_cons (ed_lc1 (f := fun s : Int => encR ⟨s, 0, none⟩) hit (fun y hy => tg_name) (fun y hy => ed_tup (ea_cons (ed_var rfl) (ea_cons ed_int (ea_cons ed_non ea_nil))) (by simp)) (by omega)) (ea_cons (ed_var rfl) ea_nil)) ⟨_, sharesRs ns, wd, rfl, .inr (.inr ?_), ok, hw, hw2, rfl⟩) hr
  unfold sharesRs
  rw [List.map_map]; rfl
theorem evenOk {n : Nat} (h1 : 1 ≤ n) (h2 : n ≤ 5) : RsOk (sharesRs (List.replicate n 1)) := by
  have e : sharesRs (List.replicate n 1) = List.replicate n ⟨1, 0, none⟩ := by unfold sharesRs; rw [List.map_replicate]
  rw [e]
  refine ⟨by rw [List.length_replicate]; exact h1, by rw [List.length_replicate]; exact h2, fun r hr => ?_, ⟨⟨1, 0, none⟩, ?_, rfl⟩, ?_⟩
  · rw [(List.mem_replicate.mp hr).2]
    exact ⟨by decide, by decide, by decide, by decide, fun m hm => by cases hm⟩
  · exact List.mem_replicate.mpr ⟨by omega, rfl⟩
  · rw [List.map_replicate]
    have : ∀ n : Nat, (List.replicate n (0 : Int)).sum = 0 := by
      intro n
      induction n with
      | zero => rfl
      | succ n ih => rw [List.replicate_succ, List.sum_cons, ih]; rfl
    show (List.replicate n (0 : Int)).sum ≤ 36
    rw [this]; decide
theorem rep_flat {α : Type} (a : α) : ∀ n : Nat, (List.replicate n [a]).flatten = List.replicate n a
  | 0 => rfl
  | n + 1 => by rw [List.replicate_succ, List.flatten_cons, rep_flat a n]; rfl
/-- the rows but the last -/
def turnRowsI (last : Int) : Int → List Int → List (List Int)
  | _, [] => []
  | a, m :: ms => ((widths last).map fun x => min (max (x - a) 0) m) :: turnRowsI last (a + m) ms
theorem body_even (h : R_p_even ds d) : BodyOk 2 (t_p_even K w) ds d := by
  obtain ⟨n, wd, rfl, h1, h2, hw, hw2, rfl⟩ := h
  intro V0 A0 D hr
  refine run_retS (ed_call (ea_cons (d := .list (intD (List.replicate n 1))) (ed_is (ed_op (ed_lst (ea_cons ed_int ea_nil)) (ed_var rfl) (opd_rep (by omega) (by omega) (by decide))) ?_) (ea_cons (ed_var rfl) ea_nil)) ⟨_, _, wd, rfl, .inl rfl, evenOk h1 h2, hw, hw2, rfl⟩) hr
  rw [Int.toNat_natCast]
  congr 1
  unfold intD
  rw [List.map_replicate]
  exact rep_flat _ n
theorem turnRows_snoc (last : Int) : ∀ (ms : List Int) (a : Int), turnRows last a ms = turnRowsI last a ms ++ [(widths last).map fun x => max (x - (a + ms.sum)) 0]
  | [], a => by simp [turnRows, turnRowsI]
  | m :: ms, a => by
    simp only [turnRows, turnRowsI, List.cons_append, turnRows_snoc last ms (a + m), List.sum_cons]
    rw [show a + m + ms.sum = a + (m + ms.sum) by omega]
theorem turnRowsI_snoc (last : Int) (m : Int) : ∀ (ms : List Int) (a : Int), turnRowsI last a (ms ++ [m]) = turnRowsI last a ms ++ [(widths last).map fun x => min (max (x - (a + ms.sum)) 0) m]
  | [], a => by simp [turnRowsI]
  | n :: ms, a => by
    simp only [turnRowsI, List.cons_append, turnRowsI_snoc last m ms (a + n), List.sum_cons]
    rw [show a + n + ms.sum = a + (n + ms.sum) by omega]
theorem turnRowsI_len (last : Int) : ∀ (ms : List Int) (a : Int), (turnRowsI last a ms).length = ms.length
  | [], a => rfl
  | m :: ms, a => by simp only [turnRowsI, List.length_cons, turnRowsI_len last ms]
theorem sum_snoc (ms : List Int) (m : Int) : (ms ++ [m]).sum = ms.sum + m := by simp
theorem body_by_turns (h : R_p_by_turns ds d) : BodyOk 6 (t_p_by_turns K w) ds d := by
  obtain ⟨x, ns, wd, rfl, hx, hl, hw, hw2, rfl⟩ := h
  intro V0 A0 D hr
  have hwl := widths_len hw (by omega)
  have hit : ∀ ρ : List Sl, ρ[0]? = some (.d x) → ItD (iSeqA K (tVar 0)) ρ (ns.map PyData.int) := fun ρ e => by
    rcases hx with rfl | rfl
    · exact it_seqL (ed_var e)
    · exact it_seqT (ed_var e)
  refine run_tupNew (d := .int 0) ed_int (by decide) (show 3 < 6 by decide) ?_
  refine run_for (enc := PyData.int) (xs := ns) (fun pre => [.d x, .d (.int wd), .d (.int pre.sum), .no, .no, .no]) (fun pre => some (3, (turnRowsI wd 0 pre).map fun r => .tuple (intD r))) (hit _ rfl) (by walk_at "sl") rfl ?_ ?_
  · intro pre y post P' e
    refine ⟨_, _, tg_name, offSome (by decide), ?_⟩
    refine run_app (d := .tuple (intD ((widths wd).map fun x => min (max (x - pre.sum) 0) y))) (ed_cb (ea_cons (ed_lcI (enc := PyData.int) (xs := widths wd) (it_rngW (ea_cons (by walk_at "ed") ea_nil) hw (by omega)) (fun z hz => tg_name) (fun z hz => by walk_at "ed") hwl) ea_nil) cad_tupL) ?_ ?_
    · rw [List.length_map, turnRowsI_len]
      have := congrArg List.length e
      rw [List.length_append] at this
      omega
    · refine run_asg (d := .int (pre.sum + y)) (by walk_at "ed") ?_
      refine run_turn rfl (by rw [sum_snoc]; walk_at "sl") ?_
      rw [turnRowsI_snoc, List.map_append, Int.zero_add]; rfl
  · refine run_app (d := .tuple (intD ((widths wd).map fun x => max (x - ns.sum) 0))) (ed_cb (ea_cons (ed_lcI (enc := PyData.int) (xs := widths wd) (it_rngW (ea_cons (by walk_at "ed") ea_nil) hw (by omega)) (fun z hz => tg_name) (fun z hz => by walk_at "ed") hwl) ea_nil) cad_tupL) ?_ ?_
    · rw [List.length_map, turnRowsI_len]
      omega
    · refine run_done (run_retS (ed_tup (ea_cons ed_int (ea_cons (ed_cb (ea_cons (ed_var rfl) ea_nil) cad_tupL) ea_nil)) (by simp)) ?_)
      unfold byTurns at hr
      rw [turnRows_snoc, List.map_append, Int.zero_add] at hr
      exact hr
/-! the law's layout -/
theorem lcmI_one {a : Int} (h : 0 < a) : lcmI a 1 = a := by unfold lcmI; simp; omega
theorem lcmI_assoc (a b c : Int) : lcmI (lcmI a b) c = lcmI a (lcmI b c) := by
  unfold lcmI
  rw [Int.natAbs_natCast, Int.natAbs_natCast, Nat.lcm_assoc]
theorem lcm_out (a : Int) : ∀ (ns : List Int) (b : Int), ns.foldl lcmI (lcmI a b) = lcmI a (ns.foldl lcmI b)
  | [], b => rfl
  | n :: ns, b => by
    show ns.foldl lcmI (lcmI (lcmI a b) n) = _
    rw [lcmI_assoc, lcm_out a ns]; rfl
theorem lcm_flat (ns : List Int) {a : Int} (h : 0 < a) : ns.foldl lcmI a = lcmI a (lcmL ns) := by
  have := lcm_out a ns 1
  rwa [lcmI_one h] at this
def denL (c : List Rat) : List Int := c.map fun q => (q.den : Int)
def flatP (a : Int) (cols : List (List Rat)) : Int := cols.foldl (fun a c => (denL c).foldl lcmI a) a
theorem denL_pos (c : List Rat) : 0 < lcmL (denL c) := by
  have key : ∀ (c : List Rat) (a : Int), 0 < a → 0 < (denL c).foldl lcmI a := by
    intro c
    induction c with
    | nil => intro a h; exact h
    | cons q c ih => intro a h; exact ih _ (lcmI_pos h (show (0 : Int) < (q.den : Int) by have := q.den_pos; omega))
  exact key c 1 (by decide)
theorem flatP_eq : ∀ (cols : List (List Rat)) (a : Int), 0 < a → flatP a cols = (cols.map fun c => lcmL (denL c)).foldl lcmI a
  | [], a, h => rfl
  | c :: cols, a, h => by
    show flatP ((denL c).foldl lcmI a) cols = _
    rw [lcm_flat _ h, flatP_eq cols _ (lcmI_pos h (denL_pos c))]
    rfl
theorem flat_parts (cols : List (List Rat)) : flatP 1 cols = partsOf cols := flatP_eq cols 1 (by decide)
theorem lcm_nonneg : ∀ (ns : List Int) {a : Int}, 0 ≤ a → 0 ≤ ns.foldl lcmI a
  | [], a, h => h
  | n :: ns, a, h => lcm_nonneg ns (by unfold lcmI; omega)
theorem flat_nonneg : ∀ (cols : List (List Rat)) {a : Int}, 0 ≤ a → 0 ≤ flatP a cols
  | [], a, h => h
  | c :: cols, a, h => flat_nonneg cols (lcm_nonneg (denL c) h)
theorem lcm_by {a b : Int} (ha : 0 ≤ a) (hb : 0 ≤ b) : a * b / ((Nat.gcd a.natAbs b.natAbs : Nat) : Int) = lcmI a b := by
  unfold lcmI Nat.lcm
  rw [Int.natCast_ediv, Int.natCast_mul, Int.natAbs_of_nonneg ha, Int.natAbs_of_nonneg hb]
theorem body_l_layout (h : R_l_layout ds d) : BodyOk 5 (t_l_layout K w) ds d := by
  obtain ⟨cols, panes, rfl, ok, rfl⟩ := h
  intro V0 A0 D hr
  obtain ⟨M, -, -, hd⟩ := ok.den
  have hcf := ok.few
  have hpf := ok.fewp
  refine run_asg ed_int ?_
  refine run_for (enc := colD) (xs := cols) (fun pre => [.d (.list (cols.map colD)), .d (.int (flatP 1 pre)), .no, .no, .no]) (fun _ => none) (it_seqL (ed_var rfl)) (by walk_at "sl") rfl ?_ ?_
  · intro pre c post P' e
    have hc : c ∈ cols := by rw [e]; simp
    refine ⟨_, _, tg_name, offNone, ?_⟩
    refine run_for (enc := encQ) (xs := c) (fun pre' => [.d (.list (cols.map colD)), .d (.int ((denL pre').foldl lcmI (flatP 1 pre))), .d (colD c), .no, .no]) (fun _ => none) (it_seqL (ed_var rfl)) (by walk_at "sl") rfl ?_ ?_
    · intro pre' q post' P'' e'
      have hq : q ∈ c := by rw [e']; simp
      have hqd := (hd c hc q hq).2
      have hqp := q.den_pos
      have hp : 0 ≤ (denL pre').foldl lcmI (flatP 1 pre) := lcm_nonneg _ (flat_nonneg _ (by decide))
      have hg := gcd_le (t := (denL pre').foldl lcmI (flatP 1 pre)) (b := (q.den : Int)) (by omega)
      have e2 : (denL (pre' ++ [q])).foldl lcmI (flatP 1 pre) = lcmI ((denL pre').foldl lcmI (flatP 1 pre)) (q.den : Int) := by
        unfold denL
        rw [List.map_append, List.foldl_append]; rfl
      refine ⟨_, _, tg_name, offNone, ?_⟩
      refine run_asg (d := .int (lcmI ((denL pre').foldl lcmI (flatP 1 pre)) (q.den : Int))) ?_ (run_turn rfl (by rw [e2]; walk_at "sl") rfl)
      refine ed_is (ed_op (ed_op (ed_var rfl) (ed_op (x := encQ q) (ed_var rfl) ed_int opd_q1) (opd_mul (cmul_r (by omega) (by omega)))) (ed_call (ea_cons (ed_var rfl) (ea_cons (ed_op (x := encQ q) (ed_var rfl) ed_int opd_q1) ea_nil)) ⟨_, _, rfl, hp, by omega, rfl⟩) (opd_div hg.1 (by omega))) ?_
      rw [lcm_by hp (by omega)]
    · refine run_turn rfl ?_ rfl
      have e3 : flatP 1 (pre ++ [c]) = (denL c).foldl lcmI (flatP 1 pre) := by unfold flatP; rw [List.foldl_append]; rfl
      rw [e3]
      walk_at "sl"
  · rw [flat_parts]
    obtain ⟨c0, hc0⟩ : ∃ c0, cols[0]? = some c0 := ⟨_, List.getElem?_eq_getElem ok.ne⟩
    have hl0 := ok.len c0 (List.mem_of_getElem? hc0)
    unfold layoutD at hr
    refine run_retS (ed_tup (ea_cons (ed_var rfl) (ea_cons (ed_cb (ea_cons (ed_lc1 (enc := fun i : Nat => PyData.int (i : Int)) (xs := List.range panes) (f := fun p => .tuple (intD (rowOf (partsOf cols) cols p))) (it_rng (n := panes) (ea_cons (ed_is (ed_cb (ea_cons (ed_op (y := .int 0) (x := .list (cols.map colD)) (ed_var rfl) ed_int (opd_ixL (j := 0) (d := .list (qs c0)) (by rw [List.getElem?_map, hc0]; rfl) rfl)) ea_nil) cad_len) (by rw [qs_len, hl0])) ea_nil) (by omega)) (fun y hy => tg_name) (fun y hy => ed_row ok (List.mem_range.mp hy) rfl (fun _ => rfl) (fun _ => rfl) (fun _ => rfl)) (by rw [List.length_range]; omega)) ea_nil) cad_tupL) ea_nil)) (by simp)) hr
end
end K4

/-! ## TmsB -/
namespace K4
open PySem PySem.Spec PyProof.Rows L2
def t_p_stops (K : PySem.W.Frag) (w : World) : TS :=
  (tSeq (tAsg (tCall (spD (R_p_tuple_of 12)) [] E0 (tCons (tVar 0) tNil)) (gName 2))
  (tSeq (tAsg (tTup (tCons (tCall (spD R_p_common_share) [] E0 (tCons (tVar 2) tNil)) (tCons (tLst tNil) tNil))) (gTup K 2 (gCons (gName 3) (gCons (gName 4) gNil))))
  (tSeq (tFor (iEnumA K (tCons (tVar 2) tNil)) (gTup K 2 (gCons (gName 5) (gCons (gTup K 3 (gCons (gName 6) (gCons (gName 7) (gCons (gName 8) gNil)))) gNil))) (tSeq (tIfS (tTest (tOp (rNeD K) (tVar 7) (tVar 8))) (tSeq (tDrop (tBM K "list" rAppend (tVar 4) (tCons (tTup (tCons (tCB (rSum K) (tCons (tCall (spD R_p_would_be) [] E0 (tCons (tVar 2) (tCons (tOp (rDivI) (tOp (rMulA) (tVar 7) (tVar 3)) (tVar 6)) tNil))) tNil)) (tCons (tVar 5) (tCons (tC (.str (Str.ofString "least"))) tNil)))) tNil)))
  tNext) tNext)
  (tSeq (tIfS (tTest (tOp rNotNon (tVar 8) (tC .non))) (tSeq (tAsg (tIf (tTest (tOp (rEqD K) (tVar 7) (tVar 8))) (tC (.int 0)) (tOp (rDivI) (tOp (rMulA) (tVar 8) (tVar 3)) (tVar 6))) (gName 9))
  (tSeq (tDrop (tBM K "list" rAppend (tVar 4) (tCons (tTup (tCons (tCB (rSum K) (tCons (tCall (spD R_p_would_be) [] E0 (tCons (tVar 2) (tCons (tVar 9) tNil))) tNil)) (tCons (tVar 5) (tCons (tC (.str (Str.ofString "most"))) tNil)))) tNil)))
  tNext)) tNext)
  tNext)))
  (tSeq (tRet (tLc (iSeqA K (tCB (rSortedTr K) (tCons (tVar 4) tNil))) (gTup K 3 (gCons (gName 10) (gCons (gName 5) (gCons (gName 11) gNil)))) (tTest (tOp (rLeI) (tVar 10) (tOp (rMulA) (tVar 1) (tVar 3)))) (tTup (tCons (tCall (spD R_p_in_lowest) [] E0 (tCons (tVar 10) (tCons (tVar 3) tNil))) (tCons (tVar 5) (tCons (tVar 11) tNil)))) [10, 5, 11]))
  tNext))))

def t_l_stops (K : PySem.W.Frag) (w : World) : TS :=
  (tSeq (tAsg (tLst tNil) (gName 2))
  (tSeq (tFor (iEnumA K (tCons (tVar 0) tNil)) (gTup K 2 (gCons (gName 3) (gCons (gTup K 3 (gCons (gName 4) (gCons (gName 5) (gCons (gName 6) gNil)))) gNil))) (tSeq (tIfS (tTest (tOp (rNeD K) (tVar 6) (tVar 5))) (tSeq (tDrop (tBM K "list" rAppend (tVar 2) (tCons (tTup (tCons (tCall (spD R_l_sum) [] E0 (tCons (tCall (spD R_l_wide) [] E0 (tCons (tVar 0) (tCons (tCall (spD R_l_frac) [] E0 (tCons (tVar 5) (tCons (tVar 4) tNil))) tNil))) tNil)) (tCons (tVar 3) (tCons (tC (.str (Str.ofString "least"))) tNil)))) tNil)))
  tNext) tNext)
  (tSeq (tIfS (tTest (tOp rNotNon (tVar 6) (tC .non))) (tSeq (tAsg (tIf (tTest (tOp (rEqD K) (tVar 6) (tVar 5))) (tTup (tCons (tC (.int 0)) (tCons (tC (.int 1)) tNil))) (tCall (spD R_l_frac) [] E0 (tCons (tVar 6) (tCons (tVar 4) tNil)))) (gName 7))
  (tSeq (tDrop (tBM K "list" rAppend (tVar 2) (tCons (tTup (tCons (tCall (spD R_l_sum) [] E0 (tCons (tCall (spD R_l_wide) [] E0 (tCons (tVar 0) (tCons (tVar 7) tNil))) tNil)) (tCons (tVar 3) (tCons (tC (.str (Str.ofString "most"))) tNil)))) tNil)))
  tNext)) tNext)
  tNext)))
  (tSeq (tAsg (tLst tNil) (gName 8))
  (tSeq (tFor (iSeqA K (tCall (spD R_l_ordered) [] E0 (tCons (tLc (iSeqA K (tVar 2)) (gName 9) tYes (tOp (rIxA K) (tVar 9) (tC (.int 0))) [9]) tNil))) (gName 7) (tSeq (tIfS (tNot (tB (tCall (spD R_l_above) [] E0 (tCons (tVar 7) (tCons (tTup (tCons (tVar 1) (tCons (tC (.int 1)) tNil))) tNil))))) (tSeq (tAsg (tOp (rAddA K) (tVar 8) (tCB (rSortedTr K) (tCons (tLc (iSeqA K (tVar 2)) (gName 9) (tTest (tOp (rEqD K) (tOp (rIxA K) (tVar 9) (tC (.int 0))) (tVar 7))) (tVar 9) [9]) tNil))) (gName 8))
  tNext) tNext)
  tNext))
  (tSeq (tRet (tVar 8))
  tNext)))))

end K4

/-! ## RunsA -/
/-! stops -/
namespace K4
open PySem PySem.Spec PyProof.Rows L2
local macro_rules | `(tactic| walk_at "sl") => `(tactic| repeat' (first | exact sl_nil | refine sl_same ?_ | refine sl_no ?_))
local macro_rules | `(tactic| walk_at "ed1") => `(tactic| first
  | ((with_reducible apply ed_var); (exact rfl))
  | with_reducible exact ed_int | with_reducible exact ed_non | with_reducible exact ed_bl | with_reducible exact ed_str | with_reducible exact ea_nil | with_reducible exact eo_none | with_reducible exact eb_yes
  | with_reducible apply ed_isInt | with_reducible apply ed_isBool | with_reducible apply ed_isList | with_reducible apply ed_isTup
  | with_reducible apply ed_op | with_reducible apply ed_un | with_reducible apply ed_cb | with_reducible apply ea_cons | with_reducible apply eo_some | with_reducible apply ed_tup | with_reducible apply ed_lst | with_reducible apply ed_sl
  | with_reducible apply eb_test | with_reducible apply eb_B | with_reducible apply eb_not | with_reducible apply ed_notV
  | with_reducible exact opd_add | with_reducible exact opd_sub | with_reducible exact opd_lt | with_reducible exact opd_le | with_reducible exact opd_gt | with_reducible exact opd_ge | with_reducible exact und_neg
  | with_reducible exact opd_isNO | with_reducible exact opd_notNO | with_reducible exact opd_isN | with_reducible exact opd_notN | with_reducible exact opd_eqI | with_reducible exact opd_neI | with_reducible exact opd_eqO | with_reducible exact opd_eqO' | with_reducible exact opd_neO | with_reducible exact opd_neO'
  | with_reducible apply opd_mul | with_reducible apply opd_div | with_reducible apply opd_mod
  | exact opd_ix0T | exact opd_ix1T | exact opd_ix2T
  | with_reducible exact cad_max | with_reducible exact cad_min | with_reducible exact cad_abs | with_reducible exact cad_intI | with_reducible exact cad_intB | with_reducible exact cad_gcd | with_reducible apply cad_lcm
  | exact cad_sumI | exact cad_sum | exact cad_all | exact cad_any | exact cad_len | exact cad_lenT | exact cad_tupL | exact cad_lstL | exact cad_lstT
  | exact sld_L | exact sld_T
  | (show List.length _ ≤ 100000; simp only [List.length_cons, List.length_nil]; omega)
  | exact cmul_l (by omega) (by omega) | exact cmul_r (by omega) (by omega)
  | exact opd_notN | exact opd_isN)
local macro_rules | `(tactic| walk_at "ed") => `(tactic| repeat' (walk_at "ed1"))
section
variable {K : PySem.W.Frag} {w : World} {ds : List PyData} {d : PyData}
theorem run_ifApp {c : Ct} {P : Hp} {D : Ends} {n k : Nat} {ρ : List Sl} {tt : TT} {te : TE} {tz : TS} {b : Bool} {acc : List PyData} (hb : EvB tt ρ b) (he : b = true → EvD te ρ d) (hz : acc.length < 100000) (h : Run c P D tz n ρ (some (k, acc ++ (if b = true then [d] else [])))) :
    Run c P D (tSeq (tIfS tt (tSeq (tDrop (tBM K "list" rAppend (tVar k) (tCons te tNil))) tNext) tNext) tz) n ρ (some (k, acc)) := by
  refine run_if hb (fun e => ?_) (fun e => ?_)
  · rw [if_pos e] at h
    exact run_app (he e) hz (run_next h)
  · rw [if_neg (by rw [e]; simp), List.append_nil] at h
    exact run_next h
/-! the order -/
theorem dataLt_three {a b c a' b' c' : PyData} (h1 : PySem.W.alike a a' = true) (h2 : PySem.W.alike b b' = true) (h3 : PySem.W.alike c c' = true) :
    PySem.W.dataLt (.tuple [a, b, c]) (.tuple [a', b', c']) = if PyData.eqv a a' = true then (if PyData.eqv b b' = true then (if PyData.eqv c c' = true then false else PySem.W.dataLt c c') else PySem.W.dataLt b b') else PySem.W.dataLt a a' := by
  rw [PySem.W.dataLt_tuple, PySem.W.dataLt_cons h1, PySem.W.dataLt_cons h2, PySem.W.dataLt_cons h3]
  have e : PyProof.Rows.lexLt PyProof.Rows.itemOrd (PySem.W.keyToksAll []) (PySem.W.keyToksAll []) = false := PyProof.Rows.lex_irrefl _
  rw [e]
theorem word_lt : PySem.W.dataLt (.str (wordOf false)) (.str (wordOf true)) = true ∧ PyData.eqv (.str (wordOf false)) (.str (wordOf true)) = false := by
  constructor
  · rw [PySem.W.dataLt_str]; decide
  · decide
theorem tail_lt {x y : Int} {b c : Bool} (h : x < y ∨ (x = y ∧ b = false ∧ c = true)) : (if PyData.eqv (.int x) (.int y) = true then (if PyData.eqv (.str (wordOf b)) (.str (wordOf c)) = true then false else PySem.W.dataLt (.str (wordOf b)) (.str (wordOf c))) else PySem.W.dataLt (.int x) (.int y)) = true := by
  have e1 : PyData.eqv (.int x) (.int y) = decide (x = y) := by simp only [PyData.eqv]; exact beq_dec x y
  rw [e1, PySem.W.dataLt_int]
  rcases h with h | ⟨rfl, rfl, rfl⟩
  · rw [decide_eq_false (show ¬ x = y by omega), if_neg (by simp)]
    exact decide_eq_true h
  · rw [decide_eq_true rfl, if_pos rfl, word_lt.2, if_neg (by simp)]
    exact word_lt.1
theorem lt_encT {a b : Stop Int} (h : ltS ltI a b = true) : PySem.W.dataLt (encT a) (encT b) = true := by
  unfold encT
  rw [dataLt_three (by simp [PySem.W.alike]) (by simp [PySem.W.alike]) (by simp [PySem.W.alike])]
  have e1 : PyData.eqv (.int a.at_) (.int b.at_) = decide (a.at_ = b.at_) := by simp only [PyData.eqv]; exact beq_dec _ _
  rw [e1]
  rcases (ltS_iff tot_I a b).mp h with q | ⟨e, q⟩
  · have q' : a.at_ < b.at_ := of_decide_eq_true q
    rw [decide_eq_false (show ¬ a.at_ = b.at_ by omega), if_neg (by simp), PySem.W.dataLt_int]
    exact q
  · rw [decide_eq_true e, if_pos rfl]
    exact tail_lt q
theorem alike_Q (p q : Rat) : PySem.W.alike (encQ p) (encQ q) = true := by simp [encQ, PySem.W.alike, PySem.W.alikeAll]
theorem lt_encTQ {a b : Stop Rat} (e : a.at_ = b.at_) (h : ltS ltQ a b = true) : PySem.W.dataLt (encTQ a) (encTQ b) = true := by
  unfold encTQ
  rw [dataLt_three (alike_Q _ _) (by simp [PySem.W.alike]) (by simp [PySem.W.alike]), eqv_Q, decide_eq_true e, if_pos rfl]
  rcases (ltS_iff tot_Q a b).mp h with q | ⟨-, q⟩
  · rw [e, tot_Q.irr] at q; cases q
  · exact tail_lt q
theorem sortS_perm {α : Type} {lt : α → α → Bool} : ∀ l : List (Stop α), (sortS lt l).Perm l
  | [] => List.Perm.refl _
  | x :: xs => by
    have key : ∀ l : List (Stop α), (insS lt x l).Perm (x :: l) := by
      intro l
      induction l with
      | nil => exact List.Perm.refl _
      | cons y ys ih =>
        unfold insS
        split
        · exact (ih.cons y).trans (List.Perm.swap x y ys)
        · exact List.Perm.refl _
    exact (key _).trans ((sortS_perm xs).cons x)
theorem enc_shape (x : Stop Int) : (encT x).depth ≤ 8 ∧ ∃ a r, encT x = .tuple (a :: r) := ⟨by simp [encT, PyData.depth, PyData.depthAll], _, _, rfl⟩
theorem encQ_shape (x : Stop Rat) : (encTQ x).depth ≤ 8 ∧ ∃ a r, encTQ x = .tuple (a :: r) := ⟨by simp [encTQ, encQ, PyData.depth, PyData.depthAll], _, _, rfl⟩
theorem ed_sortI {ρ : List Sl} {te : TE} {l : List (Stop Int)} (h : EvD te ρ (.list (l.map encT))) (hn : l.Nodup) : EvD (tCB (rSortedTr K) (tCons te tNil)) ρ (.list ((sortS ltI l).map encT)) := by
  refine ed_sortedTr h (PySem.W.AllAlike.of fun a b => by simp [encT, PySem.W.alike, PySem.W.alikeAll]) (fun d hd => ?_) (fun d hd => ?_) ((sortS_perm l).map encT) (List.pairwise_map.mpr ((sortS_sorted tot_I l hn).imp fun {a b} h => lt_encT h))
  · obtain ⟨x, -, rfl⟩ := List.mem_map.mp hd
    exact (enc_shape x).2
  · obtain ⟨x, -, rfl⟩ := List.mem_map.mp hd
    exact (enc_shape x).1
theorem ed_sortQ {ρ : List Sl} {te : TE} {l : List (Stop Rat)} {t : Rat} (h : EvD te ρ (.list (l.map encTQ))) (hn : l.Nodup) (ht : ∀ x ∈ l, x.at_ = t) : EvD (tCB (rSortedTr K) (tCons te tNil)) ρ (.list ((sortS ltQ l).map encTQ)) := by
  refine ed_sortedTr h (PySem.W.AllAlike.of fun a b => by simp [encTQ, encQ, PySem.W.alike, PySem.W.alikeAll]) (fun d hd => ?_) (fun d hd => ?_) ((sortS_perm l).map encTQ) (List.pairwise_map.mpr ((sortS_sorted tot_Q l hn).imp_of_mem fun {a b} ha hb h => lt_encTQ ?_ h))
  · obtain ⟨x, -, rfl⟩ := List.mem_map.mp hd
    exact (encQ_shape x).2
  · obtain ⟨x, -, rfl⟩ := List.mem_map.mp hd
    exact (encQ_shape x).1
  · rw [ht a ((sortS_mem a l).mp ha), ht b ((sortS_mem b l).mp hb)]
theorem stop1_len (rs : List Rule) (p : Rule × Nat) : (stop1 rs p).length ≤ 2 := by
  unfold stop1
  rw [List.length_append]
  split <;> split <;> simp
theorem stopQ1_len (rs : List Rule) (p : Rule × Nat) : (stopQ1 rs p).length ≤ 2 := by
  unfold stopQ1
  rw [List.length_append]
  split <;> split <;> simp
theorem body_stops (h : R_p_stops ds d) : BodyOk 12 (t_p_stops K w) ds d := by
  obtain ⟨x, rs, wd, rfl, hx, ok, hw, rfl⟩ := h
  intro V0 A0 D hr
  have hl := ok.len
  have hWp := (whole_pos ok).1
  have hWl := whole_le ok
  refine run_asg (ed_tupOf hx ok (ed_var rfl)) ?_
  refine run_tupNew (d := .int (whole rs)) (ed_call (ea_cons (ed_var rfl) ea_nil) ⟨rs, rfl, ok, rfl⟩) (by decide) (show 4 < 12 by decide) ?_
  have es : ∀ (pre : List (Rule × Nat)) y, ((pre ++ [y]).map (stop1 rs)).flatten.map encT = (pre.map (stop1 rs)).flatten.map encT ++ (stop1 rs y).map encT := fun pre y => by
    rw [List.map_append, List.flatten_append, List.map_append]; simp
  refine run_for (enc := fun p : Rule × Nat => .tuple [.int (p.2 : Int), encR p.1]) (xs := rs.zipIdx) (fun pre => [.d x, .d (.int wd), .d (encRs rs), .d (.int (whole rs)), .no, .no, .no, .no, .no, .no, .no, .no]) (fun pre => some (4, (pre.map (stop1 rs)).flatten.map encT)) (it_enumTm (ea_cons (ed_var rfl) ea_nil)) (by walk_at "sl") rfl ?_ ?_
  · intro pre y post P' e
    have hm : y.1 ∈ rs := List.fst_mem_of_mem_zipIdx (show y ∈ rs.zipIdx by rw [e]; simp)
    obtain ⟨h1, h2, h3, h4, h5⟩ := ok.each y.1 hm
    have hz : ((pre.map (stop1 rs)).flatten.map encT).length < 1000 := by
      rw [List.length_map]
      have a := flat_len (stop1 rs) 2 (stop1_len rs) pre
      have := congrArg List.length e
      rw [List.length_zipIdx, List.length_append] at this
      omega
    refine ⟨_, _, tg_tup (tgl_cons tg_name (tgl_cons (tg_tup (tgl_cons tg_name (tgl_cons tg_name (tgl_cons tg_name tgl_nil)))) tgl_nil)), offSome (by decide), ?_⟩
    refine run_ifApp (b := !decide (y.1.m = some y.1.l)) (d := encT ⟨(wouldBe rs (y.1.l * whole rs / y.1.s)).sum, (y.2 : Int), false⟩) (eb_test (ed_op (ed_var rfl) (ed_var rfl) opd_neO')) (fun _ => ?_) (by omega) ?_
    · refine ed_tup (ea_cons (ed_cb (ea_cons (ed_call (ea_cons (ed_var rfl) (ea_cons (d := .int (y.1.l * whole rs / y.1.s)) (by walk_at "ed" <;> omega) ea_nil)) ⟨rs, _, rfl, ok, rfl⟩) ea_nil) cad_sumI) (ea_cons (ed_var rfl) (ea_cons ed_str ea_nil))) (by simp)
    · refine run_if (b := y.1.m.isSome) (by walk_at "ed") (fun hb => ?_) (fun hb => ?_)
      · cases hm : y.1.m with
        | none => rw [hm] at hb; cases hb
        | some m =>
          have hb := h5 m hm
          refine run_asg (d := .int (if y.1.m = some y.1.l then 0 else m * whole rs / y.1.s)) (ed_if (b := decide (y.1.m = some y.1.l)) (eb_test (ed_op (ed_var rfl) (y := encO y.1.m) (ed_is (ed_var rfl) (by rw [hm])) opd_eqO')) (fun q => ?_) (fun q => ?_)) ?_
          · rw [if_pos (of_decide_eq_true q)]; exact ed_int
          · rw [if_neg (of_decide_eq_false q)]
            rw [show encO (some m) = .int m from rfl]
            walk_at "ed" <;> omega
          · refine run_app (d := encT ⟨(wouldBe rs (if y.1.m = some y.1.l then 0 else m * whole rs / y.1.s)).sum, (y.2 : Int), true⟩) (ed_tup (ea_cons (ed_cb (ea_cons (ed_call (ea_cons (ed_var rfl) (ea_cons (ed_var rfl) ea_nil)) ⟨rs, _, rfl, ok, rfl⟩) ea_nil) cad_sumI) (ea_cons (ed_var rfl) (ea_cons ed_str ea_nil))) (by simp)) ?_ ?_
            · rw [List.length_append]
              split
              · rw [List.length_singleton]; omega
              · rw [List.length_nil]; omega
            · refine run_next (run_turn rfl (by walk_at "sl") ?_)
              rw [es, List.append_assoc]
              unfold stop1
              rw [List.map_append]
              by_cases q : y.1.m = some y.1.l
              · rw [hm] at q ⊢
                simp [q]
              · rw [hm] at q ⊢
                simp [q]
      · cases hm : y.1.m with
        | some m => rw [hm] at hb; cases hb
        | none =>
          refine run_next (run_turn rfl (by walk_at "sl") ?_)
          rw [es]
          unfold stop1
          rw [hm]
          simp
  · refine run_done ?_
    unfold stopsP at hr
    have hz : (sortS ltI (stopsRaw rs)).length ≤ 100000 := by
      rw [(sortS_perm _).length_eq]
      have a := flat_len (stop1 rs) 2 (stop1_len rs) rs.zipIdx
      rw [List.length_zipIdx] at a
      unfold stopsRaw
      omega
    refine run_retS (ed_is (ed_lc (enc := encT) (xs := sortS ltI (stopsRaw rs)) (p := fun x => decide (x.at_ ≤ wd * whole rs)) (f := fun x => encTQ ⟨Rat.divInt x.at_ (whole rs), x.pane, x.big⟩) (it_seqL (ed_sortI (ed_var rfl) (rawP_nodup rs))) (fun y hy => tg_tup (tgl_cons tg_name (tgl_cons tg_name (tgl_cons tg_name tgl_nil)))) (fun y hy => by walk_at "ed" <;> omega) (fun y hy _ => ed_tup (ea_cons (ed_call (ea_cons (ed_var rfl) (ea_cons (ed_var rfl) ea_nil)) ⟨_, _, rfl, hWp, by omega, rfl⟩) (ea_cons (ed_var rfl) (ea_cons (ed_var rfl) ea_nil))) (by simp)) hz) ?_) hr
    rw [List.map_map]; rfl
theorem own_turn {rs : List Rule} (ok : RsOk rs) {r : Rule} (hr : r ∈ rs) {x : Rat} (hx : x ∈ turnQ1 r) : 0 ≤ x ∧ Dv 60 x := by
  have : x ∈ turnsQ rs := (turnsQ_mem rs x).mpr (.inr ⟨r, hr, hx⟩)
  exact ⟨turns_nonneg ok x this, turns_dv ok x this⟩
theorem stopsRaw_sm {rs : List Rule} (ok : RsOk rs) : ∀ x ∈ stopsRawQ rs, 0 ≤ x.at_ ∧ Dv 60 x.at_ := by
  intro x hx
  unfold stopsRawQ at hx
  obtain ⟨l, h1, h2⟩ := List.mem_flatten.mp hx
  obtain ⟨p, h3, rfl⟩ := List.mem_map.mp h1
  have hp : p.1 ∈ rs := List.fst_mem_of_mem_zipIdx h3
  unfold stopQ1 at h2
  rcases List.mem_append.mp h2 with h2 | h2
  · split at h2
    · cases h2
    · rw [List.mem_singleton.mp h2]
      obtain ⟨a, b⟩ := own_turn ok hp (x := Rat.divInt p.1.l p.1.s) (by unfold turnQ1; simp)
      exact tot_sm ok a b
  · cases hm : p.1.m with
    | none => rw [hm] at h2; cases h2
    | some m =>
      rw [hm] at h2
      rw [List.mem_singleton.mp h2]
      by_cases q : some m = some p.1.l
      · simp only [if_pos q]
        exact tot_sm ok (t := 0) Rat.le_refl (dv_int (by decide) 0)
      · simp only [if_neg q]
        obtain ⟨a, b⟩ := own_turn ok hp (x := Rat.divInt m p.1.s) (by unfold turnQ1; rw [hm]; simp)
        exact tot_sm ok a b
theorem body_l_stops (h : R_l_stops ds d) : BodyOk 10 (t_l_stops K w) ds d := by
  obtain ⟨rs, wd, rfl, ok, hw, rfl⟩ := h
  intro V0 A0 D hr
  have hl := ok.len
  refine run_new (ds := []) ea_nil (show 2 < 10 by decide) (by decide) ?_
  have es : ∀ (pre : List (Rule × Nat)) y, ((pre ++ [y]).map (stopQ1 rs)).flatten.map encTQ = (pre.map (stopQ1 rs)).flatten.map encTQ ++ (stopQ1 rs y).map encTQ := fun pre y => by
    rw [List.map_append, List.flatten_append, List.map_append]; simp
  refine run_for (enc := fun p : Rule × Nat => .tuple [.int (p.2 : Int), encR p.1]) (xs := rs.zipIdx) (fun pre => [.d (encRs rs), .d (.int wd), .no, .no, .no, .no, .no, .no, .no, .no]) (fun pre => some (2, (pre.map (stopQ1 rs)).flatten.map encTQ)) (it_enumTm (ea_cons (ed_var rfl) ea_nil)) (by walk_at "sl") rfl ?_ ?_
  · intro pre y post P' e
    have hm : y.1 ∈ rs := List.fst_mem_of_mem_zipIdx (show y ∈ rs.zipIdx by rw [e]; simp)
    obtain ⟨h1, h2, h3, h4, h5⟩ := ok.each y.1 hm
    have hz : ((pre.map (stopQ1 rs)).flatten.map encTQ).length < 1000 := by
      rw [List.length_map]
      have a := flat_len (stopQ1 rs) 2 (stopQ1_len rs) pre
      have := congrArg List.length e
      rw [List.length_zipIdx, List.length_append] at this
      omega
    refine ⟨_, _, tg_tup (tgl_cons tg_name (tgl_cons (tg_tup (tgl_cons tg_name (tgl_cons tg_name (tgl_cons tg_name tgl_nil)))) tgl_nil)), offSome (by decide), ?_⟩
    obtain ⟨a1, b1⟩ := own_turn ok hm (x := Rat.divInt y.1.l y.1.s) (by unfold turnQ1; simp)
    refine run_ifApp (b := !decide (y.1.m = some y.1.l)) (d := encTQ ⟨tot rs (Rat.divInt y.1.l y.1.s), (y.2 : Int), false⟩) (eb_test (ed_op (ed_var rfl) (ed_var rfl) opd_neO)) (fun _ => ?_) (by omega) ?_
    · exact ed_tup (ea_cons (ed_tot ok (ed_var rfl) (ed_call (ea_cons (ed_var rfl) (ea_cons (ed_var rfl) ea_nil)) ⟨y.1.l, y.1.s, rfl, by omega, by omega, by omega, rfl⟩) a1 b1) (ea_cons (ed_var rfl) (ea_cons ed_str ea_nil))) (by simp)
    · refine run_if (b := y.1.m.isSome) (by walk_at "ed") (fun hb => ?_) (fun hb => ?_)
      · cases hm2 : y.1.m with
        | none => rw [hm2] at hb; cases hb
        | some m =>
          have hb := h5 m hm2
          obtain ⟨a2, b2⟩ := own_turn ok hm (x := Rat.divInt m y.1.s) (by unfold turnQ1; rw [hm2]; simp)
          have hT : 0 ≤ (if y.1.m = some y.1.l then 0 else Rat.divInt m y.1.s) ∧ Dv 60 (if y.1.m = some y.1.l then 0 else Rat.divInt m y.1.s) := by
            by_cases q : y.1.m = some y.1.l
            · simp only [if_pos q]
              exact ⟨Rat.le_refl, dv_int (by decide) 0⟩
            · simp only [if_neg q]
              exact ⟨a2, b2⟩
          refine run_asg (d := encQ (if y.1.m = some y.1.l then 0 else Rat.divInt m y.1.s)) (ed_if (b := decide (y.1.m = some y.1.l)) (eb_test (ed_op (x := encO y.1.m) (ed_is (ed_var rfl) (by rw [hm2])) (ed_var rfl) opd_eqO)) (fun q => ?_) (fun q => ?_)) ?_
          · rw [if_pos (of_decide_eq_true q)]; exact ed_one ed_int
          · rw [if_neg (of_decide_eq_false q)]
            rw [show encO (some m) = .int m from rfl]
            exact ed_call (ea_cons (ed_var rfl) (ea_cons (ed_var rfl) ea_nil)) ⟨m, y.1.s, rfl, by omega, by omega, by omega, rfl⟩
          · refine run_app (d := encTQ ⟨tot rs (if y.1.m = some y.1.l then 0 else Rat.divInt m y.1.s), (y.2 : Int), true⟩) (ed_tup (ea_cons (ed_tot ok (ed_var rfl) (ed_var rfl) hT.1 hT.2) (ea_cons (ed_var rfl) (ea_cons ed_str ea_nil))) (by simp)) ?_ ?_
            · rw [List.length_append]
              split
              · rw [List.length_singleton]; omega
              · rw [List.length_nil]; omega
            · refine run_next (run_turn rfl (by walk_at "sl") ?_)
              rw [es, List.append_assoc]
              unfold stopQ1 tot
              rw [List.map_append]
              by_cases q : y.1.m = some y.1.l
              · rw [hm2] at q ⊢
                simp [q]
              · rw [hm2] at q ⊢
                simp [q]
      · cases hm2 : y.1.m with
        | some m => rw [hm2] at hb; cases hb
        | none =>
          refine run_next (run_turn rfl (by walk_at "sl") ?_)
          rw [es]
          unfold stopQ1 tot
          rw [hm2]
          simp
  · refine run_done ?_
    have hfl : (stopsRawQ rs).length ≤ 10 := by
      have a := flat_len (stopQ1 rs) 2 (stopQ1_len rs) rs.zipIdx
      rw [List.length_zipIdx] at a
      unfold stopsRawQ
      omega
    have hsm := stopsRaw_sm ok
    have hnd := rawQ_nodup rs
    show Run _ _ _ _ _ [.d (encRs rs), .d (.int wd), .d (.list ((stopsRawQ rs).map encTQ)), .no, .no, .no, .no, .no, .no, .no] _
    unfold stopsQ at hr
    generalize stopsRawQ rs = fd at hfl hsm hnd hr ⊢
    have hol : (ordQ (fd.map (·.at_))).length ≤ 10 := by
      have := ordQ_len (fd.map (·.at_)) []
      rw [List.length_map, List.length_nil] at this
      unfold ordQ
      omega
    have hor : ∀ t ∈ ordQ (fd.map (·.at_)), Sm t := fun t ht => by
      obtain ⟨x, h1, rfl⟩ := List.mem_map.mp ((ordQ_mem _ t).mp ht)
      exact sm_t ok (hsm x h1).1 (hsm x h1).2
    have hrow : ∀ t, (stopRow fd wd t).length ≤ 10 := fun t => by
      unfold stopRow
      split
      · simp
      · rw [(sortS_perm _).length_eq]
        have := List.length_filter_le (fun x : Stop Rat => decide (x.at_ = t)) fd
        omega
    refine run_asg (d := .list []) (ed_lst ea_nil) ?_
    refine run_for (enc := encQ) (xs := ordQ (fd.map (·.at_))) (fun pre => [.d (encRs rs), .d (.int wd), .d (.list (fd.map encTQ)), .no, .no, .no, .no, .no, .d (.list ((pre.map (stopRow fd wd)).flatten.map encTQ)), .no]) (fun _ => none)
      (it_seqL (ed_call (ea_cons (ed_lcQ (enc := encTQ) (xs := fd) (f := fun x => x.at_) (it_seqL (ed_var rfl)) (fun y hy => tg_name) (fun y hy => ed_op (x := encTQ y) (ed_var rfl) ed_int opd_ix0T) (by omega)) ea_nil) ⟨_, rfl, by rw [List.length_map]; omega, fun q hq => by
        obtain ⟨x, h1, rfl⟩ := List.mem_map.mp hq
        exact sm_t ok (hsm x h1).1 (hsm x h1).2, rfl⟩)) (by walk_at "sl") rfl ?_ ?_
    · intro pre t post P' e
      have ht : t ∈ ordQ (fd.map (·.at_)) := by rw [e]; simp
      have hpl : pre.length ≤ 10 := by
        have := congrArg List.length e
        rw [List.length_append] at this
        omega
      have hacc := flat_len (stopRow fd wd) 10 hrow pre
      have e2 : ((pre ++ [t]).map (stopRow fd wd)).flatten.map encTQ = (pre.map (stopRow fd wd)).flatten.map encTQ ++ (stopRow fd wd t).map encTQ := by
        rw [List.map_append, List.flatten_append, List.map_append]; simp
      refine ⟨_, _, tg_name, offNone, ?_⟩
      refine run_if (b := !decide ((wd : Rat) < t)) (eb_not (eb_B (ed_call (ea_cons (ed_var rfl) (ea_cons (ed_one (ed_var rfl)) ea_nil)) ⟨_, _, rfl, hor t ht, sm_int hw, rfl⟩))) (fun hb => ?_) (fun hb => ?_)
      · have hb' : ¬ (wd : Rat) < t := by simpa using hb
        have er : stopRow fd wd t = sortS ltQ (fd.filter fun x => decide (x.at_ = t)) := by unfold stopRow; rw [if_neg hb']
        refine run_asg (d := .list (((pre ++ [t]).map (stopRow fd wd)).flatten.map encTQ)) ?_ (run_next (run_turn rfl (by walk_at "sl") rfl))
        rw [e2, er]
        refine ed_op (ed_var rfl) (ed_sortQ (t := t) (ed_is (ed_lc (enc := encTQ) (xs := fd) (p := fun x => decide (x.at_ = t)) (f := encTQ) (it_seqL (ed_var rfl)) (fun y hy => tg_name) (fun y hy => eb_test (ed_op (ed_op (x := encTQ y) (ed_var rfl) ed_int opd_ix0T) (ed_var rfl) opd_eqQ)) (fun y hy _ => ed_var rfl) (by omega)) rfl) (hnd.filter _) (fun x hx => by simpa using (List.mem_filter.mp hx).2)) (opd_cat ?_)
        rw [List.length_map, List.length_map, ← er]
        have := hrow t
        omega
      · have hb' : (wd : Rat) < t := by simpa using hb
        have er : stopRow fd wd t = [] := by unfold stopRow; rw [if_pos hb']
        refine run_next (run_turn rfl ?_ rfl)
        rw [e2, er, List.map_nil, List.append_nil]
        walk_at "sl"
    · exact run_retS (ed_var rfl) hr
end
end K4

/-! ## EdU -/
/-! code that draws: the urn alone changes; what comes is told by a set -/
namespace K4
open PySem PySem.Spec PyProof.Rows L2
abbrev Ur (u : Option Addr) (n : Nat) (V A : Hp) : Prop := ∀ a, u = some a → V a = none ∧ UrnOk A a n
theorem Ur.step {u : Option Addr} {n : Nat} {V A V' A' : Hp} (h : Ur u n V A) (f : Fr none V A V' A') : Ur u n V' A' := fun a e => ⟨f.new a (h a e).1 (h a e).2.ne, (h a e).2.same f.same⟩
theorem Ur.le {u : Option Addr} {n m : Nat} {V A : Hp} (h : Ur u n V A) (e : n ≤ m) : Ur u m V A := fun a q => ⟨(h a q).1, (h a q).2.le e⟩
def EvU (te : TE) (ρ : List Sl) (n m : Nat) (S : PyData → Prop) : Prop := ∀ u σ V A, Slo u V σ ρ → Same V A → Ur u n V A → ∀ Q : VK, (∀ v V' A' d, Fr u V A V' A' → Ur u m V' A' → Is V' v d → S d → Q v A') → te σ A Q
def EvUB (tt : TT) (ρ : List Sl) (n m : Nat) (S : Bool → Prop) : Prop := ∀ u σ V A, Slo u V σ ρ → Same V A → Ur u n V A → ∀ Q : Bool → Hp → Prop, (∀ b V' A', Fr u V A V' A' → Ur u m V' A' → S b → Q b A') → tt σ A Q
def EvUA (ta : TA) (ρ : List Sl) (n m : Nat) (S : List PyData → Prop) : Prop := ∀ u σ V A, Slo u V σ ρ → Same V A → Ur u n V A → ∀ Q : List L2.V → Hp → Prop, (∀ vs V' A' ds, Fr u V A V' A' → Ur u m V' A' → IsL V' vs ds → S ds → Q vs A') → ta σ A Q
section
variable {ρ : List Sl} {n m k : Nat} {te ta tb : TE} {tt tu : TT} {tr : TA} {d : PyData} {S S1 S2 : PyData → Prop}
theorem eu_pure (h : EvD te ρ d) : EvU te ρ n n (fun x => x = d) := fun u σ V A e s z Q q => h u σ V A e s Q fun v V' A' f i => q v V' A' d f.any (z.step f) i rfl
theorem eub_pure {b : Bool} (h : EvB tt ρ b) : EvUB tt ρ n n (fun x => x = b) := fun u σ V A e s z Q q => h u σ V A e s Q fun V' A' f => q b V' A' f.any (z.step f) rfl
theorem eua_pure {ds : List PyData} (h : EvA tr ρ ds) : EvUA tr ρ n n (fun x => x = ds) := fun u σ V A e s z Q q => h u σ V A e s Q fun v V' A' f i => q v V' A' ds f.any (z.step f) i rfl
theorem eu_to {m' : Nat} (h : EvU te ρ n m S) (hm : m ≤ m') (hS : ∀ d, S d → S1 d) : EvU te ρ n m' S1 := fun u σ V A e s z Q q => h u σ V A e s z Q fun v V' A' d f z' i sd => q v V' A' d f (z'.le hm) i (hS d sd)
theorem eu_from {n' : Nat} (h : EvU te ρ n m S) (hn : n' ≤ n) : EvU te ρ n' m S := fun u σ V A e s z Q q => h u σ V A e s (z.le hn) Q q
theorem eub_to {m' : Nat} {T T1 : Bool → Prop} (h : EvUB tt ρ n m T) (hm : m ≤ m') (hS : ∀ d, T d → T1 d) : EvUB tt ρ n m' T1 := fun u σ V A e s z Q q => h u σ V A e s z Q fun b V' A' f z' sd => q b V' A' f (z'.le hm) (hS b sd)
/-- a call of a def that draws -/
def spU (R : List PyData → Nat → Nat → (PyData → Prop) → Prop) : Sp := fun vs A Q _ => ∃ V a ws ds n m S, vs = .ref a :: ws ∧ Same V A ∧ V a = none ∧ UrnOk A a n ∧ IsL V ws ds ∧ R ds n m S ∧ ∀ v V' A' d, Fr (some a) V A V' A' → V' a = none → UrnOk A' a m → Is V' v d → S d → Q v A'
theorem eu_call {R : List PyData → Nat → Nat → (PyData → Prop) → Prop} {i : Nat} {ds : List PyData} (hi : ρ[i]? = some .ur) (ha : EvA tr ρ ds) (h : R ds n m S) : EvU (tCall (spU R) [] E0 (tCons (tVar i) tr)) ρ n m S := fun u σ V A e s z Q q => by
  obtain ⟨a, rfl, hs⟩ := e.urn i hi
  refine ⟨.ref a, hs, ha _ σ V A e s _ fun ws V1 A1 f i1 => ?_⟩
  have z1 := z.step f
  exact ⟨V1, a, ws, ds, n, m, S, by rw [List.append_nil], f.sub, (z1 a rfl).1, (z1 a rfl).2, i1, h, fun v V' A' d f2 g1 g2 iv sd => q v V' A' d (f.any.trans f2) (fun b hb => by cases hb; exact ⟨g1, g2⟩) iv sd⟩
theorem eu_op {r : R2} (ha : EvU ta ρ n m S1) (hb : ∀ x, S1 x → EvU tb ρ m k S2) (hr : ∀ x y, S1 x → S2 y → ∃ z, OpD r x y z ∧ S z) : EvU (tOp r ta tb) ρ n k S := fun u σ V A e s z Q q =>
  ha u σ V A e s z _ fun x V1 A1 d1 f1 k1 i1 s1 => hb d1 s1 u σ V1 A1 (e.mono f1.vw) f1.sub k1 _ fun y V2 A2 d2 f2 k2 i2 s2 => by
    obtain ⟨zz, ho, hs⟩ := hr d1 d2 s1 s2
    exact ho V2 A2 x y f2.sub (i1.mono f2.vw) i2 Q fun t V' A' f it => q t V' A' zz (f1.trans (f2.trans f.any)) (k2.step f) it hs
theorem eu_cb {r : List V → Hp → VK → Prop} {Ss : List PyData → Prop} (ha : EvUA tr ρ n m Ss) (hr : ∀ xs, Ss xs → ∃ z, CaD r xs z ∧ S z) : EvU (tCB r tr) ρ n m S := fun u σ V A e s z Q q =>
  ha u σ V A e s z _ fun xs V1 A1 ds f1 k1 i1 s1 => by
    obtain ⟨zz, ho, hs⟩ := hr ds s1
    exact ho V1 A1 xs f1.sub i1 Q fun t V' A' f it => q t V' A' zz (f1.trans f.any) (k1.step f) it hs
theorem eua_nil : EvUA tNil ρ n n (fun ds => ds = []) := eua_pure ea_nil
theorem eua_cons {Ss : List PyData → Prop} (ha : EvU ta ρ n m S1) (hr : ∀ x, S1 x → EvUA tr ρ m k Ss) : EvUA (tCons ta tr) ρ n k (fun ds => ∃ d ds', ds = d :: ds' ∧ S1 d ∧ Ss ds') := fun u σ V A e s z Q q =>
  ha u σ V A e s z _ fun x V1 A1 d1 f1 k1 i1 s1 => hr d1 s1 u σ V1 A1 (e.mono f1.vw) f1.sub k1 _ fun xs V2 A2 ds f2 k2 i2 s2 => q _ V2 A2 (d1 :: ds) (f1.trans f2) k2 (.cons (i1.mono f2.vw) i2) ⟨d1, ds, rfl, s1, s2⟩
theorem eua_to {m' : Nat} {Ss S' : List PyData → Prop} (h : EvUA tr ρ n m Ss) (hm : m ≤ m') (hS : ∀ d, Ss d → S' d) : EvUA tr ρ n m' S' := fun u σ V A e s z Q q => h u σ V A e s z Q fun v V' A' d f z' i sd => q v V' A' d f (z'.le hm) i (hS d sd)
theorem eua_one (ha : EvU ta ρ n m S1) : EvUA (tCons ta tNil) ρ n m (fun ds => ∃ d, ds = [d] ∧ S1 d) := eua_to (eua_cons ha fun _ _ => eua_nil) (Nat.le_refl m) fun ds ⟨d, ds', h1, h2, h3⟩ => ⟨d, by rw [h1, h3], h2⟩
theorem Ur.alloc {u : Option Addr} {V A : Hp} {p : Addr} {o : HO} (h : Ur u n V A) (hp : A p = none) : Ur u n (upd V p o) (upd A p o) := fun a e => by
  have hne : a ≠ p := fun z => (h a e).2.ne (by rw [z]; exact hp)
  exact ⟨by rw [upd_ne hne]; exact (h a e).1, (h a e).2.same (same_new hp)⟩
theorem eu_tup {Ss : List PyData → Prop} (h : EvUA tr ρ n m Ss) (hl : ∀ ds, Ss ds → ds.length ≤ 100000) : EvU (tTup tr) ρ n m (fun d => ∃ ds, d = .tuple ds ∧ Ss ds) := fun u σ V A e s z Q q =>
  h u σ V A e s z _ fun vs V1 A1 ds f1 k1 i1 s1 => ⟨by rw [i1.length]; exact Nat.le_trans (hl ds s1) (by decide), fun p hp => q _ _ _ _ (f1.trans (Fr.alloc f1.sub hp)) (k1.alloc hp) (.tup upd_same (i1.mono (same_new (none_of f1.sub hp)))) ⟨ds, rfl, s1⟩⟩
theorem eub_test {T : Bool → Prop} (h : EvU te ρ n m S) (hS : ∀ d, S d → ∃ b, d = .bool b ∧ T b) : EvUB (tTest te) ρ n m T := fun u σ V A e s z Q q => h u σ V A e s z _ fun v V1 A1 d f1 k1 i1 s1 => by
  obtain ⟨b, rfl, hb⟩ := hS d s1
  cases i1
  exact ⟨b, rfl, q b V1 A1 f1 k1 hb⟩
theorem eub_B {T : Bool → Prop} (h : EvU te ρ n m S) (hS : ∀ d, S d → ∃ b, d = .bool b ∧ T b) : EvUB (tB te) ρ n m T := fun u σ V A e s z Q q => h u σ V A e s z _ fun v V1 A1 d f1 k1 i1 s1 => by
  obtain ⟨b, rfl, hb⟩ := hS d s1
  cases i1
  exact ⟨b, rfl, q b V1 A1 f1 k1 hb⟩
theorem eub_not {T : Bool → Prop} (h : EvUB tt ρ n m T) : EvUB (tNot tt) ρ n m (fun b => T (!b)) := fun u σ V A e s z Q q => h u σ V A e s z _ fun b V1 A1 f1 k1 s1 => q (!b) V1 A1 f1 k1 (by show T (!!b); rw [Bool.not_not]; exact s1)
theorem eub_and {T T2 : Bool → Prop} (h1 : EvUB tt ρ n m T) (h2 : T true → EvUB tu ρ m k T2) (hm : m ≤ k) : EvUB (tAnd tt tu) ρ n k (fun b => (b = false ∧ T false) ∨ (T true ∧ T2 b)) := fun u σ V A e s z Q q => h1 u σ V A e s z _ fun b V1 A1 f1 k1 s1 => by
  cases b with
  | false => exact iteF (q false V1 A1 f1 (k1.le hm) (.inl ⟨rfl, s1⟩))
  | true => exact iteT (h2 s1 u σ V1 A1 (e.mono f1.vw) f1.sub k1 _ fun b2 V2 A2 f2 k2 s2 => q b2 V2 A2 (f1.trans f2) k2 (.inr ⟨s1, s2⟩))
theorem eu_if {T : Bool → Prop} (h : EvUB tt ρ n m T) (h1 : T true → EvU ta ρ m k S) (h2 : T false → EvU tb ρ m k S) : EvU (tIf tt ta tb) ρ n k S := fun u σ V A e s z Q q => h u σ V A e s z _ fun b V1 A1 f1 k1 s1 => by
  cases b with
  | false => exact iteF (h2 s1 u σ V1 A1 (e.mono f1.vw) f1.sub k1 _ fun v V2 A2 d f2 k2 i s2 => q v V2 A2 d (f1.trans f2) k2 i s2)
  | true => exact iteT (h1 s1 u σ V1 A1 (e.mono f1.vw) f1.sub k1 _ fun v V2 A2 d f2 k2 i s2 => q v V2 A2 d (f1.trans f2) k2 i s2)
/-- [e for x in range(m)]: c draws a turn -/
theorem eu_lcR {j c N : Nat} {P : Nat → Prop} {Ss : List PyData → Prop} (ha : EvUA tr ρ n m Ss) (hN : ∀ ds, Ss ds → ∃ k : Nat, ds = [.int (k : Int)] ∧ k ≤ N ∧ P k) (hNl : N ≤ 100000) (he : ∀ (i : Nat) q, q ≤ m + c * N → EvU te ((wipeS ρ [j]).set j (.d (.int (i : Int)))) q (q + c) S) :
    EvU (tLc (iRng1 tr) (gName j) tYes te [j]) ρ n (m + c * N) (fun d => ∃ ds, d = .list ds ∧ P ds.length ∧ ds.length ≤ N ∧ ∀ x ∈ ds, S x) := fun u σ V A e s z Q q =>
  ha u σ V A e s z _ fun vs P1 A1 ds0 f1 k1 i1 s1 => by
    obtain ⟨kk, rfl, hk, hP⟩ := hN ds0 s1
    have e1 := IsL.ints (ns := [(kk : Int)]) i1
    refine ⟨kk, e1, by omega, by omega, fun D hD => ?_⟩
    have hPD : P1 D = none := none_of f1.sub hD
    have huD : u ≠ some D := fun z => (k1 D z).2.ne hD
    rw [show ((kk : Int)).toNat = kk by omega]
    refine lc_it (n := kk) (walk_range (lo := 0) (n := kk)) (fun i B => ∃ W acc ds, Same P1 W ∧ Same W B ∧ W D = none ∧ B D = some (.lst acc) ∧ IsL W acc ds ∧ ds.length = i ∧ (∀ x ∈ ds, S x) ∧ (∀ a o, u ≠ some a → a ≠ D → A1 a = some o → B a = some o) ∧ (∀ a, A1 a ≠ none → B a ≠ none) ∧ (∀ a, P1 a = none → A1 a ≠ none → W a = none) ∧ Ur u (m + c * i) W B) ?_ (fun _ _ _ _ => trivial) ?_ ?_
    · refine ⟨P1, [], [], Same.refl P1, f1.sub.trans (same_new hD), hPD, upd_same, .nil, rfl, by simp, fun a o _ n h => by rw [upd_ne n]; exact h, fun a h => upd_some h, fun a h _ => h, fun a ea => ⟨(k1 a ea).1, (k1 a ea).2.same (same_new hD)⟩⟩
    · rintro i v B B' hi ⟨W, acc, ds, h1, h2, h3, h4, h5, h6, h7, h8, h9, h10, h11⟩ ⟨rfl, rfl⟩
      dsimp only
      rw [Int.zero_add]
      have env1 : Slo u W (wipe σ [j]) (wipeS ρ [j]) := (e.mono (f1.vw.trans h1)).wipe [j]
      refine ⟨?_, ?_⟩
      · show wipe ((wipe σ [j]).set j (some (.int (i : Int)))) [j] = wipe σ [j]
        show (((σ.set j none).set j (some (.int (i : Int)))).set j none) = σ.set j none
        rw [List.set_set, List.set_set]
      · show te ((wipe σ [j]).set j (some (.int (i : Int)))) B' _
        have hci : c * i ≤ c * N := Nat.mul_le_mul_left c (by omega)
        refine he i (m + c * i) (by omega) u _ W B' (env1.set (.int (i : Int))) h2 h11 _ fun y W3 B3 dy fr3 k3 iy sy => ?_
        have n3 : W3 D = none := fr3.new D h3 (by rw [h4]; simp)
        refine ⟨acc, fr3.up D _ huD h4, ?_, W3, acc ++ [y], ds ++ [dy], h1.trans fr3.vw, ?_, n3, upd_same, (h5.mono fr3.vw).app (.cons iy .nil), by rw [List.length_append, h6]; rfl, ?_, ?_, ?_, ?_, ?_⟩
        · rw [h5.length, h6]
          exact Nat.lt_of_le_of_lt (by omega : i ≤ 100000) (by decide)
        · exact fun a o ha => by rw [upd_ne (ne_of_none ha n3)]; exact fr3.sub a o ha
        · intro x hx
          rcases List.mem_append.mp hx with hx | hx
          · exact h7 x hx
          · rw [List.mem_singleton.mp hx]; exact sy
        · exact fun a o nu na ha => by rw [upd_ne na]; exact fr3.up a o nu (h8 a o nu na ha)
        · exact fun a ha => upd_some (fr3.pr a (h9 a ha))
        · exact fun a ha hb => fr3.new a (h10 a ha hb) (h9 a hb)
        · intro a ea
          obtain ⟨g1, x, b, k', g2, g3⟩ := k3 a ea
          refine ⟨g1, x, b, k', ?_, ?_⟩
          · rw [upd_ne (fun z => huD (by rw [ea, z]))]; exact g2
          · rw [show m + c * (i + 1) = m + c * i + c by rw [Nat.mul_add, Nat.mul_one, Nat.add_assoc]]; exact g3
    · rintro B ⟨W, acc, ds, h1, h2, h3, h4, h5, h6, h7, h8, h9, h10, h11⟩
      refine q (.ref D) (upd W D (.lst acc)) B (.list ds) (f1.trans ⟨fun a o nu h => h8 a o nu (fun z => by rw [z, hD] at h; cases h) h, h9, h1.trans (same_new h3), fun a o h => ?_, fun a ha hb => ?_⟩) (fun a ea => ?_) (.lst upd_same (h5.mono (same_new h3))) ⟨ds, rfl, by rw [h6]; exact hP, by rw [h6]; exact hk, h7⟩
      · by_cases eD : a = D
        · subst eD; rw [upd_same] at h; rw [h4]; exact h
        · rw [upd_ne eD] at h; exact h2 a o h
      · rw [upd_ne (fun z => hb (by rw [z]; exact hD))]
        exact h10 a ha hb
      · obtain ⟨g1, g2⟩ := h11 a ea
        refine ⟨?_, g2.le ?_⟩
        · rw [upd_ne (fun z => huD (by rw [ea, z]))]; exact g1
        · have := Nat.mul_le_mul_left c hk
          omega
end
/-! ### statements -/
section
variable {c : Ct} {P : Hp} {D : Ends} {n m : Nat} {ρ ρ' : List Sl} {own own' : Option (Nat × List PyData)} {te : TE} {tt : TT} {ta : TA} {tz tu tw : TS} {d : PyData} {S : PyData → Prop}
theorem Sta.urn {σ σ' : L2.St} {A V V' A' : Hp} (h1 : Fr c.u c.V0 c.A0 V A) (h2 : Same P V) (h4 : Own c own V σ A) (f : Fr c.u V A V' A') (z : Ur c.u m V' A') (e : Slo c.u V' σ' ρ') (hs : ∀ k ds, own = some (k, ds) → σ'[k]? = σ[k]?) : Sta c P m ρ' own σ' A' :=
  ⟨V', h1.trans f, h2.trans f.vw, e, h4.step f hs, z⟩
theorem run_asgU {i : Nat} (he : EvU te ρ n m S) (h : ∀ d, S d → Run c P D tz m (ρ.set i (.d d)) own) (hk : offOwn own [i] := by first | exact offNone | exact offSome (by decide)) : Run c P D (tSeq (tAsg te (gName i)) tz) n ρ own := fun σ A ⟨V, h1, h2, h3, h4, h5⟩ =>
  he c.u σ V A h3 h1.sub h5 _ fun v V' A' d f z i1 sd => h d sd _ A' (Sta.urn h1 h2 h4 f z ((h3.mono f.vw).set i1) fun k ds e => List.getElem?_set_ne fun z => hk k ds e (by simp [z]))
theorem run_asgTU {g : TG} {js : List Nat} (he : EvU te ρ n m S) (h : ∀ d, S d → ∃ ρ', Tg g js ρ d ρ' ∧ Run c P D tz m ρ' own) (hk : offOwn own js := by first | exact offNone | exact offSome (by decide)) : Run c P D (tSeq (tAsg te g) tz) n ρ own := fun σ A ⟨V, h1, h2, h3, h4, h5⟩ =>
  he c.u σ V A h3 h1.sub h5 _ fun v V' A' d f z i1 sd => by
    obtain ⟨ρ', hg, hr⟩ := h d sd
    exact hg c.u σ V' A' v (h3.mono f.vw) f.sub i1 _ fun σ' e' l' k' => hr σ' A' (Sta.urn h1 h2 h4 f z e' fun k ds e => k' k (hk k ds e))
theorem run_par3U {i j l : Nat} {Ss : List PyData → Prop} (he : EvUA ta ρ n m Ss) (h : ∀ ds, Ss ds → ∃ d1 d2 d3, ds = [d1, d2, d3] ∧ Run c P D tz m (((ρ.set i (.d d1)).set j (.d d2)).set l (.d d3)) own) (hk : offOwn own [i, j, l] := by first | exact offNone | exact offSome (by decide)) : Run c P D (tSeq (tPar3 i j l ta) tz) n ρ own := fun σ A ⟨V, h1, h2, h3, h4, h5⟩ =>
  he c.u σ V A h3 h1.sub h5 _ fun vs V' A' ds f z i1 sd => by
    obtain ⟨d1, d2, d3, rfl, hr⟩ := h ds sd
    cases i1 with
    | cons k1 k2 =>
      cases k2 with
      | cons k2 k3 =>
        cases k3 with
        | cons k3 k4 =>
          cases k4
          exact ⟨_, _, _, rfl, hr _ A' (Sta.urn h1 h2 h4 f z ((((h3.mono f.vw).set k1).set k2).set k3) fun k ds e => by
            have := hk k ds e
            rw [List.getElem?_set_ne (fun z => this (by simp [z])), List.getElem?_set_ne (fun z => this (by simp [z])), List.getElem?_set_ne (fun z => this (by simp [z]))])⟩
theorem run_parNewU {i j : Nat} (he : EvU te ρ n m S) (hij : i ≠ j) (hj : j < ρ.length) (h : ∀ d, S d → Run c P D tz m ((ρ.set i (.d d)).set j .no) (some (j, []))) : Run c P D (tSeq (tPar i j (tCons te (tCons (tLst tNil) tNil))) tz) n ρ none := fun σ A ⟨V, h1, h2, h3, h4, h5⟩ =>
  he c.u σ V A h3 h1.sub h5 _ fun v V' A' d f z i1 sd => ⟨Nat.zero_le _, fun p hp => ⟨v, .ref p, rfl, h d sd _ _ (sta_own (h1.trans f) (h2.trans f.vw) ((h3.mono f.vw).set i1) z hp (by rw [List.length_set, h3.len]; exact hj) .nil)⟩⟩
/-- x, y, own = e, e2, [] by a tuple -/
theorem run_tup3NewU {K : PySem.W.Frag} {te2 : TE} {i j l : Nat} (he : EvU te ρ n m S) (he2 : EvD te2 ρ d) (hl : l < ρ.length) (h : ∀ x, S x → Run c P D tz m (((ρ.set i (.d x)).set j (.d d)).set l .no) (some (l, []))) :
    Run c P D (tSeq (tAsg (tTup (tCons te (tCons te2 (tCons (tLst tNil) tNil)))) (gTup K 3 (gCons (gName i) (gCons (gName j) (gCons (gName l) gNil))))) tz) n ρ none := fun σ A ⟨V, h1, h2, h3, h4, h5⟩ =>
  he c.u σ V A h3 h1.sub h5 _ fun v V1 A1 x f1 z1 i1 sd => he2 c.u σ V1 A1 (h3.mono f1.vw) f1.sub _ fun v2 V' A' f0 i2 => ⟨Nat.zero_le _, fun p hp => ⟨by show 3 ≤ sizeLine; decide, fun q hq => by
    have f : Fr c.u V A V' A' := f1.trans f0.any
    have z : Ur c.u m V' A' := z1.step f0
    have hqA : A' q = none := by
      cases e : A' q with
      | none => rfl
      | some o => rw [same_new hp q o e] at hq; cases hq
    have hpq : p ≠ q := fun e => by subst e; rw [upd_same] at hq; cases hq
    have f2 : Fr none V' A' V' (upd A' q (.tup [v, v2, .ref p])) := Fr.hid f.sub hqA
    have hp2 : (upd A' q (.tup [v, v2, .ref p])) p = none := by rw [upd_ne hpq]; exact hp
    have ew : upd (upd A' p (.lst [])) q (.tup [v, v2, .ref p]) = upd (upd A' q (.tup [v, v2, .ref p])) p (.lst []) := by
      funext b
      unfold upd
      by_cases e1 : b = q
      · rw [if_pos e1]
        by_cases e2 : b = p
        · exact absurd (e2.symm.trans e1) hpq
        · rw [if_neg e2, if_pos e1]
      · rw [if_neg e1]
        by_cases e2 : b = p
        · rw [if_pos e2, if_pos e2]
        · rw [if_neg e2, if_neg e2, if_neg e1]
    refine ⟨q, [v, v2, .ref p], rfl, SqT.of upd_same, rfl, v, [v2, .ref p], rfl, v2, [.ref p], rfl, .ref p, [], rfl, rfl, ?_⟩
    show tz D _ (upd (upd A' p (.lst [])) q (.tup [v, v2, .ref p]))
    rw [ew]
    have ff := f.trans f2.any
    exact h x sd _ _ (sta_own (h1.trans ff) (h2.trans ff.vw) (((h3.mono ff.vw).set (i1.mono f0.vw)).set i2) (z.step f2) hp2 (by rw [List.length_set, List.length_set, h3.len]; exact hl) .nil)⟩⟩
theorem run_appU {K : PySem.W.Frag} {k : Nat} {ds : List PyData} (he : EvU te ρ n m S) (hz : ds.length < 100000) (h : ∀ d, S d → Run c P D tz m ρ (some (k, ds ++ [d]))) : Run c P D (tSeq (tDrop (tBM K "list" rAppend (tVar k) (tCons te tNil))) tz) n ρ (some (k, ds)) := fun σ A ⟨V, h1, h2, h3, h4, h5⟩ => by
  obtain ⟨p, xs, g1, g2, g3, g4, g5, g6⟩ := h4
  refine ⟨.ref p, g1, .inl ⟨rfl, _, .inl (.inl g5)⟩, ?_⟩
  refine he c.u σ V A h3 h1.sub h5 _ fun v V' A' d f z i1 sd => ?_
  have e5 : A' p = some (.lst xs) := f.up _ _ g4 g5
  have n5 : V' p = none := f.new p g3 (by rw [g5]; simp)
  refine ⟨p, xs, v, rfl, rfl, e5, by rw [g6.length]; exact sz_lt' hz, ?_⟩
  have h1' := h1.trans f
  refine h d sd σ _ ⟨V', ⟨fun a o na ha => ?_, fun a ha => upd_some (h1'.pr a ha), h1'.vw, fun a o ha => ?_, h1'.new⟩, h2.trans f.vw, h3.mono f.vw, ⟨p, xs ++ [v], g1, g2, n5, g4, upd_same, (g6.mono f.vw).app (.cons i1 .nil)⟩, fun a ea => ?_⟩
  · rw [upd_ne (fun z => by rw [z, g2] at ha; cases ha)]
    exact h1'.up a o na ha
  · rw [upd_ne (ne_of_none ha n5)]
    exact h1'.sub a o ha
  · obtain ⟨q1, x, b, k', q2, q3⟩ := z a ea
    refine ⟨q1, x, b, k', ?_, q3⟩
    rw [upd_ne (fun z => g4 (by rw [ea, z]))]
    exact q2
theorem run_retU (he : EvU te ρ n m S) (h : ∀ d, S d → Ret c D m d) : Run c P D (tSeq (tRet te) tz) n ρ own := fun σ A ⟨V, h1, h2, h3, h4, h5⟩ =>
  he c.u σ V A h3 h1.sub h5 _ fun v V' A' d f z i1 sd => h d sd v V' A' (h1.trans f) z i1
theorem run_ifU {T : Bool → Prop} (hb : EvUB tt ρ n m T) (h1 : T true → Run c P { D with nx := tz D } tu m ρ own) (h2 : T false → Run c P { D with nx := tz D } tw m ρ own) : Run c P D (tSeq (tIfS tt tu tw) tz) n ρ own := fun σ A ⟨V, k1, k2, k3, k4, k5⟩ =>
  hb c.u σ V A k3 k1.sub k5 _ fun b V' A' f z sb => by
    have s : Sta c P m ρ own σ A' := Sta.urn k1 k2 k4 f z (k3.mono f.vw) fun _ _ _ => rfl
    cases b with
    | true => exact h1 sb σ A' s
    | false => exact h2 sb σ A' s
/-- for, told by a parameter b that the draws choose -/
theorem run_forU {α β : Type} {wi : TI} {g : TG} {tb : TS} {enc : α → PyData} {xs : List α} (I : List α → β → Prop) (b0 : β) (rs : List α → β → List Sl) (ow : List α → β → Option (Nat × List PyData)) (ns : List α → Nat) (hit : ItD wi ρ (xs.map enc)) (h0 : SlLe ρ (rs [] b0)) (ho : own = ow [] b0) (hI : I [] b0) (hn : ns [] = n)
    (hs : ∀ pre x post P' b, xs = pre ++ x :: post → I pre b → ∃ js ρ', Tg g js (rs pre b) (enc x) ρ' ∧ offOwn (ow pre b) js ∧
      Run c P' { D with nx := fun σ A => ∃ b', I (pre ++ [x]) b' ∧ Sta c P' (ns (pre ++ [x])) (rs (pre ++ [x]) b') (ow (pre ++ [x]) b') σ A, ct := fun σ A => ∃ b', I (pre ++ [x]) b' ∧ Sta c P' (ns (pre ++ [x])) (rs (pre ++ [x]) b') (ow (pre ++ [x]) b') σ A, bk := tz D } tb (ns pre) ρ' (ow pre b))
    (hd : ∀ b, I xs b → Run c P D tz (ns xs) (rs xs b) (ow xs b)) : Run c P D (tSeq (tFor wi g tb) tz) n ρ own := fun σ A ⟨V, h1, h2, h3, h4, h5⟩ => by
  refine hit c.u σ V A h3 h1.sub _ fun J P' A1 f wk => ?_
  have s0 : ∃ b, I [] b ∧ Sta c P' (ns []) (rs [] b) (ow [] b) σ A1 := by
    rw [hn]
    rw [ho] at h4
    exact ⟨b0, hI, P', h1.trans f.any, Same.refl P', (h3.mono f.vw).le h0, h4.step f.any fun _ _ _ => rfl, h5.step f⟩
  have hPP : Same P P' := h2.trans f.vw
  refine for_it (n := (xs.map enc).length) wk (fun i σ A => ∃ b, I (xs.take i) b ∧ Sta c P' (ns (xs.take i)) (rs (xs.take i) b) (ow (xs.take i) b) σ A) s0 ?_ ?_ ?_
  · rintro i σ A - ⟨b, -, V', k1, k2, -⟩
    exact k2.trans k1.sub
  · rintro i v σ2 A2 A3 hi ⟨b, hb, W, k1, k2, k3, k4, k5⟩ y
    obtain ⟨W1, d, hd', fr, iv⟩ := y W k2 k1.sub
    rw [List.getElem?_map] at hd'
    obtain ⟨x, hx, rfl⟩ := Option.map_eq_some_iff.mp hd'
    have exs : xs = xs.take i ++ x :: xs.drop (i + 1) := by
      have hlt := (List.getElem?_eq_some_iff.mp hx).1
      have hx' := (List.getElem?_eq_some_iff.mp hx).2
      rw [← hx', List.getElem_cons_drop, List.take_append_drop]
    obtain ⟨js, ρ', tg, off, run⟩ := hs (xs.take i) x (xs.drop (i + 1)) P' b exs hb
    refine tg c.u σ2 W1 A3 v (k3.mono fr.vw) fr.sub iv _ fun σ3 e3 l3 n3 => ?_
    have q := run σ3 A3 ⟨W1, k1.trans fr.any, k2.trans fr.vw, e3, k4.step fr.any fun k ds e => n3 k (off k ds e), k5.step fr⟩
    rw [take_snoc hx]
    exact q
  · rintro σ2 A2 ⟨b, hb, s2⟩
    rw [List.length_map, List.take_length] at s2 hb
    obtain ⟨W, k1, k2, k3, k4, k5⟩ := s2
    exact hd b hb σ2 A2 ⟨W, k1, hPP.trans k2, k3, k4, k5⟩
theorem run_turnU {β : Type} {ρ2 : β → List Sl} {ow : β → Option (Nat × List PyData)} {I : β → Prop} (b : β) (hD : D.nx = fun σ A => ∃ b', I b' ∧ Sta c P m (ρ2 b') (ow b') σ A) (hI : I b) (hn : n ≤ m) (hw : SlLe ρ (ρ2 b)) (ho : own = ow b) : Run c P D tNext n ρ own := fun σ A ⟨V, h1, h2, h3, h4, h5⟩ => by
  show D.nx σ A
  rw [hD]
  refine ⟨b, hI, V, h1, h2, h3.le hw, by rw [← ho]; exact h4, Ur.le h5 hn⟩
end
/-! ### a def -/
def argsU (N : Nat) (ds : List PyData) : List Sl := .ur :: args (N - 1) ds
theorem slo_argsU {H : Hp} {a : Addr} {N : List Str} {vs : List V} {ds : List PyData} (hN : 0 < N.length) (h : IsL H vs ds) : Slo (some a) H (L2.start N (.ref a :: vs)) (argsU N.length ds) := by
  obtain ⟨x, N', rfl⟩ : ∃ x N', N = x :: N' := by cases N with
    | nil => simp at hN
    | cons x N' => exact ⟨x, N', rfl⟩
  have q := slo_args (u := some a) (N := N') h
  have e1 : L2.start (x :: N') (.ref a :: vs) = some (.ref a) :: L2.start N' vs := by
    unfold L2.start
    simp
  rw [e1]
  refine ⟨?_, fun i d e => ?_, fun i e => ?_⟩
  · show _ + 1 = _ + 1
    rw [q.len]; rfl
  · cases i with
    | zero => cases e
    | succ i => exact q.dat i d e
  · cases i with
    | zero => exact ⟨a, rfl, rfl⟩
    | succ i => exact q.urn i e
def BodyU (N : Nat) (t : TS) (ds : List PyData) (n m : Nat) (S : PyData → Prop) : Prop := ∀ a V0 A0 D, (∀ d, S d → Ret ⟨some a, V0, A0⟩ D m d) → Run ⟨some a, V0, A0⟩ V0 D t n (argsU N ds) none
theorem fn_urn {P : Program} {w : World} {K : PySem.W.Frag} {mg : Str → Option Value} {base : Heap} {x qual : Str} {st : Stmt} {f : Addr} {fd : FuncData} {N ps : List Str} {k : Nat} (R : List PyData → Nat → Nat → (PyData → Prop) → Prop) (F : Fun K x qual st f fd) (Sc : FnScope N ps (defScope st)) (hN : 0 < N.length)
    (har : ∀ ds n m S, R ds n m S → ds.length + 1 = ps.length)
    (hbody : ∀ ds n m S, R ds n m S → ∃ t, BodyU N.length t ds n m S ∧ ∀ (cdv : Value) (A : Around) (outer : List PySem.Env) (s : Shared) (H : Hp) (E : XK), Room k (A.deeper (envOfC qual (defScope st) s.heap.objs.size f cdv)) →
      PSs (cxOf CX0 P w K mg base N qual (defScope st) f cdv A outer s H E).nox (defBody st) t) : FnOk P w K mg base CX0 (k + 1) f fd ps (spU R) := by
  refine F.ok Sc (fun vs H Q E h => ?_) (fun cdv A outer s H vs Q E hr h => ?_)
  · obtain ⟨V, a, ws, ds, n, m, S, rfl, _, _, _, i, r, _⟩ := h
    rw [List.length_cons, i.length, har ds n m S r]
  · obtain ⟨V, a, ws, ds, n, m, S, rfl, sv, va, ua, i, r, q⟩ := h
    obtain ⟨t, hb, hp⟩ := hbody ds n m S r
    refine ⟨t, hp cdv A outer s H E hr, ?_⟩
    exact hb a V H { nx := _, rt := Q } (fun d sd v V' A' f z iv => q v V' A' d f (z a rfl).1 (z a rfl).2 iv sd) _ H ⟨V, Fr.refl sv, Same.refl V, slo_argsU hN i, trivial, fun b e => by cases e; exact ⟨va, ua⟩⟩
end K4

/-! ## Ed6 -/
/-! sum of a tuple -/
namespace K4
open PySem PySem.Spec PyProof.Rows L2
section
variable {prog : Program} {w : World} {A : Around} {E : Value → Shared → Prop} {s : Shared} {l : Addr}
theorem sum_tupG {xs : Array (Int × Tok)} {Q : Value → Shared → Prop} (hh : A.handled = none) (hl : s.heap.IsTuple l (intItems xs))
    (h : ∀ h' tk t', (∀ b o, s.heap.get? b = some o → h'.get? b = some o) → Q (.int (preSum (numAt xs) xs.size) t') { s with heap := h', toks := tk }) :
    wpAny (model prog w) A (call (.builtin "sum") [.ref l]) Q E s := by
  have hlt : l < s.heap.objs.size := by obtain ⟨_, e, _⟩ := hl; exact Heap.lt_size e
  refine call_sum_walkG (wpAny_pyIter_tuple hl ?_)
  refine ⟨_, _, _, _, _, _, numAt xs, rfl, Walks.tuple (A := A.in1) hh _ l (Nat.ne_of_lt hlt) (intItems xs), ⟨⟨_, Heap.get?_push_size _ rfl, rfl, rfl⟩, hl.push _⟩, fun b hb => ?_, (fun _ _ => intItems_at), fun h' tk t' hk => ?_⟩
  · show b < (s.heap.push _).objs.size
    rw [Heap.size_push]
    rcases List.mem_cons.mp hb with rfl | hb
    · exact Nat.lt_succ_self _
    · rcases List.mem_cons.mp hb with rfl | hb
      · exact Nat.lt_succ_of_lt hlt
      · cases hb
  · have := h h' tk t' fun b o e => by
      refine hk b o (fun hm => ?_) (Heap.get?_push_of_some _ e)
      rcases List.mem_cons.mp hm with e1 | hm
      · exact absurd (e1 ▸ Heap.lt_size e) (Nat.lt_irrefl _)
      · cases hm
    simpa [intItems] using this
theorem sum_rawT {its : List Value} {ns : List Int} {Q : Value → Shared → Prop} (hh : A.handled = none) (hl : s.heap.IsTuple l its.toArray) (hi : IntsAre its ns)
    (h : ∀ h' tk t', (∀ b o, s.heap.get? b = some o → h'.get? b = some o) → Q (.int ns.sum t') { s with heap := h', toks := tk }) : wpAny (model prog w) A (call (.builtin "sum") [.ref l]) Q E s := by
  obtain ⟨xs, e⟩ := hi.allInts.items
  have hn : numsOf (intItems xs).toList = ns := by rw [← e]; exact hi.numsOf
  rw [nums_intItems] at hn
  rw [e] at hl
  refine sum_tupG hh hl fun h' tk t' hk => ?_
  have := h h' tk t' hk
  rw [preSum_eq, List.take_of_length_le (by simp), hn]; exact this
end
def rSumT (K : PySem.W.Frag) : List V → Hp → VK → Prop := fun vs H Q => ∃ (a : Addr) (ns : List Int), vs = [V.ref a] ∧ SqT K H a (ns.map V.int) ∧ Q (.int ns.sum) H
theorem cr_sumT {X : Cx} (hc : X.calm = true) : CallR X (.builtin "sum") (rSumT X.K) := by
  intro pins s σ H vs us Q I r h
  obtain ⟨a, ns, rfl, hs, q⟩ := h
  obtain ⟨its, rv, hl, _⟩ := I.tuple hs
  rw [Vals.ref1 r]
  exact sum_rawT (I.ok.hd hc) hl rv.ints fun h' tk t' hk => ⟨.int _, H, I.kept hk, ⟨_, rfl⟩, q⟩
theorem cad_sumT {K : PySem.W.Frag} {ns : List Int} : CaD (rSumT K) [.tuple (ns.map PyData.int)] (.int ns.sum) := fun V A vs s h Q q => by
  cases h with
  | cons h1 h2 =>
    cases h2
    cases h1 with
    | tup k1 k2 =>
      have e := k2.ints
      subst e
      exact ⟨_, ns, rfl, SqT.of (s _ _ k1), q _ V A (Fr.refl s) (.int _)⟩
end K4

/-! ## SpecU -/
/-! what each def that draws promises -/
namespace K4
open PySem PySem.Spec PyProof.Rows L2
abbrev RelU := List PyData → Nat → Nat → (PyData → Prop) → Prop
def Below (b : Int) (d : PyData) : Prop := ∃ r : Nat, d = .int (r : Int) ∧ (r : Int) < b
/-- the rules that are drawn -/
structure Drawn (rs : List Rule) : Prop where
  pos : 1 ≤ rs.length
  len : rs.length ≤ 4
  each : ∀ r ∈ rs, 1 ≤ r.s ∧ r.s ≤ 5 ∧ 0 ≤ r.l ∧ r.l ≤ 3 ∧ ∀ m, r.m = some m → r.l ≤ m ∧ m ≤ r.l + 4
  free : ∃ r ∈ rs, r.m = none
def Bent (d : PyData) : Prop := (itemsOf d).length ≤ 100 ∧ SeqAt.shaped d = true
def R_l_take : RelU := fun ds n m S => ∃ b : Int, ds = [.int b] ∧ 1 ≤ b ∧ b ≤ 1000 ∧ n ≤ 100000 ∧ m = n + 1 ∧ S = Below b
def R_l_of : RelU := fun ds n m S => ∃ xs, ds = [.list xs] ∧ 1 ≤ xs.length ∧ xs.length ≤ 1000 ∧ n ≤ 100000 ∧ m = n + 1 ∧ S = fun d => d ∈ xs
def R_l_drawn : RelU := fun ds n m S => ds = [] ∧ n ≤ 1000 ∧ m = n + 30 ∧ S = fun d => ∃ rs, d = encRs rs ∧ Drawn rs
def R_l_bent : RelU := fun ds n m S => ∃ rs, ds = [encRs rs] ∧ Drawn rs ∧ n ≤ 1000 ∧ m = n + 5 ∧ S = Bent
def R_l_rules_right : RelU := fun ds n m S => ∃ rs, ds = [encRs rs] ∧ Drawn rs ∧ n ≤ 1000 ∧ m = n + 3 ∧ S = fun d => d = .bool true
def R_l_right : RelU := fun ds n m S => ds = [] ∧ n ≤ 100 ∧ m = n + 1000 ∧ S = fun d => d = .bool true
def R_l_box : Rel := fun ds d => ∃ c : Int, ds = [.list [.int c], .int 0] ∧ d = .list [.int ((if c < 0 then -c else c) * (if decide (10 ^ 18 ≤ (if c < 0 then -c else c)) = true then 1 else 0)), .int (c % 2305843009213693951 + 39373 * 0 + 2325004), .int 0]
end K4

/-! ## TmsU -/
namespace K4
open PySem PySem.Spec PyProof.Rows L2
def t_l_box (K : PySem.W.Frag) (w : World) : TS :=
  (tSeq (tAsg (tIf (tTest (tOp (rLtI) (tVar 1) (tCB (rLen K) (tCons (tVar 0) tNil)))) (tOp (rIxA K) (tVar 0) (tVar 1)) (tC (.int 0))) (gName 2))
  (tSeq (tRet (tLst (tCons (tOp (rMulA) (tCB (rAbs) (tCons (tVar 2) tNil)) (tCB (rInt1) (tCons (tOp (rGeI) (tCB (rAbs) (tCons (tVar 2) tNil)) (tOp (rPowI) (tC (.int 10)) (tC (.int 18)))) tNil))) (tCons (tOp (rAddA K) (tOp (rAddA K) (tOp (rModI) (tCB (rInt1) (tCons (tVar 2) tNil)) (tC (.int 2305843009213693951))) (tOp (rMulA) (tC (.int 39373)) (tVar 1))) (tC (.int 2325004))) (tCons (tC (.int 0)) tNil)))))
  tNext))

def t_l_take (K : PySem.W.Frag) (w : World) : TS :=
  (tSeq (tIfS (tTest (tOp (rGtI) (tOp (rIxA K) (tVar 0) (tC (.int 0))) (tC (.int 0)))) (tSeq (tAsg (tOp (rModI) (tCB (rInt1) (tCons (tOp (rIxA K) (tVar 0) (tC (.int 0))) tNil)) (tVar 1)) (gName 2))
  (tSeq (tAsg (tOp (rDivI) (tOp (rIxA K) (tVar 0) (tC (.int 0))) (tVar 1)) (gSub (tVar 0) (tC (.int 0)) rSetL))
  (tSeq (tRet (tVar 2))
  tNext))) tNext)
  (tSeq (tAsg (tOp (rAddA K) (tOp (rIxA K) (tVar 0) (tC (.int 2))) (tC (.int 1))) (gSub (tVar 0) (tC (.int 2)) rSetL))
  (tSeq (tAsg (tOp (rModI) (tCB (rInt1) (tCons (tOp (rMulA) (tOp (rAddA K) (tOp (rIxA K) (tVar 0) (tC (.int 1))) (tOp (rMulA) (tC (.int 48271)) (tOp (rIxA K) (tVar 0) (tC (.int 2))))) (tOp (rAddA K) (tC (.int 39373)) (tOp (rIxA K) (tVar 0) (tC (.int 2))))) tNil)) (tC (.int 2147483647))) (gName 3))
  (tSeq (tAsg (tOp (rAddA K) (tOp (rModI) (tCB (rInt1) (tCons (tVar 3) tNil)) (tC (.int 40009))) (tC (.int 7))) (gName 4))
  (tSeq (tAsg (tOp (rModI) (tCB (rInt1) (tCons (tOp (rMulA) (tOp (rAddA K) (tOp (rAddA K) (tVar 3) (tOp (rIxA K) (tVar 0) (tC (.int 2)))) (tOp (rDivI) (tOp (rIxA K) (tVar 0) (tC (.int 1))) (tC (.int 1000003)))) (tVar 4)) tNil)) (tC (.int 2147483629))) (gName 5))
  (tSeq (tRet (tOp (rModI) (tCB (rInt1) (tCons (tOp (rDivI) (tOp (rModI) (tCB (rInt1) (tCons (tOp (rAddA K) (tOp (rMulA) (tVar 5) (tC (.int 48271))) (tVar 3)) tNil)) (tC (.int 2147483587))) (tC (.int 64))) tNil)) (tVar 1)))
  tNext))))))

def t_l_of (K : PySem.W.Frag) (w : World) : TS :=
  (tSeq (tRet (tOp (rIxA K) (tVar 1) (tCall (spU R_l_take) [] E0 (tCons (tVar 0) (tCons (tCB (rLen K) (tCons (tVar 1) tNil)) tNil)))))
  tNext)

def t_l_drawn (K : PySem.W.Frag) (w : World) : TS :=
  (tSeq (tPar 1 2 (tCons (tOp (rAddA K) (tC (.int 1)) (tCall (spU R_l_take) [] E0 (tCons (tVar 0) (tCons (tC (.int 4)) tNil)))) (tCons (tLst tNil) tNil)))
  (tSeq (tAsg (tCall (spU R_l_take) [] E0 (tCons (tVar 0) (tCons (tVar 1) tNil))) (gName 3))
  (tSeq (tFor (iRng1 (tCons (tVar 1) tNil)) (gName 4) (tSeq (tAsg (tOp (rMulA) (tCall (spU R_l_take) [] E0 (tCons (tVar 0) (tCons (tC (.int 4)) tNil))) (tCall (spU R_l_of) [] E0 (tCons (tVar 0) (tCons (tLst (tCons (tC (.int 0)) (tCons (tC (.int 1)) (tCons (tC (.int 1)) tNil)))) tNil)))) (gName 5))
  (tSeq (tAsg (tIf (tAnd (tTest (tOp (rNeD K) (tVar 4) (tVar 3))) (tTest (tOp (rGtI) (tCall (spU R_l_take) [] E0 (tCons (tVar 0) (tCons (tC (.int 3)) tNil))) (tC (.int 0))))) (tOp (rAddA K) (tVar 5) (tCall (spU R_l_take) [] E0 (tCons (tVar 0) (tCons (tC (.int 5)) tNil)))) (tC .non)) (gName 6))
  (tSeq (tDrop (tBM K "list" rAppend (tVar 2) (tCons (tTup (tCons (tOp (rAddA K) (tC (.int 1)) (tCall (spU R_l_take) [] E0 (tCons (tVar 0) (tCons (tC (.int 5)) tNil)))) (tCons (tVar 5) (tCons (tVar 6) tNil)))) tNil)))
  tNext))))
  (tSeq (tRet (tCB (rTupOf K) (tCons (tVar 2) tNil)))
  tNext))))

def t_l_bent (K : PySem.W.Frag) (w : World) : TS :=
  (tSeq (tPar3 2 3 4 (tCons (tCall (spU R_l_take) [] E0 (tCons (tVar 0) (tCons (tCB (rLen K) (tCons (tVar 1) tNil)) tNil))) (tCons (tCall (spU R_l_take) [] E0 (tCons (tVar 0) (tCons (tC (.int 3)) tNil))) (tCons (tCall (spU R_l_take) [] E0 (tCons (tVar 0) (tCons (tC (.int 6)) tNil))) tNil))))
  (tSeq (tAsg (tOp (rIxA K) (tVar 1) (tVar 2)) (gName 5))
  (tSeq (tIfS (tTest (tOp (rEqD K) (tVar 4) (tC (.int 0)))) (tSeq (tRet (tCall (spU R_l_of) [] E0 (tCons (tVar 0) (tCons (tLst (tCons (tCB (rListOf K) (tCons (tVar 1) tNil)) (tCons (tOp (rAddA K) (tSl (rSlX K) (tVar 1) tNoPart (tPart (tVar 2))) (tSl (rSlX K) (tVar 1) (tPart (tOp (rAddA K) (tVar 2) (tC (.int 1)))) tNoPart)) (tCons (tOp (rAddA K) (tOp (rAddA K) (tSl (rSlX K) (tVar 1) tNoPart (tPart (tVar 2))) (tTup (tCons (tCB (rListOf K) (tCons (tVar 5) tNil)) tNil))) (tSl (rSlX K) (tVar 1) (tPart (tOp (rAddA K) (tVar 2) (tC (.int 1)))) tNoPart)) (tCons (tOp (rAddA K) (tVar 1) (tTup (tCons (tTup (tCons (tOp (rIxA K) (tVar 5) (tC (.int 0))) (tCons (tOp (rIxA K) (tVar 5) (tC (.int 1))) tNil))) tNil))) tNil))))) tNil))))
  tNext) tNext)
  (tSeq (tAsg (tIf (tOr (tTest (tOp (rLtI) (tVar 4) (tC (.int 3)))) (tTest (tOp rIsNon (tOp (rIxA K) (tVar 5) (tVar 3)) (tC .non)))) (tCall (spU R_l_of) [] E0 (tCons (tVar 0) (tCons (tLst (tCons (tC .non) (tCons (tC (.bl true)) (tCons (tC (.bl false)) (tCons (tUn rNegI (tC (.int 1))) (tCons (tC (.int 0)) (tCons (tC (.str (Str.ofString "1"))) (tCons (tTup (tCons (tC (.int 1)) tNil)) tNil)))))))) tNil))) (tOp (rAddA K) (tOp (rIxA K) (tVar 5) (tVar 3)) (tCall (spU R_l_of) [] E0 (tCons (tVar 0) (tCons (tLst (tCons (tC (.int 1)) (tCons (tUn rNegI (tC (.int 1))) (tCons (tUn rNegI (tC (.int 2))) (tCons (tC (.int 3)) tNil))))) tNil))))) (gName 6))
  (tSeq (tRet (tOp (rAddA K) (tOp (rAddA K) (tSl (rSlX K) (tVar 1) tNoPart (tPart (tVar 2))) (tTup (tCons (tOp (rAddA K) (tOp (rAddA K) (tSl (rSlX K) (tVar 5) tNoPart (tPart (tVar 3))) (tTup (tCons (tVar 6) tNil))) (tSl (rSlX K) (tVar 5) (tPart (tOp (rAddA K) (tVar 3) (tC (.int 1)))) tNoPart)) tNil))) (tSl (rSlX K) (tVar 1) (tPart (tOp (rAddA K) (tVar 2) (tC (.int 1)))) tNoPart)))
  tNext)))))

def t_l_by_hand_right (K : PySem.W.Frag) (w : World) : TS :=
  (tSeq (tAsg (tTup (tCons (tTup (tCons (tC (.int 1)) (tCons (tC (.int 2)) (tCons (tC .non) tNil)))) (tCons (tTup (tCons (tC (.int 2)) (tCons (tC (.int 0)) (tCons (tC (.int 3)) tNil)))) (tCons (tTup (tCons (tC (.int 1)) (tCons (tC (.int 0)) (tCons (tC .non) tNil)))) tNil)))) (gName 0))
  (tSeq (tAsg (tLst (tCons (tLc (iRng1 (tCons (tC (.int 3)) tNil)) (gName 4) tYes (tCall (spD R_p_width_given) [] E0 (tCons (tVar 0) (tCons (tVar 4) (tCons (tC (.int 6)) tNil)))) [4]) (tCons (tCall (spD R_p_rule_layout) [] E0 (tCons (tVar 0) (tCons (tC (.int 3)) tNil))) (tCons (tCall (spD R_p_free_at) [] E0 (tCons (tVar 0) (tCons (tC (.int 6)) tNil))) (tCons (tCall (spD R_p_stops) [] E0 (tCons (tVar 0) (tCons (tC (.int 7)) tNil))) tNil))))) (gName 1))
  (tSeq (tAsg (tLst (tCons (tLst (tCons (tTup (tCons (tC (.int 2)) (tCons (tC (.int 1)) tNil))) (tCons (tTup (tCons (tC (.int 8)) (tCons (tC (.int 3)) tNil))) (tCons (tTup (tCons (tC (.int 4)) (tCons (tC (.int 3)) tNil))) tNil)))) (tCons (tTup (tCons (tC (.int 3)) (tCons (tTup (tCons (tTup (tCons (tC (.int 0)) (tCons (tC (.int 3)) (tCons (tC (.int 6)) (tCons (tC (.int 6)) tNil))))) (tCons (tTup (tCons (tC (.int 0)) (tCons (tC (.int 0)) (tCons (tC (.int 0)) (tCons (tC (.int 2)) tNil))))) (tCons (tTup (tCons (tC (.int 0)) (tCons (tC (.int 0)) (tCons (tC (.int 0)) (tCons (tC (.int 1)) tNil))))) tNil)))) tNil))) (tCons (tTup (tCons (tC (.int 1)) (tCons (tC (.int 2)) tNil))) tNil)))) (gName 2))
  (tSeq (tDrop (tBM K "list" rAppend (tVar 2) (tCons (tLst (tCons (tTup (tCons (tTup (tCons (tC (.int 2)) (tCons (tC (.int 1)) tNil))) (tCons (tC (.int 1)) (tCons (tC (.str (Str.ofString "least"))) tNil)))) (tCons (tTup (tCons (tTup (tCons (tC (.int 2)) (tCons (tC (.int 1)) tNil))) (tCons (tC (.int 2)) (tCons (tC (.str (Str.ofString "least"))) tNil)))) (tCons (tTup (tCons (tTup (tCons (tC (.int 13)) (tCons (tC (.int 2)) tNil))) (tCons (tC (.int 1)) (tCons (tC (.str (Str.ofString "most"))) tNil)))) (tCons (tTup (tCons (tTup (tCons (tC (.int 7)) (tCons (tC (.int 1)) tNil))) (tCons (tC (.int 0)) (tCons (tC (.str (Str.ofString "least"))) tNil)))) tNil))))) tNil)))
  (tSeq (tAsg (tLst (tCons (tCall (spD R_l_exact) [] E0 (tCons (tVar 0) (tCons (tC (.int 6)) tNil))) (tCons (tCall (spD R_l_layout) [] E0 (tCons (tLc (iRng1 (tCons (tC (.int 4)) tNil)) (gName 5) tYes (tCall (spD R_l_exact) [] E0 (tCons (tVar 0) (tCons (tVar 5) tNil))) [5]) tNil)) (tCons (tCall (spD R_l_free) [] E0 (tCons (tVar 0) (tCons (tC (.int 6)) tNil))) (tCons (tCall (spD R_l_stops) [] E0 (tCons (tVar 0) (tCons (tC (.int 7)) tNil))) tNil))))) (gName 3))
  (tSeq (tRet (tAndV (tCall (spD (R_l_same 12)) [] E0 (tCons (tVar 1) (tCons (tVar 2) tNil))) (tCall (spD (R_l_same 12)) [] E0 (tCons (tVar 3) (tCons (tVar 2) tNil)))))
  tNext))))))

def t_l_rules_right (K : PySem.W.Frag) (w : World) : TS :=
  (tSeq (tAsg (tCall (spU R_l_take) [] E0 (tCons (tVar 0) (tCons (tC (.int 13)) tNil))) (gName 2))
  (tSeq (tAsg (tLc (iRng1 (tCons (tOp (rAddA K) (tVar 2) (tC (.int 1))) tNil)) (gName 7) tYes (tCall (spD R_l_exact) [] E0 (tCons (tVar 1) (tCons (tVar 7) tNil))) [7]) (gName 3))
  (tSeq (tAsg (tCall (spD (R_l_lists 12)) [] E0 (tCons (tVar 1) tNil)) (gName 4))
  (tSeq (tAsg (tLst (tCons (tCall (spD R_p_rule_layout) [] E0 (tCons (tVar 4) (tCons (tVar 2) tNil))) (tCons (tLc (iRng1 (tCons (tOp (rAddA K) (tVar 2) (tC (.int 1))) tNil)) (gName 7) tYes (tCall (spD R_p_free_at) [] E0 (tCons (tVar 1) (tCons (tVar 7) tNil))) [7]) (tCons (tCall (spD R_p_stops) [] E0 (tCons (tVar 1) (tCons (tVar 2) tNil))) (tCons (tCall (spD R_p_stops) [] E0 (tCons (tVar 4) (tCons (tOp (rMulA) (tC (.int 2)) (tVar 2)) tNil))) tNil))))) (gName 5))
  (tSeq (tAsg (tLst (tCons (tCall (spD R_l_layout) [] E0 (tCons (tVar 3) tNil)) (tCons (tLc (iRng1 (tCons (tOp (rAddA K) (tVar 2) (tC (.int 1))) tNil)) (gName 7) tYes (tCall (spD R_l_free) [] E0 (tCons (tVar 1) (tCons (tVar 7) tNil))) [7]) (tCons (tCall (spD R_l_stops) [] E0 (tCons (tVar 1) (tCons (tVar 2) tNil))) (tCons (tCall (spD R_l_stops) [] E0 (tCons (tVar 1) (tCons (tOp (rMulA) (tC (.int 2)) (tVar 2)) tNil))) tNil))))) (gName 6))
  (tSeq (tAsg (tTup (tCons (tCall (spU R_l_take) [] E0 (tCons (tVar 0) (tCons (tC (.int 25)) tNil))) (tCons (tOp (rAddA K) (tC (.int 2)) (tCall (spU R_l_take) [] E0 (tCons (tVar 0) (tCons (tC (.int 2)) tNil)))) tNil))) (gTup K 2 (gCons (gName 7) (gCons (gName 8) gNil))))
  (tSeq (tAsg (tCB (rTupOf K) (tCons (tLc (iSeqA K (tVar 1)) (gName 11) tYes (tTup (tCons (tOp (rIxA K) (tVar 11) (tC (.int 0))) (tCons (tOp (rMulA) (tOp (rIxA K) (tVar 11) (tC (.int 1))) (tVar 8)) (tCons (tIf (tTest (tOp rIsNon (tOp (rIxA K) (tVar 11) (tC (.int 2))) (tC .non))) (tC .non) (tOp (rMulA) (tOp (rIxA K) (tVar 11) (tC (.int 2))) (tVar 8))) tNil)))) [11]) tNil)) (gName 9))
  (tSeq (tAsg (tOp (rAddA K) (tVar 5) (tLst (tCons (tLc (iRng1 (tCons (tCB (rLen K) (tCons (tVar 1) tNil)) tNil)) (gName 12) tYes (tCall (spD R_p_width_given) [] E0 (tCons (tVar 4) (tCons (tVar 12) (tCons (tVar 7) tNil)))) [12]) (tCons (tLc (iRng1 (tCons (tCB (rLen K) (tCons (tVar 1) tNil)) tNil)) (gName 12) tYes (tCall (spD R_p_width_given) [] E0 (tCons (tVar 9) (tCons (tVar 12) (tCons (tOp (rMulA) (tVar 7) (tVar 8)) tNil)))) [12]) tNil)))) (gName 5))
  (tSeq (tAsg (tCall (spD R_l_exact) [] E0 (tCons (tVar 1) (tCons (tVar 7) tNil))) (gName 10))
  (tSeq (tRet (tCall (spD (R_l_same 12)) [] E0 (tCons (tVar 5) (tCons (tOp (rAddA K) (tVar 6) (tLst (tCons (tVar 10) (tCons (tLc (iSeqA K (tVar 10)) (gName 11) tYes (tCall (spD R_l_times) [] E0 (tCons (tVar 11) (tCons (tTup (tCons (tVar 8) (tCons (tC (.int 1)) tNil))) tNil))) [11]) tNil)))) tNil))))
  tNext))))))))))

def t_l_right (K : PySem.W.Frag) (w : World) : TS :=
  (tSeq (tAsg (tCall (spU R_l_drawn) [] E0 (tCons (tVar 0) tNil)) (gName 1))
  (tSeq (tIfS (tNot (tB (tCall (spU R_l_rules_right) [] E0 (tCons (tVar 0) (tCons (tVar 1) tNil))))) (tSeq (tRet (tC (.bl false)))
  tNext) tNext)
  (tSeq (tAsg (tOp (rAddA K) (tLst (tCons (tVar 1) tNil)) (tLc (iRng1 (tCons (tC (.int 4)) tNil)) (gName 13) tYes (tCall (spU R_l_bent) [] E0 (tCons (tVar 0) (tCons (tVar 1) tNil))) [13])) (gName 2))
  (tSeq (tIfS (tNot (tB (tCall (spD (R_l_same 12)) [] E0 (tCons (tLc (iSeqA K (tVar 2)) (gName 11) tYes (tCall (spD R_p_is_rules) [] E0 (tCons (tVar 11) tNil)) [11]) (tCons (tLc (iSeqA K (tVar 2)) (gName 11) tYes (tCall (spD R_l_are_rules) [] E0 (tCons (tVar 11) tNil)) [11]) tNil))))) (tSeq (tRet (tC (.bl false)))
  tNext) tNext)
  (tSeq (tAsg (tTup (tCons (tCB (rTupOf K) (tCons (tLc (iRng1 (tCons (tOp (rAddA K) (tC (.int 1)) (tCall (spU R_l_take) [] E0 (tCons (tVar 0) (tCons (tC (.int 4)) tNil)))) tNil)) (gName 13) tYes (tOp (rAddA K) (tC (.int 1)) (tCall (spU R_l_take) [] E0 (tCons (tVar 0) (tCons (tC (.int 5)) tNil)))) [13]) tNil)) (tCons (tCall (spU R_l_take) [] E0 (tCons (tVar 0) (tCons (tC (.int 9)) tNil))) tNil))) (gTup K 2 (gCons (gName 3) (gCons (gName 4) gNil))))
  (tSeq (tAsg (tLc (iRng1 (tCons (tOp (rAddA K) (tVar 4) (tC (.int 1))) tNil)) (gName 14) tYes (tLc (iSeqA K (tVar 3)) (gName 11) tYes (tCall (spD R_l_frac) [] E0 (tCons (tOp (rMulA) (tVar 14) (tVar 11)) (tCons (tCB (rSumT K) (tCons (tVar 3) tNil)) tNil))) [11]) [14]) (gName 5))
  (tSeq (tAsg (tOp (rAddA K) (tC (.int 1)) (tCall (spU R_l_take) [] E0 (tCons (tVar 0) (tCons (tC (.int 5)) tNil)))) (gName 6))
  (tSeq (tAsg (tLc (iRng1 (tCons (tOp (rAddA K) (tVar 4) (tC (.int 1))) tNil)) (gName 14) tYes (tOp (rMulA) (tLst (tCons (tCall (spD R_l_frac) [] E0 (tCons (tVar 14) (tCons (tVar 6) tNil))) tNil)) (tVar 6)) [14]) (gName 7))
  (tSeq (tAsg (tTup (tCons (tLc (iRng1 (tCons (tCall (spU R_l_take) [] E0 (tCons (tVar 0) (tCons (tC (.int 4)) tNil))) tNil)) (gName 13) tYes (tOp (rAddA K) (tC (.int 1)) (tCall (spU R_l_take) [] E0 (tCons (tVar 0) (tCons (tC (.int 4)) tNil)))) [13]) (tCons (tC (.int 0)) (tCons (tLst tNil) tNil)))) (gTup K 3 (gCons (gName 8) (gCons (gName 9) (gCons (gName 10) gNil)))))
  (tSeq (tFor (iSeqA K (tOp (rAddA K) (tVar 8) (tLst (tCons (tC (.int 40)) tNil)))) (gName 11) (tSeq (tDrop (tBM K "list" rAppend (tVar 10) (tCons (tCB (rTupOf K) (tCons (tLc (iRng1 (tCons (tOp (rAddA K) (tVar 4) (tC (.int 1))) tNil)) (gName 14) tYes (tCB (rMax2) (tCons (tC (.int 0)) (tCons (tCB (rMin2) (tCons (tOp (rSubI) (tVar 14) (tVar 9)) (tCons (tVar 11) tNil))) tNil))) [14]) tNil)) tNil)))
  (tSeq (tAsg (tOp (rAddA K) (tVar 9) (tVar 11)) (gName 9))
  tNext)))
  (tSeq (tAsg (tLst (tCons (tCall (spD R_p_by_shares) [] E0 (tCons (tVar 3) (tCons (tVar 4) tNil))) (tCons (tCall (spD R_p_by_shares) [] E0 (tCons (tCB (rListOf K) (tCons (tVar 3) tNil)) (tCons (tVar 4) tNil))) (tCons (tCall (spD R_p_even) [] E0 (tCons (tVar 6) (tCons (tVar 4) tNil))) (tCons (tCall (spD R_p_by_turns) [] E0 (tCons (tCB (rTupOf K) (tCons (tVar 8) tNil)) (tCons (tVar 4) tNil))) (tCons (tCall (spD R_p_by_turns) [] E0 (tCons (tVar 8) (tCons (tVar 4) tNil))) tNil)))))) (gName 12))
  (tSeq (tRet (tCall (spD (R_l_same 12)) [] E0 (tCons (tVar 12) (tCons (tOp (rAddA K) (tOp (rAddA K) (tOp (rMulA) (tLst (tCons (tCall (spD R_l_layout) [] E0 (tCons (tVar 5) tNil)) tNil)) (tC (.int 2))) (tLst (tCons (tCall (spD R_l_layout) [] E0 (tCons (tVar 7) tNil)) tNil))) (tOp (rMulA) (tLst (tCons (tTup (tCons (tC (.int 1)) (tCons (tCB (rTupOf K) (tCons (tVar 10) tNil)) tNil))) tNil)) (tC (.int 2)))) tNil))))
  tNext))))))))))))

end K4

/-! ## RunsU1 -/
/-! take, of, box -/
namespace K4
open PySem PySem.Spec PyProof.Rows L2
local macro_rules | `(tactic| walk_at "sl") => `(tactic| repeat' (first | exact sl_nil | refine sl_same ?_ | refine sl_no ?_))
local macro_rules | `(tactic| walk_at "ed1") => `(tactic| first
  | ((with_reducible apply ed_var); (exact rfl))
  | with_reducible exact ed_int | with_reducible exact ed_non | with_reducible exact ed_bl | with_reducible exact ed_str | with_reducible exact ea_nil | with_reducible exact eo_none | with_reducible exact eb_yes
  | with_reducible apply ed_isInt | with_reducible apply ed_isBool | with_reducible apply ed_isList | with_reducible apply ed_isTup
  | with_reducible apply ed_op | with_reducible apply ed_un | with_reducible apply ed_cb | with_reducible apply ea_cons | with_reducible apply eo_some | with_reducible apply ed_tup | with_reducible apply ed_lst | with_reducible apply ed_sl
  | with_reducible apply eb_test | with_reducible apply eb_B | with_reducible apply eb_not | with_reducible apply ed_notV
  | with_reducible exact opd_add | with_reducible exact opd_sub | with_reducible exact opd_lt | with_reducible exact opd_le | with_reducible exact opd_gt | with_reducible exact opd_ge | with_reducible exact und_neg
  | with_reducible exact opd_isNO | with_reducible exact opd_notNO | with_reducible exact opd_isN | with_reducible exact opd_notN | with_reducible exact opd_eqI | with_reducible exact opd_neI | with_reducible exact opd_eqO | with_reducible exact opd_eqO' | with_reducible exact opd_neO | with_reducible exact opd_neO'
  | with_reducible apply opd_mul | with_reducible apply opd_div | with_reducible apply opd_mod
  | exact opd_ix0T | exact opd_ix1T | exact opd_ix2T
  | with_reducible exact cad_max | with_reducible exact cad_min | with_reducible exact cad_abs | with_reducible exact cad_intI | with_reducible exact cad_intB | with_reducible exact cad_gcd | with_reducible apply cad_lcm
  | exact cad_sumI | exact cad_sum | exact cad_all | exact cad_any | exact cad_len | exact cad_lenT | exact cad_tupL | exact cad_lstL | exact cad_lstT
  | exact sld_L | exact sld_T
  | (show List.length _ ≤ 100000; simp only [List.length_cons, List.length_nil]; omega)
  | exact cmul_l (by omega) (by omega) | exact cmul_r (by omega) (by omega)
  | exact opd_notN | exact opd_isN)
local macro_rules | `(tactic| walk_at "ed") => `(tactic| repeat' (walk_at "ed1"))
section
variable {K : PySem.W.Frag} {w : World} {σ : L2.St} {H : Hp} {ta tb te : TE} {tz : TS} {D : Ends}
abbrev EvR (te : TE) (σ : L2.St) (H : Hp) (v : L2.V) : Prop := ∀ Q : VK, Q v H → te σ H Q
theorem er_var {i : Nat} {v : L2.V} (h : σ[i]? = some (some v)) : EvR (tVar i) σ H v := fun Q q => ⟨v, h, q⟩
theorem er_int {i : Int} : EvR (tC (.int i)) σ H (.int i) := fun Q q => q
theorem er_rI {C : Int → Int → Prop} {g : Int → Int → L2.V} {i j : Int} (ha : EvR ta σ H (.int i)) (hb : EvR tb σ H (.int j)) (hc : C i j) : EvR (tOp (rI C g) ta tb) σ H (g i j) := fun Q q => ha _ (hb _ ⟨i, j, rfl, rfl, hc, q⟩)
theorem er_rI0 {g : Int → Int → L2.V} {i j : Int} (ha : EvR ta σ H (.int i)) (hb : EvR tb σ H (.int j)) : EvR (tOp (rI0 g) ta tb) σ H (g i j) := fun Q q => ha _ (hb _ ⟨i, j, rfl, rfl, q⟩)
theorem er_add {i j : Int} (ha : EvR ta σ H (.int i)) (hb : EvR tb σ H (.int j)) : EvR (tOp (rAddA K) ta tb) σ H (.int (i + j)) := fun Q q => ha _ (hb _ (.inl ⟨i, j, rfl, rfl, q⟩))
theorem er_mul {i j : Int} (ha : EvR ta σ H (.int i)) (hb : EvR tb σ H (.int j)) (hc : CMul i j) : EvR (tOp rMulA ta tb) σ H (.int (i * j)) := fun Q q => ha _ (hb _ (.inl ⟨i, j, rfl, rfl, hc, q⟩))
theorem er_ix {p : Addr} {xs : List L2.V} {v : L2.V} {i : Int} {j : Nat} (ha : EvR ta σ H (.ref p)) (hH : H p = some (.lst xs)) (hx : xs[j]? = some v) (e : i = (j : Int)) : EvR (tOp (rIxA K) ta (tC (.int i))) σ H v := fun Q q => ha _ (.inl ⟨p, xs, i, v, rfl, rfl, SqL.of hH, by rw [e]; exact atI_nat hx, q⟩)
theorem er_int1 {i : Int} (ha : EvR ta σ H (.int i)) : EvR (tCB rInt1 (tCons ta tNil)) σ H (.int i) := fun Q q => ha _ (.inl ⟨i, rfl, q⟩)
theorem raw_asg {i : Nat} {v : L2.V} (h : EvR te σ H v) (k : tz D (σ.set i (some v)) H) : tSeq (tAsg te (gName i)) tz D σ H := h _ k
theorem raw_sub {j n : Nat} {i : Int} {p : Addr} {xs : List L2.V} {v : L2.V} (h : EvR te σ H v) (hj : σ[j]? = some (some (.ref p))) (hH : H p = some (.lst xs)) (hx : ixN xs.length i = some n) (k : tz D σ (upd H p (.lst (xs.set n v)))) : tSeq (tAsg te (gSub (tVar j) (tC (.int i)) rSetL)) tz D σ H :=
  h _ ⟨.ref p, hj, p, xs, i, n, rfl, rfl, hH, hx, k⟩
theorem raw_ret {v : L2.V} (h : EvR te σ H v) (k : D.rt v H) : tSeq (tRet te) tz D σ H := h _ k
theorem Fr.urn {V A : Hp} {a : Addr} {o : HO} (s : Same V A) (hv : V a = none) (ha : A a ≠ none) : Fr (some a) V A V (upd A a o) :=
  ⟨fun b x n e => by rw [upd_ne (fun z => n (by rw [z]))]; exact e, fun b h => upd_some h, Same.refl V, fun b x e => by rw [upd_ne (ne_of_none e hv)]; exact s b x e, fun b h _ => h⟩
theorem body_l_take {ds : List PyData} {n m : Nat} {S : PyData → Prop} (h : R_l_take ds n m S) : BodyU 6 (t_l_take K w) ds n m S := by
  obtain ⟨b, rfl, hb1, hb2, hn, rfl, rfl⟩ := h
  intro a V0 A0 D hr σ A ⟨V, h1, h2, h3, h4, h5⟩
  obtain ⟨hVa, x, bb, k, hA, hx, hbb, hbb2, hk, hkn⟩ := h5 a rfl
  obtain ⟨a', ea, s0⟩ := h3.urn 0 rfl
  cases ea
  obtain ⟨v1, s1, i1⟩ := h3.dat 1 (.int b) rfl
  cases i1
  have hl : σ.length = 6 := h3.len
  match σ, hl, s0, s1 with
  | [y0, y1, y2, y3, y4, y5], _, s0, s1 =>
    have e0 : y0 = some (.ref a) := Option.some.inj s0
    have e1 : y1 = some (.int b) := Option.some.inj s1
    subst e0 e1
    have hne : A a ≠ none := by rw [hA]; simp
    have fin : ∀ (r : Int) (A' : Hp) (x' k' : Int), A' = upd A a (.lst [.int x', .int bb, .int k']) → 0 ≤ x' → 0 ≤ k' → k' ≤ ((n + 1 : Nat) : Int) → 0 ≤ r → r < b → D.rt (.int r) A' := fun r A' x' k' eA hx' hk' hk2 hr0 hrb => by
      have er : r = ((r.toNat : Nat) : Int) := by omega
      rw [er]
      subst eA
      refine hr (.int ((r.toNat : Nat) : Int)) ⟨r.toNat, rfl, by omega⟩ _ V _ (h1.trans (Fr.urn h1.sub hVa hne)) (fun c ec => ?_) (.int _)
      cases ec
      exact ⟨hVa, x', bb, k', upd_same, hx', hbb, hbb2, hk', hk2⟩
    have q0 : EvR (tOp (rIxA K) (tVar 0) (tC (.int 0))) [some (.ref a), some (.int b), y2, y3, y4, y5] A (.int x) := er_ix (j := 0) (er_var rfl) hA rfl rfl
    refine er_rI0 q0 er_int _ ⟨_, rfl, ?_⟩
    dsimp only
    by_cases hpos : 0 < x
    · rw [if_pos (decide_eq_true hpos)]
      refine raw_asg (er_rI (er_int1 q0) (er_var rfl) (show 0 < b by omega)) ?_
      refine raw_sub (n := 0) (i := 0) (p := a) (er_rI (er_ix (j := 0) (er_var rfl) hA rfl rfl) (er_var rfl) ⟨by omega, by omega⟩) rfl hA rfl ?_
      refine raw_ret (er_var rfl) ?_
      refine fin _ _ (x / b) k rfl (Int.ediv_nonneg hx (by omega)) hk (by omega) (Int.emod_nonneg _ (by omega)) (Int.emod_lt_of_pos _ (by omega))
    · rw [if_neg (by rw [decide_eq_false hpos]; simp)]
      show tSeq _ _ D _ _
      refine raw_sub (n := 2) (i := 2) (p := a) (er_add (er_ix (j := 2) (er_var rfl) hA rfl rfl) er_int) rfl hA rfl ?_
      have hA2 : (upd A a (.lst ([.int x, .int bb, .int k].set 2 (.int (k + 1))))) a = some (.lst [.int x, .int bb, .int (k + 1)]) := upd_same
      have hk1 : 0 ≤ k + 1 ∧ k + 1 < 2 ^ 60 := by omega
      refine raw_asg (er_rI (er_int1 (er_mul (er_add (er_ix (j := 1) (er_var rfl) hA2 rfl rfl) (er_mul er_int (er_ix (j := 2) (er_var rfl) hA2 rfl rfl) (cmul_l (by decide) (by decide)))) (er_add er_int (er_ix (j := 2) (er_var rfl) hA2 rfl rfl)) (cmul_r (by omega) (by omega)))) er_int (show (0 : Int) < 2147483647 by decide)) ?_
      generalize ((bb + 48271 * (k + 1)) * (39373 + (k + 1))) % 2147483647 = once
      refine raw_asg (er_add (er_rI (er_int1 (er_var rfl)) er_int (show (0 : Int) < 40009 by decide)) er_int) ?_
      have hfar : 0 ≤ once % 40009 + 7 ∧ once % 40009 + 7 < 50000 := by omega
      generalize once % 40009 + 7 = far at hfar ⊢
      refine raw_asg (er_rI (er_int1 (er_mul (er_add (er_add (er_var rfl) (er_ix (j := 2) (er_var rfl) hA2 rfl rfl)) (er_rI (er_ix (j := 1) (er_var rfl) hA2 rfl rfl) er_int (show CDiv _ _ from ⟨by decide, by decide⟩))) (er_var rfl) (cmul_r (by omega) (by omega)))) er_int (show (0 : Int) < 2147483629 by decide)) ?_
      generalize ((once + (k + 1) + bb / 1000003) * far) % 2147483629 = twice
      refine raw_ret (er_rI (er_int1 (er_rI (er_rI (er_int1 (er_add (er_mul (er_var rfl) er_int (cmul_r (by decide) (by decide))) (er_var rfl))) er_int (show (0 : Int) < 2147483587 by decide)) er_int (show CDiv _ _ from ⟨by decide, by decide⟩))) (er_var rfl) (show 0 < b by omega)) ?_
      exact fin _ _ x (k + 1) rfl hx (by omega) (by omega) (Int.emod_nonneg _ (by omega)) (Int.emod_lt_of_pos _ (by omega))
theorem body_l_of {ds : List PyData} {n m : Nat} {S : PyData → Prop} (h : R_l_of ds n m S) : BodyU 2 (t_l_of K w) ds n m S := by
  obtain ⟨xs, rfl, h1, h2, hn, rfl, rfl⟩ := h
  intro a V0 A0 D hr
  refine run_retU (eu_op (S1 := fun x => x = .list xs) (S2 := Below (xs.length : Int)) (eu_pure (ed_var rfl)) (fun x _ => eu_call rfl (ea_cons (ed_cb (ea_cons (ed_var rfl) ea_nil) cad_len) ea_nil) ⟨_, rfl, by omega, by omega, hn, rfl, rfl⟩) ?_) hr
  rintro x y rfl ⟨r, rfl, hr⟩
  have hl : r < xs.length := by omega
  exact ⟨xs[r], opd_ixL (j := r) (List.getElem?_eq_getElem hl) rfl, List.getElem_mem hl⟩
theorem bit_small (k : Bool) : -(2 ^ 64) < (if k = true then (1 : Int) else 0) ∧ (if k = true then (1 : Int) else 0) < 2 ^ 64 := by cases k <;> decide
theorem body_l_box {ds : List PyData} {d : PyData} (h : R_l_box ds d) : BodyOk 3 (t_l_box K w) ds d := by
  obtain ⟨c, rfl, rfl⟩ := h
  intro V0 A0 D hr
  refine run_asg (d := .int c) (ed_if (b := true) (eb_is (eb_test (ed_op (ed_var rfl) (ed_cb (ea_cons (ed_var rfl) ea_nil) cad_len) opd_lt)) rfl) (fun _ => ed_op (ed_var rfl) (ed_var rfl) (opd_ixL (j := 0) rfl rfl)) (fun z => by cases z)) ?_
  refine run_retS (ed_lst (ea_cons (ed_op (ed_cb (ea_cons (ed_var rfl) ea_nil) cad_abs) (ed_cb (ea_cons (ed_op (ed_cb (ea_cons (ed_var rfl) ea_nil) cad_abs) (ed_op ed_int ed_int (opd_pow ⟨by decide, by decide, by decide⟩)) opd_ge) ea_nil) cad_intB) (opd_mul ?_)) (ea_cons (ed_op (ed_op (ed_op (ed_cb (ea_cons (ed_var rfl) ea_nil) cad_intI) ed_int (opd_mod (by decide))) (ed_op ed_int (ed_var rfl) (opd_mul (cmul_l (by decide) (by decide)))) opd_add) ed_int opd_add) (ea_cons ed_int ea_nil))) (by simp)) hr
  exact cmul_r (bit_small _).1 (bit_small _).2
end
end K4

/-! ## RunsU2 -/
/-! drawn, bent -/
namespace K4
open PySem PySem.Spec PyProof.Rows L2
local macro_rules | `(tactic| walk_at "sl") => `(tactic| repeat' (first | exact sl_nil | refine sl_same ?_ | refine sl_no ?_))
local macro_rules | `(tactic| walk_at "ed1") => `(tactic| first
  | ((with_reducible apply ed_var); (exact rfl))
  | with_reducible exact ed_int | with_reducible exact ed_non | with_reducible exact ed_bl | with_reducible exact ed_str | with_reducible exact ea_nil | with_reducible exact eo_none | with_reducible exact eb_yes
  | with_reducible apply ed_isInt | with_reducible apply ed_isBool | with_reducible apply ed_isList | with_reducible apply ed_isTup
  | with_reducible apply ed_op | with_reducible apply ed_un | with_reducible apply ed_cb | with_reducible apply ea_cons | with_reducible apply eo_some | with_reducible apply ed_tup | with_reducible apply ed_lst | with_reducible apply ed_sl
  | with_reducible apply eb_test | with_reducible apply eb_B | with_reducible apply eb_not | with_reducible apply ed_notV
  | with_reducible exact opd_add | with_reducible exact opd_sub | with_reducible exact opd_lt | with_reducible exact opd_le | with_reducible exact opd_gt | with_reducible exact opd_ge | with_reducible exact und_neg
  | with_reducible exact opd_isNO | with_reducible exact opd_notNO | with_reducible exact opd_isN | with_reducible exact opd_notN | with_reducible exact opd_eqI | with_reducible exact opd_neI | with_reducible exact opd_eqO | with_reducible exact opd_eqO' | with_reducible exact opd_neO | with_reducible exact opd_neO'
  | with_reducible apply opd_mul | with_reducible apply opd_div | with_reducible apply opd_mod
  | exact opd_ix0T | exact opd_ix1T | exact opd_ix2T
  | with_reducible exact cad_max | with_reducible exact cad_min | with_reducible exact cad_abs | with_reducible exact cad_intI | with_reducible exact cad_intB | with_reducible exact cad_gcd | with_reducible apply cad_lcm
  | exact cad_sumI | exact cad_sum | exact cad_all | exact cad_any | exact cad_len | exact cad_lenT | exact cad_tupL | exact cad_lstL | exact cad_lstT
  | exact sld_L | exact sld_T
  | (show List.length _ ≤ 100000; simp only [List.length_cons, List.length_nil]; omega)
  | exact cmul_l (by omega) (by omega) | exact cmul_r (by omega) (by omega)
  | exact opd_notN | exact opd_isN)
local macro_rules | `(tactic| walk_at "ed") => `(tactic| repeat' (walk_at "ed1"))
section
variable {K : PySem.W.Frag} {w : World} {ρ : List Sl} {n m : Nat} {ta tb te : TE}
theorem eu_take {i : Nat} {b : Int} (hi : ρ[i]? = some .ur) (hb : EvD tb ρ (.int b)) (h1 : 1 ≤ b) (h2 : b ≤ 1000) (hn : n ≤ 100000) : EvU (tCall (spU R_l_take) [] E0 (tCons (tVar i) (tCons tb tNil))) ρ n (n + 1) (Below b) :=
  eu_call hi (ea_cons hb ea_nil) ⟨b, rfl, h1, h2, hn, rfl, rfl⟩
theorem eu_of {i : Nat} {xs : List PyData} (hi : ρ[i]? = some .ur) (hb : EvD tb ρ (.list xs)) (h1 : 1 ≤ xs.length) (h2 : xs.length ≤ 1000) (hn : n ≤ 100000) : EvU (tCall (spU R_l_of) [] E0 (tCons (tVar i) (tCons tb tNil))) ρ n (n + 1) (fun d => d ∈ xs) :=
  eu_call hi (ea_cons hb ea_nil) ⟨xs, rfl, h1, h2, hn, rfl, rfl⟩
theorem eu_plus {a b : Int} (ha : EvD ta ρ (.int a)) (hb : EvU tb ρ n m (Below b)) : EvU (tOp (rAddA K) ta tb) ρ n m (fun d => ∃ r : Nat, d = .int (a + (r : Int)) ∧ (r : Int) < b) :=
  eu_op (S1 := fun x => x = .int a) (S2 := Below b) (eu_pure ha) (fun _ _ => hb) fun x y hx ⟨r, hy, hr⟩ => ⟨.int (a + (r : Int)), by rw [hx, hy]; exact opd_add, r, rfl, hr⟩
theorem range_pre {N y : Nat} {pre post : List Nat} (e : List.range N = pre ++ y :: post) : y = pre.length ∧ y < N := by
  have h1 : (List.range N)[pre.length]? = some y := by rw [e, List.getElem?_append_right (Nat.le_refl _), Nat.sub_self]; rfl
  have h2 : pre.length < N := by
    have := congrArg List.length e
    rw [List.length_range, List.length_append, List.length_cons] at this
    omega
  rw [List.getElem?_range h2] at h1
  have := Option.some.inj h1
  exact ⟨this.symm, by omega⟩
theorem body_l_drawn {ds : List PyData} {S : PyData → Prop} (h : R_l_drawn ds n m S) : BodyU 7 (t_l_drawn K w) ds n m S := by
  obtain ⟨rfl, hn, rfl, rfl⟩ := h
  intro a V0 A0 D hr
  refine run_parNewU (eu_plus (K := K) (b := 4) ed_int (eu_take rfl ed_int (by decide) (by decide) (by omega))) (by decide) (show 2 < 7 by decide) ?_
  rintro d ⟨r, rfl, hr4⟩
  have em : (1 : Int) + (r : Int) = ((1 + r : Nat) : Int) := by omega
  rw [em]
  refine run_asgU (eu_take (b := ((1 + r : Nat) : Int)) rfl (ed_var rfl) (by omega) (by omega) (by omega)) ?_
  rintro d ⟨f, rfl, hf⟩
  refine run_forU (β := List Rule) (enc := fun i : Nat => PyData.int (i : Int)) (xs := List.range (1 + r)) (fun pre rs => rs.length = pre.length ∧ (∀ q ∈ rs, 1 ≤ q.s ∧ q.s ≤ 5 ∧ 0 ≤ q.l ∧ q.l ≤ 3 ∧ ∀ m, q.m = some m → q.l ≤ m ∧ m ≤ q.l + 4) ∧ ∀ q, rs[f]? = some q → q.m = none) []
    (fun pre rs => [.ur, .d (.int ((1 + r : Nat) : Int)), .no, .d (.int (f : Int)), .no, .no, .no]) (fun pre rs => some (2, rs.map encR)) (fun pre => n + 2 + 5 * pre.length) (it_rng (ea_cons (ed_var rfl) ea_nil) (by omega)) (by walk_at "sl") rfl ⟨rfl, by simp, by simp⟩ (by simp) ?_ ?_
  · rintro pre y post P' rs e ⟨hI1, hI2, hI3⟩
    obtain ⟨hy, hyl⟩ := range_pre e
    refine ⟨_, _, tg_name, offSome (by decide), ?_⟩
    refine run_asgU (S := fun d => ∃ l : Nat, d = .int (l : Int) ∧ l ≤ 3) (eu_op (S1 := Below 4) (S2 := fun d => d ∈ [PyData.int 0, .int 1, .int 1]) (eu_take rfl ed_int (by decide) (by decide) (by omega)) (fun _ _ => eu_of rfl (ed_lst (ea_cons ed_int (ea_cons ed_int (ea_cons ed_int ea_nil)))) (by simp) (by simp) (by omega)) ?_) ?_
    · rintro x z ⟨q, rfl, hq⟩ hz
      rcases List.mem_cons.mp hz with rfl | hz
      · exact ⟨.int ((q : Int) * 0), opd_mul (cmul_r (by decide) (by decide)), 0, by simp, by omega⟩
      · have hz1 : z = .int 1 := by simpa using hz
        subst hz1
        exact ⟨.int ((q : Int) * 1), opd_mul (cmul_r (by decide) (by decide)), q, by simp, by omega⟩
    · rintro d ⟨l, rfl, hl⟩
      refine run_asgU (m := n + 2 + 5 * pre.length + 4) (S := fun d => ∃ o : Option Int, d = encO o ∧ (∀ k, o = some k → (l : Int) ≤ k ∧ k ≤ (l : Int) + 4) ∧ (y = f → o = none)) ?_ ?_
      · refine eu_if (m := n + 2 + 5 * pre.length + 3) (T := fun b => b = true → y ≠ f) (eub_to (eub_and (T := fun b => b = !decide ((y : Int) = (f : Int))) (T2 := fun _ => True) (eub_pure (eb_test (ed_op (ed_var rfl) (ed_var rfl) opd_neI))) (fun _ => eub_test (S := fun d => ∃ b, d = .bool b) (eu_op (S1 := Below 3) (S2 := fun x => x = .int 0) (eu_take rfl ed_int (by decide) (by decide) (by omega)) (fun _ _ => eu_pure ed_int) ?_) ?_) (by omega)) (Nat.le_refl _) ?_) (fun hT => ?_) (fun hT => ?_)
        · rintro x z ⟨q, rfl, hq⟩ rfl
          exact ⟨_, opd_gt, _, rfl⟩
        · rintro d ⟨b, rfl⟩
          exact ⟨b, rfl, trivial⟩
        · rintro b (⟨rfl, -⟩ | ⟨h1, -⟩) hb
          · cases hb
          · intro z
            rw [z] at h1
            simp at h1
        · refine eu_to (eu_plus (K := K) (a := (l : Int)) (b := 5) (ed_var rfl) (eu_take rfl ed_int (by decide) (by decide) (by omega))) (Nat.le_refl _) ?_
          rintro d ⟨q, rfl, hq⟩
          exact ⟨some ((l : Int) + (q : Int)), rfl, fun k hk => by cases hk; omega, fun z => absurd z (hT rfl)⟩
        · refine eu_to (eu_pure ed_non) (by omega) ?_
          rintro d rfl
          exact ⟨none, rfl, (fun k hk => by cases hk), fun _ => rfl⟩
      · rintro d ⟨o, rfl, ho, hof⟩
        refine run_appU (eu_tup (eua_cons (eu_plus (K := K) (b := 5) ed_int (eu_take rfl ed_int (by decide) (by decide) (by omega))) (fun _ _ => eua_pure (ea_cons (ed_var rfl) (ea_cons (ed_var rfl) ea_nil)))) ?_) ?_ ?_
        · rintro ds ⟨d1, d2, rfl, -, rfl⟩
          simp
        · rw [List.length_map, hI1]; omega
        · rintro d ⟨ds, rfl, d1, d2, rfl, ⟨q, rfl, hq⟩, rfl⟩
          refine run_turnU (β := List Rule) (rs ++ [⟨1 + (q : Int), (l : Int), o⟩]) rfl ⟨?_, ?_, ?_⟩ ?_ (by walk_at "sl") ?_
          · rw [List.length_append, List.length_append, hI1]; rfl
          · intro x hx
            rcases List.mem_append.mp hx with hx | hx
            · exact hI2 x hx
            · rw [List.mem_singleton.mp hx]
              exact ⟨by dsimp only; omega, by dsimp only; omega, by dsimp only; omega, by dsimp only; omega, ho⟩
          · intro x hx
            by_cases hfl : f < rs.length
            · rw [List.getElem?_append_left hfl] at hx
              exact hI3 x hx
            · by_cases hfe : f = rs.length
              · rw [hfe, List.getElem?_append_right (Nat.le_refl _), Nat.sub_self] at hx
                have := Option.some.inj hx
                rw [← this]
                exact hof (by omega)
              · rw [List.getElem?_eq_none (by rw [List.length_append, List.length_singleton]; omega)] at hx
                cases hx
          · rw [List.length_append, List.length_singleton]; omega
          · rw [List.map_append]; rfl
  · rintro rs ⟨h1, h2, h3⟩
    rw [List.length_range] at h1
    refine run_done (Run.more (m := n + 30) (by rw [List.length_range]; omega) ?_)
    refine run_retS (ed_cb (ea_cons (ed_var rfl) ea_nil) cad_tupL) (hr _ ⟨rs, rfl, by omega, by omega, h2, ?_⟩)
    have hfl : f < rs.length := by omega
    exact ⟨rs[f], List.getElem_mem hfl, h3 _ (List.getElem?_eq_getElem hfl)⟩
theorem shp_str (x : Str) (h : PyData.strOk x = true) (k : Nat) : Shp k (.str x) := ⟨by simpa [PyData.canLay0] using h, by simp [PyData.depth]⟩
theorem Shp.up {k l : Nat} {d : PyData} (h : Shp k d) (e : k ≤ l) : Shp l d := ⟨h.1, Nat.le_trans h.2 e⟩
theorem shp_three {k : Nat} {a b c : PyData} (ha : Shp k a) (hb : Shp k b) (hc : Shp k c) : Shp (k + 1) (.tuple [a, b, c]) := shp_tup fun d hd => by
  simp only [List.mem_cons, List.not_mem_nil, or_false] at hd
  rcases hd with rfl | rfl | rfl <;> assumption
theorem shp_R (r : Rule) (k : Nat) : Shp (k + 1) (encR r) := shp_three (shp_int k r.s) (shp_int k r.l) (shp_O k r.m)
theorem bent_of {xs : List PyData} (hz : xs.length ≤ 100) (h : ∀ x ∈ xs, Shp 3 x) : Bent (.tuple xs) := ⟨hz, shaped_of (shp_tup h)⟩
theorem bent_ofL {xs : List PyData} (hz : xs.length ≤ 100) (h : ∀ x ∈ xs, Shp 3 x) : Bent (.list xs) := ⟨hz, shaped_of (shp_lst h)⟩
theorem body_l_bent {ds : List PyData} {S : PyData → Prop} (h : R_l_bent ds n m S) : BodyU 7 (t_l_bent K w) ds n m S := by
  obtain ⟨rs, rfl, dr, hn, rfl, rfl⟩ := h
  intro a V0 A0 D hr
  have hpos := dr.pos
  have hlen := dr.len
  have hR : ∀ x ∈ rs.map encR, Shp 3 x := fun x hx => by
    obtain ⟨r, -, rfl⟩ := List.mem_map.mp hx
    exact shp_R r 2
  refine run_par3U (m := n + 3) (eua_cons (eu_take (b := ((rs.map encR).length : Int)) rfl (ed_cb (ea_cons (ed_var rfl) ea_nil) cad_lenT) (by rw [List.length_map]; omega) (by rw [List.length_map]; omega) (by omega)) (fun _ _ => eua_cons (eu_take (b := 3) rfl ed_int (by decide) (by decide) (by omega)) (fun _ _ => eua_one (eu_take (b := 6) rfl ed_int (by decide) (by decide) (by omega))))) ?_
  rintro ds ⟨d1, ds1, rfl, ⟨k, rfl, hk⟩, d2, ds2, rfl, ⟨j, rfl, hj⟩, d3, rfl, ⟨way, rfl, hway⟩⟩
  refine ⟨_, _, _, rfl, ?_⟩
  rw [List.length_map] at hk
  have hkl : k < rs.length := by omega
  obtain ⟨r, hr1⟩ : ∃ r, rs[k]? = some r := ⟨_, List.getElem?_eq_getElem hkl⟩
  refine run_asg (d := encR r) (ed_op (ed_var rfl) (ed_var rfl) (opd_ixT (j := k) (by rw [List.getElem?_map, hr1]; rfl) rfl)) ?_
  have hk1 : (k : Int) + 1 = ((k + 1 : Nat) : Int) := by omega
  have hj1 : (j : Int) + 1 = ((j + 1 : Nat) : Int) := by omega
  have inT : ∀ q, ∀ x ∈ (rs.map encR).take q, Shp 3 x := fun q x hx => hR x (List.mem_of_mem_take hx)
  have inD : ∀ q, ∀ x ∈ (rs.map encR).drop q, Shp 3 x := fun q x hx => hR x (List.mem_of_mem_drop hx)
  have lT : ∀ q, ((rs.map encR).take q).length ≤ 4 := fun q => by rw [List.length_take, List.length_map]; omega
  have lD : ∀ q, ((rs.map encR).drop q).length ≤ 4 := fun q => by rw [List.length_drop, List.length_map]; omega
  refine run_if (b := decide ((way : Int) = 0)) (eb_test (ed_op (ed_var rfl) ed_int opd_eqI)) (fun hb => ?_) (fun hb => ?_)
  · refine run_retU (m := n + 5) (eu_to (eu_of (xs := [.list (rs.map encR), .tuple ((rs.map encR).take k ++ (rs.map encR).drop (k + 1)), .tuple (((rs.map encR).take k ++ [.list [.int r.s, .int r.l, encO r.m]]) ++ (rs.map encR).drop (k + 1)), .tuple (rs.map encR ++ [.tuple [.int r.s, .int r.l]])]) rfl ?_ (by simp) (by simp) (by omega)) (by omega) fun d hd => hd) ?_
    · refine ed_lst (ea_cons (ed_cb (ea_cons (ed_var rfl) ea_nil) cad_lstT) (ea_cons (ed_op (ed_is (ed_sl (ed_var rfl) eo_none (eo_some (ed_var rfl)) sld_T) (by rw [cut_to])) (ed_is (ed_sl (ed_var rfl) (eo_some (ed_is (ed_op (ed_var rfl) ed_int opd_add) (by rw [hk1]))) eo_none sld_T) (by rw [cut_from])) (opd_catT ?_)) (ea_cons (ed_op (ed_op (ed_is (ed_sl (ed_var rfl) eo_none (eo_some (ed_var rfl)) sld_T) (by rw [cut_to])) (ed_tup (ea_cons (ed_cb (ea_cons (ed_var rfl) ea_nil) cad_lstT) ea_nil) (by simp)) (opd_catT ?_)) (ed_is (ed_sl (ed_var rfl) (eo_some (ed_is (ed_op (ed_var rfl) ed_int opd_add) (by rw [hk1]))) eo_none sld_T) (by rw [cut_from])) (opd_catT ?_)) (ea_cons (ed_op (ed_var rfl) (ed_tup (ea_cons (ed_tup (ea_cons (ed_op (ed_var rfl) ed_int opd_ix0T) (ea_cons (ed_op (ed_var rfl) ed_int opd_ix1T) ea_nil)) (by simp)) ea_nil) (by simp)) (opd_catT ?_)) ea_nil)))) (by simp)
      · have := lT k; have := lD (k + 1); omega
      · have := lT k; rw [List.length_singleton]; omega
      · have := lT k; have := lD (k + 1); rw [List.length_append, List.length_singleton]; omega
      · rw [List.length_map, List.length_singleton]; omega
    · intro d hd
      refine hr d ?_
      have h1 := lT k
      have h2 := lD (k + 1)
      simp only [List.mem_cons, List.not_mem_nil, or_false] at hd
      rcases hd with rfl | rfl | rfl | rfl
      · exact bent_ofL (by rw [List.length_map]; omega) hR
      · refine bent_of (by rw [List.length_append]; omega) fun x hx => ?_
        rcases List.mem_append.mp hx with hx | hx
        · exact inT _ x hx
        · exact inD _ x hx
      · refine bent_of (by rw [List.length_append, List.length_append, List.length_singleton]; omega) fun x hx => ?_
        rcases List.mem_append.mp hx with hx | hx
        · rcases List.mem_append.mp hx with hx | hx
          · exact inT _ x hx
          · rw [List.mem_singleton.mp hx]
            refine shp_lst fun y hy => ?_
            simp only [List.mem_cons, List.not_mem_nil, or_false] at hy
            rcases hy with rfl | rfl | rfl
            · exact shp_int _ _
            · exact shp_int _ _
            · exact shp_O _ _
        · exact inD _ x hx
      · refine bent_of (by rw [List.length_append, List.length_map, List.length_singleton]; omega) fun x hx => ?_
        rcases List.mem_append.mp hx with hx | hx
        · exact hR x hx
        · rw [List.mem_singleton.mp hx]
          refine shp_tup fun y hy => ?_
          simp only [List.mem_cons, List.not_mem_nil, or_false] at hy
          rcases hy with rfl | rfl
          · exact shp_int _ _
          · exact shp_int _ _
  · refine run_next ?_
    have hj3 : j < 3 := by omega
    obtain ⟨z, hz, hzs⟩ : ∃ z, ([.int r.s, .int r.l, encO r.m] : List PyData)[j]? = some z ∧ (isNone z = true ∨ ∃ v, z = .int v) := by
      have : j = 0 ∨ j = 1 ∨ j = 2 := by omega
      rcases this with rfl | rfl | rfl
      · exact ⟨_, rfl, .inr ⟨_, rfl⟩⟩
      · exact ⟨_, rfl, .inr ⟨_, rfl⟩⟩
      · refine ⟨_, rfl, ?_⟩
        cases r.m with
        | none => exact .inl rfl
        | some v => exact .inr ⟨v, rfl⟩
    have hown : ∀ q, ∀ x ∈ ([.int r.s, .int r.l, encO r.m] : List PyData).take q, Shp 2 x := fun q x hx => by
      have := List.mem_of_mem_take hx
      simp only [List.mem_cons, List.not_mem_nil, or_false] at this
      rcases this with rfl | rfl | rfl
      · exact shp_int _ _
      · exact shp_int _ _
      · exact shp_O _ _
    have hownD : ∀ q, ∀ x ∈ ([.int r.s, .int r.l, encO r.m] : List PyData).drop q, Shp 2 x := fun q x hx => by
      have := List.mem_of_mem_drop hx
      simp only [List.mem_cons, List.not_mem_nil, or_false] at this
      rcases this with rfl | rfl | rfl
      · exact shp_int _ _
      · exact shp_int _ _
      · exact shp_O _ _
    refine run_asgU (m := n + 4) (S := fun d => Shp 1 d) (eu_if (m := n + 3) (T := fun b => b = (decide ((way : Int) < 3) || isNone z)) (eub_pure (eb_or (eb_test (ed_op (ed_var rfl) ed_int opd_lt)) fun _ => eb_test (ed_op (ed_op (x := encR r) (ed_var rfl) (ed_var rfl) (opd_ixT (j := j) hz rfl)) ed_non opd_isN))) (fun hT => ?_) (fun hT => ?_)) ?_
    · refine eu_to (eu_of (xs := [.none, .bool true, .bool false, .int (-1), .int 0, .str (Str.ofString "1"), .tuple [.int 1]]) rfl (ed_lst (ea_cons ed_non (ea_cons ed_bl (ea_cons ed_bl (ea_cons (ed_un ed_int und_neg) (ea_cons ed_int (ea_cons ed_str (ea_cons (ed_tup (ea_cons ed_int ea_nil) (by simp)) ea_nil))))))) (by simp)) (by simp) (by simp) (by omega)) (Nat.le_refl _) fun d hd => ?_
      simp only [List.mem_cons, List.not_mem_nil, or_false] at hd
      rcases hd with rfl | rfl | rfl | rfl | rfl | rfl | rfl
      · exact shp_none 1
      · exact shp_bool 1 _
      · exact shp_bool 1 _
      · exact shp_int 1 _
      · exact shp_int 1 _
      · exact shp_str _ (by decide +kernel) 1
      · exact shp_tup fun y hy => by rw [List.mem_singleton.mp hy]; exact shp_int 0 _
    · have hzn : isNone z = false := by
        cases h1 : isNone z
        · rfl
        · rw [h1, Bool.or_true] at hT; cases hT
      obtain ⟨v, rfl⟩ := hzs.resolve_left (by rw [hzn]; simp)
      refine eu_op (S1 := fun x => x = .int v) (S2 := fun d => d ∈ [PyData.int 1, .int (-1), .int (-2), .int 3]) (eu_pure (ed_op (x := encR r) (ed_var rfl) (ed_var rfl) (opd_ixT (j := j) hz rfl))) (fun _ _ => eu_of rfl (ed_lst (ea_cons ed_int (ea_cons (ed_un ed_int und_neg) (ea_cons (ed_un ed_int und_neg) (ea_cons ed_int ea_nil)))) (by simp)) (by simp) (by simp) (by omega)) ?_
      rintro x y rfl hy
      obtain ⟨q, rfl⟩ : ∃ q, y = .int q := by
        simp only [List.mem_cons, List.not_mem_nil, or_false] at hy
        rcases hy with rfl | rfl | rfl | rfl <;> exact ⟨_, rfl⟩
      exact ⟨_, opd_add, shp_int 1 _⟩
    · intro bit hbit
      refine Run.more (m := n + 5) (by omega) ?_
      refine run_retS (d := .tuple (((rs.map encR).take k ++ [.tuple ((([.int r.s, .int r.l, encO r.m] : List PyData).take j ++ [bit]) ++ ([.int r.s, .int r.l, encO r.m] : List PyData).drop (j + 1))]) ++ (rs.map encR).drop (k + 1))) (ed_op (ed_op (ed_is (ed_sl (ed_var rfl) eo_none (eo_some (ed_var rfl)) sld_T) (by rw [cut_to])) (ed_tup (ea_cons (ed_op (ed_op (ed_is (ed_sl (ed_var (d := .tuple [.int r.s, .int r.l, encO r.m]) rfl) eo_none (eo_some (ed_var rfl)) sld_T) (by rw [cut_to])) (ed_tup (ea_cons (ed_var rfl) ea_nil) (by simp)) (opd_catT ?_)) (ed_is (ed_sl (ed_var (d := .tuple [.int r.s, .int r.l, encO r.m]) rfl) (eo_some (ed_is (ed_op (ed_var rfl) ed_int opd_add) (by rw [hj1]))) eo_none sld_T) (by rw [cut_from])) (opd_catT ?_)) ea_nil) (by simp)) (opd_catT ?_)) (ed_is (ed_sl (ed_var rfl) (eo_some (ed_is (ed_op (ed_var rfl) ed_int opd_add) (by rw [hk1]))) eo_none sld_T) (by rw [cut_from])) (opd_catT ?_)) (hr _ ?_)
      · rw [List.length_take]; simp; omega
      · rw [List.length_append, List.length_take, List.length_drop]; simp; omega
      · have := lT k; rw [List.length_singleton]; omega
      · have := lT k; have := lD (k + 1); rw [List.length_append, List.length_singleton]; omega
      · have h1 := lT k
        have h2 := lD (k + 1)
        refine bent_of (by rw [List.length_append, List.length_append, List.length_singleton]; omega) fun x hx => ?_
        rcases List.mem_append.mp hx with hx | hx
        · rcases List.mem_append.mp hx with hx | hx
          · exact inT _ x hx
          · rw [List.mem_singleton.mp hx]
            refine shp_tup fun y hy => ?_
            rcases List.mem_append.mp hy with hy | hy
            · rcases List.mem_append.mp hy with hy | hy
              · exact hown _ y hy
              · rw [List.mem_singleton.mp hy]; exact hbit.up (by decide)
            · exact hownD _ y hy
        · exact inD _ x hx
end
end K4

/-! ## RunsU3 -/
/-! the rules' part of the law -/
namespace K4
open PySem PySem.Spec PyProof.Rows L2
local macro_rules | `(tactic| walk_at "sl") => `(tactic| repeat' (first | exact sl_nil | refine sl_same ?_ | refine sl_no ?_))
local macro_rules | `(tactic| walk_at "ed1") => `(tactic| first
  | ((with_reducible apply ed_var); (exact rfl))
  | with_reducible exact ed_int | with_reducible exact ed_non | with_reducible exact ed_bl | with_reducible exact ed_str | with_reducible exact ea_nil | with_reducible exact eo_none | with_reducible exact eb_yes
  | with_reducible apply ed_isInt | with_reducible apply ed_isBool | with_reducible apply ed_isList | with_reducible apply ed_isTup
  | with_reducible apply ed_op | with_reducible apply ed_un | with_reducible apply ed_cb | with_reducible apply ea_cons | with_reducible apply eo_some | with_reducible apply ed_tup | with_reducible apply ed_lst | with_reducible apply ed_sl
  | with_reducible apply eb_test | with_reducible apply eb_B | with_reducible apply eb_not | with_reducible apply ed_notV
  | with_reducible exact opd_add | with_reducible exact opd_sub | with_reducible exact opd_lt | with_reducible exact opd_le | with_reducible exact opd_gt | with_reducible exact opd_ge | with_reducible exact und_neg
  | with_reducible exact opd_isNO | with_reducible exact opd_notNO | with_reducible exact opd_isN | with_reducible exact opd_notN | with_reducible exact opd_eqI | with_reducible exact opd_neI | with_reducible exact opd_eqO | with_reducible exact opd_eqO' | with_reducible exact opd_neO | with_reducible exact opd_neO'
  | with_reducible apply opd_mul | with_reducible apply opd_div | with_reducible apply opd_mod
  | exact opd_ix0T | exact opd_ix1T | exact opd_ix2T
  | with_reducible exact cad_max | with_reducible exact cad_min | with_reducible exact cad_abs | with_reducible exact cad_intI | with_reducible exact cad_intB | with_reducible exact cad_gcd | with_reducible apply cad_lcm
  | exact cad_sumI | exact cad_sum | exact cad_all | exact cad_any | exact cad_len | exact cad_lenT | exact cad_tupL | exact cad_lstL | exact cad_lstT
  | exact sld_L | exact sld_T
  | (show List.length _ ≤ 100000; simp only [List.length_cons, List.length_nil]; omega)
  | exact cmul_l (by omega) (by omega) | exact cmul_r (by omega) (by omega)
  | exact opd_notN | exact opd_isN)
local macro_rules | `(tactic| walk_at "ed") => `(tactic| repeat' (walk_at "ed1"))
section
variable {K : PySem.W.Frag} {w : World} {ρ : List Sl} {n m : Nat} {ta tb te : TE} {d : PyData}
/-! ### data that == compares place by place -/
def Fine (n : Nat) (d : PyData) : Prop := dep d ≤ n ∧ wide d = true
theorem fine_int (k : Nat) (i : Int) : Fine k (.int i) := ⟨Nat.zero_le _, rfl⟩
theorem fine_bool (k : Nat) (i : Bool) : Fine k (.bool i) := ⟨Nat.zero_le _, rfl⟩
theorem fine_word (k : Nat) (b : Bool) : Fine k (.str (wordOf b)) := ⟨Nat.zero_le _, by cases b <;> decide +kernel⟩
theorem fine_tup {k : Nat} {xs : List PyData} (hz : xs.length ≤ 50000) (h : ∀ x ∈ xs, Fine k x) : Fine (k + 1) (.tuple xs) := by
  have h1 : depAll xs ≤ k := le_depAll fun x hx => (h x hx).1
  have h2 : wideAll xs = true := mem_wideAll fun x hx => (h x hx).2
  exact ⟨by simp only [dep]; omega, by simp only [wide, h2, decide_eq_true hz]; rfl⟩
theorem fine_lst {k : Nat} {xs : List PyData} (hz : xs.length ≤ 50000) (h : ∀ x ∈ xs, Fine k x) : Fine (k + 1) (.list xs) := by
  have h1 : depAll xs ≤ k := le_depAll fun x hx => (h x hx).1
  have h2 : wideAll xs = true := mem_wideAll fun x hx => (h x hx).2
  exact ⟨by simp only [dep]; omega, by simp only [wide, h2, decide_eq_true hz]; rfl⟩
theorem Fine.up {k l : Nat} {x : PyData} (h : Fine k x) (e : k ≤ l) : Fine l x := ⟨Nat.le_trans h.1 e, h.2⟩
theorem fine_Q (k : Nat) (q : Rat) : Fine (k + 1) (encQ q) := fine_tup (by simp) fun x hx => by
  simp only [List.mem_cons, List.not_mem_nil, or_false] at hx
  rcases hx with rfl | rfl <;> exact fine_int _ _
theorem fine_qs (k : Nat) {l : List Rat} (hz : l.length ≤ 50000) : Fine (k + 2) (.list (qs l)) := fine_lst (by rw [qs_len]; exact hz) fun x hx => by
  obtain ⟨q, -, rfl⟩ := List.mem_map.mp hx
  exact fine_Q k q
theorem fine_ints (k : Nat) {l : List Int} (hz : l.length ≤ 50000) : Fine (k + 1) (.tuple (intD l)) := fine_tup (by rw [intD_len]; exact hz) fun x hx => by
  obtain ⟨q, -, rfl⟩ := List.mem_map.mp hx
  exact fine_int k q
theorem fine_layout {cols : List (List Rat)} {p : Nat} (h1 : cols.length ≤ 50000) (h2 : p ≤ 50000) : Fine 3 (layoutD cols p) := fine_tup (by simp) fun x hx => by
  simp only [List.mem_cons, List.not_mem_nil, or_false] at hx
  rcases hx with rfl | rfl
  · exact fine_int _ _
  · refine fine_tup (by rw [List.length_map, List.length_range]; exact h2) fun y hy => ?_
    obtain ⟨q, -, rfl⟩ := List.mem_map.mp hy
    exact fine_ints 0 (by unfold rowOf; rw [List.length_map]; exact h1)
theorem fine_stop (x : Stop Rat) : Fine 2 (encTQ x) := fine_tup (by simp) fun y hy => by
  simp only [List.mem_cons, List.not_mem_nil, or_false] at hy
  rcases hy with rfl | rfl | rfl
  · exact fine_Q 0 _
  · exact fine_int _ _
  · exact fine_word _ _
theorem ed_same {x : PyData} (h1 : EvD ta ρ x) (h2 : EvD tb ρ x) (f : Fine 12 x) : EvD (tCall (spD (R_l_same 12)) [] E0 (tCons ta (tCons tb tNil))) ρ (.bool true) := ed_call (ea_cons h1 (ea_cons h2 ea_nil)) ⟨x, rfl, f.1, f.2, rfl⟩
theorem lst_rs {rs : List Rule} (hl : rs.length ≤ 5) : dep (encRs rs) ≤ 12 ∧ wide (encRs rs) = true ∧ lstD (encRs rs) = encRsL rs := by
  have a1 : depAll (rs.map encR) ≤ 11 := le_depAll fun y hy => by
    obtain ⟨r, -, rfl⟩ := List.mem_map.mp hy
    rw [(tup_R r).2.1]; omega
  have b1 : wideAll (rs.map encR) = true := mem_wideAll fun y hy => by
    obtain ⟨r, -, rfl⟩ := List.mem_map.mp hy
    exact (tup_R r).2.2
  have c1 : lstAll (rs.map encR) = rs.map encRL := by
    rw [lstAll_map, List.map_map]
    refine List.map_congr_left fun r _ => ?_
    have : lstD (encO r.m) = encO r.m := by cases r.m <;> simp [encO, lstD]
    simp [encR, encRL, lstD, lstAll, this]
  have l1 : decide ((rs.map encR).length ≤ 50000) = true := by rw [List.length_map]; exact decide_eq_true (by omega)
  exact ⟨by simp only [encRs, dep]; omega, by simp only [encRs, wide, b1, l1]; rfl, by simp only [encRs, encRsL, lstD, c1]⟩
theorem sum_le {f : Rule → Int} {b : Int} : ∀ (l : List Rule), (∀ r ∈ l, f r ≤ b) → 0 ≤ b → (l.map f).sum ≤ b * l.length
  | [], _, _ => by simp
  | r :: l, h, hb => by
    have ih := sum_le l (fun q hq => h q (List.mem_cons_of_mem _ hq)) hb
    have h1 := h r (by simp)
    rw [List.map_cons, List.sum_cons, List.length_cons]
    have : b * ((l.length + 1 : Nat) : Int) = b * l.length + b := by rw [Int.natCast_add, Int.mul_add]; omega
    omega
theorem drawn_scale {rs : List Rule} (h : Drawn rs) {k : Int} (h1 : 1 ≤ k) (h2 : k ≤ 3) : RsOk (rs.map (scaleR k)) := by
  have hk : ∀ x : Int, 0 ≤ x → 0 ≤ x * k ∧ x * k ≤ 3 * x := fun x hx => ⟨Int.mul_nonneg hx (by omega), by rw [Int.mul_comm 3 x]; exact Int.mul_le_mul_of_nonneg_left h2 hx⟩
  refine ⟨by rw [List.length_map]; exact h.pos, by rw [List.length_map]; have := h.len; omega, fun r hr => ?_, ?_, ?_⟩
  · obtain ⟨q, hq, rfl⟩ := List.mem_map.mp hr
    obtain ⟨a1, a2, a3, a4, a5⟩ := h.each q hq
    obtain ⟨b1, b2⟩ := hk q.l a3
    refine ⟨a1, a2, b1, by show q.l * k ≤ 9; omega, fun m hm => ?_⟩
    have hm' : q.m.map (· * k) = some m := hm
    obtain ⟨m0, c1, rfl⟩ := Option.map_eq_some_iff.mp hm'
    obtain ⟨c2, c3⟩ := a5 m0 c1
    obtain ⟨d1, d2⟩ := hk m0 (by omega)
    exact ⟨Int.mul_le_mul_of_nonneg_right c2 (by omega), by omega⟩
  · obtain ⟨r, hr, hm⟩ := h.free
    exact ⟨scaleR k r, List.mem_map_of_mem hr, by show r.m.map _ = none; rw [hm]; rfl⟩
  · rw [List.map_map]
    have := sum_le (f := (fun r : Rule => r.l) ∘ scaleR k) (b := 9) rs (fun r hr => by
      obtain ⟨a1, a2, a3, a4, a5⟩ := h.each r hr
      have := (hk r.l a3).2
      show r.l * k ≤ 9
      omega) (by decide)
    have := h.len
    omega
theorem scale_one (rs : List Rule) : rs.map (scaleR 1) = rs := by
  conv => rhs; rw [← List.map_id rs]
  refine List.map_congr_left fun r _ => ?_
  obtain ⟨s, l, m⟩ := r
  show (⟨s, l * 1, m.map (· * 1)⟩ : Rule) = ⟨s, l, m⟩
  rw [Int.mul_one]
  congr 1
  cases m with
  | none => rfl
  | some i => show some (i * 1) = some i; rw [Int.mul_one]
theorem drawn_ok {rs : List Rule} (h : Drawn rs) : RsOk rs := by
  have := drawn_scale h (k := 1) (by decide) (by decide)
  rwa [scale_one] at this
theorem den_le {t b : Int} (hb : 0 < b) {N : Int} (h : b ≤ N) : ((Rat.divInt t b).den : Int) ≤ N := by
  have h1 := divInt_den (t := t) hb
  have := Nat.le_of_dvd (by omega) h1
  omega
theorem exact_sm {rs : List Rule} (ok : RsOk rs) {wd : Int} (hw : 0 ≤ wd) : ∀ q ∈ exactQ rs wd, Sm q := by
  intro q hq
  have hWp := whole_pos ok
  have hWl := whole_le ok
  refine ⟨?_, ?_⟩
  · unfold exactQ at hq
    split at hq
    · rename_i hlt
      obtain ⟨r, hr, rfl⟩ := List.mem_map.mp hq
      exact Rat.divInt_nonneg (Int.mul_nonneg hw (ok.each r hr).2.2.1) (by omega)
    · rename_i hge
      unfold wideQ at hq
      obtain ⟨r, hr, rfl⟩ := List.mem_map.mp hq
      exact wq_nonneg (ok.vr r hr) (reach_nonneg ok (by omega))
  · rw [← given_exact ok] at hq
    have key : ((q.den : Nat) : Int) ≤ 1500 := by
      unfold givenAll at hq
      split at hq
      · rename_i hlt
        obtain ⟨r, hr, rfl⟩ := List.mem_map.mp hq
        have hsum : leastsOf rs ≤ 36 := ok.sum
        exact den_le (by omega) (by omega)
      · rename_i hge
        have hle : leastsOf rs ≤ wd := by omega
        have ht : lastTurn rs wd * (whole rs : Rat) = ((stretchAt rs (wd * whole rs) : Int) : Rat) := by rw [last_map ok wd]; exact divW hWp.1 _
        have hmore := growing_map ok _ ht
        have hpp := pace_pos ok hle
        have hpl : paceQ rs (lastTurn rs wd) ≤ 25 := by
          rw [pace_eq]
          have := pace_le (rs := rs) (lastTurn rs wd) fun r hr => ⟨(ok.each r hr).1, (ok.each r hr).2.1⟩
          have := ok.len
          omega
        have hsh : ((growing rs (stretchAt rs (wd * whole rs))).map (shareAt rs)).sum = paceQ rs (lastTurn rs wd) := by rw [hmore]; rfl
        dsimp only at hq
        rw [hsh] at hq
        obtain ⟨p, -, rfl⟩ := List.mem_map.mp hq
        split
        · refine den_le (Int.mul_pos hpp hWp.1) ?_
          exact Int.mul_le_mul hpl hWl (by omega) (by omega)
        · exact den_le hWp.1 (by omega)
    omega
theorem stopsP_len {rs : List Rule} (ok : RsOk rs) (wd : Int) : (stopsP rs wd).length ≤ 100 := by
  unfold stopsP
  rw [List.length_map]
  have h1 := List.length_filter_le (fun x : Stop Int => decide (x.at_ ≤ wd * whole rs)) (sortS ltI (stopsRaw rs))
  rw [(sortS_perm _).length_eq] at h1
  have a : (stopsRaw rs).length ≤ 2 * rs.zipIdx.length := flat_len (stop1 rs) 2 (stop1_len rs) rs.zipIdx
  rw [List.length_zipIdx] at a
  have := ok.len
  omega
theorem free_len {rs : List Rule} (ok : RsOk rs) (wd : Int) : (freeAt rs wd).length ≤ 100 := by
  have := ok.len
  unfold freeAt
  split
  · rw [List.length_map]
    have h1 := List.length_filter_le (fun p : Rule × Nat => decide (0 < p.1.l)) rs.zipIdx
    rw [List.length_zipIdx] at h1
    omega
  · unfold growing
    rw [List.length_map]
    have h1 := List.length_filter_le (fun p : Rule × Nat => grows (whole rs) (stretchAt rs (wd * whole rs)) p.1) rs.zipIdx
    rw [List.length_zipIdx] at h1
    omega
/-- [width_given(x, pane, wd) for pane in range(len(rules))] -/
theorem ed_widths {x : PyData} {rs : List Rule} (hx : IsRs x rs) (ok : RsOk rs) {wd : Int} (hw : 0 ≤ wd) {N : Nat} (hN : rs.length = N) {tr : TA} {t1 t3 : TE} {j : Nat} (hr : EvA tr ρ [.int (N : Int)]) (h1 : ∀ i : PyData, EvD t1 ((wipeS ρ [j]).set j (.d i)) x) (h3 : ∀ i : PyData, EvD t3 ((wipeS ρ [j]).set j (.d i)) (.int wd)) (hj : ∀ i : PyData, ((wipeS ρ [j]).set j (.d i))[j]? = some (.d i)) :
    EvD (tLc (iRng1 tr) (gName j) tYes (tCall (spD R_p_width_given) [] E0 (tCons t1 (tCons (tVar j) (tCons t3 tNil)))) [j]) ρ (.list (qs (givenAll rs wd))) := by
  have hl := ok.len
  have hg := given_len ok hw
  refine ed_is (ed_lcQ (enc := fun i : Nat => PyData.int (i : Int)) (xs := List.range N) (f := fun p => ((givenAll rs wd)[p]?).getD 0) (it_rng hr (by omega)) (fun y hy => tg_name) (fun y hy => ed_call (ea_cons (h1 _) (ea_cons (ed_var (hj _)) (ea_cons (h3 _) ea_nil))) ⟨x, rs, y, wd, rfl, hx, ok, by have := List.mem_range.mp hy; omega, hw, rfl⟩) (by rw [List.length_range]; omega) (by simp)) ?_
  congr 2
  refine List.ext_getElem? fun i => ?_
  rw [List.getElem?_map]
  by_cases hi : i < N
  · rw [List.getElem?_range hi]
    have : i < (givenAll rs wd).length := by omega
    show some (((givenAll rs wd)[i]?).getD 0) = _
    rw [List.getElem?_eq_getElem this]
    rfl
  · rw [List.getElem?_eq_none (by rw [List.length_range]; omega), List.getElem?_eq_none (by omega)]
    rfl
theorem body_l_rules_right {ds : List PyData} {S : PyData → Prop} (h : R_l_rules_right ds n m S) : BodyU 13 (t_l_rules_right K w) ds n m S := by
  obtain ⟨rs, rfl, dr, hn, rfl, rfl⟩ := h
  intro a V0 A0 D hr
  have ok := drawn_ok dr
  have hl := ok.len
  refine run_asgU (eu_take (b := 13) rfl ed_int (by decide) (by decide) (by omega)) ?_
  rintro d ⟨L, rfl, hL⟩
  have hw : (0 : Int) ≤ (L : Int) := by omega
  have hwl := widths_len hw (by omega)
  have hwz : (widths (L : Int)).length ≤ 50000 := by unfold widths; rw [List.length_map, List.length_range]; omega
  obtain ⟨q1, q2, q3⟩ := lst_rs hl
  have rng : ∀ ρ : List Sl, ρ[2]? = some (.d (.int (L : Int))) → ItD (iRng1 (tCons (tOp (rAddA K) (tVar 2) (tC (.int 1))) tNil)) ρ ((widths (L : Int)).map PyData.int) := fun ρ e => it_rngW (ea_cons (ed_op (ed_var e) ed_int opd_add) ea_nil) hw (by omega)
  refine run_asg (d := .list (((widths L).map (exactQ rs)).map colD)) (ed_is (ed_lc1 (enc := PyData.int) (xs := widths L) (f := fun x => .list (qs (exactQ rs x))) (rng _ rfl) (fun y hy => tg_name) (fun y hy => ed_call (ea_cons (ed_var rfl) (ea_cons (ed_var rfl) ea_nil)) ⟨rs, y, rfl, ok, (mem_widths hy).1, rfl⟩) hwl) (by rw [List.map_map]; rfl)) ?_
  refine run_asg (d := encRsL rs) (ed_call (ea_cons (ed_var rfl) ea_nil) ⟨_, rfl, q1, q2, q3.symm⟩) ?_
  have c1 := cols_ok ok hw (by omega)
  have ecols : (widths L).map (exactQ rs) = (widths L).map (givenAll rs) := List.map_congr_left fun x hx => (given_exact ok x).symm
  have G1 : EvD (tLst (tCons (tCall (spD R_p_rule_layout) [] E0 (tCons (tVar 4) (tCons (tVar 2) tNil))) (tCons (tLc (iRng1 (tCons (tOp (rAddA K) (tVar 2) (tC (.int 1))) tNil)) (gName 7) tYes (tCall (spD R_p_free_at) [] E0 (tCons (tVar 1) (tCons (tVar 7) tNil))) [7]) (tCons (tCall (spD R_p_stops) [] E0 (tCons (tVar 1) (tCons (tVar 2) tNil))) (tCons (tCall (spD R_p_stops) [] E0 (tCons (tVar 4) (tCons (tOp (rMulA) (tC (.int 2)) (tVar 2)) tNil))) tNil)))))
      [.ur, .d (encRs rs), .d (.int L), .d (.list (((widths L).map (exactQ rs)).map colD)), .d (encRsL rs), .no, .no, .no, .no, .no, .no, .no, .no] (.list [ruleLayout rs L, .list ((widths L).map fun x => .tuple (intD (freeAt rs x))), .list ((stopsP rs L).map encTQ), .list ((stopsP rs (2 * L)).map encTQ)]) := by
    refine ed_lst (ea_cons (ed_call (ea_cons (ed_var rfl) (ea_cons (ed_var rfl) ea_nil)) ⟨_, rs, L, rfl, .inr (.inl rfl), ok, hw, by omega, rfl⟩) (ea_cons (ed_lc1 (enc := PyData.int) (xs := widths L) (rng _ rfl) (fun y hy => tg_name) (fun y hy => ed_call (ea_cons (ed_var rfl) (ea_cons (ed_var rfl) ea_nil)) ⟨_, rs, y, rfl, .inl rfl, ok, (mem_widths hy).1, rfl⟩) hwl)
      (ea_cons (ed_call (ea_cons (ed_var rfl) (ea_cons (ed_var rfl) ea_nil)) ⟨_, rs, L, rfl, .inl rfl, ok, hw, rfl⟩) (ea_cons (ed_call (ea_cons (ed_var rfl) (ea_cons (d := .int (2 * (L : Int))) (ed_op ed_int (ed_var rfl) (opd_mul (cmul_l (by decide) (by decide)))) ea_nil)) ⟨_, rs, 2 * (L : Int), rfl, .inr (.inl rfl), ok, by omega, rfl⟩) ea_nil)))) (by simp)
  refine run_asg G1 ?_
  have G2 : ∀ g : PyData, EvD (tLst (tCons (tCall (spD R_l_layout) [] E0 (tCons (tVar 3) tNil)) (tCons (tLc (iRng1 (tCons (tOp (rAddA K) (tVar 2) (tC (.int 1))) tNil)) (gName 7) tYes (tCall (spD R_l_free) [] E0 (tCons (tVar 1) (tCons (tVar 7) tNil))) [7]) (tCons (tCall (spD R_l_stops) [] E0 (tCons (tVar 1) (tCons (tVar 2) tNil))) (tCons (tCall (spD R_l_stops) [] E0 (tCons (tVar 1) (tCons (tOp (rMulA) (tC (.int 2)) (tVar 2)) tNil))) tNil)))))
      [.ur, .d (encRs rs), .d (.int L), .d (.list (((widths L).map (exactQ rs)).map colD)), .d (encRsL rs), .d g, .no, .no, .no, .no, .no, .no, .no] (.list [ruleLayout rs L, .list ((widths L).map fun x => .tuple (intD (freeAt rs x))), .list ((stopsP rs L).map encTQ), .list ((stopsP rs (2 * L)).map encTQ)]) := fun g => by
    rw [stops_eq ok, stops_eq ok, show (fun x => PyData.tuple (intD (freeAt rs x))) = fun x => PyData.tuple (intD (freeQ rs x)) from funext fun x => by rw [free_map ok]]
    unfold ruleLayout
    rw [← ecols]
    rw [← ecols] at c1
    refine ed_lst (ea_cons (ed_call (ea_cons (ed_var rfl) ea_nil) ⟨_, _, rfl, c1, rfl⟩) (ea_cons (ed_lc1 (enc := PyData.int) (xs := widths L) (rng _ rfl) (fun y hy => tg_name) (fun y hy => ed_call (ea_cons (ed_var rfl) (ea_cons (ed_var rfl) ea_nil)) ⟨rs, y, rfl, ok, (mem_widths hy).1, rfl⟩) hwl)
      (ea_cons (ed_call (ea_cons (ed_var rfl) (ea_cons (ed_var rfl) ea_nil)) ⟨rs, L, rfl, ok, hw, rfl⟩) (ea_cons (ed_call (ea_cons (ed_var rfl) (ea_cons (d := .int (2 * (L : Int))) (ed_op ed_int (ed_var rfl) (opd_mul (cmul_l (by decide) (by decide)))) ea_nil)) ⟨rs, 2 * (L : Int), rfl, ok, by omega, rfl⟩) ea_nil)))) (by simp)
  refine run_asg (G2 _) ?_
  have F1 : ∀ x ∈ [ruleLayout rs L, .list ((widths L).map fun x => .tuple (intD (freeAt rs x))), .list ((stopsP rs L).map encTQ), .list ((stopsP rs (2 * L)).map encTQ)], Fine 3 x := by
    intro x hx
    simp only [List.mem_cons, List.not_mem_nil, or_false] at hx
    rcases hx with rfl | rfl | rfl | rfl
    · exact fine_layout (by rw [List.length_map]; exact hwz) (by omega)
    · refine (fine_lst (k := 1) (by rw [List.length_map]; exact hwz) fun y hy => ?_).up (by decide)
      obtain ⟨v, -, rfl⟩ := List.mem_map.mp hy
      exact fine_ints 0 (by have := free_len ok v; omega)
    · refine fine_lst (by rw [List.length_map]; have := stopsP_len ok L; omega) fun y hy => ?_
      obtain ⟨v, -, rfl⟩ := List.mem_map.mp hy
      exact fine_stop v
    · refine fine_lst (by rw [List.length_map]; have := stopsP_len ok (2 * (L : Int)); omega) fun y hy => ?_
      obtain ⟨v, -, rfl⟩ := List.mem_map.mp hy
      exact fine_stop v
  generalize hG : [ruleLayout rs L, .list ((widths L).map fun x => .tuple (intD (freeAt rs x))), .list ((stopsP rs L).map encTQ), .list ((stopsP rs (2 * L)).map encTQ)] = G at F1 ⊢
  have hGl : G.length = 4 := by rw [← hG]; rfl
  clear hG G1 G2
  refine run_asgTU (js := [7] ++ ([8] ++ [])) (m := n + 3) (eu_tup (eua_cons (eu_take (b := 25) rfl ed_int (by decide) (by decide) (by omega)) (fun _ _ => eua_one (eu_plus (K := K) (b := 2) ed_int (eu_take rfl ed_int (by decide) (by decide) (by omega))))) ?_) ?_
  · rintro ds ⟨d1, d2, rfl, -, d3, rfl, -⟩
    simp
  · rintro d ⟨ds, rfl, d1, d2, rfl, ⟨W, rfl, hW⟩, d3, rfl, ⟨q, rfl, hq⟩⟩
    refine ⟨_, tg_tup (tgl_cons tg_name (tgl_cons tg_name tgl_nil)), ?_⟩
    have hk1 : 1 ≤ 2 + (q : Int) := by omega
    have hk3 : 2 + (q : Int) ≤ 3 := by omega
    generalize 2 + (q : Int) = k at hk1 hk3 ⊢
    have okS := drawn_scale dr hk1 hk3
    have hWn : (0 : Int) ≤ (W : Int) := by omega
    refine run_asg (d := encRs (rs.map (scaleR k))) (ed_is (ed_cb (ea_cons (ed_lc1 (enc := encR) (xs := rs) (f := fun r => encR (scaleR k r)) (it_seqT (ed_var rfl)) (fun y hy => tg_name) (fun y hy => ?_) (by omega)) ea_nil) cad_tupL) (by unfold encRs; rw [List.map_map]; rfl)) ?_
    · have hy' := dr.each y hy
      refine ed_tup (ds := [.int y.s, .int (y.l * k), encO (y.m.map (· * k))]) (ea_cons (ed_op (ed_var rfl) ed_int opd_ix0T) (ea_cons (ed_op (ed_op (ed_var rfl) ed_int opd_ix1T) (ed_var rfl) (opd_mul (cmul_r (by omega) (by omega)))) (ea_cons (ed_if (b := y.m.isNone) (eb_test (ed_op (ed_op (ed_var rfl) ed_int opd_ix2T) ed_non opd_isNO)) (fun hb => ?_) (fun hb => ?_)) ea_nil))) (by simp)
      · cases hm : y.m with
        | none => exact ed_non
        | some v => rw [hm] at hb; cases hb
      · cases hm : y.m with
        | none => rw [hm] at hb; cases hb
        | some v =>
          refine ed_op (x := .int v) (ed_op (x := encR y) (ed_var rfl) ed_int ?_) (ed_var rfl) (opd_mul (cmul_r (by omega) (by omega)))
          have := opd_ix2T (K := K) (a := .int y.s) (b := .int y.l) (c := encO y.m) (ds := [])
          rw [hm] at this
          unfold encR
          rw [hm]
          exact this
    · refine run_asg (d := .list (G ++ [.list (qs (exactQ rs W)), .list (qs (exactQ (rs.map (scaleR k)) (W * k)))])) ?_ ?_
      · rw [← given_exact ok, ← given_exact okS]
        refine ed_op (ed_var rfl) (ed_lst (ea_cons (ed_widths (.inr (.inl rfl)) ok hWn rfl (ea_cons (ed_is (ed_cb (ea_cons (ed_var rfl) ea_nil) cad_lenT) (by rw [List.length_map])) ea_nil) (fun _ => ed_var rfl) (fun _ => ed_var rfl) (fun _ => rfl)) (ea_cons (ed_widths (N := rs.length) (.inl rfl) okS (Int.mul_nonneg hWn (by omega)) (by rw [List.length_map]) (ea_cons (ed_is (ed_cb (ea_cons (ed_var rfl) ea_nil) cad_lenT) (by rw [List.length_map])) ea_nil) (fun _ => ed_var rfl) (fun _ => ed_op (ed_var rfl) (ed_var rfl) (opd_mul (cmul_r (by omega) (by omega)))) (fun _ => rfl)) ea_nil)) (by simp)) (opd_cat ?_)
        rw [hGl]; simp
      · refine run_asg (d := .list (qs (exactQ rs W))) (ed_call (ea_cons (ed_var rfl) (ea_cons (ed_var rfl) ea_nil)) ⟨rs, W, rfl, ok, hWn, rfl⟩) ?_
        refine run_retS (ed_same (x := .list (G ++ [.list (qs (exactQ rs W)), .list (qs (exactQ (rs.map (scaleR k)) (W * k)))])) (ed_var rfl) (ed_op (ed_var rfl) (ed_lst (ea_cons (ed_var rfl) (ea_cons ?_ ea_nil)) (by simp)) (opd_cat ?_)) ?_) (hr _ rfl)
        · rw [scale_exact (by omega) rs W]
          refine ed_lcQ (enc := encQ) (xs := exactQ rs W) (f := fun q => q * (k : Rat)) (it_seqL (ed_var rfl)) (fun y hy => tg_name) (fun y hy => ed_call (ea_cons (ed_var rfl) (ea_cons (ed_one (ed_var rfl)) ea_nil)) ⟨y, (k : Rat), rfl, exact_sm ok hWn y hy, sm_int (by omega), ?_, rfl⟩) ?_
          · show k < 1000000
            omega
          · rw [exact_len]; omega
        · rw [hGl]; simp
        · refine (fine_lst (k := 3) (by rw [List.length_append, hGl]; simp) fun x hx => ?_).up (by decide)
          rcases List.mem_append.mp hx with hx | hx
          · exact F1 x hx
          · simp only [List.mem_cons, List.not_mem_nil, or_false] at hx
            rcases hx with rfl | rfl
            · exact fine_qs 1 (by rw [exact_len]; omega)
            · exact fine_qs 1 (by rw [exact_len, List.length_map]; omega)
end
end K4

/-! ## RunsU4 -/
/-! the law's two parts -/
namespace K4
open PySem PySem.Spec PyProof.Rows L2
local macro_rules | `(tactic| walk_at "sl") => `(tactic| repeat' (first | exact sl_nil | refine sl_same ?_ | refine sl_no ?_))
local macro_rules | `(tactic| walk_at "ed1") => `(tactic| first
  | ((with_reducible apply ed_var); (exact rfl))
  | with_reducible exact ed_int | with_reducible exact ed_non | with_reducible exact ed_bl | with_reducible exact ed_str | with_reducible exact ea_nil | with_reducible exact eo_none | with_reducible exact eb_yes
  | with_reducible apply ed_isInt | with_reducible apply ed_isBool | with_reducible apply ed_isList | with_reducible apply ed_isTup
  | with_reducible apply ed_op | with_reducible apply ed_un | with_reducible apply ed_cb | with_reducible apply ea_cons | with_reducible apply eo_some | with_reducible apply ed_tup | with_reducible apply ed_lst | with_reducible apply ed_sl
  | with_reducible apply eb_test | with_reducible apply eb_B | with_reducible apply eb_not | with_reducible apply ed_notV
  | with_reducible exact opd_add | with_reducible exact opd_sub | with_reducible exact opd_lt | with_reducible exact opd_le | with_reducible exact opd_gt | with_reducible exact opd_ge | with_reducible exact und_neg
  | with_reducible exact opd_isNO | with_reducible exact opd_notNO | with_reducible exact opd_isN | with_reducible exact opd_notN | with_reducible exact opd_eqI | with_reducible exact opd_neI | with_reducible exact opd_eqO | with_reducible exact opd_eqO' | with_reducible exact opd_neO | with_reducible exact opd_neO'
  | with_reducible apply opd_mul | with_reducible apply opd_div | with_reducible apply opd_mod
  | exact opd_ix0T | exact opd_ix1T | exact opd_ix2T
  | with_reducible exact cad_max | with_reducible exact cad_min | with_reducible exact cad_abs | with_reducible exact cad_intI | with_reducible exact cad_intB | with_reducible exact cad_gcd | with_reducible apply cad_lcm
  | exact cad_sumI | exact cad_sum | exact cad_all | exact cad_any | exact cad_len | exact cad_lenT | exact cad_tupL | exact cad_lstL | exact cad_lstT
  | exact sld_L | exact sld_T
  | (show List.length _ ≤ 100000; simp only [List.length_cons, List.length_nil]; omega)
  | exact cmul_l (by omega) (by omega) | exact cmul_r (by omega) (by omega)
  | exact opd_notN | exact opd_isN)
local macro_rules | `(tactic| walk_at "ed") => `(tactic| repeat' (walk_at "ed1"))
section
variable {K : PySem.W.Frag} {w : World} {ρ : List Sl} {n m : Nat} {ta tb te : TE} {d : PyData}
/-! ### by hand -/
def hand : List Rule := [⟨1, 2, none⟩, ⟨2, 0, some 3⟩, ⟨1, 0, none⟩]
theorem hand1 : (givenAll hand 6).map (fun q => (q.num, (q.den : Int))) = [(2, 1), (8, 3), (4, 3)] := by decide +kernel
theorem hand2 : partsOf ((widths 3).map (givenAll hand)) = 3 ∧ (List.range 3).map (rowOf 3 ((widths 3).map (givenAll hand))) = [[0, 3, 6, 6], [0, 0, 0, 2], [0, 0, 0, 1]] := by decide +kernel
theorem hand3 : freeAt hand 6 = [1, 2] := by decide +kernel
theorem hand4 : (stopsP hand 7).map (fun x => (x.at_.num, (x.at_.den : Int), x.pane, x.big)) = [(2, 1, 1, false), (2, 1, 2, false), (13, 2, 1, true), (7, 1, 0, false)] := by decide +kernel
theorem hand_drawn : Drawn hand := by
  refine ⟨by decide, by decide, fun r hr => ?_, ⟨⟨1, 2, none⟩, by simp [hand], rfl⟩⟩
  simp only [hand, List.mem_cons, List.not_mem_nil, or_false] at hr
  rcases hr with rfl | rfl | rfl
  · exact ⟨by decide, by decide, by decide, by decide, fun m hm => by cases hm⟩
  · exact ⟨by decide, by decide, by decide, by decide, fun m hm => by cases hm; exact ⟨by decide, by decide⟩⟩
  · exact ⟨by decide, by decide, by decide, by decide, fun m hm => by cases hm⟩
def qD (a b : Int) : PyData := .tuple [.int a, .int b]
def dueH1 : PyData := .list [qD 2 1, qD 8 3, qD 4 3]
def dueH2 : PyData := .tuple [.int 3, .tuple [.tuple (intD [0, 3, 6, 6]), .tuple (intD [0, 0, 0, 2]), .tuple (intD [0, 0, 0, 1])]]
def dueH3 : PyData := .tuple (intD [1, 2])
def dueH4 : PyData := .list [.tuple [qD 2 1, .int 1, .str (Str.ofString "least")], .tuple [qD 2 1, .int 2, .str (Str.ofString "least")], .tuple [qD 13 2, .int 1, .str (Str.ofString "most")], .tuple [qD 7 1, .int 0, .str (Str.ofString "least")]]
theorem isH1 : PyData.list (qs (givenAll hand 6)) = dueH1 := by
  have e : qs (givenAll hand 6) = ((givenAll hand 6).map (fun q => (q.num, (q.den : Int)))).map fun p => qD p.1 p.2 := by rw [List.map_map]; rfl
  rw [e, hand1]; rfl
theorem isH2 : ruleLayout hand 3 = dueH2 := by
  unfold ruleLayout layoutD
  rw [hand2.1]
  have e : ((List.range hand.length).map fun p => PyData.tuple (intD (rowOf 3 ((widths 3).map (givenAll hand)) p))) = ((List.range 3).map (rowOf 3 ((widths 3).map (givenAll hand)))).map fun r => .tuple (intD r) := by rw [List.map_map]; rfl
  rw [e, hand2.2]; rfl
theorem isH4 : PyData.list ((stopsP hand 7).map encTQ) = dueH4 := by
  have e : (stopsP hand 7).map encTQ = ((stopsP hand 7).map (fun x => (x.at_.num, (x.at_.den : Int), x.pane, x.big))).map fun p => .tuple [qD p.1 p.2.1, .int p.2.2.1, .str (wordOf p.2.2.2)] := by rw [List.map_map]; rfl
  rw [e, hand4]; rfl
theorem fine_qD (k : Nat) (a b : Int) : Fine (k + 1) (qD a b) := fine_tup (by simp) fun x hx => by
  simp only [List.mem_cons, List.not_mem_nil, or_false] at hx
  rcases hx with rfl | rfl <;> exact fine_int _ _
theorem fineH : Fine 12 (.list [dueH1, dueH2, dueH3, dueH4]) := by
  refine (fine_lst (k := 3) (by simp) fun x hx => ?_).up (by decide)
  simp only [List.mem_cons, List.not_mem_nil, or_false] at hx
  rcases hx with rfl | rfl | rfl | rfl
  · rw [← isH1]; exact fine_qs 1 (by rw [given_len (drawn_ok hand_drawn) (by decide)]; decide)
  · rw [← isH2]; exact fine_layout (by decide) (by decide)
  · exact (fine_ints 2 (l := [1, 2]) (by decide))
  · rw [← isH4]
    refine fine_lst (by rw [List.length_map]; have := stopsP_len (drawn_ok hand_drawn) 7; omega) fun y hy => ?_
    obtain ⟨v, -, rfl⟩ := List.mem_map.mp hy
    exact fine_stop v
theorem small_len {ds : List PyData} (h : Nat.ble ds.length 100000 = true) : ds.length ≤ 100000 := Nat.le_of_ble_eq_true h
theorem body_l_by_hand_right {ds : List PyData} (h : R_l_by_hand_right ds d) : BodyOk 6 (t_l_by_hand_right K w) ds d := by
  obtain ⟨rfl, rfl⟩ := h
  intro V0 A0 D hr
  have ok := drawn_ok hand_drawn
  refine run_asg (d := encRs hand) (ed_tup (ea_cons (ed_tup (ea_cons ed_int (ea_cons ed_int (ea_cons ed_non ea_nil))) (small_len rfl)) (ea_cons (ed_tup (ea_cons ed_int (ea_cons ed_int (ea_cons ed_int ea_nil))) (small_len rfl)) (ea_cons (ed_tup (ea_cons ed_int (ea_cons ed_int (ea_cons ed_non ea_nil))) (small_len rfl)) ea_nil))) (small_len rfl)) ?_
  refine run_asg (d := .list [dueH1, dueH2, dueH3, dueH4]) ?_ ?_
  · rw [← isH1, ← isH2, ← isH4]
    unfold dueH3
    rw [← hand3]
    exact ed_lst (ea_cons (ed_widths (rs := hand) (N := 3) (.inl rfl) ok (by decide) rfl (ea_cons ed_int ea_nil) (fun _ => ed_var rfl) (fun _ => ed_int) (fun _ => rfl)) (ea_cons (ed_call (ea_cons (ed_var rfl) (ea_cons ed_int ea_nil)) ⟨_, hand, 3, rfl, .inl rfl, ok, by decide, by decide, rfl⟩) (ea_cons (ed_call (ea_cons (ed_var rfl) (ea_cons ed_int ea_nil)) ⟨_, hand, 6, rfl, .inl rfl, ok, by decide, rfl⟩) (ea_cons (ed_call (ea_cons (ed_var rfl) (ea_cons ed_int ea_nil)) ⟨_, hand, 7, rfl, .inl rfl, ok, by decide, rfl⟩) ea_nil)))) (small_len rfl)
  · have tq : ∀ {ρ : List Sl} {a b : Int}, EvD (tTup (tCons (tC (.int a)) (tCons (tC (.int b)) tNil))) ρ (qD a b) := fun {ρ a b} => ed_tup (ea_cons ed_int (ea_cons ed_int ea_nil)) (small_len rfl)
    have t4 : ∀ {ρ : List Sl} {a b c e : Int}, EvD (tTup (tCons (tC (.int a)) (tCons (tC (.int b)) (tCons (tC (.int c)) (tCons (tC (.int e)) tNil))))) ρ (.tuple (intD [a, b, c, e])) := fun {ρ a b c e} => ed_tup (ea_cons ed_int (ea_cons ed_int (ea_cons ed_int (ea_cons ed_int ea_nil)))) (small_len rfl)
    refine run_new (ds := [dueH1, dueH2, dueH3]) (ea_cons (ed_lst (ea_cons tq (ea_cons tq (ea_cons tq ea_nil))) (small_len rfl)) (ea_cons (ed_tup (ea_cons ed_int (ea_cons (ed_tup (ea_cons t4 (ea_cons t4 (ea_cons t4 ea_nil))) (small_len rfl)) ea_nil)) (small_len rfl)) (ea_cons (ed_tup (ea_cons ed_int (ea_cons ed_int ea_nil)) (small_len rfl)) ea_nil))) (show 2 < 6 by decide) (small_len rfl) ?_
    have ts : ∀ {ρ : List Sl} {a b c : Int} {s : Str}, EvD (tTup (tCons (tTup (tCons (tC (.int a)) (tCons (tC (.int b)) tNil))) (tCons (tC (.int c)) (tCons (tC (.str s)) tNil)))) ρ (.tuple [qD a b, .int c, .str s]) := fun {ρ a b c s} => ed_tup (ea_cons tq (ea_cons ed_int (ea_cons ed_str ea_nil))) (small_len rfl)
    refine run_app (d := dueH4) (ed_lst (ea_cons ts (ea_cons ts (ea_cons ts (ea_cons ts ea_nil)))) (small_len rfl)) (by decide) (run_done ?_)
    refine run_asg (d := .list [dueH1, dueH2, dueH3, dueH4]) ?_ ?_
    · rw [← isH1, ← isH2, ← isH4]
      unfold dueH3
      rw [← hand3, given_exact ok, free_map ok, stops_eq ok]
      have ecols : (widths 3).map (exactQ hand) = (widths 3).map (givenAll hand) := List.map_congr_left fun x hx => (given_exact ok x).symm
      have c1 := cols_ok ok (n := 3) (by decide) (by decide)
      unfold ruleLayout
      rw [← ecols] at c1 ⊢
      refine ed_lst (ea_cons (ed_call (ea_cons (ed_var rfl) (ea_cons ed_int ea_nil)) ⟨hand, 6, rfl, ok, by decide, rfl⟩) (ea_cons (ed_call (ea_cons (d := .list (((widths 3).map (exactQ hand)).map colD)) (ed_is (ed_lc1 (enc := PyData.int) (xs := widths 3) (f := fun x => .list (qs (exactQ hand x))) (it_rngW (n := 3) (ea_cons ed_int ea_nil) (by decide) (by decide)) (fun y hy => tg_name) (fun y hy => ed_call (ea_cons (ed_var rfl) (ea_cons (ed_var rfl) ea_nil)) ⟨hand, y, rfl, ok, (mem_widths hy).1, rfl⟩) (by decide)) (by rw [List.map_map]; rfl)) ea_nil) ⟨_, _, rfl, c1, rfl⟩) (ea_cons (ed_call (ea_cons (ed_var rfl) (ea_cons ed_int ea_nil)) ⟨hand, 6, rfl, ok, by decide, rfl⟩) (ea_cons (ed_call (ea_cons (ed_var rfl) (ea_cons ed_int ea_nil)) ⟨hand, 7, rfl, ok, by decide, rfl⟩) ea_nil)))) (small_len rfl)
    · exact run_retS (ed_is (ed_andV (a := true) (b := true) (ed_same (ed_var rfl) (ed_var rfl) fineH) fun _ => ed_same (ed_var rfl) (ed_var rfl) fineH) rfl) hr
/-! ### drawn rows of ints -/
theorem ints_of {a b : Int} : ∀ {ds : List PyData}, (∀ x ∈ ds, ∃ r : Nat, x = .int (a + (r : Int)) ∧ (r : Int) < b) → ∃ ns : List Int, ds = intD ns ∧ ∀ s ∈ ns, a ≤ s ∧ s < a + b
  | [], _ => ⟨[], rfl, by simp⟩
  | d :: ds, h => by
    obtain ⟨ns, e, h2⟩ := ints_of (ds := ds) fun x hx => h x (List.mem_cons_of_mem _ hx)
    obtain ⟨r, er, hr⟩ := h d (by simp)
    refine ⟨(a + (r : Int)) :: ns, by rw [er, e]; rfl, fun s hs => ?_⟩
    rcases List.mem_cons.mp hs with rfl | hs
    · omega
    · exact h2 s hs
theorem shares_ok {ns : List Int} (h1 : 1 ≤ ns.length) (h2 : ns.length ≤ 5) (h : ∀ s ∈ ns, 1 ≤ s ∧ s < 1 + 5) : RsOk (sharesRs ns) := by
  refine ⟨by unfold sharesRs; rw [List.length_map]; exact h1, by unfold sharesRs; rw [List.length_map]; exact h2, fun r hr => ?_, ?_, ?_⟩
  · obtain ⟨s, hs, rfl⟩ := List.mem_map.mp hr
    have := h s hs
    exact ⟨this.1, by show s ≤ 5; omega, Int.le_refl 0, show (0 : Int) ≤ 9 by decide, fun m hm => by cases hm⟩
  · obtain ⟨s, hs⟩ : ∃ s, s ∈ ns := by
      cases ns with
      | nil => simp at h1
      | cons s ns => exact ⟨s, by simp⟩
    exact ⟨⟨s, 0, none⟩, List.mem_map_of_mem hs, rfl⟩
  · have := shares_leasts ns
    unfold leastsOf at this
    rw [this]; decide
theorem lawRows_snoc (last m : Int) : ∀ (ms : List Int) (a : Int), lawRows last a (ms ++ [m]) = lawRows last a ms ++ [(widths last).map fun x => max 0 (min (x - (a + ms.sum)) m)]
  | [], a => by simp [lawRows]
  | x :: ms, a => by
    simp only [lawRows, List.cons_append, lawRows_snoc last m ms (a + x), List.sum_cons]
    rw [show a + x + ms.sum = a + (x + ms.sum) by omega]
theorem lawRows_len (last : Int) : ∀ (ms : List Int) (a : Int), (lawRows last a ms).length = ms.length
  | [], a => rfl
  | m :: ms, a => by simp only [lawRows, List.length_cons, lawRows_len last ms]
theorem rep_sum : ∀ n : Nat, (List.replicate n (1 : Int)).sum = (n : Int)
  | 0 => rfl
  | n + 1 => by rw [List.replicate_succ, List.sum_cons, rep_sum n]; omega
theorem sum_pos {ns : List Int} (h1 : 1 ≤ ns.length) (h : ∀ s ∈ ns, 1 ≤ s ∧ s < 1 + 5) : 0 < ns.sum ∧ ns.sum ≤ 5 * ns.length := by
  have key : ∀ l : List Int, (∀ s ∈ l, 1 ≤ s ∧ s < 1 + 5) → (l.length : Int) ≤ l.sum ∧ l.sum ≤ 5 * l.length := by
    intro l
    induction l with
    | nil => intro _; exact ⟨Int.le_refl _, Int.le_refl _⟩
    | cons x l ih =>
      intro h
      have := h x (by simp)
      have := ih fun s hs => h s (List.mem_cons_of_mem _ hs)
      rw [List.sum_cons, List.length_cons]
      omega
  have := key ns h
  omega
theorem body_l_right {ds : List PyData} {S : PyData → Prop} (h : R_l_right ds n m S) : BodyU 15 (t_l_right K w) ds n m S := by
  obtain ⟨rfl, hn, rfl, rfl⟩ := h
  intro a V0 A0 D hr
  refine run_asgU (m := n + 30) (eu_call rfl ea_nil ⟨rfl, by omega, rfl, rfl⟩) ?_
  rintro d ⟨rs, rfl, dr⟩
  have ok := drawn_ok dr
  refine run_ifU (m := n + 30 + 3) (eub_not (eub_B (T := fun b => b = true) (eu_call rfl (ea_cons (ed_var rfl) ea_nil) ⟨rs, rfl, dr, by omega, rfl, rfl⟩) (fun d h => ⟨true, h, rfl⟩))) (fun z => by cases z) (fun _ => run_next ?_)
  refine run_asgU (m := n + 30 + 3 + 5 * 4) (S := fun d => ∃ T : List PyData, d = .list T ∧ T.length ≤ 5 ∧ ∀ x ∈ T, Bent x) (eu_op (S1 := fun d => d = .list [encRs rs]) (eu_pure (ed_lst (ea_cons (ed_var rfl) ea_nil) (by simp))) (fun _ _ => eu_lcR (P := fun _ => True) (c := 5) (N := 4) (eua_pure (ea_cons (d := .int ((4 : Nat) : Int)) ed_int ea_nil)) (fun ds h => ⟨4, h, Nat.le_refl _, trivial⟩) (by decide) (fun i q hq => eu_call rfl (ea_cons (ed_var rfl) ea_nil) ⟨rs, rfl, dr, by omega, rfl, rfl⟩)) ?_) ?_
  · rintro x y rfl ⟨bs, rfl, -, hbl, hb⟩
    refine ⟨.list ([encRs rs] ++ bs), opd_cat (by rw [List.length_singleton]; omega), [encRs rs] ++ bs, rfl, by rw [List.length_append, List.length_singleton]; omega, fun x hx => ?_⟩
    rcases List.mem_append.mp hx with hx | hx
    · rw [List.mem_singleton.mp hx]
      have := dr.len
      refine bent_of (by rw [List.length_map]; omega) fun x hx => ?_
      obtain ⟨r, -, rfl⟩ := List.mem_map.mp hx
      exact shp_R r 2
    · exact hb x hx
  · rintro d ⟨T, rfl, hTl, hT⟩
    have eT : ∀ ρ : List Sl, ρ[2]? = some (.d (.list T)) → ItD (iSeqA K (tVar 2)) ρ (T.map fun x => x) := fun ρ e => by rw [List.map_id']; exact it_seqL (ed_var e)
    refine run_if (b := false) (eb_is (eb_not (eb_B (ed_same (x := .list ((T.map isRulesD).map PyData.bool)) (ed_lcB (f := isRulesD) (eT _ rfl) (fun y hy => tg_name) (fun y hy => ed_call (ea_cons (ed_var rfl) ea_nil) ⟨y, rfl, (hT y hy).1, rfl⟩) (by omega)) (ed_lcB (f := isRulesD) (eT _ rfl) (fun y hy => tg_name) (fun y hy => ed_call (ea_cons (ed_var rfl) ea_nil) ⟨y, rfl, (hT y hy).1, (hT y hy).2, rfl⟩) (by omega)) ?_))) rfl) (fun z => by cases z) (fun _ => run_next ?_)
    · refine (fine_lst (k := 0) (by rw [List.length_map, List.length_map]; omega) fun x hx => ?_).up (by decide)
      obtain ⟨b, -, rfl⟩ := List.mem_map.mp hx
      exact fine_bool _ b
    refine run_asgTU (js := [3] ++ ([4] ++ [])) (m := n + 30 + 3 + 5 * 4 + 1 + 1 * 4 + 1) (eu_tup (eua_cons (S1 := fun d => ∃ ns : List Int, d = .tuple (intD ns) ∧ 1 ≤ ns.length ∧ ns.length ≤ 4 ∧ ∀ s ∈ ns, 1 ≤ s ∧ s < 1 + 5) (eu_cb (eua_one (eu_lcR (P := fun k => 1 ≤ k) (c := 1) (N := 4) (eua_one (eu_plus (K := K) (b := 4) ed_int (eu_take rfl ed_int (by decide) (by decide) (by omega)))) ?_ (by decide) (fun i q hq => eu_plus (K := K) (b := 5) ed_int (eu_take rfl ed_int (by decide) (by decide) (by omega))))) ?_) (fun _ _ => eua_one (eu_take (b := 9) rfl ed_int (by decide) (by decide) (by omega)))) ?_) ?_
    · rintro ds ⟨d, rfl, r, rfl, hr⟩
      exact ⟨1 + r, by rw [show (1 : Int) + (r : Int) = ((1 + r : Nat) : Int) by omega], by omega, by omega⟩
    · rintro xs ⟨d, rfl, ds, rfl, h1, h2, h3⟩
      obtain ⟨ns, rfl, h4⟩ := ints_of h3
      rw [intD_len] at h1 h2
      exact ⟨_, cad_tupL, ns, rfl, h1, h2, h4⟩
    · rintro ds ⟨d1, d2, rfl, -, d3, rfl, -⟩
      simp
    rintro d ⟨ds, rfl, d1, d2, rfl, ⟨ns, rfl, hn1, hn2, hns⟩, d3, rfl, ⟨L, rfl, hL⟩⟩
    refine ⟨_, tg_tup (tgl_cons tg_name (tgl_cons tg_name tgl_nil)), ?_⟩
    have okN := shares_ok hn1 (by omega) hns
    have hsum := sum_pos hn1 hns
    have hw : (0 : Int) ≤ (L : Int) := by omega
    have hwl := widths_len hw (by omega)
    have hwz : (widths (L : Int)).length ≤ 50000 := by unfold widths; rw [List.length_map, List.length_range]; omega
    have rng : ∀ ρ : List Sl, ρ[4]? = some (.d (.int (L : Int))) → ItD (iRng1 (tCons (tOp (rAddA K) (tVar 4) (tC (.int 1))) tNil)) ρ ((widths (L : Int)).map PyData.int) := fun ρ e => it_rngW (ea_cons (ed_op (ed_var e) ed_int opd_add) ea_nil) hw (by omega)
    have itN : ∀ ρ : List Sl, ρ[3]? = some (.d (.tuple (intD ns))) → ItD (iSeqA K (tVar 3)) ρ (ns.map PyData.int) := fun ρ e => it_seqT (ed_var e)
    have ecol : (widths L).map (fun wd => ns.map fun s => Rat.divInt (wd * s) ns.sum) = (widths L).map (givenAll (sharesRs ns)) := List.map_congr_left fun x hx => by rw [given_exact okN, shares_exact okN (mem_widths hx).1]
    refine run_asg (d := .list (((widths L).map (givenAll (sharesRs ns))).map colD)) (ed_is (ed_lc1 (enc := PyData.int) (xs := widths L) (f := fun wd => .list (qs (ns.map fun s => Rat.divInt (wd * s) ns.sum))) (rng _ rfl) (fun y hy => tg_name) (fun y hy => ed_lcQ (enc := PyData.int) (xs := ns) (f := fun s => Rat.divInt (y * s) ns.sum) (itN _ rfl) (fun z hz => tg_name) (fun z hz => ?_) (by omega)) hwl) ?_) ?_
    · have h1 := mem_widths hy
      have h2 := hns z hz
      exact ed_call (ea_cons (ed_op (ed_var rfl) (ed_var rfl) (opd_mul (cmul_r (by omega) (by omega)))) (ea_cons (ed_cb (ea_cons (ed_var rfl) ea_nil) cad_sumT) ea_nil)) ⟨y * z, ns.sum, rfl, Int.mul_nonneg h1.1 (by omega), hsum.1, by omega, rfl⟩
    · rw [← ecol, List.map_map]; rfl
    refine run_asgU (eu_plus (K := K) (b := 5) ed_int (eu_take rfl ed_int (by decide) (by decide) (by omega))) ?_
    rintro d ⟨q, rfl, hq⟩
    have eM : (1 : Int) + (q : Int) = ((1 + q : Nat) : Int) := by omega
    rw [eM]
    have hM1 : 1 ≤ 1 + q := by omega
    have hM2 : 1 + q ≤ 5 := by omega
    generalize 1 + q = M at hM1 hM2 ⊢
    have okM := evenOk hM1 hM2
    have ecolM : (widths L).map (fun wd => List.replicate M (Rat.divInt wd (M : Int))) = (widths L).map (givenAll (sharesRs (List.replicate M 1))) := List.map_congr_left fun x hx => by
      rw [given_exact okM, shares_exact okM (mem_widths hx).1, List.map_replicate, rep_sum, Int.mul_one]
    refine run_asg (d := .list (((widths L).map (givenAll (sharesRs (List.replicate M 1)))).map colD)) (ed_is (ed_lc1 (enc := PyData.int) (xs := widths L) (f := fun wd => .list (qs (List.replicate M (Rat.divInt wd (M : Int))))) (rng _ rfl) (fun y hy => tg_name) (fun y hy => ?_) hwl) ?_) ?_
    · have h1 := mem_widths hy
      refine ed_is (ed_op (ed_lst (ea_cons (ed_call (ea_cons (ed_var rfl) (ea_cons (ed_var rfl) ea_nil)) ⟨y, (M : Int), rfl, h1.1, by omega, by omega, rfl⟩) ea_nil) (by simp)) (ed_var rfl) (opd_rep (by omega) (by omega) (by simp))) ?_
      rw [Int.toNat_natCast, rep_flat]
      unfold qs
      rw [List.map_replicate]
    · rw [← ecolM, List.map_map]; rfl
    refine run_tup3NewU (K := K) (m := n + 30 + 3 + 5 * 4 + 1 + 1 * 4 + 1 + 1 + 1 + 1 * 3) (S := fun d => ∃ ms : List Int, d = .list (intD ms) ∧ ms.length ≤ 3 ∧ ∀ s ∈ ms, 1 ≤ s ∧ s < 1 + 4) (eu_to (eu_lcR (P := fun _ => True) (c := 1) (N := 3) (eua_one (eu_take (b := 4) rfl ed_int (by decide) (by decide) (by omega))) ?_ (by decide) (fun i q hq => eu_plus (K := K) (b := 4) ed_int (eu_take rfl ed_int (by decide) (by decide) (by omega)))) (by omega) ?_) ed_int (show 10 < 15 by decide) ?_
    · rintro ds ⟨d, rfl, r, rfl, hr⟩
      exact ⟨r, rfl, by omega, trivial⟩
    · rintro d ⟨ds, rfl, -, h2, h3⟩
      obtain ⟨ms, rfl, h4⟩ := ints_of h3
      rw [intD_len] at h2
      exact ⟨ms, rfl, h2, h4⟩
    rintro d ⟨ms, rfl, hml, hms⟩
    refine Run.more (m := n + 1000) (by omega) ?_
    have elist : EvD (tOp (rAddA K) (tVar 8) (tLst (tCons (tC (.int 40)) tNil))) [.ur, .d (encRs rs), .d (.list T), .d (.tuple (intD ns)), .d (.int L), .d (.list (((widths L).map (givenAll (sharesRs ns))).map colD)), .d (.int (M : Int)), .d (.list (((widths L).map (givenAll (sharesRs (List.replicate M 1)))).map colD)), .d (.list (intD ms)), .d (.int 0), .no, .no, .no, .no, .no] (.list ((ms ++ [40]).map PyData.int)) := ed_is (ed_op (ed_var rfl) (ed_lst (ea_cons ed_int ea_nil) (by simp)) (opd_cat (by rw [intD_len]; simp; omega))) (by rw [List.map_append]; rfl)
    refine run_for (enc := PyData.int) (xs := ms ++ [40]) (fun pre => [.ur, .d (encRs rs), .d (.list T), .d (.tuple (intD ns)), .d (.int L), .d (.list (((widths L).map (givenAll (sharesRs ns))).map colD)), .d (.int (M : Int)), .d (.list (((widths L).map (givenAll (sharesRs (List.replicate M 1)))).map colD)), .d (.list (intD ms)), .d (.int pre.sum), .no, .no, .no, .no, .no]) (fun pre => some (10, (lawRows L 0 pre).map fun r => .tuple (intD r))) (it_seqL elist) (by walk_at "sl") rfl ?_ ?_
    · intro pre y post P' e
      refine ⟨_, _, tg_name, offSome (by decide), ?_⟩
      refine run_app (d := .tuple (intD ((widths L).map fun x => max 0 (min (x - pre.sum) y)))) (ed_cb (ea_cons (ed_lcI (enc := PyData.int) (xs := widths L) (rng _ rfl) (fun z hz => tg_name) (fun z hz => by walk_at "ed") hwl) ea_nil) cad_tupL) ?_ ?_
      · rw [List.length_map, lawRows_len]
        have := congrArg List.length e
        simp only [List.length_append, List.length_cons, List.length_nil] at this
        omega
      · refine run_asg (d := .int (pre.sum + y)) (by walk_at "ed") ?_
        refine run_turn rfl (by rw [sum_snoc]; walk_at "sl") ?_
        rw [lawRows_snoc, List.map_append, Int.zero_add]; rfl
    · rw [rows_eq (by omega) ms 0 (by decide) fun s hs => by have := hms s hs; omega]
      refine run_done ?_
      have cN := cols_ok okN hw (by omega)
      have cM := cols_ok okM hw (by omega)
      have X : ∀ x : PyData, x = .list [ruleLayout (sharesRs ns) L, ruleLayout (sharesRs ns) L, ruleLayout (sharesRs (List.replicate M 1)) L, byTurns ms L, byTurns ms L] → Fine 12 x := by
        rintro x rfl
        refine (fine_lst (k := 3) (by simp) fun x hx => ?_).up (by decide)
        have f1 : ∀ rs : List Rule, rs.length ≤ 5 → Fine 3 (ruleLayout rs L) := fun rs h => fine_layout (by rw [List.length_map]; exact hwz) (by omega)
        have f2 : Fine 3 (byTurns ms L) := by
          refine fine_tup (by simp) fun y hy => ?_
          simp only [List.mem_cons, List.not_mem_nil, or_false] at hy
          rcases hy with rfl | rfl
          · exact fine_int _ _
          · have hrl : (turnRows (L : Int) 0 ms).length ≤ 50000 := by rw [turnRows_snoc, List.length_append, turnRowsI_len, List.length_singleton]; omega
            refine fine_tup (by rw [List.length_map]; exact hrl) fun z hz => ?_
            obtain ⟨r, hr, rfl⟩ := List.mem_map.mp hz
            refine fine_ints 0 ?_
            have key : ∀ (ms : List Int) (a : Int), ∀ r ∈ turnRows (L : Int) a ms, r.length = (widths (L : Int)).length := by
              intro ms
              induction ms with
              | nil => intro a r hr; rw [List.mem_singleton.mp hr, List.length_map]
              | cons m ms ih =>
                intro a r hr
                rcases List.mem_cons.mp hr with rfl | hr
                · rw [List.length_map]
                · exact ih _ r hr
            rw [key ms 0 r hr]; exact hwz
        simp only [List.mem_cons, List.not_mem_nil, or_false] at hx
        rcases hx with rfl | rfl | rfl | rfl | rfl
        · exact f1 _ okN.len
        · exact f1 _ okN.len
        · exact f1 _ okM.len
        · exact f2
        · exact f2
      refine run_asg (d := .list [ruleLayout (sharesRs ns) L, ruleLayout (sharesRs ns) L, ruleLayout (sharesRs (List.replicate M 1)) L, byTurns ms L, byTurns ms L]) (ed_lst (ea_cons (ed_call (ea_cons (ed_var rfl) (ea_cons (ed_var rfl) ea_nil)) ⟨_, ns, L, rfl, .inr rfl, okN, hw, by omega, rfl⟩) (ea_cons (ed_call (ea_cons (ed_cb (ea_cons (ed_var rfl) ea_nil) cad_lstT) (ea_cons (ed_var rfl) ea_nil)) ⟨_, ns, L, rfl, .inl rfl, okN, hw, by omega, rfl⟩)
        (ea_cons (ed_call (ea_cons (ed_var rfl) (ea_cons (ed_var rfl) ea_nil)) ⟨M, L, rfl, hM1, hM2, hw, by omega, rfl⟩) (ea_cons (ed_call (ea_cons (ed_cb (ea_cons (ed_var rfl) ea_nil) cad_tupL) (ea_cons (ed_var rfl) ea_nil)) ⟨_, ms, L, rfl, .inr rfl, by omega, hw, by omega, rfl⟩) (ea_cons (ed_call (ea_cons (ed_var rfl) (ea_cons (ed_var rfl) ea_nil)) ⟨_, ms, L, rfl, .inl rfl, by omega, hw, by omega, rfl⟩) ea_nil))))) (by simp)) ?_
      refine run_retS (ed_same (ed_var rfl) ?_ (X _ rfl)) (hr _ rfl)
      refine ed_is (ed_op (ed_op (ed_op (ed_lst (ea_cons (ed_call (ea_cons (ed_var rfl) ea_nil) ⟨_, _, rfl, cN, rfl⟩) ea_nil) (by simp)) ed_int (opd_rep (by decide) (by decide) (by simp))) (ed_lst (ea_cons (ed_call (ea_cons (ed_var rfl) ea_nil) ⟨_, _, rfl, cM, rfl⟩) ea_nil) (by simp)) (opd_cat (by simp))) (ed_op (ed_lst (ea_cons (ed_tup (ea_cons ed_int (ea_cons (ed_cb (ea_cons (ed_var rfl) ea_nil) cad_tupL) ea_nil)) (by simp)) ea_nil) (by simp)) ed_int (opd_rep (by decide) (by decide) (by simp))) (opd_cat (by simp))) rfl
end
end K4

/-! ## SpecL -/
/-! the script: cells and the law -/
namespace K4
open PySem PySem.Spec PyProof.Rows L2
def spCells (K : PySem.W.Frag) : Sp := fun vs H Q _ => ∃ (p : Addr) (ns : List Int), vs = [.ref p, .int 1] ∧ SqL K H p (ns.map V.int) ∧ ns.length ≤ 63 ∧ ∀ (c : Int) q H', H' q = some (.lst [.int c]) → Q (.ref q) H'
def spLaw (K : PySem.W.Frag) : Sp := fun vs H Q _ => ∃ (a : Addr) (ns : List Int), vs = [.ref a] ∧ SqL K H a (ns.map V.int) ∧ ns.length ≤ 63 ∧ ∀ H', Q (.bl true) H'
def t_l_cells (K : PySem.W.Frag) (w : World) : TS :=
  (tSeq (tAsg (tOrT K (tCB (rListOf K) (tCons (tSl (rSlX K) (tVar 0) tNoPart (tPart (tVar 1))) tNil)) (tLst (tCons (tC (.int 0)) tNil))) (gName 2))
  (tSeq (tFor (iEnumA K (tCons (tSl (rSlX K) (tVar 0) (tPart (tVar 1)) (tPart (tC (.int 63)))) tNil)) (gTup K 2 (gCons (gName 3) (gCons (gName 4) gNil))) (tSeq (tAsg (tOp (rModI) (tCB (rInt1) (tCons (tVar 3) tNil)) (tVar 1)) (gName 5))
  (tSeq (tAsg (tOp (rAddA K) (tOp (rIxA K) (tVar 2) (tVar 5)) (tOp (rMulA) (tVar 4) (tOp (rAddA K) (tVar 3) (tC (.int 2))))) (gSub (tVar 2) (tVar 5) rSetL))
  tNext)))
  (tSeq (tRet (tVar 2))
  tNext)))

def t_law (K : PySem.W.Frag) (w : World) : TS :=
  (tSeq (tRet (tAndV (tCall (spD R_l_by_hand_right) [] E0 tNil) (tCall (spU R_l_right) [] E0 (tCons (tCall (spD R_l_box) [] E0 (tCons (tCall (spCells K) [] E0 (tCons (tVar 0) (tCons (tC (.int 1)) tNil))) (tCons (tC (.int 0)) tNil))) tNil))))
  tNext)

end K4

/-! ## RunsL -/
/-! cells, the law -/
namespace K4
open PySem PySem.Spec PyProof.Rows L2
section
variable {K : PySem.W.Frag} {w : World}
theorem cutV_map {lo hi : Option Int} (ns : List Int) : ∃ ms : List Int, cutV (ns.map V.int) lo hi = ms.map V.int ∧ ms.length ≤ ns.length := by
  refine ⟨(ns.drop (HT.sIx ns.length 0 lo)).take (HT.sIx ns.length ns.length hi - HT.sIx ns.length 0 lo), ?_, ?_⟩
  · unfold cutV
    rw [List.length_map, List.map_take, List.map_drop]
  · rw [List.length_take, List.length_drop]; omega
/-- a list of one int at l, kept in slot 2 -/
structure CellS (p l a : Addr) (xs : List L2.V) (σ : L2.St) (H : Hp) (c : Int) : Prop where
  st : ∃ y3 y4 y5, σ = [some (.ref p), some (.int 1), some (.ref l), y3, y4, y5]
  cell : H l = some (.lst [.int c])
  seq : H a = some (.lst xs)
  ne : a ≠ l
theorem run_cells {p : Addr} {ns : List Int} {H : Hp} {D : Ends} {y2 y3 y4 y5 : Option L2.V} (hS : SqL K H p (ns.map V.int)) (hz : ns.length ≤ 63) (q : ∀ (c : Int) r H', H' r = some (.lst [.int c]) → D.rt (.ref r) H') : t_l_cells K w D [some (.ref p), some (.int 1), y2, y3, y4, y5] H := by
  -- the loop and behind it
  have loop : ∀ (l : Addr) (c : Int) (H1 : Hp), H1 l = some (.lst [.int c]) → SqL K H1 p (ns.map V.int) → tSeq (tFor (iEnumA K (tCons (tSl (rSlX K) (tVar 0) (tPart (tVar 1)) (tPart (tC (.int 63)))) tNil)) (gTup K 2 (gCons (gName 3) (gCons (gName 4) gNil))) (tSeq (tAsg (tOp (rModI) (tCB (rInt1) (tCons (tVar 3) tNil)) (tVar 1)) (gName 5))
      (tSeq (tAsg (tOp (rAddA K) (tOp (rIxA K) (tVar 2) (tVar 5)) (tOp (rMulA) (tVar 4) (tOp (rAddA K) (tVar 3) (tC (.int 2))))) (gSub (tVar 2) (tVar 5) rSetL)) tNext))) (tSeq (tRet (tVar 2)) tNext) D [some (.ref p), some (.int 1), some (.ref l), y3, y4, y5] H1 := by
    intro l c H1 hl hS1
    obtain ⟨ms, em, hml⟩ := cutV_map (lo := some 1) (hi := some 63) ns
    refine ⟨.ref p, rfl, .int 1, rfl, 1, rfl, 63, rfl, .inl ⟨p, ns.map V.int, rfl, hS1, fun a ha => ?_⟩⟩
    rw [em]
    have hne : a ≠ l := fun z => by rw [z, hl] at ha; cases ha
    refine ⟨a, ms.map V.int, rfl, .inl ⟨SqL.of upd_same, ?_⟩⟩
    refine for_it (n := (ms.map V.int).length) (walk_enum (K := K) (a := a) (xs := ms.map V.int)) (fun i σ H => ∃ c, CellS p l a (ms.map V.int) σ H c) ⟨c, ⟨⟨_, _, _, rfl⟩, by rw [upd_ne (fun z => hne z.symm)]; exact hl, upd_same, hne⟩⟩ ?_ ?_ ?_
    · rintro i σ H2 - ⟨c2, s⟩
      exact SqL.of s.seq
    · rintro i v σ H2 H3 hi ⟨c2, ⟨z3, z4, z5, rfl⟩, h1, h2, h3⟩ ⟨T, x, y, rfl, hT, rfl, hx, hy⟩
      have ex : x = .int (i : Nat) := (Option.some.inj hx).symm
      subst ex
      obtain ⟨cell, rfl⟩ : ∃ cell : Int, y = .int cell := by
        dsimp only at hy
        rw [List.getElem?_map] at hy
        obtain ⟨cell, -, e⟩ := Option.map_eq_some_iff.mp hy
        exact ⟨cell, e.symm⟩
      have hlT : l ≠ T := fun z => by rw [z, hT] at h1; cases h1
      have haT : a ≠ T := fun z => by rw [z, hT] at h2; cases h2
      refine ⟨T, [.int (i : Nat), .int cell], rfl, SqT.of upd_same, rfl, .int (i : Nat), [.int cell], rfl, .int cell, [], rfl, rfl, ?_⟩
      have hi63 : i < 64 := by rw [List.length_map] at hi; omega
      refine ⟨.int (i : Nat), rfl, .inl ⟨_, rfl, ?_⟩⟩
      refine ⟨.int 1, rfl, _, 1, rfl, rfl, (by decide : (0 : Int) < 1), ?_⟩
      have e0 : ((i : Nat) : Int) % 1 = 0 := Int.emod_one _
      dsimp only
      rw [e0]
      have hl4 : (upd H2 T (.tup [.int (i : Nat), .int cell])) l = some (.lst [.int c2]) := by rw [upd_ne hlT]; exact h1
      have ha4 : (upd H2 T (.tup [.int (i : Nat), .int cell])) a = some (.lst (ms.map V.int)) := by rw [upd_ne haT]; exact h2
      refine ⟨.ref l, rfl, .int 0, rfl, .inl ⟨l, [.int c2], 0, .int c2, rfl, rfl, SqL.of hl4, atI_nat (j := 0) rfl, ?_⟩⟩
      refine ⟨.int cell, rfl, .int (i : Nat), rfl, .inl ⟨(i : Nat), 2, rfl, rfl, ?_⟩⟩
      refine .inl ⟨cell, (i : Nat) + 2, rfl, rfl, .inr ⟨by omega, by omega⟩, ?_⟩
      refine .inl ⟨c2, cell * ((i : Nat) + 2), rfl, rfl, ?_⟩
      refine ⟨.ref l, rfl, .int 0, rfl, l, [.int c2], 0, 0, rfl, rfl, hl4, rfl, ?_⟩
      exact ⟨c2 + cell * ((i : Nat) + 2), ⟨⟨_, _, _, rfl⟩, upd_same, by rw [upd_ne h3]; exact ha4, h3⟩⟩
    · rintro σ H2 ⟨c2, ⟨z3, z4, z5, rfl⟩, h1, h2, h3⟩
      exact ⟨.ref l, rfl, q c2 l H2 h1⟩
  obtain ⟨ms, em, hml⟩ := cutV_map (lo := none) (hi := some 1) ns
  refine ⟨.ref p, rfl, .int 1, rfl, 1, rfl, .inl ⟨p, ns.map V.int, rfl, hS, fun a ha => ?_⟩⟩
  rw [em]
  refine ⟨a, ms.map V.int, rfl, .inl (SqL.of upd_same), fun l hl => ?_⟩
  have s1 : Same H (upd H a (.lst (ms.map V.int))) := same_new ha
  have s2 : Same (upd H a (.lst (ms.map V.int))) (upd (upd H a (.lst (ms.map V.int))) l (.lst (ms.map V.int))) := same_new hl
  refine ⟨!(ms.map V.int).isEmpty, .inl ⟨ms.map V.int, SqL.of upd_same, rfl⟩, ?_⟩
  cases ms with
  | nil =>
    refine iteF ⟨by decide, fun r hr => ?_⟩
    have s3 : Same (upd (upd H a (.lst [])) l (.lst [])) (upd (upd (upd H a (.lst [])) l (.lst [])) r (.lst [.int 0])) := same_new hr
    exact loop r 0 _ upd_same (s3.seq (s2.seq (s1.seq hS)))
  | cons x ms =>
    have hx1 : ms = [] := by
      have e2 : (cutV (ns.map V.int) none (some 1)).length ≤ 1 := by
        unfold cutV
        rw [show HT.sIx (ns.map V.int).length (ns.map V.int).length (some 1) = min 1 (ns.map V.int).length from HT.sIx_nat _ _ 1, HT.sIx_none, List.length_take]
        omega
      rw [em, List.length_map, List.length_cons] at e2
      exact List.length_eq_zero_iff.mp (by omega)
    subst hx1
    exact iteT (loop l x _ upd_same (s2.seq (s1.seq hS)))
/-- the law's line -/
theorem run_law {a : Addr} {ns : List Int} {H : Hp} {D : Ends} (hS : SqL K H a (ns.map V.int)) (hz : ns.length ≤ 63) (q : ∀ H', D.rt (.bl true) H') : t_law K w D [some (.ref a)] H := by
  let V0 : Hp := fun _ => none
  have s0 : ∀ A : Hp, Same V0 A := fun A b o e => by cases e
  refine ⟨V0, [], .bool true, s0 H, .nil, ⟨rfl, rfl⟩, fun v V1 H1 f1 i1 => ?_⟩
  cases i1
  refine ⟨true, rfl, iteT ?_⟩
  have hS1 : SqL K H1 a (ns.map V.int) := by
    refine Same.seq ?_ hS
    exact f1.same
  refine ⟨.ref a, rfl, a, ns, rfl, hS1, hz, fun c r H2 h2 => ?_⟩
  let V2 : Hp := fun b => if b = r then some (.lst [.int c]) else none
  have s2 : Same V2 H2 := fun b o e => by
    by_cases hb : b = r
    · have e' : (if b = r then some (HO.lst [.int c]) else none) = some o := e
      rw [if_pos hb] at e'
      rw [hb, h2]; exact e'
    · have e' : (if b = r then some (HO.lst [.int c]) else none) = some o := e
      rw [if_neg hb] at e'; cases e'
  have hV2 : V2 r = some (.lst [.int c]) := if_pos rfl
  refine ⟨V2, _, _, s2, .cons (.lst hV2 (.cons (.int c) .nil)) (.cons (.int 0) .nil), ⟨c, rfl, rfl⟩, fun v V3 H3 f3 i3 => ?_⟩
  cases i3 with
  | @lst b xs _ k1 k2 =>
    have e3 := IsL.ints (ns := [_, _, _]) k2
    subst e3
    have hu : UrnOk H3 b 0 := by
      refine ⟨_, _, _, f3.sub _ _ k1, ?_, ?_, ?_, by omega, by omega⟩
      · split <;> split <;> omega
      · omega
      · omega
    refine ⟨V0, b, [], [], 0, 1000, _, rfl, s0 H3, rfl, hu, .nil, ⟨rfl, by decide, by decide, rfl⟩, fun v V4 H4 d f4 g1 g2 i4 hd => ?_⟩
    subst hd
    cases i4
    exact q H4
end
end K4

/-! ## Der0 -/
/-! the text, by places; the built-in names that stand -/
namespace K4
open PySem PySem.Spec PyProof.Rows L2
def topS (i : Nat) : Stmt := PySem.Challenge.pw_stillpanes_k04_whole_rules_by_own_growth.main.body.getD i (.Pass ⟨0, 0, 0, 0⟩)
/-- which built-in names the module's own names leave alone -/
structure Bt (mg : Str → Option Value) : Prop where
  m_isinstance : mg "isinstance" = none
  m_int : mg "int" = none
  m_bool : mg "bool" = none
  m_str : mg "str" = none
  m_list : mg "list" = none
  m_tuple : mg "tuple" = none
  m_set : mg "set" = none
  m_len : mg "len" = none
  m_any : mg "any" = none
  m_all : mg "all" = none
  m_sum : mg "sum" = none
  m_min : mg "min" = none
  m_max : mg "max" = none
  m_abs : mg "abs" = none
  m_sorted : mg "sorted" = none
  m_enumerate : mg "enumerate" = none
  m_range : mg "range" = none
  m_zip : mg "zip" = none
  m_gcd : mg "gcd" = some (.builtin "math.gcd")
  m_lcm : mg "lcm" = some (.builtin "math.lcm")
section
variable {X : Cx} {x : Str} {p pos : Pos} {e : Expr} {es : List Expr} {t : TA} {id : String} {r : List V → Hp → VK → Prop}
end
end K4

/-! ## DerA -/
namespace K4
open PySem PySem.Spec PyProof.Rows L2
section
variable {P : Program} {w : World} {K : PySem.W.Frag} {mg : Str → Option Value} {base : Heap}
abbrev s_p_is_number : Stmt := topS 4
abbrev n_p_is_number : List Str := ["thing"]
theorem sc_p_is_number : FnScope n_p_is_number ["thing"] (defScope s_p_is_number) := ⟨rfl, rfl, rfl, by decide +kernel, rfl, by decide +kernel, by decide +kernel⟩
theorem der_p_is_number {f : Addr} {cdv : Value} {A : Around} {outer : List PySem.Env} {s : Shared} {H : Hp} {E : XK} (B : Bt mg) {k : Nat} (hk : 0 ≤ k) (hr : Room k (A.deeper (envOfC "is_number" (defScope s_p_is_number) s.heap.objs.size f cdv))) :
    PSs (cxOf CX0 P w K mg base n_p_is_number "is_number" (defScope s_p_is_number) f cdv A outer s H E).nox (defBody s_p_is_number) (t_p_is_number K w) :=
  have nd := sc_p_is_number.nd
  (pss_cons (ps_ret (pe_and (pe_callB call_isi (by rfl) B.m_isinstance boot_isinstance (pa_cons (pv 0) (pa_cons (pe_bltn (v := .ty "int") (by rfl) B.m_int boot_int rfl) pa_nil))) (pe_one (pe_not (pe_callB call_isi (by rfl) B.m_isinstance boot_isinstance (pa_cons (pv 0) (pa_cons (pe_bltn (v := .ty "bool") (by rfl) B.m_bool boot_bool rfl) pa_nil)))))))
  pss_nil)

abbrev s_p_tuple_of : Stmt := topS 5
abbrev n_p_tuple_of : List Str := ["thing", "part"]
theorem sc_p_tuple_of : FnScope n_p_tuple_of ["thing"] (defScope s_p_tuple_of) := ⟨rfl, rfl, rfl, by decide +kernel, rfl, by decide +kernel, by decide +kernel⟩
theorem der_p_tuple_of {j : Nat} {R : List PyData → PyData → Prop} {f : Addr} {cdv : Value} {A : Around} {outer : List PySem.Env} {s : Shared} {H : Hp} {E : XK} (B : Bt mg) (D_p_tuple_of : Def P w K mg base "tuple_of" j ["thing"] (spD R)) {k : Nat} (hj : j ≤ k) (hr : Room k (A.deeper (envOfC "tuple_of" (defScope s_p_tuple_of) s.heap.objs.size f cdv))) :
    PSs (cxOf CX0 P w K mg base n_p_tuple_of "tuple_of" (defScope s_p_tuple_of) f cdv A outer s H E).nox (defBody s_p_tuple_of) (t_p_tuple_of K w R) :=
  have nd := sc_p_tuple_of.nd
  (pss_cons (ps_if (pt_val (pe_callB call_isiT (by rfl) B.m_isinstance boot_isinstance (pa_cons (pv 0) (pa_cons (pe_tup (pa_cons (pe_bltn (v := .ty "list") (by rfl) B.m_list boot_list rfl) (pa_cons (pe_bltn (v := .ty "tuple") (by rfl) B.m_tuple boot_tuple rfl) pa_nil))) pa_nil)))) (pss_cons (ps_ret (pe_callTy cr_tupOf (by rfl) B.m_tuple boot_tuple (pa_cons (pe_lc (own := [("part", 1)]) (by rfl) nd (pi_seqA (pv 0)) (blkOk_by (N := n_p_tuple_of) (sc := (defScope s_p_tuple_of)) (by decide +kernel)) (fun _ _ _ _ _ => (pg_name (i := 1) nd rfl (Or.inl rfl))) (fun _ _ _ _ _ => pts_nil) (fun _ _ _ _ _ => (pe_def D_p_tuple_of hr hj (by rfl) (pa_cons (pv 1) pa_nil)))) pa_nil)))
  pss_nil) pss_nil)
  (pss_cons (ps_ret (pv 0))
  pss_nil))

abbrev s_p_is_tuple_of : Stmt := topS 6
abbrev n_p_is_tuple_of : List Str := ["thing", "many"]
theorem sc_p_is_tuple_of : FnScope n_p_is_tuple_of ["thing", "many"] (defScope s_p_is_tuple_of) := ⟨rfl, rfl, rfl, by decide +kernel, rfl, by decide +kernel, by decide +kernel⟩
theorem der_p_is_tuple_of {f : Addr} {cdv : Value} {A : Around} {outer : List PySem.Env} {s : Shared} {H : Hp} {E : XK} (B : Bt mg) {k : Nat} (hk : 0 ≤ k) (hr : Room k (A.deeper (envOfC "is_tuple_of" (defScope s_p_is_tuple_of) s.heap.objs.size f cdv))) :
    PSs (cxOf CX0 P w K mg base n_p_is_tuple_of "is_tuple_of" (defScope s_p_is_tuple_of) f cdv A outer s H E).nox (defBody s_p_is_tuple_of) (t_p_is_tuple_of K w) :=
  have nd := sc_p_is_tuple_of.nd
  (pss_cons (ps_ret (pe_and (pe_callB call_isi (by rfl) B.m_isinstance boot_isinstance (pa_cons (pv 0) (pa_cons (pe_bltn (v := .ty "tuple") (by rfl) B.m_tuple boot_tuple rfl) pa_nil))) (pe_one (pe_cmpR (op_eqD hr.units) (pe_callB cr_len (by rfl) B.m_len boot_len (pa_cons (pv 0) pa_nil)) (pv 1) (nomark _)))))
  pss_nil)

abbrev s_p_is_rule : Stmt := topS 8
abbrev n_p_is_rule : List Str := ["thing"]
theorem sc_p_is_rule : FnScope n_p_is_rule ["thing"] (defScope s_p_is_rule) := ⟨rfl, rfl, rfl, by decide +kernel, rfl, by decide +kernel, by decide +kernel⟩
theorem der_p_is_rule {f : Addr} {cdv : Value} {A : Around} {outer : List PySem.Env} {s : Shared} {H : Hp} {E : XK} (D_p_is_number : Def P w K mg base "is_number" 1 ["thing"] (spD R_p_is_number)) (D_p_is_tuple_of : Def P w K mg base "is_tuple_of" 1 ["thing", "many"] (spD R_p_is_tuple_of)) {k : Nat} (hk : 1 ≤ k) (hr : Room k (A.deeper (envOfC "is_rule" (defScope s_p_is_rule) s.heap.objs.size f cdv))) :
    PSs (cxOf CX0 P w K mg base n_p_is_rule "is_rule" (defScope s_p_is_rule) f cdv A outer s H E).nox (defBody s_p_is_rule) (t_p_is_rule K w) :=
  have nd := sc_p_is_rule.nd
  (pss_cons (ps_if (PW.pt (pw_or (pt_not (pt_val (pe_def D_p_is_tuple_of hr (Nat.le_trans (by decide) hk) (by rfl) (pa_cons (pv 0) (pa_cons pe_int pa_nil))))) (pw_or (pt_not (pt_val (pe_def D_p_is_number hr (Nat.le_trans (by decide) hk) (by rfl) (pa_cons (pe_ix ix_A (pv 0) pe_int (fun _ _ => rfl)) pa_nil)))) (pw_or1 (pt_not (pt_val (pe_def D_p_is_number hr (Nat.le_trans (by decide) hk) (by rfl) (pa_cons (pe_ix ix_A (pv 0) pe_int (fun _ _ => rfl)) pa_nil)))))))) (pss_cons (ps_ret pe_bl)
  pss_nil) pss_nil)
  (pss_cons (ps_if (PW.pt (pw_or (pt_cmpR op_lt (pe_ix ix_A (pv 0) pe_int (fun _ _ => rfl)) pe_int (nomark _)) (pw_or1 (pt_cmpR op_lt (pe_ix ix_A (pv 0) pe_int (fun _ _ => rfl)) pe_int (nomark _))))) (pss_cons (ps_ret pe_bl)
  pss_nil) pss_nil)
  (pss_cons (ps_ret (pe_or (pe_cmpR op_isNon (pe_ix ix_A (pv 0) pe_int (fun _ _ => rfl)) pe_non (nomark _)) (pe_one (pe_and (pe_def D_p_is_number hr (Nat.le_trans (by decide) hk) (by rfl) (pa_cons (pe_ix ix_A (pv 0) pe_int (fun _ _ => rfl)) pa_nil)) (pe_one (pe_cmpR op_ge (pe_ix ix_A (pv 0) pe_int (fun _ _ => rfl)) (pe_ix ix_A (pv 0) pe_int (fun _ _ => rfl)) (nomark _)))))))
  pss_nil)))

abbrev s_p_is_rules : Stmt := topS 9
abbrev n_p_is_rules : List Str := ["thing", "own"]
theorem sc_p_is_rules : FnScope n_p_is_rules ["thing"] (defScope s_p_is_rules) := ⟨rfl, rfl, rfl, by decide +kernel, rfl, by decide +kernel, by decide +kernel⟩
theorem der_p_is_rules {f : Addr} {cdv : Value} {A : Around} {outer : List PySem.Env} {s : Shared} {H : Hp} {E : XK} (B : Bt mg) (D_p_is_rule : Def P w K mg base "is_rule" 2 ["thing"] (spD R_p_is_rule)) {k : Nat} (hk : 2 ≤ k) (hr : Room k (A.deeper (envOfC "is_rules" (defScope s_p_is_rules) s.heap.objs.size f cdv))) :
    PSs (cxOf CX0 P w K mg base n_p_is_rules "is_rules" (defScope s_p_is_rules) f cdv A outer s H E).nox (defBody s_p_is_rules) (t_p_is_rules K w) :=
  have nd := sc_p_is_rules.nd
  (pss_cons (ps_if (PW.pt (pw_or (pt_not (pt_val (pe_callB call_isi (by rfl) B.m_isinstance boot_isinstance (pa_cons (pv 0) (pa_cons (pe_bltn (v := .ty "tuple") (by rfl) B.m_tuple boot_tuple rfl) pa_nil))))) (pw_or1 (pt_not (pt_val (pe_callB (cr_all rfl) (by rfl) B.m_all boot_all (pa_cons (pe_lc (own := [("own", 1)]) (by rfl) nd (pi_seqA (pv 0)) (blkOk_by (N := n_p_is_rules) (sc := (defScope s_p_is_rules)) (by decide +kernel)) (fun _ _ _ _ _ => (pg_name (i := 1) nd rfl (Or.inl rfl))) (fun _ _ _ _ _ => pts_nil) (fun _ _ _ _ _ => (pe_def D_p_is_rule hr (Nat.le_trans (by decide) hk) (by rfl) (pa_cons (pv 1) pa_nil)))) pa_nil))))))) (pss_cons (ps_ret pe_bl)
  pss_nil) pss_nil)
  (pss_cons (ps_ret (pe_callB (cr_any rfl) (by rfl) B.m_any boot_any (pa_cons (pe_lc (own := [("own", 1)]) (by rfl) nd (pi_seqA (pv 0)) (blkOk_by (N := n_p_is_rules) (sc := (defScope s_p_is_rules)) (by decide +kernel)) (fun _ _ _ _ _ => (pg_name (i := 1) nd rfl (Or.inl rfl))) (fun _ _ _ _ _ => pts_nil) (fun _ _ _ _ _ => (pe_cmpR op_isNon (pe_ix ix_A (pv 1) pe_int (fun _ _ => rfl)) pe_non (nomark _)))) pa_nil)))
  pss_nil))

abbrev s_p_in_lowest : Stmt := topS 10
abbrev n_p_in_lowest : List Str := ["top", "below", "most"]
theorem sc_p_in_lowest : FnScope n_p_in_lowest ["top", "below"] (defScope s_p_in_lowest) := ⟨rfl, rfl, rfl, by decide +kernel, rfl, by decide +kernel, by decide +kernel⟩
theorem der_p_in_lowest {f : Addr} {cdv : Value} {A : Around} {outer : List PySem.Env} {s : Shared} {H : Hp} {E : XK} (B : Bt mg) {k : Nat} (hk : 0 ≤ k) (hr : Room k (A.deeper (envOfC "in_lowest" (defScope s_p_in_lowest) s.heap.objs.size f cdv))) :
    PSs (cxOf CX0 P w K mg base n_p_in_lowest "in_lowest" (defScope s_p_in_lowest) f cdv A outer s H E).nox (defBody s_p_in_lowest) (t_p_in_lowest K w) :=
  have nd := sc_p_in_lowest.nd
  (pss_cons (ps_set (i := 2) nd rfl (Or.inl rfl) (pe_callBfun cr_gcd (by rfl) B.m_gcd (pa_cons (pv 0) (pa_cons (pv 1) pa_nil))))
  (pss_cons (ps_ret (pe_tup (pa_cons (pe_op op_fdiv (pv 0) (pv 2)) (pa_cons (pe_op op_fdiv (pv 1) (pv 2)) pa_nil))))
  pss_nil))

abbrev s_p_least_common : Stmt := topS 11
abbrev n_p_least_common : List Str := ["numbers", "found", "own"]
theorem sc_p_least_common : FnScope n_p_least_common ["numbers"] (defScope s_p_least_common) := ⟨rfl, rfl, rfl, by decide +kernel, rfl, by decide +kernel, by decide +kernel⟩
theorem der_p_least_common {f : Addr} {cdv : Value} {A : Around} {outer : List PySem.Env} {s : Shared} {H : Hp} {E : XK} (B : Bt mg) {k : Nat} (hk : 0 ≤ k) (hr : Room k (A.deeper (envOfC "least_common" (defScope s_p_least_common) s.heap.objs.size f cdv))) :
    PSs (cxOf CX0 P w K mg base n_p_least_common "least_common" (defScope s_p_least_common) f cdv A outer s H E).nox (defBody s_p_least_common) (t_p_least_common K w) :=
  have nd := sc_p_least_common.nd
  (pss_cons (ps_set (i := 1) nd rfl (Or.inl rfl) pe_int)
  (pss_cons (ps_for PassesOwn.never rfl (pi_seqA (pv 0)) (pg_name (i := 2) nd rfl (Or.inl rfl)) (pss_cons (ps_set (i := 1) nd rfl (Or.inl rfl) (pe_callBfun cr_lcm (by rfl) B.m_lcm (pa_cons (pv 1) (pa_cons (pv 2) pa_nil))))
  pss_nil))
  (pss_cons (ps_ret (pv 1))
  pss_nil)))

abbrev s_p_common_share : Stmt := topS 12
abbrev n_p_common_share : List Str := ["rules", "own"]
theorem sc_p_common_share : FnScope n_p_common_share ["rules"] (defScope s_p_common_share) := ⟨rfl, rfl, rfl, by decide +kernel, rfl, by decide +kernel, by decide +kernel⟩
theorem der_p_common_share {f : Addr} {cdv : Value} {A : Around} {outer : List PySem.Env} {s : Shared} {H : Hp} {E : XK} (D_p_least_common : Def P w K mg base "least_common" 1 ["numbers"] (spD R_p_least_common)) {k : Nat} (hk : 1 ≤ k) (hr : Room k (A.deeper (envOfC "common_share" (defScope s_p_common_share) s.heap.objs.size f cdv))) :
    PSs (cxOf CX0 P w K mg base n_p_common_share "common_share" (defScope s_p_common_share) f cdv A outer s H E).nox (defBody s_p_common_share) (t_p_common_share K w) :=
  have nd := sc_p_common_share.nd
  (pss_cons (ps_ret (pe_def D_p_least_common hr (Nat.le_trans (by decide) hk) (by rfl) (pa_cons (pe_lc (own := [("own", 1)]) (by rfl) nd (pi_seqA (pv 0)) (blkOk_by (N := n_p_common_share) (sc := (defScope s_p_common_share)) (by decide +kernel)) (fun _ _ _ _ _ => (pg_name (i := 1) nd rfl (Or.inl rfl))) (fun _ _ _ _ _ => pts_nil) (fun _ _ _ _ _ => (pe_ix ix_A (pv 1) pe_int (fun _ _ => rfl)))) pa_nil)))
  pss_nil)

abbrev s_p_would_be : Stmt := topS 13
abbrev n_p_would_be : List Str := ["rules", "at", "whole", "found", "share", "least", "most", "wide"]
theorem sc_p_would_be : FnScope n_p_would_be ["rules", "at"] (defScope s_p_would_be) := ⟨rfl, rfl, rfl, by decide +kernel, rfl, by decide +kernel, by decide +kernel⟩
theorem der_p_would_be {f : Addr} {cdv : Value} {A : Around} {outer : List PySem.Env} {s : Shared} {H : Hp} {E : XK} (B : Bt mg) (D_p_common_share : Def P w K mg base "common_share" 2 ["rules"] (spD R_p_common_share)) {k : Nat} (hk : 2 ≤ k) (hr : Room k (A.deeper (envOfC "would_be" (defScope s_p_would_be) s.heap.objs.size f cdv))) :
    PSs (cxOf CX0 P w K mg base n_p_would_be "would_be" (defScope s_p_would_be) f cdv A outer s H E).nox (defBody s_p_would_be) (t_p_would_be K w) :=
  have nd := sc_p_would_be.nd
  (pss_cons (ps_par (i := 2) (j := 3) rfl nd rfl rfl (by decide) rfl rfl (pa_cons (pe_def D_p_common_share hr (Nat.le_trans (by decide) hk) (by rfl) (pa_cons (pv 0) pa_nil)) (pa_cons (pe_lst pa_nil) pa_nil)) (by rfl))
  (pss_cons (ps_for PassesOwn.never rfl (pi_seqA (pv 0)) (pg_tup (by rfl) (pgs_cons (pg_name (i := 4) nd rfl (Or.inl rfl)) (pgs_cons (pg_name (i := 5) nd rfl (Or.inl rfl)) (pgs_cons (pg_name (i := 6) nd rfl (Or.inl rfl)) pgs_nil)))) (pss_cons (ps_set (i := 7) nd rfl (Or.inl rfl) (pe_callB (cr_max2 rfl) (by rfl) B.m_max boot_max (pa_cons (pe_op op_mulA (pv 1) (pv 4)) (pa_cons (pe_op op_mulA (pv 5) (pv 2)) pa_nil))))
  (pss_cons (ps_expr (pe_bm PySem.F.plainAttrs_list PySem.F.slot_list_append PySem.F.type_list_append mt_append (pv 3) (pa_cons (pe_ifExp (pt_cmpR op_isNon (pv 6) pe_non (nomark _)) (pv 7) (pe_callB (cr_min2 rfl) (by rfl) B.m_min boot_min (pa_cons (pv 7) (pa_cons (pe_op op_mulA (pv 6) (pv 2)) pa_nil)))) pa_nil)))
  pss_nil)))
  (pss_cons (ps_ret (pv 3))
  pss_nil)))

abbrev s_p_turns_of : Stmt := topS 14
abbrev n_p_turns_of : List Str := ["rules", "whole", "found", "share", "least", "most"]
theorem sc_p_turns_of : FnScope n_p_turns_of ["rules"] (defScope s_p_turns_of) := ⟨rfl, rfl, rfl, by decide +kernel, rfl, by decide +kernel, by decide +kernel⟩
theorem der_p_turns_of {f : Addr} {cdv : Value} {A : Around} {outer : List PySem.Env} {s : Shared} {H : Hp} {E : XK} (B : Bt mg) (D_p_common_share : Def P w K mg base "common_share" 2 ["rules"] (spD R_p_common_share)) {k : Nat} (hk : 2 ≤ k) (hr : Room k (A.deeper (envOfC "turns_of" (defScope s_p_turns_of) s.heap.objs.size f cdv))) :
    PSs (cxOf CX0 P w K mg base n_p_turns_of "turns_of" (defScope s_p_turns_of) f cdv A outer s H E).nox (defBody s_p_turns_of) (t_p_turns_of K w) :=
  have nd := sc_p_turns_of.nd
  (pss_cons (ps_par (i := 1) (j := 2) rfl nd rfl rfl (by decide) rfl rfl (pa_cons (pe_def D_p_common_share hr (Nat.le_trans (by decide) hk) (by rfl) (pa_cons (pv 0) pa_nil)) (pa_cons (pe_lst (pa_cons pe_int pa_nil)) pa_nil)) (by rfl))
  (pss_cons (ps_for PassesOwn.never rfl (pi_seqA (pv 0)) (pg_tup (by rfl) (pgs_cons (pg_name (i := 3) nd rfl (Or.inl rfl)) (pgs_cons (pg_name (i := 4) nd rfl (Or.inl rfl)) (pgs_cons (pg_name (i := 5) nd rfl (Or.inl rfl)) pgs_nil)))) (pss_cons (ps_expr (pe_bm PySem.F.plainAttrs_list PySem.F.slot_list_append PySem.F.type_list_append mt_append (pv 2) (pa_cons (pe_op op_fdiv (pe_op op_mulA (pv 4) (pv 1)) (pv 3)) pa_nil)))
  (pss_cons (ps_if (pt_cmpR op_notNon (pv 5) pe_non (nomark _)) (pss_cons (ps_expr (pe_bm PySem.F.plainAttrs_list PySem.F.slot_list_append PySem.F.type_list_append mt_append (pv 2) (pa_cons (pe_op op_fdiv (pe_op op_mulA (pv 5) (pv 1)) (pv 3)) pa_nil)))
  pss_nil) pss_nil)
  pss_nil)))
  (pss_cons (ps_ret (pe_callB (cr_sortedSet rfl) (by rfl) B.m_sorted boot_sorted (pa_cons (pe_callTy (cr_setOfI rfl) (by rfl) B.m_set boot_set (pa_cons (pv 2) pa_nil)) pa_nil)))
  pss_nil)))

abbrev s_p_growing : Stmt := topS 15
abbrev n_p_growing : List Str := ["rules", "at", "whole", "found", "pane", "share", "least", "most"]
theorem sc_p_growing : FnScope n_p_growing ["rules", "at"] (defScope s_p_growing) := ⟨rfl, rfl, rfl, by decide +kernel, rfl, by decide +kernel, by decide +kernel⟩
theorem der_p_growing {f : Addr} {cdv : Value} {A : Around} {outer : List PySem.Env} {s : Shared} {H : Hp} {E : XK} (B : Bt mg) (D_p_common_share : Def P w K mg base "common_share" 2 ["rules"] (spD R_p_common_share)) {k : Nat} (hk : 2 ≤ k) (hr : Room k (A.deeper (envOfC "growing" (defScope s_p_growing) s.heap.objs.size f cdv))) :
    PSs (cxOf CX0 P w K mg base n_p_growing "growing" (defScope s_p_growing) f cdv A outer s H E).nox (defBody s_p_growing) (t_p_growing K w) :=
  have nd := sc_p_growing.nd
  (pss_cons (ps_par (i := 2) (j := 3) rfl nd rfl rfl (by decide) rfl rfl (pa_cons (pe_def D_p_common_share hr (Nat.le_trans (by decide) hk) (by rfl) (pa_cons (pv 0) pa_nil)) (pa_cons (pe_lst pa_nil) pa_nil)) (by rfl))
  (pss_cons (ps_for PassesOwn.never rfl (pi_enumA (by rfl) B.m_enumerate (pa_cons (pv 0) pa_nil)) (pg_tup (by rfl) (pgs_cons (pg_name (i := 4) nd rfl (Or.inl rfl)) (pgs_cons (pg_tup (by rfl) (pgs_cons (pg_name (i := 5) nd rfl (Or.inl rfl)) (pgs_cons (pg_name (i := 6) nd rfl (Or.inl rfl)) (pgs_cons (pg_name (i := 7) nd rfl (Or.inl rfl)) pgs_nil)))) pgs_nil))) (pss_cons (ps_if (PW.pt (pw_and (pt_cmpR op_ge (pe_op op_mulA (pv 1) (pv 5)) (pe_op op_mulA (pv 6) (pv 2)) (nomark _)) (pw_and1 (PW.pt (pw_or (pt_cmpR op_isNon (pv 7) pe_non (nomark _)) (pw_or1 (pt_cmpR op_lt (pe_op op_mulA (pv 1) (pv 5)) (pe_op op_mulA (pv 7) (pv 2)) (nomark _)))))))) (pss_cons (ps_expr (pe_bm PySem.F.plainAttrs_list PySem.F.slot_list_append PySem.F.type_list_append mt_append (pv 3) (pa_cons (pv 4) pa_nil)))
  pss_nil) pss_nil)
  pss_nil))
  (pss_cons (ps_ret (pe_callTy cr_tupOf (by rfl) B.m_tuple boot_tuple (pa_cons (pv 3) pa_nil)))
  pss_nil)))

abbrev s_p_stretch_at : Stmt := topS 16
abbrev n_p_stretch_at : List Str := ["rules", "goal", "at"]
theorem sc_p_stretch_at : FnScope n_p_stretch_at ["rules", "goal"] (defScope s_p_stretch_at) := ⟨rfl, rfl, rfl, by decide +kernel, rfl, by decide +kernel, by decide +kernel⟩
theorem der_p_stretch_at {f : Addr} {cdv : Value} {A : Around} {outer : List PySem.Env} {s : Shared} {H : Hp} {E : XK} (B : Bt mg) (D_p_turns_of : Def P w K mg base "turns_of" 3 ["rules"] (spD R_p_turns_of)) (D_p_would_be : Def P w K mg base "would_be" 3 ["rules", "at"] (spD R_p_would_be)) {k : Nat} (hk : 3 ≤ k) (hr : Room k (A.deeper (envOfC "stretch_at" (defScope s_p_stretch_at) s.heap.objs.size f cdv))) :
    PSs (cxOf CX0 P w K mg base n_p_stretch_at "stretch_at" (defScope s_p_stretch_at) f cdv A outer s H E).nox (defBody s_p_stretch_at) (t_p_stretch_at K w) :=
  have nd := sc_p_stretch_at.nd
  (pss_cons (ps_ret (pe_ix ix_A (pe_lc (own := [("at", 2)]) (by rfl) nd (pi_seqA (pe_def D_p_turns_of hr (Nat.le_trans (by decide) hk) (by rfl) (pa_cons (pv 0) pa_nil))) (blkOk_by (N := n_p_stretch_at) (sc := (defScope s_p_stretch_at)) (by decide +kernel)) (fun _ _ _ _ _ => (pg_name (i := 2) nd rfl (Or.inl rfl))) (fun _ _ _ _ _ => (pts_one (pt_cmpR op_le (pe_callB (cr_sum rfl) (by rfl) B.m_sum boot_sum (pa_cons (pe_def D_p_would_be hr (Nat.le_trans (by decide) hk) (by rfl) (pa_cons (pv 0) (pa_cons (pv 2) pa_nil))) pa_nil)) (pv 1) (nomark _)))) (fun _ _ _ _ _ => (pv 2))) (pe_un un_neg pe_int) (fun _ _ => rfl)))
  pss_nil)

abbrev s_p_leasts_of : Stmt := topS 17
abbrev n_p_leasts_of : List Str := ["rules", "own"]
theorem sc_p_leasts_of : FnScope n_p_leasts_of ["rules"] (defScope s_p_leasts_of) := ⟨rfl, rfl, rfl, by decide +kernel, rfl, by decide +kernel, by decide +kernel⟩
theorem der_p_leasts_of {f : Addr} {cdv : Value} {A : Around} {outer : List PySem.Env} {s : Shared} {H : Hp} {E : XK} (B : Bt mg) {k : Nat} (hk : 0 ≤ k) (hr : Room k (A.deeper (envOfC "leasts_of" (defScope s_p_leasts_of) s.heap.objs.size f cdv))) :
    PSs (cxOf CX0 P w K mg base n_p_leasts_of "leasts_of" (defScope s_p_leasts_of) f cdv A outer s H E).nox (defBody s_p_leasts_of) (t_p_leasts_of K w) :=
  have nd := sc_p_leasts_of.nd
  (pss_cons (ps_ret (pe_callB (cr_sum rfl) (by rfl) B.m_sum boot_sum (pa_cons (pe_lc (own := [("own", 1)]) (by rfl) nd (pi_seqA (pv 0)) (blkOk_by (N := n_p_leasts_of) (sc := (defScope s_p_leasts_of)) (by decide +kernel)) (fun _ _ _ _ _ => (pg_name (i := 1) nd rfl (Or.inl rfl))) (fun _ _ _ _ _ => pts_nil) (fun _ _ _ _ _ => (pe_ix ix_A (pv 1) pe_int (fun _ _ => rfl)))) pa_nil)))
  pss_nil)

abbrev s_p_given_all : Stmt := topS 18
abbrev n_p_given_all : List Str := ["rules", "width", "whole", "at", "wide", "more", "left", "shares", "found", "pane", "own"]
theorem sc_p_given_all : FnScope n_p_given_all ["rules", "width"] (defScope s_p_given_all) := ⟨rfl, rfl, rfl, by decide +kernel, rfl, by decide +kernel, by decide +kernel⟩
theorem der_p_given_all {f : Addr} {cdv : Value} {A : Around} {outer : List PySem.Env} {s : Shared} {H : Hp} {E : XK} (B : Bt mg) (D_p_in_lowest : Def P w K mg base "in_lowest" 1 ["top", "below"] (spD R_p_in_lowest)) (D_p_growing : Def P w K mg base "growing" 3 ["rules", "at"] (spD R_p_growing)) (D_p_would_be : Def P w K mg base "would_be" 3 ["rules", "at"] (spD R_p_would_be)) (D_p_stretch_at : Def P w K mg base "stretch_at" 4 ["rules", "goal"] (spD R_p_stretch_at)) (D_p_common_share : Def P w K mg base "common_share" 2 ["rules"] (spD R_p_common_share)) (D_p_leasts_of : Def P w K mg base "leasts_of" 1 ["rules"] (spD R_p_leasts_of)) {k : Nat} (hk : 4 ≤ k) (hr : Room k (A.deeper (envOfC "given_all" (defScope s_p_given_all) s.heap.objs.size f cdv))) :
    PSs (cxOf CX0 P w K mg base n_p_given_all "given_all" (defScope s_p_given_all) f cdv A outer s H E).nox (defBody s_p_given_all) (t_p_given_all K w) :=
  have nd := sc_p_given_all.nd
  (pss_cons (ps_if (pt_cmpR op_lt (pv 1) (pe_def D_p_leasts_of hr (Nat.le_trans (by decide) hk) (by rfl) (pa_cons (pv 0) pa_nil)) (nomark _)) (pss_cons (ps_ret (pe_lc (own := [("own", 10)]) (by rfl) nd (pi_seqA (pv 0)) (blkOk_by (N := n_p_given_all) (sc := (defScope s_p_given_all)) (by decide +kernel)) (fun _ _ _ _ _ => (pg_name (i := 10) nd rfl (Or.inl rfl))) (fun _ _ _ _ _ => pts_nil) (fun _ _ _ _ _ => (pe_def D_p_in_lowest hr (Nat.le_trans (by decide) hk) (by rfl) (pa_cons (pe_op op_mulA (pv 1) (pe_ix ix_A (pv 10) pe_int (fun _ _ => rfl))) (pa_cons (pe_def D_p_leasts_of hr (Nat.le_trans (by decide) hk) (by rfl) (pa_cons (pv 0) pa_nil)) pa_nil))))))
  pss_nil) pss_nil)
  (pss_cons (ps_set (i := 2) nd rfl (Or.inl rfl) (pe_def D_p_common_share hr (Nat.le_trans (by decide) hk) (by rfl) (pa_cons (pv 0) pa_nil)))
  (pss_cons (ps_set (i := 3) nd rfl (Or.inl rfl) (pe_def D_p_stretch_at hr (Nat.le_trans (by decide) hk) (by rfl) (pa_cons (pv 0) (pa_cons (pe_op op_mulA (pv 1) (pv 2)) pa_nil))))
  (pss_cons (ps_par (i := 4) (j := 5) rfl nd rfl rfl (by decide) rfl rfl (pa_cons (pe_def D_p_would_be hr (Nat.le_trans (by decide) hk) (by rfl) (pa_cons (pv 0) (pa_cons (pv 3) pa_nil))) (pa_cons (pe_def D_p_growing hr (Nat.le_trans (by decide) hk) (by rfl) (pa_cons (pv 0) (pa_cons (pv 3) pa_nil))) pa_nil)) (by rfl))
  (pss_cons (ps_par (i := 6) (j := 7) rfl nd rfl rfl (by decide) rfl rfl (pa_cons (pe_op op_sub (pe_op op_mulA (pv 1) (pv 2)) (pe_callB (cr_sum rfl) (by rfl) B.m_sum boot_sum (pa_cons (pv 4) pa_nil))) (pa_cons (pe_callB (cr_sum rfl) (by rfl) B.m_sum boot_sum (pa_cons (pe_lc (own := [("pane", 9)]) (by rfl) nd (pi_seqA (pv 5)) (blkOk_by (N := n_p_given_all) (sc := (defScope s_p_given_all)) (by decide +kernel)) (fun _ _ _ _ _ => (pg_name (i := 9) nd rfl (Or.inl rfl))) (fun _ _ _ _ _ => pts_nil) (fun _ _ _ _ _ => (pe_ix ix_A (pe_ix ix_A (pv 0) (pv 9) (fun _ _ => rfl)) pe_int (fun _ _ => rfl)))) pa_nil)) pa_nil)) (by rfl))
  (pss_cons (ps_set (i := 8) nd rfl (Or.inl rfl) (pe_lst pa_nil))
  (pss_cons (ps_for PassesOwn.never rfl (pi_enumA (by rfl) B.m_enumerate (pa_cons (pv 4) pa_nil)) (pg_tup (by rfl) (pgs_cons (pg_name (i := 9) nd rfl (Or.inl rfl)) (pgs_cons (pg_name (i := 10) nd rfl (Or.inl rfl)) pgs_nil))) (pss_cons (ps_if (pt_cmpR op_in_seq (pv 9) (pv 5) (by rfl)) (pss_cons (ps_expr (pe_bm PySem.F.plainAttrs_list PySem.F.slot_list_append PySem.F.type_list_append mt_append (pv 8) (pa_cons (pe_def D_p_in_lowest hr (Nat.le_trans (by decide) hk) (by rfl) (pa_cons (pe_op op_addA (pe_op op_mulA (pv 10) (pv 7)) (pe_op op_mulA (pv 6) (pe_ix ix_A (pe_ix ix_A (pv 0) (pv 9) (fun _ _ => rfl)) pe_int (fun _ _ => rfl)))) (pa_cons (pe_op op_mulA (pv 7) (pv 2)) pa_nil))) pa_nil)))
  pss_nil) (pss_cons (ps_expr (pe_bm PySem.F.plainAttrs_list PySem.F.slot_list_append PySem.F.type_list_append mt_append (pv 8) (pa_cons (pe_def D_p_in_lowest hr (Nat.le_trans (by decide) hk) (by rfl) (pa_cons (pv 10) (pa_cons (pv 2) pa_nil))) pa_nil)))
  pss_nil))
  pss_nil))
  (pss_cons (ps_ret (pv 8))
  pss_nil))))))))

abbrev s_p_width_given : Stmt := topS 19
abbrev n_p_width_given : List Str := ["rules", "pane", "width", "own"]
theorem sc_p_width_given : FnScope n_p_width_given ["rules", "pane", "width"] (defScope s_p_width_given) := ⟨rfl, rfl, rfl, by decide +kernel, rfl, by decide +kernel, by decide +kernel⟩
theorem der_p_width_given {f : Addr} {cdv : Value} {A : Around} {outer : List PySem.Env} {s : Shared} {H : Hp} {E : XK} (B : Bt mg) (D_p_given_all : Def P w K mg base "given_all" 5 ["rules", "width"] (spD R_p_given_all)) (D_p_is_number : Def P w K mg base "is_number" 1 ["thing"] (spD R_p_is_number)) (D_p_tuple_of : Def P w K mg base "tuple_of" 14 ["thing"] (spD (R_p_tuple_of 12))) {k : Nat} (hk : 14 ≤ k) (hr : Room k (A.deeper (envOfC "width_given" (defScope s_p_width_given) s.heap.objs.size f cdv))) :
    PSs (cxOf CX0 P w K mg base n_p_width_given "width_given" (defScope s_p_width_given) f cdv A outer s H E).nox (defBody s_p_width_given) (t_p_width_given K w) :=
  have nd := sc_p_width_given.nd
  (pss_cons (ps_set (i := 3) nd rfl (Or.inl rfl) (pe_def D_p_tuple_of hr (Nat.le_trans (by decide) hk) (by rfl) (pa_cons (pv 0) pa_nil)))
  (pss_cons (ps_if (PW.pt (pw_or (pt_not (pt_val (pe_def D_p_is_number hr (Nat.le_trans (by decide) hk) (by rfl) (pa_cons (pv 1) pa_nil)))) (pw_or1 (pt_not (pt_chain op_le op_lt pe_int (pv 1) (pe_callB cr_len (by rfl) B.m_len boot_len (pa_cons (pv 3) pa_nil))))))) (pss_cons ps_never
  pss_nil) pss_nil)
  (pss_cons (ps_ret (pe_ix ix_A (pe_def D_p_given_all hr (Nat.le_trans (by decide) hk) (by rfl) (pa_cons (pv 3) (pa_cons (pv 2) pa_nil))) (pv 1) (fun _ _ => rfl)))
  pss_nil)))

abbrev s_p_rule_layout : Stmt := topS 20
abbrev n_p_rule_layout : List Str := ["rules", "last", "own", "columns", "parts", "rows", "pane", "width", "column", "_", "below"]
theorem sc_p_rule_layout : FnScope n_p_rule_layout ["rules", "last"] (defScope s_p_rule_layout) := ⟨rfl, rfl, rfl, by decide +kernel, rfl, by decide +kernel, by decide +kernel⟩
theorem der_p_rule_layout {f : Addr} {cdv : Value} {A : Around} {outer : List PySem.Env} {s : Shared} {H : Hp} {E : XK} (B : Bt mg) (D_p_least_common : Def P w K mg base "least_common" 1 ["numbers"] (spD R_p_least_common)) (D_p_given_all : Def P w K mg base "given_all" 5 ["rules", "width"] (spD R_p_given_all)) (D_p_tuple_of : Def P w K mg base "tuple_of" 14 ["thing"] (spD (R_p_tuple_of 12))) {k : Nat} (hk : 14 ≤ k) (hr : Room k (A.deeper (envOfC "rule_layout" (defScope s_p_rule_layout) s.heap.objs.size f cdv))) :
    PSs (cxOf CX0 P w K mg base n_p_rule_layout "rule_layout" (defScope s_p_rule_layout) f cdv A outer s H E).nox (defBody s_p_rule_layout) (t_p_rule_layout K w) :=
  have nd := sc_p_rule_layout.nd
  (pss_cons (ps_set (i := 2) nd rfl (Or.inr rfl) (pe_def D_p_tuple_of hr (Nat.le_trans (by decide) hk) (by rfl) (pa_cons (pv 0) pa_nil)))
  (pss_cons (ps_setLc (i := 3) (own := [("width", 7)]) (by rfl) nd rfl rfl (sw_true rfl rfl rfl (by decide +kernel)) (pi_range1 (by rfl) B.m_range (pa_cons (pe_op op_addA (pv 1) pe_int) pa_nil)) (blkOk_by (N := n_p_rule_layout) (sc := (defScope s_p_rule_layout)) (by decide +kernel)) (fun _ _ _ _ _ => (pg_name (i := 7) nd rfl (Or.inl rfl))) (fun _ _ _ _ _ => pts_nil) (fun _ _ _ _ _ => (pe_def D_p_given_all hr (Nat.le_trans (by decide) hk) (by rfl) (pa_cons (pv 2) (pa_cons (pv 7) pa_nil)))))
  (pss_cons (ps_set (i := 4) nd rfl (Or.inr rfl) (pe_def D_p_least_common hr (Nat.le_trans (by decide) hk) (by rfl) (pa_cons (pe_lc (own := [("column", 8)]) (by rfl) nd (pi_seqA (pv 3)) (blkOk_by (N := n_p_rule_layout) (sc := (defScope s_p_rule_layout)) (by decide +kernel)) (fun _ _ _ _ _ => (pg_name (i := 8) nd rfl (Or.inl rfl))) (fun _ _ _ _ _ => pts_nil) (fun _ _ _ _ _ => (pe_def D_p_least_common hr (Nat.le_trans (by decide) hk) (by rfl) (pa_cons (pe_lc (own := [("_", 9), ("below", 10)]) (by rfl) nd (pi_seqA (pv 8)) (blkOk_by (N := n_p_rule_layout) (sc := (relS _ (defScope s_p_rule_layout))) (by decide +kernel)) (fun _ _ _ _ _ => (pg_tup (by rfl) (pgs_cons (pg_name (i := 9) nd rfl (Or.inl rfl)) (pgs_cons (pg_name (i := 10) nd rfl (Or.inl rfl)) pgs_nil)))) (fun _ _ _ _ _ => pts_nil) (fun _ _ _ _ _ => (pv 10))) pa_nil)))) pa_nil)))
  (pss_cons (ps_set (i := 5) nd rfl (Or.inl rfl) (pe_lst pa_nil))
  (pss_cons (ps_for PassesOwn.never rfl (pi_range1 (by rfl) B.m_range (pa_cons (pe_callB cr_len (by rfl) B.m_len boot_len (pa_cons (pv 2) pa_nil)) pa_nil)) (pg_name (i := 6) nd rfl (Or.inr rfl)) (pss_cons (ps_expr (pe_bm PySem.F.plainAttrs_list PySem.F.slot_list_append PySem.F.type_list_append mt_append (pv 5) (pa_cons (pe_callTy cr_tupOf (by rfl) B.m_tuple boot_tuple (pa_cons (pe_lc (own := [("column", 8)]) (by rfl) nd (pi_seqA (pv 3)) (blkOk_by (N := n_p_rule_layout) (sc := (defScope s_p_rule_layout)) (by decide +kernel)) (fun _ _ _ _ _ => (pg_name (i := 8) nd rfl (Or.inl rfl))) (fun _ _ _ _ _ => pts_nil) (fun _ _ _ _ _ => (pe_op op_mulA (pe_ix ix_A (pe_ix ix_A (pv 8) (pv 6) (fun _ _ => rfl)) pe_int (fun _ _ => rfl)) (pe_op op_fdiv (pv 4) (pe_ix ix_A (pe_ix ix_A (pv 8) (pv 6) (fun _ _ => rfl)) pe_int (fun _ _ => rfl)))))) pa_nil)) pa_nil)))
  pss_nil))
  (pss_cons (ps_ret (pe_tup (pa_cons (pv 4) (pa_cons (pe_callTy cr_tupOf (by rfl) B.m_tuple boot_tuple (pa_cons (pv 5) pa_nil)) pa_nil))))
  pss_nil))))))

abbrev s_p_free_at : Stmt := topS 21
abbrev n_p_free_at : List Str := ["rules", "width", "own", "pane", "rule"]
theorem sc_p_free_at : FnScope n_p_free_at ["rules", "width"] (defScope s_p_free_at) := ⟨rfl, rfl, rfl, by decide +kernel, rfl, by decide +kernel, by decide +kernel⟩
theorem der_p_free_at {f : Addr} {cdv : Value} {A : Around} {outer : List PySem.Env} {s : Shared} {H : Hp} {E : XK} (B : Bt mg) (D_p_common_share : Def P w K mg base "common_share" 2 ["rules"] (spD R_p_common_share)) (D_p_stretch_at : Def P w K mg base "stretch_at" 4 ["rules", "goal"] (spD R_p_stretch_at)) (D_p_growing : Def P w K mg base "growing" 3 ["rules", "at"] (spD R_p_growing)) (D_p_leasts_of : Def P w K mg base "leasts_of" 1 ["rules"] (spD R_p_leasts_of)) (D_p_tuple_of : Def P w K mg base "tuple_of" 14 ["thing"] (spD (R_p_tuple_of 12))) {k : Nat} (hk : 14 ≤ k) (hr : Room k (A.deeper (envOfC "free_at" (defScope s_p_free_at) s.heap.objs.size f cdv))) :
    PSs (cxOf CX0 P w K mg base n_p_free_at "free_at" (defScope s_p_free_at) f cdv A outer s H E).nox (defBody s_p_free_at) (t_p_free_at K w) :=
  have nd := sc_p_free_at.nd
  (pss_cons (ps_set (i := 2) nd rfl (Or.inl rfl) (pe_def D_p_tuple_of hr (Nat.le_trans (by decide) hk) (by rfl) (pa_cons (pv 0) pa_nil)))
  (pss_cons (ps_if (pt_cmpR op_lt (pv 1) (pe_def D_p_leasts_of hr (Nat.le_trans (by decide) hk) (by rfl) (pa_cons (pv 2) pa_nil)) (nomark _)) (pss_cons (ps_ret (pe_callTy cr_tupOf (by rfl) B.m_tuple boot_tuple (pa_cons (pe_lc (own := [("pane", 3), ("rule", 4)]) (by rfl) nd (pi_enumA (by rfl) B.m_enumerate (pa_cons (pv 2) pa_nil)) (blkOk_by (N := n_p_free_at) (sc := (defScope s_p_free_at)) (by decide +kernel)) (fun _ _ _ _ _ => (pg_tup (by rfl) (pgs_cons (pg_name (i := 3) nd rfl (Or.inl rfl)) (pgs_cons (pg_name (i := 4) nd rfl (Or.inl rfl)) pgs_nil)))) (fun _ _ _ _ _ => (pts_one (pt_cmpR op_gt (pe_ix ix_A (pv 4) pe_int (fun _ _ => rfl)) pe_int (nomark _)))) (fun _ _ _ _ _ => (pv 3))) pa_nil)))
  pss_nil) pss_nil)
  (pss_cons (ps_ret (pe_def D_p_growing hr (Nat.le_trans (by decide) hk) (by rfl) (pa_cons (pv 2) (pa_cons (pe_def D_p_stretch_at hr (Nat.le_trans (by decide) hk) (by rfl) (pa_cons (pv 2) (pa_cons (pe_op op_mulA (pv 1) (pe_def D_p_common_share hr (Nat.le_trans (by decide) hk) (by rfl) (pa_cons (pv 2) pa_nil))) pa_nil))) pa_nil))))
  pss_nil)))

abbrev s_p_by_shares : Stmt := topS 23
abbrev n_p_by_shares : List Str := ["shares", "last", "share"]
theorem sc_p_by_shares : FnScope n_p_by_shares ["shares", "last"] (defScope s_p_by_shares) := ⟨rfl, rfl, rfl, by decide +kernel, rfl, by decide +kernel, by decide +kernel⟩
theorem der_p_by_shares {f : Addr} {cdv : Value} {A : Around} {outer : List PySem.Env} {s : Shared} {H : Hp} {E : XK} (D_p_rule_layout : Def P w K mg base "rule_layout" 15 ["rules", "last"] (spD R_p_rule_layout)) {k : Nat} (hk : 15 ≤ k) (hr : Room k (A.deeper (envOfC "by_shares" (defScope s_p_by_shares) s.heap.objs.size f cdv))) :
    PSs (cxOf CX0 P w K mg base n_p_by_shares "by_shares" (defScope s_p_by_shares) f cdv A outer s H E).nox (defBody s_p_by_shares) (t_p_by_shares K w) :=
  have nd := sc_p_by_shares.nd
  (pss_cons (ps_ret (pe_def D_p_rule_layout hr (Nat.le_trans (by decide) hk) (by rfl) (pa_cons (pe_lc (own := [("share", 2)]) (by rfl) nd (pi_seqA (pv 0)) (blkOk_by (N := n_p_by_shares) (sc := (defScope s_p_by_shares)) (by decide +kernel)) (fun _ _ _ _ _ => (pg_name (i := 2) nd rfl (Or.inl rfl))) (fun _ _ _ _ _ => pts_nil) (fun _ _ _ _ _ => (pe_tup (pa_cons (pv 2) (pa_cons pe_int (pa_cons pe_non pa_nil)))))) (pa_cons (pv 1) pa_nil))))
  pss_nil)

abbrev s_p_even : Stmt := topS 24
abbrev n_p_even : List Str := ["panes", "last"]
theorem sc_p_even : FnScope n_p_even ["panes", "last"] (defScope s_p_even) := ⟨rfl, rfl, rfl, by decide +kernel, rfl, by decide +kernel, by decide +kernel⟩
theorem der_p_even {f : Addr} {cdv : Value} {A : Around} {outer : List PySem.Env} {s : Shared} {H : Hp} {E : XK} (D_p_by_shares : Def P w K mg base "by_shares" 16 ["shares", "last"] (spD R_p_by_shares)) {k : Nat} (hk : 16 ≤ k) (hr : Room k (A.deeper (envOfC "even" (defScope s_p_even) s.heap.objs.size f cdv))) :
    PSs (cxOf CX0 P w K mg base n_p_even "even" (defScope s_p_even) f cdv A outer s H E).nox (defBody s_p_even) (t_p_even K w) :=
  have nd := sc_p_even.nd
  (pss_cons (ps_ret (pe_def D_p_by_shares hr (Nat.le_trans (by decide) hk) (by rfl) (pa_cons (pe_op op_mulA (pe_lst (pa_cons pe_int pa_nil)) (pv 0)) (pa_cons (pv 1) pa_nil))))
  pss_nil)

abbrev s_p_by_turns : Stmt := topS 25
abbrev n_p_by_turns : List Str := ["mosts", "last", "ahead", "rows", "most", "width"]
theorem sc_p_by_turns : FnScope n_p_by_turns ["mosts", "last"] (defScope s_p_by_turns) := ⟨rfl, rfl, rfl, by decide +kernel, rfl, by decide +kernel, by decide +kernel⟩
theorem der_p_by_turns {f : Addr} {cdv : Value} {A : Around} {outer : List PySem.Env} {s : Shared} {H : Hp} {E : XK} (B : Bt mg) {k : Nat} (hk : 0 ≤ k) (hr : Room k (A.deeper (envOfC "by_turns" (defScope s_p_by_turns) s.heap.objs.size f cdv))) :
    PSs (cxOf CX0 P w K mg base n_p_by_turns "by_turns" (defScope s_p_by_turns) f cdv A outer s H E).nox (defBody s_p_by_turns) (t_p_by_turns K w) :=
  have nd := sc_p_by_turns.nd
  (pss_cons (ps_asg (pe_tup (pa_cons pe_int (pa_cons (pe_lst pa_nil) pa_nil))) (pg_tup (by rfl) (pgs_cons (pg_name (i := 2) nd rfl (Or.inr rfl)) (pgs_cons (pg_name (i := 3) nd rfl (Or.inl rfl)) pgs_nil))))
  (pss_cons (ps_for PassesOwn.never rfl (pi_seqA (pv 0)) (pg_name (i := 4) nd rfl (Or.inr rfl)) (pss_cons (ps_expr (pe_bm PySem.F.plainAttrs_list PySem.F.slot_list_append PySem.F.type_list_append mt_append (pv 3) (pa_cons (pe_callTy cr_tupOf (by rfl) B.m_tuple boot_tuple (pa_cons (pe_lc (own := [("width", 5)]) (by rfl) nd (pi_range1 (by rfl) B.m_range (pa_cons (pe_op op_addA (pv 1) pe_int) pa_nil)) (blkOk_by (N := n_p_by_turns) (sc := (defScope s_p_by_turns)) (by decide +kernel)) (fun _ _ _ _ _ => (pg_name (i := 5) nd rfl (Or.inl rfl))) (fun _ _ _ _ _ => pts_nil) (fun _ _ _ _ _ => (pe_callB (cr_min2 rfl) (by rfl) B.m_min boot_min (pa_cons (pe_callB (cr_max2 rfl) (by rfl) B.m_max boot_max (pa_cons (pe_op op_sub (pv 5) (pv 2)) (pa_cons pe_int pa_nil))) (pa_cons (pv 4) pa_nil))))) pa_nil)) pa_nil)))
  (pss_cons (ps_set (i := 2) nd rfl (Or.inr rfl) (pe_op op_addA (pv 2) (pv 4)))
  pss_nil)))
  (pss_cons (ps_expr (pe_bm PySem.F.plainAttrs_list PySem.F.slot_list_append PySem.F.type_list_append mt_append (pv 3) (pa_cons (pe_callTy cr_tupOf (by rfl) B.m_tuple boot_tuple (pa_cons (pe_lc (own := [("width", 5)]) (by rfl) nd (pi_range1 (by rfl) B.m_range (pa_cons (pe_op op_addA (pv 1) pe_int) pa_nil)) (blkOk_by (N := n_p_by_turns) (sc := (defScope s_p_by_turns)) (by decide +kernel)) (fun _ _ _ _ _ => (pg_name (i := 5) nd rfl (Or.inl rfl))) (fun _ _ _ _ _ => pts_nil) (fun _ _ _ _ _ => (pe_callB (cr_max2 rfl) (by rfl) B.m_max boot_max (pa_cons (pe_op op_sub (pv 5) (pv 2)) (pa_cons pe_int pa_nil))))) pa_nil)) pa_nil)))
  (pss_cons (ps_ret (pe_tup (pa_cons pe_int (pa_cons (pe_callTy cr_tupOf (by rfl) B.m_tuple boot_tuple (pa_cons (pv 3) pa_nil)) pa_nil))))
  pss_nil))))

abbrev s_l_same : Stmt := topS 31
abbrev n_l_same : List Str := ["_law_got", "_law_due", "_law_mine", "_law_own"]
theorem sc_l_same : FnScope n_l_same ["_law_got", "_law_due"] (defScope s_l_same) := ⟨rfl, rfl, rfl, by decide +kernel, rfl, by decide +kernel, by decide +kernel⟩
theorem der_l_same {j : Nat} {R : List PyData → PyData → Prop} {f : Addr} {cdv : Value} {A : Around} {outer : List PySem.Env} {s : Shared} {H : Hp} {E : XK} (B : Bt mg) (D_l_same : Def P w K mg base "_law_same" j ["_law_got", "_law_due"] (spD R)) {k : Nat} (hj : j ≤ k) (hr : Room k (A.deeper (envOfC "_law_same" (defScope s_l_same) s.heap.objs.size f cdv))) :
    PSs (cxOf CX0 P w K mg base n_l_same "_law_same" (defScope s_l_same) f cdv A outer s H E).nox (defBody s_l_same) (t_l_same K w R) :=
  have nd := sc_l_same.nd
  (pss_cons (ps_if (pt_val (pe_callB call_isiT (by rfl) B.m_isinstance boot_isinstance (pa_cons (pv 1) (pa_cons (pe_tup (pa_cons (pe_bltn (v := .ty "list") (by rfl) B.m_list boot_list rfl) (pa_cons (pe_bltn (v := .ty "tuple") (by rfl) B.m_tuple boot_tuple rfl) pa_nil))) pa_nil)))) (pss_cons (ps_if (PW.pt (pw_or (pt_cmpR (op_neD hr.units) (pe_callB call_isi (by rfl) B.m_isinstance boot_isinstance (pa_cons (pv 0) (pa_cons (pe_bltn (v := .ty "list") (by rfl) B.m_list boot_list rfl) pa_nil))) (pe_callB call_isi (by rfl) B.m_isinstance boot_isinstance (pa_cons (pv 1) (pa_cons (pe_bltn (v := .ty "list") (by rfl) B.m_list boot_list rfl) pa_nil))) (nomark _)) (pw_or1 (pt_cmpR (op_neD hr.units) (pe_callB call_isi (by rfl) B.m_isinstance boot_isinstance (pa_cons (pv 0) (pa_cons (pe_bltn (v := .ty "tuple") (by rfl) B.m_tuple boot_tuple rfl) pa_nil))) (pe_callB call_isi (by rfl) B.m_isinstance boot_isinstance (pa_cons (pv 1) (pa_cons (pe_bltn (v := .ty "tuple") (by rfl) B.m_tuple boot_tuple rfl) pa_nil))) (nomark _))))) (pss_cons (ps_ret pe_bl)
  pss_nil) pss_nil)
  (pss_cons (ps_ret (pe_and (pe_cmpR (op_eqD hr.units) (pe_callB cr_len (by rfl) B.m_len boot_len (pa_cons (pv 0) pa_nil)) (pe_callB cr_len (by rfl) B.m_len boot_len (pa_cons (pv 1) pa_nil)) (nomark _)) (pe_one (pe_callB (cr_all rfl) (by rfl) B.m_all boot_all (pa_cons (pe_lc (own := [("_law_mine", 2), ("_law_own", 3)]) (by rfl) nd (RZ.pi_zipA (by rfl) B.m_zip (pa_cons (pv 0) (pa_cons (pv 1) pa_nil))) (blkOk_by (N := n_l_same) (sc := (defScope s_l_same)) (by decide +kernel)) (fun _ _ _ _ _ => (pg_tup (by rfl) (pgs_cons (pg_name (i := 2) nd rfl (Or.inl rfl)) (pgs_cons (pg_name (i := 3) nd rfl (Or.inl rfl)) pgs_nil)))) (fun _ _ _ _ _ => pts_nil) (fun _ _ _ _ _ => (pe_def D_l_same hr hj (by rfl) (pa_cons (pv 2) (pa_cons (pv 3) pa_nil))))) pa_nil)))))
  pss_nil)) pss_nil)
  (pss_cons (ps_if (PW.pt (pw_or (pt_cmpR op_isNon (pv 1) pe_non (nomark _)) (pw_or1 (pt_val (pe_callB call_isiT (by rfl) B.m_isinstance boot_isinstance (pa_cons (pv 1) (pa_cons (pe_tup (pa_cons (pe_bltn (v := .ty "bool") (by rfl) B.m_bool boot_bool rfl) (pa_cons (pe_bltn (v := .ty "str") (by rfl) B.m_str boot_str rfl) pa_nil))) pa_nil))))))) (pss_cons (ps_ret (pe_and (pe_cmpR (op_eqD hr.units) (pv 0) (pv 1) (nomark _)) (pe_and (pe_cmpR (op_eqD hr.units) (pe_callB call_isi (by rfl) B.m_isinstance boot_isinstance (pa_cons (pv 0) (pa_cons (pe_bltn (v := .ty "bool") (by rfl) B.m_bool boot_bool rfl) pa_nil))) (pe_callB call_isi (by rfl) B.m_isinstance boot_isinstance (pa_cons (pv 1) (pa_cons (pe_bltn (v := .ty "bool") (by rfl) B.m_bool boot_bool rfl) pa_nil))) (nomark _)) (pe_one (pe_cmpR (op_eqD hr.units) (pe_cmpR op_isNon (pv 0) pe_non (nomark _)) (pe_cmpR op_isNon (pv 1) pe_non (nomark _)) (nomark _))))))
  pss_nil) pss_nil)
  (pss_cons (ps_ret (pe_and (pe_callB call_isi (by rfl) B.m_isinstance boot_isinstance (pa_cons (pv 0) (pa_cons (pe_bltn (v := .ty "int") (by rfl) B.m_int boot_int rfl) pa_nil))) (pe_and (pe_not (pe_callB call_isi (by rfl) B.m_isinstance boot_isinstance (pa_cons (pv 0) (pa_cons (pe_bltn (v := .ty "bool") (by rfl) B.m_bool boot_bool rfl) pa_nil)))) (pe_one (pe_cmpR (op_eqD hr.units) (pv 0) (pv 1) (nomark _))))))
  pss_nil)))

abbrev s_l_lists : Stmt := topS 32
abbrev n_l_lists : List Str := ["_law_matter", "_law_own"]
theorem sc_l_lists : FnScope n_l_lists ["_law_matter"] (defScope s_l_lists) := ⟨rfl, rfl, rfl, by decide +kernel, rfl, by decide +kernel, by decide +kernel⟩
theorem der_l_lists {j : Nat} {R : List PyData → PyData → Prop} {f : Addr} {cdv : Value} {A : Around} {outer : List PySem.Env} {s : Shared} {H : Hp} {E : XK} (B : Bt mg) (D_l_lists : Def P w K mg base "_law_lists" j ["_law_matter"] (spD R)) {k : Nat} (hj : j ≤ k) (hr : Room k (A.deeper (envOfC "_law_lists" (defScope s_l_lists) s.heap.objs.size f cdv))) :
    PSs (cxOf CX0 P w K mg base n_l_lists "_law_lists" (defScope s_l_lists) f cdv A outer s H E).nox (defBody s_l_lists) (t_l_lists K w R) :=
  have nd := sc_l_lists.nd
  (pss_cons (ps_ret (pe_ifExp (pt_val (pe_callB call_isiT (by rfl) B.m_isinstance boot_isinstance (pa_cons (pv 0) (pa_cons (pe_tup (pa_cons (pe_bltn (v := .ty "list") (by rfl) B.m_list boot_list rfl) (pa_cons (pe_bltn (v := .ty "tuple") (by rfl) B.m_tuple boot_tuple rfl) pa_nil))) pa_nil)))) (pe_lc (own := [("_law_own", 1)]) (by rfl) nd (pi_seqA (pv 0)) (blkOk_by (N := n_l_lists) (sc := (defScope s_l_lists)) (by decide +kernel)) (fun _ _ _ _ _ => (pg_name (i := 1) nd rfl (Or.inl rfl))) (fun _ _ _ _ _ => pts_nil) (fun _ _ _ _ _ => (pe_def D_l_lists hr hj (by rfl) (pa_cons (pv 1) pa_nil)))) (pv 0)))
  pss_nil)

abbrev s_l_shared : Stmt := topS 33
abbrev n_l_shared : List Str := ["_law_one", "_law_other"]
theorem sc_l_shared : FnScope n_l_shared ["_law_one", "_law_other"] (defScope s_l_shared) := ⟨rfl, rfl, rfl, by decide +kernel, rfl, by decide +kernel, by decide +kernel⟩
theorem der_l_shared {f : Addr} {cdv : Value} {A : Around} {outer : List PySem.Env} {s : Shared} {H : Hp} {E : XK} (B : Bt mg) {k : Nat} (hk : 0 ≤ k) (hr : Room k (A.deeper (envOfC "_law_shared" (defScope s_l_shared) s.heap.objs.size f cdv))) :
    PSs (cxOf CX0 P w K mg base n_l_shared "_law_shared" (defScope s_l_shared) f cdv A outer s H E).nox (defBody s_l_shared) (t_l_shared K w) :=
  have nd := sc_l_shared.nd
  (pss_cons (ps_while PassesOwn.never (pt_cmpR op_gt (pv 1) pe_int (nomark _)) (pss_cons (ps_par (i := 0) (j := 1) rfl nd rfl rfl (by decide) rfl rfl (pa_cons (pv 1) (pa_cons (pe_op op_mod (pe_callTy cr_int1 (by rfl) B.m_int boot_int (pa_cons (pv 0) pa_nil)) (pv 1)) pa_nil)) (by rfl))
  pss_nil))
  (pss_cons (ps_ret (pv 0))
  pss_nil))

abbrev s_l_frac : Stmt := topS 34
abbrev n_l_frac : List Str := ["_law_top", "_law_below", "_law_most"]
theorem sc_l_frac : FnScope n_l_frac ["_law_top", "_law_below"] (defScope s_l_frac) := ⟨rfl, rfl, rfl, by decide +kernel, rfl, by decide +kernel, by decide +kernel⟩
theorem der_l_frac {f : Addr} {cdv : Value} {A : Around} {outer : List PySem.Env} {s : Shared} {H : Hp} {E : XK} (D_l_shared : Def P w K mg base "_law_shared" 1 ["_law_one", "_law_other"] (spD R_l_shared)) {k : Nat} (hk : 1 ≤ k) (hr : Room k (A.deeper (envOfC "_law_frac" (defScope s_l_frac) s.heap.objs.size f cdv))) :
    PSs (cxOf CX0 P w K mg base n_l_frac "_law_frac" (defScope s_l_frac) f cdv A outer s H E).nox (defBody s_l_frac) (t_l_frac K w) :=
  have nd := sc_l_frac.nd
  (pss_cons (ps_set (i := 2) nd rfl (Or.inl rfl) (pe_def D_l_shared hr (Nat.le_trans (by decide) hk) (by rfl) (pa_cons (pv 0) (pa_cons (pv 1) pa_nil))))
  (pss_cons (ps_ret (pe_tup (pa_cons (pe_op op_fdiv (pv 0) (pv 2)) (pa_cons (pe_op op_fdiv (pv 1) (pv 2)) pa_nil))))
  pss_nil))

abbrev s_l_plus : Stmt := topS 35
abbrev n_l_plus : List Str := ["_law_one", "_law_other"]
theorem sc_l_plus : FnScope n_l_plus ["_law_one", "_law_other"] (defScope s_l_plus) := ⟨rfl, rfl, rfl, by decide +kernel, rfl, by decide +kernel, by decide +kernel⟩
theorem der_l_plus {f : Addr} {cdv : Value} {A : Around} {outer : List PySem.Env} {s : Shared} {H : Hp} {E : XK} (D_l_frac : Def P w K mg base "_law_frac" 2 ["_law_top", "_law_below"] (spD R_l_frac)) {k : Nat} (hk : 2 ≤ k) (hr : Room k (A.deeper (envOfC "_law_plus" (defScope s_l_plus) s.heap.objs.size f cdv))) :
    PSs (cxOf CX0 P w K mg base n_l_plus "_law_plus" (defScope s_l_plus) f cdv A outer s H E).nox (defBody s_l_plus) (t_l_plus K w) :=
  have nd := sc_l_plus.nd
  (pss_cons (ps_ret (pe_def D_l_frac hr (Nat.le_trans (by decide) hk) (by rfl) (pa_cons (pe_op op_addA (pe_op op_mulA (pe_ix ix_A (pv 0) pe_int (fun _ _ => rfl)) (pe_ix ix_A (pv 1) pe_int (fun _ _ => rfl))) (pe_op op_mulA (pe_ix ix_A (pv 1) pe_int (fun _ _ => rfl)) (pe_ix ix_A (pv 0) pe_int (fun _ _ => rfl)))) (pa_cons (pe_op op_mulA (pe_ix ix_A (pv 0) pe_int (fun _ _ => rfl)) (pe_ix ix_A (pv 1) pe_int (fun _ _ => rfl))) pa_nil))))
  pss_nil)

abbrev s_l_less : Stmt := topS 36
abbrev n_l_less : List Str := ["_law_one", "_law_other"]
theorem sc_l_less : FnScope n_l_less ["_law_one", "_law_other"] (defScope s_l_less) := ⟨rfl, rfl, rfl, by decide +kernel, rfl, by decide +kernel, by decide +kernel⟩
theorem der_l_less {f : Addr} {cdv : Value} {A : Around} {outer : List PySem.Env} {s : Shared} {H : Hp} {E : XK} (D_l_frac : Def P w K mg base "_law_frac" 2 ["_law_top", "_law_below"] (spD R_l_frac)) {k : Nat} (hk : 2 ≤ k) (hr : Room k (A.deeper (envOfC "_law_less" (defScope s_l_less) s.heap.objs.size f cdv))) :
    PSs (cxOf CX0 P w K mg base n_l_less "_law_less" (defScope s_l_less) f cdv A outer s H E).nox (defBody s_l_less) (t_l_less K w) :=
  have nd := sc_l_less.nd
  (pss_cons (ps_ret (pe_def D_l_frac hr (Nat.le_trans (by decide) hk) (by rfl) (pa_cons (pe_op op_sub (pe_op op_mulA (pe_ix ix_A (pv 0) pe_int (fun _ _ => rfl)) (pe_ix ix_A (pv 1) pe_int (fun _ _ => rfl))) (pe_op op_mulA (pe_ix ix_A (pv 1) pe_int (fun _ _ => rfl)) (pe_ix ix_A (pv 0) pe_int (fun _ _ => rfl)))) (pa_cons (pe_op op_mulA (pe_ix ix_A (pv 0) pe_int (fun _ _ => rfl)) (pe_ix ix_A (pv 1) pe_int (fun _ _ => rfl))) pa_nil))))
  pss_nil)

abbrev s_l_times : Stmt := topS 37
abbrev n_l_times : List Str := ["_law_one", "_law_other"]
theorem sc_l_times : FnScope n_l_times ["_law_one", "_law_other"] (defScope s_l_times) := ⟨rfl, rfl, rfl, by decide +kernel, rfl, by decide +kernel, by decide +kernel⟩
theorem der_l_times {f : Addr} {cdv : Value} {A : Around} {outer : List PySem.Env} {s : Shared} {H : Hp} {E : XK} (D_l_frac : Def P w K mg base "_law_frac" 2 ["_law_top", "_law_below"] (spD R_l_frac)) {k : Nat} (hk : 2 ≤ k) (hr : Room k (A.deeper (envOfC "_law_times" (defScope s_l_times) s.heap.objs.size f cdv))) :
    PSs (cxOf CX0 P w K mg base n_l_times "_law_times" (defScope s_l_times) f cdv A outer s H E).nox (defBody s_l_times) (t_l_times K w) :=
  have nd := sc_l_times.nd
  (pss_cons (ps_ret (pe_def D_l_frac hr (Nat.le_trans (by decide) hk) (by rfl) (pa_cons (pe_op op_mulA (pe_ix ix_A (pv 0) pe_int (fun _ _ => rfl)) (pe_ix ix_A (pv 1) pe_int (fun _ _ => rfl))) (pa_cons (pe_op op_mulA (pe_ix ix_A (pv 0) pe_int (fun _ _ => rfl)) (pe_ix ix_A (pv 1) pe_int (fun _ _ => rfl))) pa_nil))))
  pss_nil)

abbrev s_l_over : Stmt := topS 38
abbrev n_l_over : List Str := ["_law_one", "_law_other"]
theorem sc_l_over : FnScope n_l_over ["_law_one", "_law_other"] (defScope s_l_over) := ⟨rfl, rfl, rfl, by decide +kernel, rfl, by decide +kernel, by decide +kernel⟩
theorem der_l_over {f : Addr} {cdv : Value} {A : Around} {outer : List PySem.Env} {s : Shared} {H : Hp} {E : XK} (D_l_frac : Def P w K mg base "_law_frac" 2 ["_law_top", "_law_below"] (spD R_l_frac)) {k : Nat} (hk : 2 ≤ k) (hr : Room k (A.deeper (envOfC "_law_over" (defScope s_l_over) s.heap.objs.size f cdv))) :
    PSs (cxOf CX0 P w K mg base n_l_over "_law_over" (defScope s_l_over) f cdv A outer s H E).nox (defBody s_l_over) (t_l_over K w) :=
  have nd := sc_l_over.nd
  (pss_cons (ps_ret (pe_def D_l_frac hr (Nat.le_trans (by decide) hk) (by rfl) (pa_cons (pe_op op_mulA (pe_ix ix_A (pv 0) pe_int (fun _ _ => rfl)) (pe_ix ix_A (pv 1) pe_int (fun _ _ => rfl))) (pa_cons (pe_op op_mulA (pe_ix ix_A (pv 0) pe_int (fun _ _ => rfl)) (pe_ix ix_A (pv 1) pe_int (fun _ _ => rfl))) pa_nil))))
  pss_nil)

abbrev s_l_above : Stmt := topS 39
abbrev n_l_above : List Str := ["_law_one", "_law_other"]
theorem sc_l_above : FnScope n_l_above ["_law_one", "_law_other"] (defScope s_l_above) := ⟨rfl, rfl, rfl, by decide +kernel, rfl, by decide +kernel, by decide +kernel⟩
theorem der_l_above {f : Addr} {cdv : Value} {A : Around} {outer : List PySem.Env} {s : Shared} {H : Hp} {E : XK} {k : Nat} (hk : 0 ≤ k) (hr : Room k (A.deeper (envOfC "_law_above" (defScope s_l_above) s.heap.objs.size f cdv))) :
    PSs (cxOf CX0 P w K mg base n_l_above "_law_above" (defScope s_l_above) f cdv A outer s H E).nox (defBody s_l_above) (t_l_above K w) :=
  have nd := sc_l_above.nd
  (pss_cons (ps_ret (pe_cmpR op_gt (pe_op op_mulA (pe_ix ix_A (pv 0) pe_int (fun _ _ => rfl)) (pe_ix ix_A (pv 1) pe_int (fun _ _ => rfl))) (pe_op op_mulA (pe_ix ix_A (pv 1) pe_int (fun _ _ => rfl)) (pe_ix ix_A (pv 0) pe_int (fun _ _ => rfl))) (nomark _)))
  pss_nil)

abbrev s_l_sum : Stmt := topS 40
abbrev n_l_sum : List Str := ["_law_some", "_law_found", "_law_own"]
theorem sc_l_sum : FnScope n_l_sum ["_law_some"] (defScope s_l_sum) := ⟨rfl, rfl, rfl, by decide +kernel, rfl, by decide +kernel, by decide +kernel⟩
theorem der_l_sum {f : Addr} {cdv : Value} {A : Around} {outer : List PySem.Env} {s : Shared} {H : Hp} {E : XK} (D_l_plus : Def P w K mg base "_law_plus" 3 ["_law_one", "_law_other"] (spD R_l_plus)) {k : Nat} (hk : 3 ≤ k) (hr : Room k (A.deeper (envOfC "_law_sum" (defScope s_l_sum) s.heap.objs.size f cdv))) :
    PSs (cxOf CX0 P w K mg base n_l_sum "_law_sum" (defScope s_l_sum) f cdv A outer s H E).nox (defBody s_l_sum) (t_l_sum K w) :=
  have nd := sc_l_sum.nd
  (pss_cons (ps_set (i := 1) nd rfl (Or.inl rfl) (pe_tup (pa_cons pe_int (pa_cons pe_int pa_nil))))
  (pss_cons (ps_for PassesOwn.never rfl (pi_seqA (pv 0)) (pg_name (i := 2) nd rfl (Or.inl rfl)) (pss_cons (ps_set (i := 1) nd rfl (Or.inl rfl) (pe_def D_l_plus hr (Nat.le_trans (by decide) hk) (by rfl) (pa_cons (pv 1) (pa_cons (pv 2) pa_nil))))
  pss_nil))
  (pss_cons (ps_ret (pv 1))
  pss_nil)))

abbrev s_l_wide : Stmt := topS 41
abbrev n_l_wide : List Str := ["_law_rules", "_law_at", "_law_found", "_law_share", "_law_least", "_law_most", "_law_own"]
theorem sc_l_wide : FnScope n_l_wide ["_law_rules", "_law_at"] (defScope s_l_wide) := ⟨rfl, rfl, rfl, by decide +kernel, rfl, by decide +kernel, by decide +kernel⟩
theorem der_l_wide {f : Addr} {cdv : Value} {A : Around} {outer : List PySem.Env} {s : Shared} {H : Hp} {E : XK} (D_l_above : Def P w K mg base "_law_above" 1 ["_law_one", "_law_other"] (spD R_l_above)) (D_l_times : Def P w K mg base "_law_times" 3 ["_law_one", "_law_other"] (spD R_l_times)) {k : Nat} (hk : 3 ≤ k) (hr : Room k (A.deeper (envOfC "_law_wide" (defScope s_l_wide) s.heap.objs.size f cdv))) :
    PSs (cxOf CX0 P w K mg base n_l_wide "_law_wide" (defScope s_l_wide) f cdv A outer s H E).nox (defBody s_l_wide) (t_l_wide K w) :=
  have nd := sc_l_wide.nd
  (pss_cons (ps_set (i := 2) nd rfl (Or.inl rfl) (pe_lst pa_nil))
  (pss_cons (ps_for PassesOwn.never rfl (pi_seqA (pv 0)) (pg_tup (by rfl) (pgs_cons (pg_name (i := 3) nd rfl (Or.inl rfl)) (pgs_cons (pg_name (i := 4) nd rfl (Or.inl rfl)) (pgs_cons (pg_name (i := 5) nd rfl (Or.inl rfl)) pgs_nil)))) (pss_cons (ps_set (i := 6) nd rfl (Or.inl rfl) (pe_def D_l_times hr (Nat.le_trans (by decide) hk) (by rfl) (pa_cons (pv 1) (pa_cons (pe_tup (pa_cons (pv 3) (pa_cons pe_int pa_nil))) pa_nil))))
  (pss_cons (ps_set (i := 6) nd rfl (Or.inl rfl) (pe_ifExp (pt_val (pe_def D_l_above hr (Nat.le_trans (by decide) hk) (by rfl) (pa_cons (pe_tup (pa_cons (pv 4) (pa_cons pe_int pa_nil))) (pa_cons (pv 6) pa_nil)))) (pe_tup (pa_cons (pv 4) (pa_cons pe_int pa_nil))) (pv 6)))
  (pss_cons (ps_expr (pe_bm PySem.F.plainAttrs_list PySem.F.slot_list_append PySem.F.type_list_append mt_append (pv 2) (pa_cons (pe_ifExp (PW.pt (pw_and (pt_cmpR op_notNon (pv 5) pe_non (nomark _)) (pw_and1 (pt_val (pe_def D_l_above hr (Nat.le_trans (by decide) hk) (by rfl) (pa_cons (pv 6) (pa_cons (pe_tup (pa_cons (pv 5) (pa_cons pe_int pa_nil))) pa_nil))))))) (pe_tup (pa_cons (pv 5) (pa_cons pe_int pa_nil))) (pv 6)) pa_nil)))
  pss_nil))))
  (pss_cons (ps_ret (pv 2))
  pss_nil)))

abbrev s_l_ordered : Stmt := topS 42
abbrev n_l_ordered : List Str := ["_law_some", "_law_found", "_law_own", "_law_k", "_law_its"]
theorem sc_l_ordered : FnScope n_l_ordered ["_law_some"] (defScope s_l_ordered) := ⟨rfl, rfl, rfl, by decide +kernel, rfl, by decide +kernel, by decide +kernel⟩
theorem der_l_ordered {f : Addr} {cdv : Value} {A : Around} {outer : List PySem.Env} {s : Shared} {H : Hp} {E : XK} (B : Bt mg) (D_l_above : Def P w K mg base "_law_above" 1 ["_law_one", "_law_other"] (spD R_l_above)) {k : Nat} (hk : 1 ≤ k) (hr : Room k (A.deeper (envOfC "_law_ordered" (defScope s_l_ordered) s.heap.objs.size f cdv))) :
    PSs (cxOf CX0 P w K mg base n_l_ordered "_law_ordered" (defScope s_l_ordered) f cdv A outer s H E).nox (defBody s_l_ordered) (t_l_ordered K w) :=
  have nd := sc_l_ordered.nd
  (pss_cons (ps_set (i := 1) nd rfl (Or.inl rfl) (pe_lst pa_nil))
  (pss_cons (ps_for PassesOwn.never rfl (pi_seqA (pv 0)) (pg_name (i := 2) nd rfl (Or.inr rfl)) (pss_cons (ps_set (i := 3) nd rfl (Or.inl rfl) (pe_callB cr_len (by rfl) B.m_len boot_len (pa_cons (pe_lc (own := [("_law_its", 4)]) (by rfl) nd (pi_seqA (pv 1)) (blkOk_by (N := n_l_ordered) (sc := (defScope s_l_ordered)) (by decide +kernel)) (fun _ _ _ _ _ => (pg_name (i := 4) nd rfl (Or.inl rfl))) (fun _ _ _ _ _ => (pts_one (pt_val (pe_def D_l_above hr (Nat.le_trans (by decide) hk) (by rfl) (pa_cons (pv 2) (pa_cons (pv 4) pa_nil)))))) (fun _ _ _ _ _ => (pv 4))) pa_nil)))
  (pss_cons (ps_if (pt_cmpR (op_neD hr.units) (pe_slice sl_X (pv 1) (po_some (pv 3)) (po_some (pe_op op_addA (pv 3) pe_int))) (pe_lst (pa_cons (pv 2) pa_nil)) (nomark _)) (pss_cons (ps_set (i := 1) nd rfl (Or.inl rfl) (pe_op op_addA (pe_op op_addA (pe_slice sl_X (pv 1) po_none (po_some (pv 3))) (pe_lst (pa_cons (pv 2) pa_nil))) (pe_slice sl_X (pv 1) (po_some (pv 3)) po_none)))
  pss_nil) pss_nil)
  pss_nil)))
  (pss_cons (ps_ret (pv 1))
  pss_nil)))

abbrev s_l_turns : Stmt := topS 43
abbrev n_l_turns : List Str := ["_law_rules", "_law_found", "_law_share", "_law_least", "_law_most"]
theorem sc_l_turns : FnScope n_l_turns ["_law_rules"] (defScope s_l_turns) := ⟨rfl, rfl, rfl, by decide +kernel, rfl, by decide +kernel, by decide +kernel⟩
theorem der_l_turns {f : Addr} {cdv : Value} {A : Around} {outer : List PySem.Env} {s : Shared} {H : Hp} {E : XK} (D_l_ordered : Def P w K mg base "_law_ordered" 2 ["_law_some"] (spD R_l_ordered)) (D_l_frac : Def P w K mg base "_law_frac" 2 ["_law_top", "_law_below"] (spD R_l_frac)) {k : Nat} (hk : 2 ≤ k) (hr : Room k (A.deeper (envOfC "_law_turns" (defScope s_l_turns) s.heap.objs.size f cdv))) :
    PSs (cxOf CX0 P w K mg base n_l_turns "_law_turns" (defScope s_l_turns) f cdv A outer s H E).nox (defBody s_l_turns) (t_l_turns K w) :=
  have nd := sc_l_turns.nd
  (pss_cons (ps_set (i := 1) nd rfl (Or.inl rfl) (pe_lst (pa_cons (pe_tup (pa_cons pe_int (pa_cons pe_int pa_nil))) pa_nil)))
  (pss_cons (ps_for PassesOwn.never rfl (pi_seqA (pv 0)) (pg_tup (by rfl) (pgs_cons (pg_name (i := 2) nd rfl (Or.inl rfl)) (pgs_cons (pg_name (i := 3) nd rfl (Or.inl rfl)) (pgs_cons (pg_name (i := 4) nd rfl (Or.inl rfl)) pgs_nil)))) (pss_cons (ps_expr (pe_bm PySem.F.plainAttrs_list PySem.F.slot_list_append PySem.F.type_list_append mt_append (pv 1) (pa_cons (pe_def D_l_frac hr (Nat.le_trans (by decide) hk) (by rfl) (pa_cons (pv 3) (pa_cons (pv 2) pa_nil))) pa_nil)))
  (pss_cons (ps_if (pt_cmpR op_notNon (pv 4) pe_non (nomark _)) (pss_cons (ps_expr (pe_bm PySem.F.plainAttrs_list PySem.F.slot_list_append PySem.F.type_list_append mt_append (pv 1) (pa_cons (pe_def D_l_frac hr (Nat.le_trans (by decide) hk) (by rfl) (pa_cons (pv 4) (pa_cons (pv 2) pa_nil))) pa_nil)))
  pss_nil) pss_nil)
  pss_nil)))
  (pss_cons (ps_ret (pe_def D_l_ordered hr (Nat.le_trans (by decide) hk) (by rfl) (pa_cons (pv 1) pa_nil)))
  pss_nil)))

abbrev s_l_last_turn : Stmt := topS 44
abbrev n_l_last_turn : List Str := ["_law_rules", "_law_width", "_law_at"]
theorem sc_l_last_turn : FnScope n_l_last_turn ["_law_rules", "_law_width"] (defScope s_l_last_turn) := ⟨rfl, rfl, rfl, by decide +kernel, rfl, by decide +kernel, by decide +kernel⟩
theorem der_l_last_turn {f : Addr} {cdv : Value} {A : Around} {outer : List PySem.Env} {s : Shared} {H : Hp} {E : XK} (D_l_turns : Def P w K mg base "_law_turns" 3 ["_law_rules"] (spD R_l_turns)) (D_l_wide : Def P w K mg base "_law_wide" 4 ["_law_rules", "_law_at"] (spD R_l_wide)) (D_l_sum : Def P w K mg base "_law_sum" 4 ["_law_some"] (spD R_l_sum)) (D_l_above : Def P w K mg base "_law_above" 1 ["_law_one", "_law_other"] (spD R_l_above)) {k : Nat} (hk : 4 ≤ k) (hr : Room k (A.deeper (envOfC "_law_last_turn" (defScope s_l_last_turn) s.heap.objs.size f cdv))) :
    PSs (cxOf CX0 P w K mg base n_l_last_turn "_law_last_turn" (defScope s_l_last_turn) f cdv A outer s H E).nox (defBody s_l_last_turn) (t_l_last_turn K w) :=
  have nd := sc_l_last_turn.nd
  (pss_cons (ps_ret (pe_ix ix_A (pe_lc (own := [("_law_at", 2)]) (by rfl) nd (pi_seqA (pe_def D_l_turns hr (Nat.le_trans (by decide) hk) (by rfl) (pa_cons (pv 0) pa_nil))) (blkOk_by (N := n_l_last_turn) (sc := (defScope s_l_last_turn)) (by decide +kernel)) (fun _ _ _ _ _ => (pg_name (i := 2) nd rfl (Or.inl rfl))) (fun _ _ _ _ _ => (pts_one (pt_not (pt_val (pe_def D_l_above hr (Nat.le_trans (by decide) hk) (by rfl) (pa_cons (pe_def D_l_sum hr (Nat.le_trans (by decide) hk) (by rfl) (pa_cons (pe_def D_l_wide hr (Nat.le_trans (by decide) hk) (by rfl) (pa_cons (pv 0) (pa_cons (pv 2) pa_nil))) pa_nil)) (pa_cons (pe_tup (pa_cons (pv 1) (pa_cons pe_int pa_nil))) pa_nil))))))) (fun _ _ _ _ _ => (pv 2))) (pe_un un_neg pe_int) (fun _ _ => rfl)))
  pss_nil)

abbrev s_l_more : Stmt := topS 45
abbrev n_l_more : List Str := ["_law_rules", "_law_at", "_law_found", "_law_pane", "_law_share", "_law_least", "_law_most", "_law_own"]
theorem sc_l_more : FnScope n_l_more ["_law_rules", "_law_at"] (defScope s_l_more) := ⟨rfl, rfl, rfl, by decide +kernel, rfl, by decide +kernel, by decide +kernel⟩
theorem der_l_more {f : Addr} {cdv : Value} {A : Around} {outer : List PySem.Env} {s : Shared} {H : Hp} {E : XK} (B : Bt mg) (D_l_above : Def P w K mg base "_law_above" 1 ["_law_one", "_law_other"] (spD R_l_above)) (D_l_times : Def P w K mg base "_law_times" 3 ["_law_one", "_law_other"] (spD R_l_times)) {k : Nat} (hk : 3 ≤ k) (hr : Room k (A.deeper (envOfC "_law_more" (defScope s_l_more) s.heap.objs.size f cdv))) :
    PSs (cxOf CX0 P w K mg base n_l_more "_law_more" (defScope s_l_more) f cdv A outer s H E).nox (defBody s_l_more) (t_l_more K w) :=
  have nd := sc_l_more.nd
  (pss_cons (ps_set (i := 2) nd rfl (Or.inl rfl) (pe_lst pa_nil))
  (pss_cons (ps_for PassesOwn.never rfl (pi_enumA (by rfl) B.m_enumerate (pa_cons (pv 0) pa_nil)) (pg_tup (by rfl) (pgs_cons (pg_name (i := 3) nd rfl (Or.inl rfl)) (pgs_cons (pg_tup (by rfl) (pgs_cons (pg_name (i := 4) nd rfl (Or.inl rfl)) (pgs_cons (pg_name (i := 5) nd rfl (Or.inl rfl)) (pgs_cons (pg_name (i := 6) nd rfl (Or.inl rfl)) pgs_nil)))) pgs_nil))) (pss_cons (ps_set (i := 7) nd rfl (Or.inl rfl) (pe_def D_l_times hr (Nat.le_trans (by decide) hk) (by rfl) (pa_cons (pv 1) (pa_cons (pe_tup (pa_cons (pv 4) (pa_cons pe_int pa_nil))) pa_nil))))
  (pss_cons (ps_if (PW.pt (pw_and (pt_not (pt_val (pe_def D_l_above hr (Nat.le_trans (by decide) hk) (by rfl) (pa_cons (pe_tup (pa_cons (pv 5) (pa_cons pe_int pa_nil))) (pa_cons (pv 7) pa_nil))))) (pw_and1 (PW.pt (pw_or (pt_cmpR op_isNon (pv 6) pe_non (nomark _)) (pw_or1 (pt_val (pe_def D_l_above hr (Nat.le_trans (by decide) hk) (by rfl) (pa_cons (pe_tup (pa_cons (pv 6) (pa_cons pe_int pa_nil))) (pa_cons (pv 7) pa_nil)))))))))) (pss_cons (ps_expr (pe_bm PySem.F.plainAttrs_list PySem.F.slot_list_append PySem.F.type_list_append mt_append (pv 2) (pa_cons (pv 3) pa_nil)))
  pss_nil) pss_nil)
  pss_nil)))
  (pss_cons (ps_ret (pe_callTy cr_tupOf (by rfl) B.m_tuple boot_tuple (pa_cons (pv 2) pa_nil)))
  pss_nil)))

abbrev s_l_exact : Stmt := topS 46
abbrev n_l_exact : List Str := ["_law_rules", "_law_width", "_law_whole", "_law_at", "_law_left", "_law_pace", "_law_own", "_law_pane"]
theorem sc_l_exact : FnScope n_l_exact ["_law_rules", "_law_width"] (defScope s_l_exact) := ⟨rfl, rfl, rfl, by decide +kernel, rfl, by decide +kernel, by decide +kernel⟩
theorem der_l_exact {f : Addr} {cdv : Value} {A : Around} {outer : List PySem.Env} {s : Shared} {H : Hp} {E : XK} (B : Bt mg) (D_l_over : Def P w K mg base "_law_over" 3 ["_law_one", "_law_other"] (spD R_l_over)) (D_l_plus : Def P w K mg base "_law_plus" 3 ["_law_one", "_law_other"] (spD R_l_plus)) (D_l_wide : Def P w K mg base "_law_wide" 4 ["_law_rules", "_law_at"] (spD R_l_wide)) (D_l_more : Def P w K mg base "_law_more" 4 ["_law_rules", "_law_at"] (spD R_l_more)) (D_l_sum : Def P w K mg base "_law_sum" 4 ["_law_some"] (spD R_l_sum)) (D_l_less : Def P w K mg base "_law_less" 3 ["_law_one", "_law_other"] (spD R_l_less)) (D_l_last_turn : Def P w K mg base "_law_last_turn" 5 ["_law_rules", "_law_width"] (spD R_l_last_turn)) (D_l_frac : Def P w K mg base "_law_frac" 2 ["_law_top", "_law_below"] (spD R_l_frac)) {k : Nat} (hk : 5 ≤ k) (hr : Room k (A.deeper (envOfC "_law_exact" (defScope s_l_exact) s.heap.objs.size f cdv))) :
    PSs (cxOf CX0 P w K mg base n_l_exact "_law_exact" (defScope s_l_exact) f cdv A outer s H E).nox (defBody s_l_exact) (t_l_exact K w) :=
  have nd := sc_l_exact.nd
  (pss_cons (ps_set (i := 2) nd rfl (Or.inr rfl) (pe_callB (cr_sum rfl) (by rfl) B.m_sum boot_sum (pa_cons (pe_lc (own := [("_law_own", 6)]) (by rfl) nd (pi_seqA (pv 0)) (blkOk_by (N := n_l_exact) (sc := (defScope s_l_exact)) (by decide +kernel)) (fun _ _ _ _ _ => (pg_name (i := 6) nd rfl (Or.inl rfl))) (fun _ _ _ _ _ => pts_nil) (fun _ _ _ _ _ => (pe_ix ix_A (pv 6) pe_int (fun _ _ => rfl)))) pa_nil)))
  (pss_cons (ps_if (pt_cmpR op_lt (pv 1) (pv 2) (nomark _)) (pss_cons (ps_ret (pe_lc (own := [("_law_own", 6)]) (by rfl) nd (pi_seqA (pv 0)) (blkOk_by (N := n_l_exact) (sc := (defScope s_l_exact)) (by decide +kernel)) (fun _ _ _ _ _ => (pg_name (i := 6) nd rfl (Or.inl rfl))) (fun _ _ _ _ _ => pts_nil) (fun _ _ _ _ _ => (pe_def D_l_frac hr (Nat.le_trans (by decide) hk) (by rfl) (pa_cons (pe_op op_mulA (pv 1) (pe_ix ix_A (pv 6) pe_int (fun _ _ => rfl))) (pa_cons (pv 2) pa_nil))))))
  pss_nil) pss_nil)
  (pss_cons (ps_set (i := 3) nd rfl (Or.inl rfl) (pe_def D_l_last_turn hr (Nat.le_trans (by decide) hk) (by rfl) (pa_cons (pv 0) (pa_cons (pv 1) pa_nil))))
  (pss_cons (ps_set (i := 4) nd rfl (Or.inl rfl) (pe_def D_l_less hr (Nat.le_trans (by decide) hk) (by rfl) (pa_cons (pe_tup (pa_cons (pv 1) (pa_cons pe_int pa_nil))) (pa_cons (pe_def D_l_sum hr (Nat.le_trans (by decide) hk) (by rfl) (pa_cons (pe_def D_l_wide hr (Nat.le_trans (by decide) hk) (by rfl) (pa_cons (pv 0) (pa_cons (pv 3) pa_nil))) pa_nil)) pa_nil))))
  (pss_cons (ps_set (i := 5) nd rfl (Or.inl rfl) (pe_callB (cr_sum rfl) (by rfl) B.m_sum boot_sum (pa_cons (pe_lc (own := [("_law_pane", 7)]) (by rfl) nd (pi_seqA (pe_def D_l_more hr (Nat.le_trans (by decide) hk) (by rfl) (pa_cons (pv 0) (pa_cons (pv 3) pa_nil)))) (blkOk_by (N := n_l_exact) (sc := (defScope s_l_exact)) (by decide +kernel)) (fun _ _ _ _ _ => (pg_name (i := 7) nd rfl (Or.inl rfl))) (fun _ _ _ _ _ => pts_nil) (fun _ _ _ _ _ => (pe_ix ix_A (pe_ix ix_A (pv 0) (pv 7) (fun _ _ => rfl)) pe_int (fun _ _ => rfl)))) pa_nil)))
  (pss_cons (ps_ret (pe_def D_l_wide hr (Nat.le_trans (by decide) hk) (by rfl) (pa_cons (pv 0) (pa_cons (pe_def D_l_plus hr (Nat.le_trans (by decide) hk) (by rfl) (pa_cons (pv 3) (pa_cons (pe_def D_l_over hr (Nat.le_trans (by decide) hk) (by rfl) (pa_cons (pv 4) (pa_cons (pe_tup (pa_cons (pv 5) (pa_cons pe_int pa_nil))) pa_nil))) pa_nil))) pa_nil))))
  pss_nil))))))

abbrev s_l_free : Stmt := topS 47
abbrev n_l_free : List Str := ["_law_rules", "_law_width", "_law_own", "_law_pane"]
theorem sc_l_free : FnScope n_l_free ["_law_rules", "_law_width"] (defScope s_l_free) := ⟨rfl, rfl, rfl, by decide +kernel, rfl, by decide +kernel, by decide +kernel⟩
theorem der_l_free {f : Addr} {cdv : Value} {A : Around} {outer : List PySem.Env} {s : Shared} {H : Hp} {E : XK} (B : Bt mg) (D_l_last_turn : Def P w K mg base "_law_last_turn" 5 ["_law_rules", "_law_width"] (spD R_l_last_turn)) (D_l_more : Def P w K mg base "_law_more" 4 ["_law_rules", "_law_at"] (spD R_l_more)) {k : Nat} (hk : 5 ≤ k) (hr : Room k (A.deeper (envOfC "_law_free" (defScope s_l_free) s.heap.objs.size f cdv))) :
    PSs (cxOf CX0 P w K mg base n_l_free "_law_free" (defScope s_l_free) f cdv A outer s H E).nox (defBody s_l_free) (t_l_free K w) :=
  have nd := sc_l_free.nd
  (pss_cons (ps_if (pt_cmpR op_lt (pv 1) (pe_callB (cr_sum rfl) (by rfl) B.m_sum boot_sum (pa_cons (pe_lc (own := [("_law_own", 2)]) (by rfl) nd (pi_seqA (pv 0)) (blkOk_by (N := n_l_free) (sc := (defScope s_l_free)) (by decide +kernel)) (fun _ _ _ _ _ => (pg_name (i := 2) nd rfl (Or.inl rfl))) (fun _ _ _ _ _ => pts_nil) (fun _ _ _ _ _ => (pe_ix ix_A (pv 2) pe_int (fun _ _ => rfl)))) pa_nil)) (nomark _)) (pss_cons (ps_ret (pe_callTy cr_tupOf (by rfl) B.m_tuple boot_tuple (pa_cons (pe_lc (own := [("_law_pane", 3), ("_law_own", 2)]) (by rfl) nd (pi_enumA (by rfl) B.m_enumerate (pa_cons (pv 0) pa_nil)) (blkOk_by (N := n_l_free) (sc := (defScope s_l_free)) (by decide +kernel)) (fun _ _ _ _ _ => (pg_tup (by rfl) (pgs_cons (pg_name (i := 3) nd rfl (Or.inl rfl)) (pgs_cons (pg_name (i := 2) nd rfl (Or.inl rfl)) pgs_nil)))) (fun _ _ _ _ _ => (pts_one (pt_cmpR op_gt (pe_ix ix_A (pv 2) pe_int (fun _ _ => rfl)) pe_int (nomark _)))) (fun _ _ _ _ _ => (pv 3))) pa_nil)))
  pss_nil) pss_nil)
  (pss_cons (ps_ret (pe_def D_l_more hr (Nat.le_trans (by decide) hk) (by rfl) (pa_cons (pv 0) (pa_cons (pe_def D_l_last_turn hr (Nat.le_trans (by decide) hk) (by rfl) (pa_cons (pv 0) (pa_cons (pv 1) pa_nil))) pa_nil))))
  pss_nil))

abbrev s_l_layout : Stmt := topS 49
abbrev n_l_layout : List Str := ["_law_columns", "_law_parts", "_law_column", "_law_own", "_law_pane"]
theorem sc_l_layout : FnScope n_l_layout ["_law_columns"] (defScope s_l_layout) := ⟨rfl, rfl, rfl, by decide +kernel, rfl, by decide +kernel, by decide +kernel⟩
theorem der_l_layout {f : Addr} {cdv : Value} {A : Around} {outer : List PySem.Env} {s : Shared} {H : Hp} {E : XK} (B : Bt mg) (D_l_shared : Def P w K mg base "_law_shared" 1 ["_law_one", "_law_other"] (spD R_l_shared)) {k : Nat} (hk : 1 ≤ k) (hr : Room k (A.deeper (envOfC "_law_layout" (defScope s_l_layout) s.heap.objs.size f cdv))) :
    PSs (cxOf CX0 P w K mg base n_l_layout "_law_layout" (defScope s_l_layout) f cdv A outer s H E).nox (defBody s_l_layout) (t_l_layout K w) :=
  have nd := sc_l_layout.nd
  (pss_cons (ps_set (i := 1) nd rfl (Or.inr rfl) pe_int)
  (pss_cons (ps_for PassesOwn.never rfl (pi_seqA (pv 0)) (pg_name (i := 2) nd rfl (Or.inl rfl)) (pss_cons (ps_for PassesOwn.never rfl (pi_seqA (pv 2)) (pg_name (i := 3) nd rfl (Or.inl rfl)) (pss_cons (ps_set (i := 1) nd rfl (Or.inr rfl) (pe_op op_fdiv (pe_op op_mulA (pv 1) (pe_ix ix_A (pv 3) pe_int (fun _ _ => rfl))) (pe_def D_l_shared hr (Nat.le_trans (by decide) hk) (by rfl) (pa_cons (pv 1) (pa_cons (pe_ix ix_A (pv 3) pe_int (fun _ _ => rfl)) pa_nil)))))
  pss_nil))
  pss_nil))
  (pss_cons (ps_ret (pe_tup (pa_cons (pv 1) (pa_cons (pe_callTy cr_tupOf (by rfl) B.m_tuple boot_tuple (pa_cons (pe_lc (own := [("_law_pane", 4)]) (by rfl) nd (pi_range1 (by rfl) B.m_range (pa_cons (pe_callB cr_len (by rfl) B.m_len boot_len (pa_cons (pe_ix ix_A (pv 0) pe_int (fun _ _ => rfl)) pa_nil)) pa_nil)) (blkOk_by (N := n_l_layout) (sc := (defScope s_l_layout)) (by decide +kernel)) (fun _ _ _ _ _ => (pg_name (i := 4) nd rfl (Or.inr rfl))) (fun _ _ _ _ _ => pts_nil) (fun _ _ _ _ _ => (pe_callTy cr_tupOf (by rfl) B.m_tuple boot_tuple (pa_cons (pe_lc (own := [("_law_column", 2)]) (by rfl) nd (pi_seqA (pv 0)) (blkOk_by (N := n_l_layout) (sc := (relS _ (defScope s_l_layout))) (by decide +kernel)) (fun _ _ _ _ _ => (pg_name (i := 2) nd rfl (Or.inl rfl))) (fun _ _ _ _ _ => pts_nil) (fun _ _ _ _ _ => (pe_op op_mulA (pe_ix ix_A (pe_ix ix_A (pv 2) (pv 4) (fun _ _ => rfl)) pe_int (fun _ _ => rfl)) (pe_op op_fdiv (pv 1) (pe_ix ix_A (pe_ix ix_A (pv 2) (pv 4) (fun _ _ => rfl)) pe_int (fun _ _ => rfl)))))) pa_nil)))) pa_nil)) pa_nil))))
  pss_nil)))

abbrev s_l_is_count : Stmt := topS 51
abbrev n_l_is_count : List Str := ["_law_own", "_law_least"]
theorem sc_l_is_count : FnScope n_l_is_count ["_law_own", "_law_least"] (defScope s_l_is_count) := ⟨rfl, rfl, rfl, by decide +kernel, rfl, by decide +kernel, by decide +kernel⟩
theorem der_l_is_count {f : Addr} {cdv : Value} {A : Around} {outer : List PySem.Env} {s : Shared} {H : Hp} {E : XK} (B : Bt mg) {k : Nat} (hk : 0 ≤ k) (hr : Room k (A.deeper (envOfC "_law_is_count" (defScope s_l_is_count) s.heap.objs.size f cdv))) :
    PSs (cxOf CX0 P w K mg base n_l_is_count "_law_is_count" (defScope s_l_is_count) f cdv A outer s H E).nox (defBody s_l_is_count) (t_l_is_count K w) :=
  have nd := sc_l_is_count.nd
  (pss_cons (ps_ret (pe_and (pe_callB call_isi (by rfl) B.m_isinstance boot_isinstance (pa_cons (pv 0) (pa_cons (pe_bltn (v := .ty "int") (by rfl) B.m_int boot_int rfl) pa_nil))) (pe_and (pe_not (pe_callB call_isi (by rfl) B.m_isinstance boot_isinstance (pa_cons (pv 0) (pa_cons (pe_bltn (v := .ty "bool") (by rfl) B.m_bool boot_bool rfl) pa_nil)))) (pe_one (pe_cmpR op_ge (pv 0) (pv 1) (nomark _))))))
  pss_nil)

abbrev s_l_are_rules : Stmt := topS 52
abbrev n_l_are_rules : List Str := ["_law_own", "_law_its"]
theorem sc_l_are_rules : FnScope n_l_are_rules ["_law_own"] (defScope s_l_are_rules) := ⟨rfl, rfl, rfl, by decide +kernel, rfl, by decide +kernel, by decide +kernel⟩
theorem der_l_are_rules {f : Addr} {cdv : Value} {A : Around} {outer : List PySem.Env} {s : Shared} {H : Hp} {E : XK} (B : Bt mg) (D_l_is_count : Def P w K mg base "_law_is_count" 1 ["_law_own", "_law_least"] (spD R_l_is_count)) {k : Nat} (hk : 1 ≤ k) (hr : Room k (A.deeper (envOfC "_law_are_rules" (defScope s_l_are_rules) s.heap.objs.size f cdv))) :
    PSs (cxOf CX0 P w K mg base n_l_are_rules "_law_are_rules" (defScope s_l_are_rules) f cdv A outer s H E).nox (defBody s_l_are_rules) (t_l_are_rules K w) :=
  have nd := sc_l_are_rules.nd
  (pss_cons (ps_if (PW.pt (pw_or (pt_not (pt_val (pe_callB call_isi (by rfl) B.m_isinstance boot_isinstance (pa_cons (pv 0) (pa_cons (pe_bltn (v := .ty "tuple") (by rfl) B.m_tuple boot_tuple rfl) pa_nil))))) (pw_or1 (pt_cmpR (op_eqD hr.units) (pv 0) (pe_tup pa_nil) (nomark _))))) (pss_cons (ps_ret pe_bl)
  pss_nil) pss_nil)
  (pss_cons (ps_for PassesOwn.never rfl (pi_seqA (pv 0)) (pg_name (i := 1) nd rfl (Or.inl rfl)) (pss_cons (ps_if (PW.pt (pw_or (pt_not (pt_val (pe_callB call_isi (by rfl) B.m_isinstance boot_isinstance (pa_cons (pv 1) (pa_cons (pe_bltn (v := .ty "tuple") (by rfl) B.m_tuple boot_tuple rfl) pa_nil))))) (pw_or (pt_cmpR (op_neD hr.units) (pe_callB cr_len (by rfl) B.m_len boot_len (pa_cons (pv 1) pa_nil)) pe_int (nomark _)) (pw_or (pt_not (pt_val (pe_def D_l_is_count hr (Nat.le_trans (by decide) hk) (by rfl) (pa_cons (pe_ix ix_A (pv 1) pe_int (fun _ _ => rfl)) (pa_cons pe_int pa_nil))))) (pw_or1 (pt_not (pt_val (pe_def D_l_is_count hr (Nat.le_trans (by decide) hk) (by rfl) (pa_cons (pe_ix ix_A (pv 1) pe_int (fun _ _ => rfl)) (pa_cons pe_int pa_nil)))))))))) (pss_cons (ps_ret pe_bl)
  pss_nil) pss_nil)
  (pss_cons (ps_if (PW.pt (pw_and (pt_cmpR op_notNon (pe_ix ix_A (pv 1) pe_int (fun _ _ => rfl)) pe_non (nomark _)) (pw_and1 (pt_not (pt_val (pe_def D_l_is_count hr (Nat.le_trans (by decide) hk) (by rfl) (pa_cons (pe_ix ix_A (pv 1) pe_int (fun _ _ => rfl)) (pa_cons (pe_ix ix_A (pv 1) pe_int (fun _ _ => rfl)) pa_nil)))))))) (pss_cons (ps_ret pe_bl)
  pss_nil) pss_nil)
  pss_nil)))
  (pss_cons (ps_ret (pe_cmpR (op_neD hr.units) (pe_lc (own := [("_law_its", 1)]) (by rfl) nd (pi_seqA (pv 0)) (blkOk_by (N := n_l_are_rules) (sc := (defScope s_l_are_rules)) (by decide +kernel)) (fun _ _ _ _ _ => (pg_name (i := 1) nd rfl (Or.inl rfl))) (fun _ _ _ _ _ => (pts_one (pt_cmpR op_isNon (pe_ix ix_A (pv 1) pe_int (fun _ _ => rfl)) pe_non (nomark _)))) (fun _ _ _ _ _ => pe_int)) (pe_lst pa_nil) (nomark _)))
  pss_nil)))

end
end K4

/-! ## DerB -/
namespace K4
open PySem PySem.Spec PyProof.Rows L2
section
variable {P : Program} {w : World} {K : PySem.W.Frag} {mg : Str → Option Value} {base : Heap}
abbrev s_p_stops : Stmt := topS 22
abbrev n_p_stops : List Str := ["rules", "last", "own", "whole", "found", "pane", "share", "least", "most", "at", "wide", "word"]
theorem sc_p_stops : FnScope n_p_stops ["rules", "last"] (defScope s_p_stops) := ⟨rfl, rfl, rfl, by decide +kernel, rfl, by decide +kernel, by decide +kernel⟩
theorem der_p_stops {f : Addr} {cdv : Value} {A : Around} {outer : List PySem.Env} {s : Shared} {H : Hp} {E : XK} (B : Bt mg) (D_p_in_lowest : Def P w K mg base "in_lowest" 1 ["top", "below"] (spD R_p_in_lowest)) (D_p_would_be : Def P w K mg base "would_be" 3 ["rules", "at"] (spD R_p_would_be)) (D_p_common_share : Def P w K mg base "common_share" 2 ["rules"] (spD R_p_common_share)) (D_p_tuple_of : Def P w K mg base "tuple_of" 14 ["thing"] (spD (R_p_tuple_of 12))) {k : Nat} (hk : 14 ≤ k) (hr : Room k (A.deeper (envOfC "stops" (defScope s_p_stops) s.heap.objs.size f cdv))) :
    PSs (cxOf CX0 P w K mg base n_p_stops "stops" (defScope s_p_stops) f cdv A outer s H E).nox (defBody s_p_stops) (t_p_stops K w) :=
  have nd := sc_p_stops.nd
  (pss_cons (ps_set (i := 2) nd rfl (Or.inl rfl) (pe_def D_p_tuple_of hr (Nat.le_trans (by decide) hk) (by rfl) (pa_cons (pv 0) pa_nil)))
  (pss_cons (ps_asg (pe_tup (pa_cons (pe_def D_p_common_share hr (Nat.le_trans (by decide) hk) (by rfl) (pa_cons (pv 2) pa_nil)) (pa_cons (pe_lst pa_nil) pa_nil))) (pg_tup (by rfl) (pgs_cons (pg_name (i := 3) nd rfl (Or.inr rfl)) (pgs_cons (pg_name (i := 4) nd rfl (Or.inl rfl)) pgs_nil))))
  (pss_cons (ps_for PassesOwn.never rfl (pi_enumA (by rfl) B.m_enumerate (pa_cons (pv 2) pa_nil)) (pg_tup (by rfl) (pgs_cons (pg_name (i := 5) nd rfl (Or.inl rfl)) (pgs_cons (pg_tup (by rfl) (pgs_cons (pg_name (i := 6) nd rfl (Or.inl rfl)) (pgs_cons (pg_name (i := 7) nd rfl (Or.inl rfl)) (pgs_cons (pg_name (i := 8) nd rfl (Or.inl rfl)) pgs_nil)))) pgs_nil))) (pss_cons (ps_if (pt_cmpR (op_neD hr.units) (pv 7) (pv 8) (nomark _)) (pss_cons (ps_expr (pe_bm PySem.F.plainAttrs_list PySem.F.slot_list_append PySem.F.type_list_append mt_append (pv 4) (pa_cons (pe_tup (pa_cons (pe_callB (cr_sum rfl) (by rfl) B.m_sum boot_sum (pa_cons (pe_def D_p_would_be hr (Nat.le_trans (by decide) hk) (by rfl) (pa_cons (pv 2) (pa_cons (pe_op op_fdiv (pe_op op_mulA (pv 7) (pv 3)) (pv 6)) pa_nil))) pa_nil)) (pa_cons (pv 5) (pa_cons pe_str pa_nil)))) pa_nil)))
  pss_nil) pss_nil)
  (pss_cons (ps_if (pt_cmpR op_notNon (pv 8) pe_non (nomark _)) (pss_cons (ps_set (i := 9) nd rfl (Or.inl rfl) (pe_ifExp (pt_cmpR (op_eqD hr.units) (pv 7) (pv 8) (nomark _)) pe_int (pe_op op_fdiv (pe_op op_mulA (pv 8) (pv 3)) (pv 6))))
  (pss_cons (ps_expr (pe_bm PySem.F.plainAttrs_list PySem.F.slot_list_append PySem.F.type_list_append mt_append (pv 4) (pa_cons (pe_tup (pa_cons (pe_callB (cr_sum rfl) (by rfl) B.m_sum boot_sum (pa_cons (pe_def D_p_would_be hr (Nat.le_trans (by decide) hk) (by rfl) (pa_cons (pv 2) (pa_cons (pv 9) pa_nil))) pa_nil)) (pa_cons (pv 5) (pa_cons pe_str pa_nil)))) pa_nil)))
  pss_nil)) pss_nil)
  pss_nil)))
  (pss_cons (ps_ret (pe_lc (own := [("wide", 10), ("pane", 5), ("word", 11)]) (by rfl) nd (pi_seqA (pe_callB (cr_sortedTr hr.units) (by rfl) B.m_sorted boot_sorted (pa_cons (pv 4) pa_nil))) (blkOk_by (N := n_p_stops) (sc := (defScope s_p_stops)) (by decide +kernel)) (fun _ _ _ _ _ => (pg_tup (by rfl) (pgs_cons (pg_name (i := 10) nd rfl (Or.inl rfl)) (pgs_cons (pg_name (i := 5) nd rfl (Or.inl rfl)) (pgs_cons (pg_name (i := 11) nd rfl (Or.inl rfl)) pgs_nil))))) (fun _ _ _ _ _ => (pts_one (pt_cmpR op_le (pv 10) (pe_op op_mulA (pv 1) (pv 3)) (nomark _)))) (fun _ _ _ _ _ => (pe_tup (pa_cons (pe_def D_p_in_lowest hr (Nat.le_trans (by decide) hk) (by rfl) (pa_cons (pv 10) (pa_cons (pv 3) pa_nil))) (pa_cons (pv 5) (pa_cons (pv 11) pa_nil)))))))
  pss_nil))))

abbrev s_l_stops : Stmt := topS 48
abbrev n_l_stops : List Str := ["_law_rules", "_law_last", "_law_found", "_law_pane", "_law_share", "_law_least", "_law_most", "_law_at", "_law_rows", "_law_own"]
theorem sc_l_stops : FnScope n_l_stops ["_law_rules", "_law_last"] (defScope s_l_stops) := ⟨rfl, rfl, rfl, by decide +kernel, rfl, by decide +kernel, by decide +kernel⟩
theorem der_l_stops {f : Addr} {cdv : Value} {A : Around} {outer : List PySem.Env} {s : Shared} {H : Hp} {E : XK} (B : Bt mg) (D_l_ordered : Def P w K mg base "_law_ordered" 2 ["_law_some"] (spD R_l_ordered)) (D_l_above : Def P w K mg base "_law_above" 1 ["_law_one", "_law_other"] (spD R_l_above)) (D_l_wide : Def P w K mg base "_law_wide" 4 ["_law_rules", "_law_at"] (spD R_l_wide)) (D_l_sum : Def P w K mg base "_law_sum" 4 ["_law_some"] (spD R_l_sum)) (D_l_frac : Def P w K mg base "_law_frac" 2 ["_law_top", "_law_below"] (spD R_l_frac)) {k : Nat} (hk : 4 ≤ k) (hr : Room k (A.deeper (envOfC "_law_stops" (defScope s_l_stops) s.heap.objs.size f cdv))) :
    PSs (cxOf CX0 P w K mg base n_l_stops "_law_stops" (defScope s_l_stops) f cdv A outer s H E).nox (defBody s_l_stops) (t_l_stops K w) :=
  have nd := sc_l_stops.nd
  (pss_cons (ps_set (i := 2) nd rfl (Or.inl rfl) (pe_lst pa_nil))
  (pss_cons (ps_for PassesOwn.never rfl (pi_enumA (by rfl) B.m_enumerate (pa_cons (pv 0) pa_nil)) (pg_tup (by rfl) (pgs_cons (pg_name (i := 3) nd rfl (Or.inl rfl)) (pgs_cons (pg_tup (by rfl) (pgs_cons (pg_name (i := 4) nd rfl (Or.inl rfl)) (pgs_cons (pg_name (i := 5) nd rfl (Or.inl rfl)) (pgs_cons (pg_name (i := 6) nd rfl (Or.inl rfl)) pgs_nil)))) pgs_nil))) (pss_cons (ps_if (pt_cmpR (op_neD hr.units) (pv 6) (pv 5) (nomark _)) (pss_cons (ps_expr (pe_bm PySem.F.plainAttrs_list PySem.F.slot_list_append PySem.F.type_list_append mt_append (pv 2) (pa_cons (pe_tup (pa_cons (pe_def D_l_sum hr (Nat.le_trans (by decide) hk) (by rfl) (pa_cons (pe_def D_l_wide hr (Nat.le_trans (by decide) hk) (by rfl) (pa_cons (pv 0) (pa_cons (pe_def D_l_frac hr (Nat.le_trans (by decide) hk) (by rfl) (pa_cons (pv 5) (pa_cons (pv 4) pa_nil))) pa_nil))) pa_nil)) (pa_cons (pv 3) (pa_cons pe_str pa_nil)))) pa_nil)))
  pss_nil) pss_nil)
  (pss_cons (ps_if (pt_cmpR op_notNon (pv 6) pe_non (nomark _)) (pss_cons (ps_set (i := 7) nd rfl (Or.inr rfl) (pe_ifExp (pt_cmpR (op_eqD hr.units) (pv 6) (pv 5) (nomark _)) (pe_tup (pa_cons pe_int (pa_cons pe_int pa_nil))) (pe_def D_l_frac hr (Nat.le_trans (by decide) hk) (by rfl) (pa_cons (pv 6) (pa_cons (pv 4) pa_nil)))))
  (pss_cons (ps_expr (pe_bm PySem.F.plainAttrs_list PySem.F.slot_list_append PySem.F.type_list_append mt_append (pv 2) (pa_cons (pe_tup (pa_cons (pe_def D_l_sum hr (Nat.le_trans (by decide) hk) (by rfl) (pa_cons (pe_def D_l_wide hr (Nat.le_trans (by decide) hk) (by rfl) (pa_cons (pv 0) (pa_cons (pv 7) pa_nil))) pa_nil)) (pa_cons (pv 3) (pa_cons pe_str pa_nil)))) pa_nil)))
  pss_nil)) pss_nil)
  pss_nil)))
  (pss_cons (ps_set (i := 8) nd rfl (Or.inl rfl) (pe_lst pa_nil))
  (pss_cons (ps_for PassesOwn.never rfl (pi_seqA (pe_def D_l_ordered hr (Nat.le_trans (by decide) hk) (by rfl) (pa_cons (pe_lc (own := [("_law_own", 9)]) (by rfl) nd (pi_seqA (pv 2)) (blkOk_by (N := n_l_stops) (sc := (defScope s_l_stops)) (by decide +kernel)) (fun _ _ _ _ _ => (pg_name (i := 9) nd rfl (Or.inl rfl))) (fun _ _ _ _ _ => pts_nil) (fun _ _ _ _ _ => (pe_ix ix_A (pv 9) pe_int (fun _ _ => rfl)))) pa_nil))) (pg_name (i := 7) nd rfl (Or.inr rfl)) (pss_cons (ps_if (pt_not (pt_val (pe_def D_l_above hr (Nat.le_trans (by decide) hk) (by rfl) (pa_cons (pv 7) (pa_cons (pe_tup (pa_cons (pv 1) (pa_cons pe_int pa_nil))) pa_nil))))) (pss_cons (ps_set (i := 8) nd rfl (Or.inl rfl) (pe_op op_addA (pv 8) (pe_callB (cr_sortedTr hr.units) (by rfl) B.m_sorted boot_sorted (pa_cons (pe_lc (own := [("_law_own", 9)]) (by rfl) nd (pi_seqA (pv 2)) (blkOk_by (N := n_l_stops) (sc := (defScope s_l_stops)) (by decide +kernel)) (fun _ _ _ _ _ => (pg_name (i := 9) nd rfl (Or.inl rfl))) (fun _ _ _ _ _ => (pts_one (pt_cmpR (op_eqD hr.units) (pe_ix ix_A (pv 9) pe_int (fun _ _ => rfl)) (pv 7) (nomark _)))) (fun _ _ _ _ _ => (pv 9))) pa_nil))))
  pss_nil) pss_nil)
  pss_nil))
  (pss_cons (ps_ret (pv 8))
  pss_nil)))))

end
end K4

/-! ## DerU -/
namespace K4
open PySem PySem.Spec PyProof.Rows L2
section
variable {P : Program} {w : World} {K : PySem.W.Frag} {mg : Str → Option Value} {base : Heap}
abbrev s_l_box : Stmt := topS 27
abbrev n_l_box : List Str := ["_law_script", "_law_k", "_law_cell"]
theorem sc_l_box : FnScope n_l_box ["_law_script", "_law_k"] (defScope s_l_box) := ⟨rfl, rfl, rfl, by decide +kernel, rfl, by decide +kernel, by decide +kernel⟩
theorem der_l_box {f : Addr} {cdv : Value} {A : Around} {outer : List PySem.Env} {s : Shared} {H : Hp} {E : XK} (B : Bt mg) {k : Nat} (hk : 0 ≤ k) (hr : Room k (A.deeper (envOfC "_law_box" (defScope s_l_box) s.heap.objs.size f cdv))) :
    PSs (cxOf CX0 P w K mg base n_l_box "_law_box" (defScope s_l_box) f cdv A outer s H E).nox (defBody s_l_box) (t_l_box K w) :=
  have nd := sc_l_box.nd
  (pss_cons (ps_set (i := 2) nd rfl (Or.inl rfl) (pe_ifExp (pt_cmpR op_lt (pv 1) (pe_callB cr_len (by rfl) B.m_len boot_len (pa_cons (pv 0) pa_nil)) (nomark _)) (pe_ix ix_A (pv 0) (pv 1) (fun _ _ => rfl)) pe_int))
  (pss_cons (ps_ret (pe_lst (pa_cons (pe_op op_mulA (pe_callB cr_abs (by rfl) B.m_abs boot_abs (pa_cons (pv 2) pa_nil)) (pe_callTy cr_int1 (by rfl) B.m_int boot_int (pa_cons (pe_cmpR op_ge (pe_callB cr_abs (by rfl) B.m_abs boot_abs (pa_cons (pv 2) pa_nil)) (pe_op op_pow pe_int pe_int) (nomark _)) pa_nil))) (pa_cons (pe_op op_addA (pe_op op_addA (pe_op op_mod (pe_callTy cr_int1 (by rfl) B.m_int boot_int (pa_cons (pv 2) pa_nil)) pe_int) (pe_op op_mulA pe_int (pv 1))) pe_int) (pa_cons pe_int pa_nil)))))
  pss_nil))

abbrev s_l_take : Stmt := topS 28
abbrev n_l_take : List Str := ["_law_urn", "_law_below", "_law_drawn_here", "_law_once", "_law_far", "_law_twice"]
theorem sc_l_take : FnScope n_l_take ["_law_urn", "_law_below"] (defScope s_l_take) := ⟨rfl, rfl, rfl, by decide +kernel, rfl, by decide +kernel, by decide +kernel⟩
theorem der_l_take {f : Addr} {cdv : Value} {A : Around} {outer : List PySem.Env} {s : Shared} {H : Hp} {E : XK} (B : Bt mg) {k : Nat} (hk : 0 ≤ k) (hr : Room k (A.deeper (envOfC "_law_take" (defScope s_l_take) s.heap.objs.size f cdv))) :
    PSs (cxOf CX0 P w K mg base n_l_take "_law_take" (defScope s_l_take) f cdv A outer s H E).nox (defBody s_l_take) (t_l_take K w) :=
  have nd := sc_l_take.nd
  (pss_cons (ps_if (pt_cmpR op_gt (pe_ix ix_A (pv 0) pe_int (fun _ _ => rfl)) pe_int (nomark _)) (pss_cons (ps_set (i := 2) nd rfl (Or.inl rfl) (pe_op op_mod (pe_callTy cr_int1 (by rfl) B.m_int boot_int (pa_cons (pe_ix ix_A (pv 0) pe_int (fun _ _ => rfl)) pa_nil)) (pv 1)))
  (pss_cons (ps_asg (pe_op op_fdiv (pe_ix ix_A (pv 0) pe_int (fun _ _ => rfl)) (pv 1)) (pg_sub (pv 0) pe_int set_list))
  (pss_cons (ps_ret (pv 2))
  pss_nil))) pss_nil)
  (pss_cons (ps_asg (pe_op op_addA (pe_ix ix_A (pv 0) pe_int (fun _ _ => rfl)) pe_int) (pg_sub (pv 0) pe_int set_list))
  (pss_cons (ps_set (i := 3) nd rfl (Or.inl rfl) (pe_op op_mod (pe_callTy cr_int1 (by rfl) B.m_int boot_int (pa_cons (pe_op op_mulA (pe_op op_addA (pe_ix ix_A (pv 0) pe_int (fun _ _ => rfl)) (pe_op op_mulA pe_int (pe_ix ix_A (pv 0) pe_int (fun _ _ => rfl)))) (pe_op op_addA pe_int (pe_ix ix_A (pv 0) pe_int (fun _ _ => rfl)))) pa_nil)) pe_int))
  (pss_cons (ps_set (i := 4) nd rfl (Or.inl rfl) (pe_op op_addA (pe_op op_mod (pe_callTy cr_int1 (by rfl) B.m_int boot_int (pa_cons (pv 3) pa_nil)) pe_int) pe_int))
  (pss_cons (ps_set (i := 5) nd rfl (Or.inl rfl) (pe_op op_mod (pe_callTy cr_int1 (by rfl) B.m_int boot_int (pa_cons (pe_op op_mulA (pe_op op_addA (pe_op op_addA (pv 3) (pe_ix ix_A (pv 0) pe_int (fun _ _ => rfl))) (pe_op op_fdiv (pe_ix ix_A (pv 0) pe_int (fun _ _ => rfl)) pe_int)) (pv 4)) pa_nil)) pe_int))
  (pss_cons (ps_ret (pe_op op_mod (pe_callTy cr_int1 (by rfl) B.m_int boot_int (pa_cons (pe_op op_fdiv (pe_op op_mod (pe_callTy cr_int1 (by rfl) B.m_int boot_int (pa_cons (pe_op op_addA (pe_op op_mulA (pv 5) pe_int) (pv 3)) pa_nil)) pe_int) pe_int) pa_nil)) (pv 1)))
  pss_nil))))))

abbrev s_l_cells : Stmt := topS 29
abbrev n_l_cells : List Str := ["_law_script", "_law_many", "_law_cells_here", "_law_k", "_law_cell", "_law_at"]
theorem sc_l_cells : FnScope n_l_cells ["_law_script", "_law_many"] (defScope s_l_cells) := ⟨rfl, rfl, rfl, by decide +kernel, rfl, by decide +kernel, by decide +kernel⟩
theorem der_l_cells {f : Addr} {cdv : Value} {A : Around} {outer : List PySem.Env} {s : Shared} {H : Hp} {E : XK} (B : Bt mg) {k : Nat} (hk : 0 ≤ k) (hr : Room k (A.deeper (envOfC "_law_cells" (defScope s_l_cells) s.heap.objs.size f cdv))) :
    PSs (cxOf CX0 P w K mg base n_l_cells "_law_cells" (defScope s_l_cells) f cdv A outer s H E).nox (defBody s_l_cells) (t_l_cells K w) :=
  have nd := sc_l_cells.nd
  (pss_cons (ps_set (i := 2) nd rfl (Or.inl rfl) (pe_orT (pe_callTy cr_listOf (by rfl) B.m_list boot_list (pa_cons (pe_slice sl_X (pv 0) po_none (po_some (pv 1))) pa_nil)) (pe_one (pe_lst (pa_cons pe_int pa_nil)))))
  (pss_cons (ps_for PassesOwn.never rfl (pi_enumA (by rfl) B.m_enumerate (pa_cons (pe_slice sl_X (pv 0) (po_some (pv 1)) (po_some pe_int)) pa_nil)) (pg_tup (by rfl) (pgs_cons (pg_name (i := 3) nd rfl (Or.inl rfl)) (pgs_cons (pg_name (i := 4) nd rfl (Or.inl rfl)) pgs_nil))) (pss_cons (ps_set (i := 5) nd rfl (Or.inl rfl) (pe_op op_mod (pe_callTy cr_int1 (by rfl) B.m_int boot_int (pa_cons (pv 3) pa_nil)) (pv 1)))
  (pss_cons (ps_asg (pe_op op_addA (pe_ix ix_A (pv 2) (pv 5) (fun _ _ => rfl)) (pe_op op_mulA (pv 4) (pe_op op_addA (pv 3) pe_int))) (pg_sub (pv 2) (pv 5) set_list))
  pss_nil)))
  (pss_cons (ps_ret (pv 2))
  pss_nil)))

abbrev s_l_of : Stmt := topS 30
abbrev n_l_of : List Str := ["_law_urn", "_law_some"]
theorem sc_l_of : FnScope n_l_of ["_law_urn", "_law_some"] (defScope s_l_of) := ⟨rfl, rfl, rfl, by decide +kernel, rfl, by decide +kernel, by decide +kernel⟩
theorem der_l_of {f : Addr} {cdv : Value} {A : Around} {outer : List PySem.Env} {s : Shared} {H : Hp} {E : XK} (B : Bt mg) (D_l_take : Def P w K mg base "_law_take" 1 ["_law_urn", "_law_below"] (spU R_l_take)) {k : Nat} (hk : 1 ≤ k) (hr : Room k (A.deeper (envOfC "_law_of" (defScope s_l_of) s.heap.objs.size f cdv))) :
    PSs (cxOf CX0 P w K mg base n_l_of "_law_of" (defScope s_l_of) f cdv A outer s H E).nox (defBody s_l_of) (t_l_of K w) :=
  have nd := sc_l_of.nd
  (pss_cons (ps_ret (pe_ix ix_A (pv 1) (pe_def D_l_take hr (Nat.le_trans (by decide) hk) (by rfl) (pa_cons (pv 0) (pa_cons (pe_callB cr_len (by rfl) B.m_len boot_len (pa_cons (pv 1) pa_nil)) pa_nil))) (fun _ _ => rfl)))
  pss_nil)

abbrev s_l_drawn : Stmt := topS 50
abbrev n_l_drawn : List Str := ["_law_urn", "_law_many", "_law_found", "_law_free_here", "_law_pane", "_law_least", "_law_most"]
theorem sc_l_drawn : FnScope n_l_drawn ["_law_urn"] (defScope s_l_drawn) := ⟨rfl, rfl, rfl, by decide +kernel, rfl, by decide +kernel, by decide +kernel⟩
theorem der_l_drawn {f : Addr} {cdv : Value} {A : Around} {outer : List PySem.Env} {s : Shared} {H : Hp} {E : XK} (B : Bt mg) (D_l_take : Def P w K mg base "_law_take" 1 ["_law_urn", "_law_below"] (spU R_l_take)) (D_l_of : Def P w K mg base "_law_of" 2 ["_law_urn", "_law_some"] (spU R_l_of)) {k : Nat} (hk : 2 ≤ k) (hr : Room k (A.deeper (envOfC "_law_drawn" (defScope s_l_drawn) s.heap.objs.size f cdv))) :
    PSs (cxOf CX0 P w K mg base n_l_drawn "_law_drawn" (defScope s_l_drawn) f cdv A outer s H E).nox (defBody s_l_drawn) (t_l_drawn K w) :=
  have nd := sc_l_drawn.nd
  (pss_cons (ps_par (i := 1) (j := 2) rfl nd rfl rfl (by decide) rfl rfl (pa_cons (pe_op op_addA pe_int (pe_def D_l_take hr (Nat.le_trans (by decide) hk) (by rfl) (pa_cons (pv 0) (pa_cons pe_int pa_nil)))) (pa_cons (pe_lst pa_nil) pa_nil)) (by rfl))
  (pss_cons (ps_set (i := 3) nd rfl (Or.inl rfl) (pe_def D_l_take hr (Nat.le_trans (by decide) hk) (by rfl) (pa_cons (pv 0) (pa_cons (pv 1) pa_nil))))
  (pss_cons (ps_for PassesOwn.never rfl (pi_range1 (by rfl) B.m_range (pa_cons (pv 1) pa_nil)) (pg_name (i := 4) nd rfl (Or.inl rfl)) (pss_cons (ps_set (i := 5) nd rfl (Or.inl rfl) (pe_op op_mulA (pe_def D_l_take hr (Nat.le_trans (by decide) hk) (by rfl) (pa_cons (pv 0) (pa_cons pe_int pa_nil))) (pe_def D_l_of hr (Nat.le_trans (by decide) hk) (by rfl) (pa_cons (pv 0) (pa_cons (pe_lst (pa_cons pe_int (pa_cons pe_int (pa_cons pe_int pa_nil)))) pa_nil)))))
  (pss_cons (ps_set (i := 6) nd rfl (Or.inl rfl) (pe_ifExp (PW.pt (pw_and (pt_cmpR (op_neD hr.units) (pv 4) (pv 3) (nomark _)) (pw_and1 (pt_cmpR op_gt (pe_def D_l_take hr (Nat.le_trans (by decide) hk) (by rfl) (pa_cons (pv 0) (pa_cons pe_int pa_nil))) pe_int (nomark _))))) (pe_op op_addA (pv 5) (pe_def D_l_take hr (Nat.le_trans (by decide) hk) (by rfl) (pa_cons (pv 0) (pa_cons pe_int pa_nil)))) pe_non))
  (pss_cons (ps_expr (pe_bm PySem.F.plainAttrs_list PySem.F.slot_list_append PySem.F.type_list_append mt_append (pv 2) (pa_cons (pe_tup (pa_cons (pe_op op_addA pe_int (pe_def D_l_take hr (Nat.le_trans (by decide) hk) (by rfl) (pa_cons (pv 0) (pa_cons pe_int pa_nil)))) (pa_cons (pv 5) (pa_cons (pv 6) pa_nil)))) pa_nil)))
  pss_nil))))
  (pss_cons (ps_ret (pe_callTy cr_tupOf (by rfl) B.m_tuple boot_tuple (pa_cons (pv 2) pa_nil)))
  pss_nil))))

abbrev s_l_bent : Stmt := topS 53
abbrev n_l_bent : List Str := ["_law_urn", "_law_rules", "_law_k", "_law_j", "_law_way", "_law_own", "_law_bit"]
theorem sc_l_bent : FnScope n_l_bent ["_law_urn", "_law_rules"] (defScope s_l_bent) := ⟨rfl, rfl, rfl, by decide +kernel, rfl, by decide +kernel, by decide +kernel⟩
theorem der_l_bent {f : Addr} {cdv : Value} {A : Around} {outer : List PySem.Env} {s : Shared} {H : Hp} {E : XK} (B : Bt mg) (D_l_of : Def P w K mg base "_law_of" 2 ["_law_urn", "_law_some"] (spU R_l_of)) (D_l_take : Def P w K mg base "_law_take" 1 ["_law_urn", "_law_below"] (spU R_l_take)) {k : Nat} (hk : 2 ≤ k) (hr : Room k (A.deeper (envOfC "_law_bent" (defScope s_l_bent) s.heap.objs.size f cdv))) :
    PSs (cxOf CX0 P w K mg base n_l_bent "_law_bent" (defScope s_l_bent) f cdv A outer s H E).nox (defBody s_l_bent) (t_l_bent K w) :=
  have nd := sc_l_bent.nd
  (pss_cons (ps_par3 (i := 2) (j := 3) (l := 4) rfl nd rfl rfl rfl (by decide) (by decide) (by decide) rfl rfl rfl (pa_cons (pe_def D_l_take hr (Nat.le_trans (by decide) hk) (by rfl) (pa_cons (pv 0) (pa_cons (pe_callB cr_len (by rfl) B.m_len boot_len (pa_cons (pv 1) pa_nil)) pa_nil))) (pa_cons (pe_def D_l_take hr (Nat.le_trans (by decide) hk) (by rfl) (pa_cons (pv 0) (pa_cons pe_int pa_nil))) (pa_cons (pe_def D_l_take hr (Nat.le_trans (by decide) hk) (by rfl) (pa_cons (pv 0) (pa_cons pe_int pa_nil))) pa_nil))) (by rfl))
  (pss_cons (ps_set (i := 5) nd rfl (Or.inl rfl) (pe_ix ix_A (pv 1) (pv 2) (fun _ _ => rfl)))
  (pss_cons (ps_if (pt_cmpR (op_eqD hr.units) (pv 4) pe_int (nomark _)) (pss_cons (ps_ret (pe_def D_l_of hr (Nat.le_trans (by decide) hk) (by rfl) (pa_cons (pv 0) (pa_cons (pe_lst (pa_cons (pe_callTy cr_listOf (by rfl) B.m_list boot_list (pa_cons (pv 1) pa_nil)) (pa_cons (pe_op op_addA (pe_slice sl_X (pv 1) po_none (po_some (pv 2))) (pe_slice sl_X (pv 1) (po_some (pe_op op_addA (pv 2) pe_int)) po_none)) (pa_cons (pe_op op_addA (pe_op op_addA (pe_slice sl_X (pv 1) po_none (po_some (pv 2))) (pe_tup (pa_cons (pe_callTy cr_listOf (by rfl) B.m_list boot_list (pa_cons (pv 5) pa_nil)) pa_nil))) (pe_slice sl_X (pv 1) (po_some (pe_op op_addA (pv 2) pe_int)) po_none)) (pa_cons (pe_op op_addA (pv 1) (pe_tup (pa_cons (pe_tup (pa_cons (pe_ix ix_A (pv 5) pe_int (fun _ _ => rfl)) (pa_cons (pe_ix ix_A (pv 5) pe_int (fun _ _ => rfl)) pa_nil))) pa_nil))) pa_nil))))) pa_nil))))
  pss_nil) pss_nil)
  (pss_cons (ps_set (i := 6) nd rfl (Or.inl rfl) (pe_ifExp (PW.pt (pw_or (pt_cmpR op_lt (pv 4) pe_int (nomark _)) (pw_or1 (pt_cmpR op_isNon (pe_ix ix_A (pv 5) (pv 3) (fun _ _ => rfl)) pe_non (nomark _))))) (pe_def D_l_of hr (Nat.le_trans (by decide) hk) (by rfl) (pa_cons (pv 0) (pa_cons (pe_lst (pa_cons pe_non (pa_cons pe_bl (pa_cons pe_bl (pa_cons (pe_un un_neg pe_int) (pa_cons pe_int (pa_cons pe_str (pa_cons (pe_tup (pa_cons pe_int pa_nil)) pa_nil)))))))) pa_nil))) (pe_op op_addA (pe_ix ix_A (pv 5) (pv 3) (fun _ _ => rfl)) (pe_def D_l_of hr (Nat.le_trans (by decide) hk) (by rfl) (pa_cons (pv 0) (pa_cons (pe_lst (pa_cons pe_int (pa_cons (pe_un un_neg pe_int) (pa_cons (pe_un un_neg pe_int) (pa_cons pe_int pa_nil))))) pa_nil))))))
  (pss_cons (ps_ret (pe_op op_addA (pe_op op_addA (pe_slice sl_X (pv 1) po_none (po_some (pv 2))) (pe_tup (pa_cons (pe_op op_addA (pe_op op_addA (pe_slice sl_X (pv 5) po_none (po_some (pv 3))) (pe_tup (pa_cons (pv 6) pa_nil))) (pe_slice sl_X (pv 5) (po_some (pe_op op_addA (pv 3) pe_int)) po_none)) pa_nil))) (pe_slice sl_X (pv 1) (po_some (pe_op op_addA (pv 2) pe_int)) po_none)))
  pss_nil)))))

abbrev s_l_by_hand_right : Stmt := topS 54
abbrev n_l_by_hand_right : List Str := ["_law_rules", "_law_got", "_law_due", "_law_mine", "_law_pane", "_law_width"]
theorem sc_l_by_hand_right : FnScope n_l_by_hand_right [] (defScope s_l_by_hand_right) := ⟨rfl, rfl, rfl, by decide +kernel, rfl, by decide +kernel, by decide +kernel⟩
theorem der_l_by_hand_right {f : Addr} {cdv : Value} {A : Around} {outer : List PySem.Env} {s : Shared} {H : Hp} {E : XK} (B : Bt mg) (D_l_same : Def P w K mg base "_law_same" 14 ["_law_got", "_law_due"] (spD (R_l_same 12))) (D_l_stops : Def P w K mg base "_law_stops" 5 ["_law_rules", "_law_last"] (spD R_l_stops)) (D_l_free : Def P w K mg base "_law_free" 6 ["_law_rules", "_law_width"] (spD R_l_free)) (D_l_exact : Def P w K mg base "_law_exact" 6 ["_law_rules", "_law_width"] (spD R_l_exact)) (D_l_layout : Def P w K mg base "_law_layout" 2 ["_law_columns"] (spD R_l_layout)) (D_p_stops : Def P w K mg base "stops" 15 ["rules", "last"] (spD R_p_stops)) (D_p_free_at : Def P w K mg base "free_at" 15 ["rules", "width"] (spD R_p_free_at)) (D_p_rule_layout : Def P w K mg base "rule_layout" 15 ["rules", "last"] (spD R_p_rule_layout)) (D_p_width_given : Def P w K mg base "width_given" 15 ["rules", "pane", "width"] (spD R_p_width_given)) {k : Nat} (hk : 15 ≤ k) (hr : Room k (A.deeper (envOfC "_law_by_hand_right" (defScope s_l_by_hand_right) s.heap.objs.size f cdv))) :
    PSs (cxOf CX0 P w K mg base n_l_by_hand_right "_law_by_hand_right" (defScope s_l_by_hand_right) f cdv A outer s H E).nox (defBody s_l_by_hand_right) (t_l_by_hand_right K w) :=
  have nd := sc_l_by_hand_right.nd
  (pss_cons (ps_set (i := 0) nd rfl (Or.inr rfl) (pe_tup (pa_cons (pe_tup (pa_cons pe_int (pa_cons pe_int (pa_cons pe_non pa_nil)))) (pa_cons (pe_tup (pa_cons pe_int (pa_cons pe_int (pa_cons pe_int pa_nil)))) (pa_cons (pe_tup (pa_cons pe_int (pa_cons pe_int (pa_cons pe_non pa_nil)))) pa_nil)))))
  (pss_cons (ps_set (i := 1) nd rfl (Or.inl rfl) (pe_lst (pa_cons (pe_lc (own := [("_law_pane", 4)]) (by rfl) nd (pi_range1 (by rfl) B.m_range (pa_cons pe_int pa_nil)) (blkOk_by (N := n_l_by_hand_right) (sc := (defScope s_l_by_hand_right)) (by decide +kernel)) (fun _ _ _ _ _ => (pg_name (i := 4) nd rfl (Or.inl rfl))) (fun _ _ _ _ _ => pts_nil) (fun _ _ _ _ _ => (pe_def D_p_width_given hr (Nat.le_trans (by decide) hk) (by rfl) (pa_cons (pv 0) (pa_cons (pv 4) (pa_cons pe_int pa_nil)))))) (pa_cons (pe_def D_p_rule_layout hr (Nat.le_trans (by decide) hk) (by rfl) (pa_cons (pv 0) (pa_cons pe_int pa_nil))) (pa_cons (pe_def D_p_free_at hr (Nat.le_trans (by decide) hk) (by rfl) (pa_cons (pv 0) (pa_cons pe_int pa_nil))) (pa_cons (pe_def D_p_stops hr (Nat.le_trans (by decide) hk) (by rfl) (pa_cons (pv 0) (pa_cons pe_int pa_nil))) pa_nil))))))
  (pss_cons (ps_set (i := 2) nd rfl (Or.inl rfl) (pe_lst (pa_cons (pe_lst (pa_cons (pe_tup (pa_cons pe_int (pa_cons pe_int pa_nil))) (pa_cons (pe_tup (pa_cons pe_int (pa_cons pe_int pa_nil))) (pa_cons (pe_tup (pa_cons pe_int (pa_cons pe_int pa_nil))) pa_nil)))) (pa_cons (pe_tup (pa_cons pe_int (pa_cons (pe_tup (pa_cons (pe_tup (pa_cons pe_int (pa_cons pe_int (pa_cons pe_int (pa_cons pe_int pa_nil))))) (pa_cons (pe_tup (pa_cons pe_int (pa_cons pe_int (pa_cons pe_int (pa_cons pe_int pa_nil))))) (pa_cons (pe_tup (pa_cons pe_int (pa_cons pe_int (pa_cons pe_int (pa_cons pe_int pa_nil))))) pa_nil)))) pa_nil))) (pa_cons (pe_tup (pa_cons pe_int (pa_cons pe_int pa_nil))) pa_nil)))))
  (pss_cons (ps_expr (pe_bm PySem.F.plainAttrs_list PySem.F.slot_list_append PySem.F.type_list_append mt_append (pv 2) (pa_cons (pe_lst (pa_cons (pe_tup (pa_cons (pe_tup (pa_cons pe_int (pa_cons pe_int pa_nil))) (pa_cons pe_int (pa_cons pe_str pa_nil)))) (pa_cons (pe_tup (pa_cons (pe_tup (pa_cons pe_int (pa_cons pe_int pa_nil))) (pa_cons pe_int (pa_cons pe_str pa_nil)))) (pa_cons (pe_tup (pa_cons (pe_tup (pa_cons pe_int (pa_cons pe_int pa_nil))) (pa_cons pe_int (pa_cons pe_str pa_nil)))) (pa_cons (pe_tup (pa_cons (pe_tup (pa_cons pe_int (pa_cons pe_int pa_nil))) (pa_cons pe_int (pa_cons pe_str pa_nil)))) pa_nil))))) pa_nil)))
  (pss_cons (ps_set (i := 3) nd rfl (Or.inl rfl) (pe_lst (pa_cons (pe_def D_l_exact hr (Nat.le_trans (by decide) hk) (by rfl) (pa_cons (pv 0) (pa_cons pe_int pa_nil))) (pa_cons (pe_def D_l_layout hr (Nat.le_trans (by decide) hk) (by rfl) (pa_cons (pe_lc (own := [("_law_width", 5)]) (by rfl) nd (pi_range1 (by rfl) B.m_range (pa_cons pe_int pa_nil)) (blkOk_by (N := n_l_by_hand_right) (sc := (defScope s_l_by_hand_right)) (by decide +kernel)) (fun _ _ _ _ _ => (pg_name (i := 5) nd rfl (Or.inl rfl))) (fun _ _ _ _ _ => pts_nil) (fun _ _ _ _ _ => (pe_def D_l_exact hr (Nat.le_trans (by decide) hk) (by rfl) (pa_cons (pv 0) (pa_cons (pv 5) pa_nil))))) pa_nil)) (pa_cons (pe_def D_l_free hr (Nat.le_trans (by decide) hk) (by rfl) (pa_cons (pv 0) (pa_cons pe_int pa_nil))) (pa_cons (pe_def D_l_stops hr (Nat.le_trans (by decide) hk) (by rfl) (pa_cons (pv 0) (pa_cons pe_int pa_nil))) pa_nil))))))
  (pss_cons (ps_ret (pe_and (pe_def D_l_same hr (Nat.le_trans (by decide) hk) (by rfl) (pa_cons (pv 1) (pa_cons (pv 2) pa_nil))) (pe_one (pe_def D_l_same hr (Nat.le_trans (by decide) hk) (by rfl) (pa_cons (pv 3) (pa_cons (pv 2) pa_nil))))))
  pss_nil))))))

abbrev s_l_rules_right : Stmt := topS 55
abbrev n_l_rules_right : List Str := ["_law_urn", "_law_rules", "_law_last", "_law_columns", "_law_soft", "_law_got", "_law_due", "_law_width", "_law_many", "_law_great", "_law_exact_here", "_law_own", "_law_pane"]
theorem sc_l_rules_right : FnScope n_l_rules_right ["_law_urn", "_law_rules"] (defScope s_l_rules_right) := ⟨rfl, rfl, rfl, by decide +kernel, rfl, by decide +kernel, by decide +kernel⟩
theorem der_l_rules_right {f : Addr} {cdv : Value} {A : Around} {outer : List PySem.Env} {s : Shared} {H : Hp} {E : XK} (B : Bt mg) (D_l_times : Def P w K mg base "_law_times" 3 ["_law_one", "_law_other"] (spD R_l_times)) (D_l_same : Def P w K mg base "_law_same" 14 ["_law_got", "_law_due"] (spD (R_l_same 12))) (D_l_exact : Def P w K mg base "_law_exact" 6 ["_law_rules", "_law_width"] (spD R_l_exact)) (D_p_width_given : Def P w K mg base "width_given" 15 ["rules", "pane", "width"] (spD R_p_width_given)) (D_l_take : Def P w K mg base "_law_take" 1 ["_law_urn", "_law_below"] (spU R_l_take)) (D_l_stops : Def P w K mg base "_law_stops" 5 ["_law_rules", "_law_last"] (spD R_l_stops)) (D_l_free : Def P w K mg base "_law_free" 6 ["_law_rules", "_law_width"] (spD R_l_free)) (D_l_layout : Def P w K mg base "_law_layout" 2 ["_law_columns"] (spD R_l_layout)) (D_p_stops : Def P w K mg base "stops" 15 ["rules", "last"] (spD R_p_stops)) (D_p_free_at : Def P w K mg base "free_at" 15 ["rules", "width"] (spD R_p_free_at)) (D_p_rule_layout : Def P w K mg base "rule_layout" 15 ["rules", "last"] (spD R_p_rule_layout)) (D_l_lists : Def P w K mg base "_law_lists" 14 ["_law_matter"] (spD (R_l_lists 12))) {k : Nat} (hk : 15 ≤ k) (hr : Room k (A.deeper (envOfC "_law_rules_right" (defScope s_l_rules_right) s.heap.objs.size f cdv))) :
    PSs (cxOf CX0 P w K mg base n_l_rules_right "_law_rules_right" (defScope s_l_rules_right) f cdv A outer s H E).nox (defBody s_l_rules_right) (t_l_rules_right K w) :=
  have nd := sc_l_rules_right.nd
  (pss_cons (ps_set (i := 2) nd rfl (Or.inl rfl) (pe_def D_l_take hr (Nat.le_trans (by decide) hk) (by rfl) (pa_cons (pv 0) (pa_cons pe_int pa_nil))))
  (pss_cons (ps_setLc (i := 3) (own := [("_law_width", 7)]) (by rfl) nd rfl rfl (sw_true rfl rfl rfl (by decide +kernel)) (pi_range1 (by rfl) B.m_range (pa_cons (pe_op op_addA (pv 2) pe_int) pa_nil)) (blkOk_by (N := n_l_rules_right) (sc := (defScope s_l_rules_right)) (by decide +kernel)) (fun _ _ _ _ _ => (pg_name (i := 7) nd rfl (Or.inl rfl))) (fun _ _ _ _ _ => pts_nil) (fun _ _ _ _ _ => (pe_def D_l_exact hr (Nat.le_trans (by decide) hk) (by rfl) (pa_cons (pv 1) (pa_cons (pv 7) pa_nil)))))
  (pss_cons (ps_set (i := 4) nd rfl (Or.inr rfl) (pe_def D_l_lists hr (Nat.le_trans (by decide) hk) (by rfl) (pa_cons (pv 1) pa_nil)))
  (pss_cons (ps_set (i := 5) nd rfl (Or.inl rfl) (pe_lst (pa_cons (pe_def D_p_rule_layout hr (Nat.le_trans (by decide) hk) (by rfl) (pa_cons (pv 4) (pa_cons (pv 2) pa_nil))) (pa_cons (pe_lc (own := [("_law_width", 7)]) (by rfl) nd (pi_range1 (by rfl) B.m_range (pa_cons (pe_op op_addA (pv 2) pe_int) pa_nil)) (blkOk_by (N := n_l_rules_right) (sc := (defScope s_l_rules_right)) (by decide +kernel)) (fun _ _ _ _ _ => (pg_name (i := 7) nd rfl (Or.inl rfl))) (fun _ _ _ _ _ => pts_nil) (fun _ _ _ _ _ => (pe_def D_p_free_at hr (Nat.le_trans (by decide) hk) (by rfl) (pa_cons (pv 1) (pa_cons (pv 7) pa_nil))))) (pa_cons (pe_def D_p_stops hr (Nat.le_trans (by decide) hk) (by rfl) (pa_cons (pv 1) (pa_cons (pv 2) pa_nil))) (pa_cons (pe_def D_p_stops hr (Nat.le_trans (by decide) hk) (by rfl) (pa_cons (pv 4) (pa_cons (pe_op op_mulA pe_int (pv 2)) pa_nil))) pa_nil))))))
  (pss_cons (ps_set (i := 6) nd rfl (Or.inl rfl) (pe_lst (pa_cons (pe_def D_l_layout hr (Nat.le_trans (by decide) hk) (by rfl) (pa_cons (pv 3) pa_nil)) (pa_cons (pe_lc (own := [("_law_width", 7)]) (by rfl) nd (pi_range1 (by rfl) B.m_range (pa_cons (pe_op op_addA (pv 2) pe_int) pa_nil)) (blkOk_by (N := n_l_rules_right) (sc := (defScope s_l_rules_right)) (by decide +kernel)) (fun _ _ _ _ _ => (pg_name (i := 7) nd rfl (Or.inl rfl))) (fun _ _ _ _ _ => pts_nil) (fun _ _ _ _ _ => (pe_def D_l_free hr (Nat.le_trans (by decide) hk) (by rfl) (pa_cons (pv 1) (pa_cons (pv 7) pa_nil))))) (pa_cons (pe_def D_l_stops hr (Nat.le_trans (by decide) hk) (by rfl) (pa_cons (pv 1) (pa_cons (pv 2) pa_nil))) (pa_cons (pe_def D_l_stops hr (Nat.le_trans (by decide) hk) (by rfl) (pa_cons (pv 1) (pa_cons (pe_op op_mulA pe_int (pv 2)) pa_nil))) pa_nil))))))
  (pss_cons (ps_asg (pe_tup (pa_cons (pe_def D_l_take hr (Nat.le_trans (by decide) hk) (by rfl) (pa_cons (pv 0) (pa_cons pe_int pa_nil))) (pa_cons (pe_op op_addA pe_int (pe_def D_l_take hr (Nat.le_trans (by decide) hk) (by rfl) (pa_cons (pv 0) (pa_cons pe_int pa_nil)))) pa_nil))) (pg_tup (by rfl) (pgs_cons (pg_name (i := 7) nd rfl (Or.inr rfl)) (pgs_cons (pg_name (i := 8) nd rfl (Or.inr rfl)) pgs_nil))))
  (pss_cons (ps_set (i := 9) nd rfl (Or.inr rfl) (pe_callTy cr_tupOf (by rfl) B.m_tuple boot_tuple (pa_cons (pe_lc (own := [("_law_own", 11)]) (by rfl) nd (pi_seqA (pv 1)) (blkOk_by (N := n_l_rules_right) (sc := (defScope s_l_rules_right)) (by decide +kernel)) (fun _ _ _ _ _ => (pg_name (i := 11) nd rfl (Or.inl rfl))) (fun _ _ _ _ _ => pts_nil) (fun _ _ _ _ _ => (pe_tup (pa_cons (pe_ix ix_A (pv 11) pe_int (fun _ _ => rfl)) (pa_cons (pe_op op_mulA (pe_ix ix_A (pv 11) pe_int (fun _ _ => rfl)) (pv 8)) (pa_cons (pe_ifExp (pt_cmpR op_isNon (pe_ix ix_A (pv 11) pe_int (fun _ _ => rfl)) pe_non (nomark _)) pe_non (pe_op op_mulA (pe_ix ix_A (pv 11) pe_int (fun _ _ => rfl)) (pv 8))) pa_nil)))))) pa_nil)))
  (pss_cons (ps_set (i := 5) nd rfl (Or.inl rfl) (pe_op op_addA (pv 5) (pe_lst (pa_cons (pe_lc (own := [("_law_pane", 12)]) (by rfl) nd (pi_range1 (by rfl) B.m_range (pa_cons (pe_callB cr_len (by rfl) B.m_len boot_len (pa_cons (pv 1) pa_nil)) pa_nil)) (blkOk_by (N := n_l_rules_right) (sc := (defScope s_l_rules_right)) (by decide +kernel)) (fun _ _ _ _ _ => (pg_name (i := 12) nd rfl (Or.inl rfl))) (fun _ _ _ _ _ => pts_nil) (fun _ _ _ _ _ => (pe_def D_p_width_given hr (Nat.le_trans (by decide) hk) (by rfl) (pa_cons (pv 4) (pa_cons (pv 12) (pa_cons (pv 7) pa_nil)))))) (pa_cons (pe_lc (own := [("_law_pane", 12)]) (by rfl) nd (pi_range1 (by rfl) B.m_range (pa_cons (pe_callB cr_len (by rfl) B.m_len boot_len (pa_cons (pv 1) pa_nil)) pa_nil)) (blkOk_by (N := n_l_rules_right) (sc := (defScope s_l_rules_right)) (by decide +kernel)) (fun _ _ _ _ _ => (pg_name (i := 12) nd rfl (Or.inl rfl))) (fun _ _ _ _ _ => pts_nil) (fun _ _ _ _ _ => (pe_def D_p_width_given hr (Nat.le_trans (by decide) hk) (by rfl) (pa_cons (pv 9) (pa_cons (pv 12) (pa_cons (pe_op op_mulA (pv 7) (pv 8)) pa_nil)))))) pa_nil)))))
  (pss_cons (ps_set (i := 10) nd rfl (Or.inl rfl) (pe_def D_l_exact hr (Nat.le_trans (by decide) hk) (by rfl) (pa_cons (pv 1) (pa_cons (pv 7) pa_nil))))
  (pss_cons (ps_ret (pe_def D_l_same hr (Nat.le_trans (by decide) hk) (by rfl) (pa_cons (pv 5) (pa_cons (pe_op op_addA (pv 6) (pe_lst (pa_cons (pv 10) (pa_cons (pe_lc (own := [("_law_own", 11)]) (by rfl) nd (pi_seqA (pv 10)) (blkOk_by (N := n_l_rules_right) (sc := (defScope s_l_rules_right)) (by decide +kernel)) (fun _ _ _ _ _ => (pg_name (i := 11) nd rfl (Or.inl rfl))) (fun _ _ _ _ _ => pts_nil) (fun _ _ _ _ _ => (pe_def D_l_times hr (Nat.le_trans (by decide) hk) (by rfl) (pa_cons (pv 11) (pa_cons (pe_tup (pa_cons (pv 8) (pa_cons pe_int pa_nil))) pa_nil))))) pa_nil)))) pa_nil))))
  pss_nil))))))))))

abbrev s_l_right : Stmt := topS 56
abbrev n_l_right : List Str := ["_law_urn", "_law_rules", "_law_things", "_law_shares", "_law_last", "_law_rows", "_law_many", "_law_alike", "_law_mosts", "_law_ahead", "_law_found", "_law_own", "_law_got", "_law_lap", "_law_width"]
theorem sc_l_right : FnScope n_l_right ["_law_urn"] (defScope s_l_right) := ⟨rfl, rfl, rfl, by decide +kernel, rfl, by decide +kernel, by decide +kernel⟩
theorem der_l_right {f : Addr} {cdv : Value} {A : Around} {outer : List PySem.Env} {s : Shared} {H : Hp} {E : XK} (B : Bt mg) (D_l_layout : Def P w K mg base "_law_layout" 2 ["_law_columns"] (spD R_l_layout)) (D_l_same : Def P w K mg base "_law_same" 14 ["_law_got", "_law_due"] (spD (R_l_same 12))) (D_p_by_turns : Def P w K mg base "by_turns" 1 ["mosts", "last"] (spD R_p_by_turns)) (D_p_even : Def P w K mg base "even" 17 ["panes", "last"] (spD R_p_even)) (D_p_by_shares : Def P w K mg base "by_shares" 16 ["shares", "last"] (spD R_p_by_shares)) (D_l_take : Def P w K mg base "_law_take" 1 ["_law_urn", "_law_below"] (spU R_l_take)) (D_l_frac : Def P w K mg base "_law_frac" 2 ["_law_top", "_law_below"] (spD R_l_frac)) (D_l_are_rules : Def P w K mg base "_law_are_rules" 2 ["_law_own"] (spD R_l_are_rules)) (D_p_is_rules : Def P w K mg base "is_rules" 3 ["thing"] (spD R_p_is_rules)) (D_l_bent : Def P w K mg base "_law_bent" 3 ["_law_urn", "_law_rules"] (spU R_l_bent)) (D_l_rules_right : Def P w K mg base "_law_rules_right" 16 ["_law_urn", "_law_rules"] (spU R_l_rules_right)) (D_l_drawn : Def P w K mg base "_law_drawn" 3 ["_law_urn"] (spU R_l_drawn)) {k : Nat} (hk : 17 ≤ k) (hr : Room k (A.deeper (envOfC "_law_right" (defScope s_l_right) s.heap.objs.size f cdv))) :
    PSs (cxOf CX0 P w K mg base n_l_right "_law_right" (defScope s_l_right) f cdv A outer s H E).nox (defBody s_l_right) (t_l_right K w) :=
  have nd := sc_l_right.nd
  (pss_cons (ps_set (i := 1) nd rfl (Or.inr rfl) (pe_def D_l_drawn hr (Nat.le_trans (by decide) hk) (by rfl) (pa_cons (pv 0) pa_nil)))
  (pss_cons (ps_if (pt_not (pt_val (pe_def D_l_rules_right hr (Nat.le_trans (by decide) hk) (by rfl) (pa_cons (pv 0) (pa_cons (pv 1) pa_nil))))) (pss_cons (ps_ret pe_bl)
  pss_nil) pss_nil)
  (pss_cons (ps_set (i := 2) nd rfl (Or.inl rfl) (pe_op op_addA (pe_lst (pa_cons (pv 1) pa_nil)) (pe_lc (own := [("_law_lap", 13)]) (by rfl) nd (pi_range1 (by rfl) B.m_range (pa_cons pe_int pa_nil)) (blkOk_by (N := n_l_right) (sc := (defScope s_l_right)) (by decide +kernel)) (fun _ _ _ _ _ => (pg_name (i := 13) nd rfl (Or.inl rfl))) (fun _ _ _ _ _ => pts_nil) (fun _ _ _ _ _ => (pe_def D_l_bent hr (Nat.le_trans (by decide) hk) (by rfl) (pa_cons (pv 0) (pa_cons (pv 1) pa_nil)))))))
  (pss_cons (ps_if (pt_not (pt_val (pe_def D_l_same hr (Nat.le_trans (by decide) hk) (by rfl) (pa_cons (pe_lc (own := [("_law_own", 11)]) (by rfl) nd (pi_seqA (pv 2)) (blkOk_by (N := n_l_right) (sc := (defScope s_l_right)) (by decide +kernel)) (fun _ _ _ _ _ => (pg_name (i := 11) nd rfl (Or.inl rfl))) (fun _ _ _ _ _ => pts_nil) (fun _ _ _ _ _ => (pe_def D_p_is_rules hr (Nat.le_trans (by decide) hk) (by rfl) (pa_cons (pv 11) pa_nil)))) (pa_cons (pe_lc (own := [("_law_own", 11)]) (by rfl) nd (pi_seqA (pv 2)) (blkOk_by (N := n_l_right) (sc := (defScope s_l_right)) (by decide +kernel)) (fun _ _ _ _ _ => (pg_name (i := 11) nd rfl (Or.inl rfl))) (fun _ _ _ _ _ => pts_nil) (fun _ _ _ _ _ => (pe_def D_l_are_rules hr (Nat.le_trans (by decide) hk) (by rfl) (pa_cons (pv 11) pa_nil)))) pa_nil))))) (pss_cons (ps_ret pe_bl)
  pss_nil) pss_nil)
  (pss_cons (ps_asg (pe_tup (pa_cons (pe_callTy cr_tupOf (by rfl) B.m_tuple boot_tuple (pa_cons (pe_lc (own := [("_law_lap", 13)]) (by rfl) nd (pi_range1 (by rfl) B.m_range (pa_cons (pe_op op_addA pe_int (pe_def D_l_take hr (Nat.le_trans (by decide) hk) (by rfl) (pa_cons (pv 0) (pa_cons pe_int pa_nil)))) pa_nil)) (blkOk_by (N := n_l_right) (sc := (defScope s_l_right)) (by decide +kernel)) (fun _ _ _ _ _ => (pg_name (i := 13) nd rfl (Or.inl rfl))) (fun _ _ _ _ _ => pts_nil) (fun _ _ _ _ _ => (pe_op op_addA pe_int (pe_def D_l_take hr (Nat.le_trans (by decide) hk) (by rfl) (pa_cons (pv 0) (pa_cons pe_int pa_nil)))))) pa_nil)) (pa_cons (pe_def D_l_take hr (Nat.le_trans (by decide) hk) (by rfl) (pa_cons (pv 0) (pa_cons pe_int pa_nil))) pa_nil))) (pg_tup (by rfl) (pgs_cons (pg_name (i := 3) nd rfl (Or.inr rfl)) (pgs_cons (pg_name (i := 4) nd rfl (Or.inl rfl)) pgs_nil))))
  (pss_cons (ps_setLc (i := 5) (own := [("_law_width", 14)]) (by rfl) nd rfl rfl (sw_true rfl rfl rfl (by decide +kernel)) (pi_range1 (by rfl) B.m_range (pa_cons (pe_op op_addA (pv 4) pe_int) pa_nil)) (blkOk_by (N := n_l_right) (sc := (defScope s_l_right)) (by decide +kernel)) (fun _ _ _ _ _ => (pg_name (i := 14) nd rfl (Or.inr rfl))) (fun _ _ _ _ _ => pts_nil) (fun _ _ _ _ _ => (pe_lc (own := [("_law_own", 11)]) (by rfl) nd (pi_seqA (pv 3)) (blkOk_by (N := n_l_right) (sc := (relS _ (defScope s_l_right))) (by decide +kernel)) (fun _ _ _ _ _ => (pg_name (i := 11) nd rfl (Or.inl rfl))) (fun _ _ _ _ _ => pts_nil) (fun _ _ _ _ _ => (pe_def D_l_frac hr (Nat.le_trans (by decide) hk) (by rfl) (pa_cons (pe_op op_mulA (pv 14) (pv 11)) (pa_cons (pe_callB (cr_sumT rfl) (by rfl) B.m_sum boot_sum (pa_cons (pv 3) pa_nil)) pa_nil)))))))
  (pss_cons (ps_set (i := 6) nd rfl (Or.inr rfl) (pe_op op_addA pe_int (pe_def D_l_take hr (Nat.le_trans (by decide) hk) (by rfl) (pa_cons (pv 0) (pa_cons pe_int pa_nil)))))
  (pss_cons (ps_setLc (i := 7) (own := [("_law_width", 14)]) (by rfl) nd rfl rfl (sw_true rfl rfl rfl (by decide +kernel)) (pi_range1 (by rfl) B.m_range (pa_cons (pe_op op_addA (pv 4) pe_int) pa_nil)) (blkOk_by (N := n_l_right) (sc := (defScope s_l_right)) (by decide +kernel)) (fun _ _ _ _ _ => (pg_name (i := 14) nd rfl (Or.inl rfl))) (fun _ _ _ _ _ => pts_nil) (fun _ _ _ _ _ => (pe_op op_mulA (pe_lst (pa_cons (pe_def D_l_frac hr (Nat.le_trans (by decide) hk) (by rfl) (pa_cons (pv 14) (pa_cons (pv 6) pa_nil))) pa_nil)) (pv 6))))
  (pss_cons (ps_asg (pe_tup (pa_cons (pe_lc (own := [("_law_lap", 13)]) (by rfl) nd (pi_range1 (by rfl) B.m_range (pa_cons (pe_def D_l_take hr (Nat.le_trans (by decide) hk) (by rfl) (pa_cons (pv 0) (pa_cons pe_int pa_nil))) pa_nil)) (blkOk_by (N := n_l_right) (sc := (defScope s_l_right)) (by decide +kernel)) (fun _ _ _ _ _ => (pg_name (i := 13) nd rfl (Or.inl rfl))) (fun _ _ _ _ _ => pts_nil) (fun _ _ _ _ _ => (pe_op op_addA pe_int (pe_def D_l_take hr (Nat.le_trans (by decide) hk) (by rfl) (pa_cons (pv 0) (pa_cons pe_int pa_nil)))))) (pa_cons pe_int (pa_cons (pe_lst pa_nil) pa_nil)))) (pg_tup (by rfl) (pgs_cons (pg_name (i := 8) nd rfl (Or.inl rfl)) (pgs_cons (pg_name (i := 9) nd rfl (Or.inr rfl)) (pgs_cons (pg_name (i := 10) nd rfl (Or.inl rfl)) pgs_nil)))))
  (pss_cons (ps_for PassesOwn.never rfl (pi_seqA (pe_op op_addA (pv 8) (pe_lst (pa_cons pe_int pa_nil)))) (pg_name (i := 11) nd rfl (Or.inr rfl)) (pss_cons (ps_expr (pe_bm PySem.F.plainAttrs_list PySem.F.slot_list_append PySem.F.type_list_append mt_append (pv 10) (pa_cons (pe_callTy cr_tupOf (by rfl) B.m_tuple boot_tuple (pa_cons (pe_lc (own := [("_law_width", 14)]) (by rfl) nd (pi_range1 (by rfl) B.m_range (pa_cons (pe_op op_addA (pv 4) pe_int) pa_nil)) (blkOk_by (N := n_l_right) (sc := (defScope s_l_right)) (by decide +kernel)) (fun _ _ _ _ _ => (pg_name (i := 14) nd rfl (Or.inl rfl))) (fun _ _ _ _ _ => pts_nil) (fun _ _ _ _ _ => (pe_callB (cr_max2 rfl) (by rfl) B.m_max boot_max (pa_cons pe_int (pa_cons (pe_callB (cr_min2 rfl) (by rfl) B.m_min boot_min (pa_cons (pe_op op_sub (pv 14) (pv 9)) (pa_cons (pv 11) pa_nil))) pa_nil))))) pa_nil)) pa_nil)))
  (pss_cons (ps_set (i := 9) nd rfl (Or.inr rfl) (pe_op op_addA (pv 9) (pv 11)))
  pss_nil)))
  (pss_cons (ps_set (i := 12) nd rfl (Or.inl rfl) (pe_lst (pa_cons (pe_def D_p_by_shares hr (Nat.le_trans (by decide) hk) (by rfl) (pa_cons (pv 3) (pa_cons (pv 4) pa_nil))) (pa_cons (pe_def D_p_by_shares hr (Nat.le_trans (by decide) hk) (by rfl) (pa_cons (pe_callTy cr_listOf (by rfl) B.m_list boot_list (pa_cons (pv 3) pa_nil)) (pa_cons (pv 4) pa_nil))) (pa_cons (pe_def D_p_even hr (Nat.le_trans (by decide) hk) (by rfl) (pa_cons (pv 6) (pa_cons (pv 4) pa_nil))) (pa_cons (pe_def D_p_by_turns hr (Nat.le_trans (by decide) hk) (by rfl) (pa_cons (pe_callTy cr_tupOf (by rfl) B.m_tuple boot_tuple (pa_cons (pv 8) pa_nil)) (pa_cons (pv 4) pa_nil))) (pa_cons (pe_def D_p_by_turns hr (Nat.le_trans (by decide) hk) (by rfl) (pa_cons (pv 8) (pa_cons (pv 4) pa_nil))) pa_nil)))))))
  (pss_cons (ps_ret (pe_def D_l_same hr (Nat.le_trans (by decide) hk) (by rfl) (pa_cons (pv 12) (pa_cons (pe_op op_addA (pe_op op_addA (pe_op op_mulA (pe_lst (pa_cons (pe_def D_l_layout hr (Nat.le_trans (by decide) hk) (by rfl) (pa_cons (pv 5) pa_nil)) pa_nil)) pe_int) (pe_lst (pa_cons (pe_def D_l_layout hr (Nat.le_trans (by decide) hk) (by rfl) (pa_cons (pv 7) pa_nil)) pa_nil))) (pe_op op_mulA (pe_lst (pa_cons (pe_tup (pa_cons pe_int (pa_cons (pe_callTy cr_tupOf (by rfl) B.m_tuple boot_tuple (pa_cons (pv 10) pa_nil)) pa_nil))) pa_nil)) pe_int)) pa_nil))))
  pss_nil))))))))))))

abbrev s_law : Stmt := topS 57
abbrev n_law : List Str := ["_law_script"]
theorem sc_law : FnScope n_law ["_law_script"] (defScope s_law) := ⟨rfl, rfl, rfl, by decide +kernel, rfl, by decide +kernel, by decide +kernel⟩
theorem der_law {f : Addr} {cdv : Value} {A : Around} {outer : List PySem.Env} {s : Shared} {H : Hp} {E : XK} (D_l_by_hand_right : Def P w K mg base "_law_by_hand_right" 16 [] (spD R_l_by_hand_right)) (D_l_cells : Def P w K mg base "_law_cells" 1 ["_law_script", "_law_many"] (spCells K)) (D_l_box : Def P w K mg base "_law_box" 1 ["_law_script", "_law_k"] (spD R_l_box)) (D_l_right : Def P w K mg base "_law_right" 18 ["_law_urn"] (spU R_l_right)) {k : Nat} (hk : 18 ≤ k) (hr : Room k (A.deeper (envOfC "law" (defScope s_law) s.heap.objs.size f cdv))) :
    PSs (cxOf CX0 P w K mg base n_law "law" (defScope s_law) f cdv A outer s H E).nox (defBody s_law) (t_law K w) :=
  have nd := sc_law.nd
  (pss_cons (ps_ret (pe_and (pe_def0 D_l_by_hand_right hr (Nat.le_trans (by decide) hk) (by rfl)) (pe_one (pe_def D_l_right hr (Nat.le_trans (by decide) hk) (by rfl) (pa_cons (pe_def D_l_box hr (Nat.le_trans (by decide) hk) (by rfl) (pa_cons (pe_def D_l_cells hr (Nat.le_trans (by decide) hk) (by rfl) (pa_cons (pv 0) (pa_cons pe_int pa_nil))) (pa_cons pe_int pa_nil))) pa_nil)))))
  pss_nil)

end
end K4

/-! ## Asm -/
/-! every def of the text keeps its promise -/
namespace K4
open PySem PySem.Spec PyProof.Rows L2
def TopF (K : PySem.W.Frag) (mg : Str → Option Value) (x : Str) (st : Stmt) (ps : List Str) : Prop := ∃ f fd, Fun K x x st f fd ∧ mg x = some (.ref f) ∧ Binds K fd ps []
section
variable {P : Program} {w : World} {K : PySem.W.Frag} {mg : Str → Option Value} {base : Heap}
theorem def_zero {x : Str} {st : Stmt} {ps : List Str} (T : TopF K mg x st ps) : Def P w K mg base x 0 ps (spD fun _ _ => False) := by
  obtain ⟨f, fd, F, hm, hb⟩ := T
  refine ⟨f, fd, ⟨fun vs H Q E h => ?_, fun A outer s H args us vs Q E hr he hbi hv h => ?_⟩, hm, F.kp, hb⟩
  · obtain ⟨_, _, _, _, _, z, _⟩ := h
    exact z.elim
  · obtain ⟨_, _, _, _, _, z, _⟩ := h
    exact z.elim
theorem def_up {x : Str} {j k : Nat} {ps : List Str} {sp : Sp} (F : Def P w K mg base x j ps sp) (h : j ≤ k) : Def P w K mg base x k ps sp := by
  obtain ⟨f, fd, F1, h2⟩ := F
  exact ⟨f, fd, F1.mono h, h2⟩

theorem ok_p_is_number (B : Bt mg) (T : TopF K mg "is_number" s_p_is_number ["thing"]) : Def P w K mg base "is_number" 1 ["thing"] (spD R_p_is_number) := by
  obtain ⟨f, fd, F, hm, hb⟩ := T
  exact ⟨f, fd, fn_data R_p_is_number F sc_p_is_number (fun ds d h => by first | (obtain ⟨e, -⟩ := h; rw [e]; rfl) | (obtain ⟨_, e, -⟩ := h; rw [e]; rfl) | (obtain ⟨_, _, e, -⟩ := h; rw [e]; rfl) | (obtain ⟨_, _, _, e, -⟩ := h; rw [e]; rfl) | (obtain ⟨_, _, _, _, e, -⟩ := h; rw [e]; rfl)) (fun ds d h => ⟨_, body_is_number h, fun cdv A outer s H E hr => der_p_is_number B (by decide) hr⟩), hm, F.kp, hb⟩

theorem okn_p_tuple_of (B : Bt mg) (T : TopF K mg "tuple_of" s_p_tuple_of ["thing"]) : ∀ n : Nat, Def P w K mg base "tuple_of" (n + 1) ["thing"] (spD (R_p_tuple_of n))
  | 0 => by
    have D0 : Def P w K mg base "tuple_of" 0 ["thing"] (spD fun _ _ => False) := def_zero T
    obtain ⟨f, fd, F, hm, hb⟩ := T
    exact ⟨f, fd, fn_data (R_p_tuple_of 0) F sc_p_tuple_of (fun ds d h => by first | (obtain ⟨e, -⟩ := h; rw [e]; rfl) | (obtain ⟨_, e, -⟩ := h; rw [e]; rfl) | (obtain ⟨_, _, e, -⟩ := h; rw [e]; rfl) | (obtain ⟨_, _, _, e, -⟩ := h; rw [e]; rfl) | (obtain ⟨_, _, _, _, e, -⟩ := h; rw [e]; rfl)) (fun ds d h => by
      obtain ⟨x, rfl, h1, h2, rfl⟩ := h
      exact ⟨_, body_tuple_of h2 fun y hy hw => absurd hy (by omega), fun cdv A outer s H E hr => der_p_tuple_of B D0 (Nat.zero_le _) hr⟩), hm, F.kp, hb⟩
  | n + 1 => by
    have D0 := okn_p_tuple_of B T n
    obtain ⟨f, fd, F, hm, hb⟩ := T
    exact ⟨f, fd, fn_data (R_p_tuple_of (n + 1)) F sc_p_tuple_of (fun ds d h => by first | (obtain ⟨e, -⟩ := h; rw [e]; rfl) | (obtain ⟨_, e, -⟩ := h; rw [e]; rfl) | (obtain ⟨_, _, e, -⟩ := h; rw [e]; rfl) | (obtain ⟨_, _, _, e, -⟩ := h; rw [e]; rfl) | (obtain ⟨_, _, _, _, e, -⟩ := h; rw [e]; rfl)) (fun ds d h => by
      obtain ⟨x, rfl, h1, h2, rfl⟩ := h
      exact ⟨_, body_tuple_of h2 fun y hy hw => ⟨y, rfl, by omega, hw, rfl⟩, fun cdv A outer s H E hr => der_p_tuple_of B D0 (Nat.le_refl _) hr⟩), hm, F.kp, hb⟩
theorem ok_p_tuple_of (B : Bt mg) (T : TopF K mg "tuple_of" s_p_tuple_of ["thing"]) : Def P w K mg base "tuple_of" 14 ["thing"] (spD (R_p_tuple_of 12)) := def_up (okn_p_tuple_of B T 12) (by decide)

theorem ok_p_is_tuple_of (B : Bt mg) (T : TopF K mg "is_tuple_of" s_p_is_tuple_of ["thing", "many"]) : Def P w K mg base "is_tuple_of" 1 ["thing", "many"] (spD R_p_is_tuple_of) := by
  obtain ⟨f, fd, F, hm, hb⟩ := T
  exact ⟨f, fd, fn_data R_p_is_tuple_of F sc_p_is_tuple_of (fun ds d h => by first | (obtain ⟨e, -⟩ := h; rw [e]; rfl) | (obtain ⟨_, e, -⟩ := h; rw [e]; rfl) | (obtain ⟨_, _, e, -⟩ := h; rw [e]; rfl) | (obtain ⟨_, _, _, e, -⟩ := h; rw [e]; rfl) | (obtain ⟨_, _, _, _, e, -⟩ := h; rw [e]; rfl)) (fun ds d h => ⟨_, body_is_tuple_of h, fun cdv A outer s H E hr => der_p_is_tuple_of B (by decide) hr⟩), hm, F.kp, hb⟩

theorem ok_p_is_rule (D_p_is_number : Def P w K mg base "is_number" 1 ["thing"] (spD R_p_is_number)) (D_p_is_tuple_of : Def P w K mg base "is_tuple_of" 1 ["thing", "many"] (spD R_p_is_tuple_of)) (T : TopF K mg "is_rule" s_p_is_rule ["thing"]) : Def P w K mg base "is_rule" 2 ["thing"] (spD R_p_is_rule) := by
  obtain ⟨f, fd, F, hm, hb⟩ := T
  exact ⟨f, fd, fn_data R_p_is_rule F sc_p_is_rule (fun ds d h => by first | (obtain ⟨e, -⟩ := h; rw [e]; rfl) | (obtain ⟨_, e, -⟩ := h; rw [e]; rfl) | (obtain ⟨_, _, e, -⟩ := h; rw [e]; rfl) | (obtain ⟨_, _, _, e, -⟩ := h; rw [e]; rfl) | (obtain ⟨_, _, _, _, e, -⟩ := h; rw [e]; rfl)) (fun ds d h => ⟨_, body_is_rule h, fun cdv A outer s H E hr => der_p_is_rule D_p_is_number D_p_is_tuple_of (by decide) hr⟩), hm, F.kp, hb⟩

theorem ok_p_is_rules (B : Bt mg) (D_p_is_rule : Def P w K mg base "is_rule" 2 ["thing"] (spD R_p_is_rule)) (T : TopF K mg "is_rules" s_p_is_rules ["thing"]) : Def P w K mg base "is_rules" 3 ["thing"] (spD R_p_is_rules) := by
  obtain ⟨f, fd, F, hm, hb⟩ := T
  exact ⟨f, fd, fn_data R_p_is_rules F sc_p_is_rules (fun ds d h => by first | (obtain ⟨e, -⟩ := h; rw [e]; rfl) | (obtain ⟨_, e, -⟩ := h; rw [e]; rfl) | (obtain ⟨_, _, e, -⟩ := h; rw [e]; rfl) | (obtain ⟨_, _, _, e, -⟩ := h; rw [e]; rfl) | (obtain ⟨_, _, _, _, e, -⟩ := h; rw [e]; rfl)) (fun ds d h => ⟨_, body_is_rules h, fun cdv A outer s H E hr => der_p_is_rules B D_p_is_rule (by decide) hr⟩), hm, F.kp, hb⟩

theorem ok_p_in_lowest (B : Bt mg) (T : TopF K mg "in_lowest" s_p_in_lowest ["top", "below"]) : Def P w K mg base "in_lowest" 1 ["top", "below"] (spD R_p_in_lowest) := by
  obtain ⟨f, fd, F, hm, hb⟩ := T
  exact ⟨f, fd, fn_data R_p_in_lowest F sc_p_in_lowest (fun ds d h => by first | (obtain ⟨e, -⟩ := h; rw [e]; rfl) | (obtain ⟨_, e, -⟩ := h; rw [e]; rfl) | (obtain ⟨_, _, e, -⟩ := h; rw [e]; rfl) | (obtain ⟨_, _, _, e, -⟩ := h; rw [e]; rfl) | (obtain ⟨_, _, _, _, e, -⟩ := h; rw [e]; rfl)) (fun ds d h => ⟨_, body_in_lowest h, fun cdv A outer s H E hr => der_p_in_lowest B (by decide) hr⟩), hm, F.kp, hb⟩

theorem ok_p_least_common (B : Bt mg) (T : TopF K mg "least_common" s_p_least_common ["numbers"]) : Def P w K mg base "least_common" 1 ["numbers"] (spD R_p_least_common) := by
  obtain ⟨f, fd, F, hm, hb⟩ := T
  exact ⟨f, fd, fn_data R_p_least_common F sc_p_least_common (fun ds d h => by first | (obtain ⟨e, -⟩ := h; rw [e]; rfl) | (obtain ⟨_, e, -⟩ := h; rw [e]; rfl) | (obtain ⟨_, _, e, -⟩ := h; rw [e]; rfl) | (obtain ⟨_, _, _, e, -⟩ := h; rw [e]; rfl) | (obtain ⟨_, _, _, _, e, -⟩ := h; rw [e]; rfl)) (fun ds d h => ⟨_, body_least_common h, fun cdv A outer s H E hr => der_p_least_common B (by decide) hr⟩), hm, F.kp, hb⟩

theorem ok_p_common_share (D_p_least_common : Def P w K mg base "least_common" 1 ["numbers"] (spD R_p_least_common)) (T : TopF K mg "common_share" s_p_common_share ["rules"]) : Def P w K mg base "common_share" 2 ["rules"] (spD R_p_common_share) := by
  obtain ⟨f, fd, F, hm, hb⟩ := T
  exact ⟨f, fd, fn_data R_p_common_share F sc_p_common_share (fun ds d h => by first | (obtain ⟨e, -⟩ := h; rw [e]; rfl) | (obtain ⟨_, e, -⟩ := h; rw [e]; rfl) | (obtain ⟨_, _, e, -⟩ := h; rw [e]; rfl) | (obtain ⟨_, _, _, e, -⟩ := h; rw [e]; rfl) | (obtain ⟨_, _, _, _, e, -⟩ := h; rw [e]; rfl)) (fun ds d h => ⟨_, body_common_share h, fun cdv A outer s H E hr => der_p_common_share D_p_least_common (by decide) hr⟩), hm, F.kp, hb⟩

theorem ok_p_would_be (B : Bt mg) (D_p_common_share : Def P w K mg base "common_share" 2 ["rules"] (spD R_p_common_share)) (T : TopF K mg "would_be" s_p_would_be ["rules", "at"]) : Def P w K mg base "would_be" 3 ["rules", "at"] (spD R_p_would_be) := by
  obtain ⟨f, fd, F, hm, hb⟩ := T
  exact ⟨f, fd, fn_data R_p_would_be F sc_p_would_be (fun ds d h => by first | (obtain ⟨e, -⟩ := h; rw [e]; rfl) | (obtain ⟨_, e, -⟩ := h; rw [e]; rfl) | (obtain ⟨_, _, e, -⟩ := h; rw [e]; rfl) | (obtain ⟨_, _, _, e, -⟩ := h; rw [e]; rfl) | (obtain ⟨_, _, _, _, e, -⟩ := h; rw [e]; rfl)) (fun ds d h => ⟨_, body_would_be h, fun cdv A outer s H E hr => der_p_would_be B D_p_common_share (by decide) hr⟩), hm, F.kp, hb⟩

theorem ok_p_turns_of (B : Bt mg) (D_p_common_share : Def P w K mg base "common_share" 2 ["rules"] (spD R_p_common_share)) (T : TopF K mg "turns_of" s_p_turns_of ["rules"]) : Def P w K mg base "turns_of" 3 ["rules"] (spD R_p_turns_of) := by
  obtain ⟨f, fd, F, hm, hb⟩ := T
  exact ⟨f, fd, fn_data R_p_turns_of F sc_p_turns_of (fun ds d h => by first | (obtain ⟨e, -⟩ := h; rw [e]; rfl) | (obtain ⟨_, e, -⟩ := h; rw [e]; rfl) | (obtain ⟨_, _, e, -⟩ := h; rw [e]; rfl) | (obtain ⟨_, _, _, e, -⟩ := h; rw [e]; rfl) | (obtain ⟨_, _, _, _, e, -⟩ := h; rw [e]; rfl)) (fun ds d h => ⟨_, body_turns_of h, fun cdv A outer s H E hr => der_p_turns_of B D_p_common_share (by decide) hr⟩), hm, F.kp, hb⟩

theorem ok_p_growing (B : Bt mg) (D_p_common_share : Def P w K mg base "common_share" 2 ["rules"] (spD R_p_common_share)) (T : TopF K mg "growing" s_p_growing ["rules", "at"]) : Def P w K mg base "growing" 3 ["rules", "at"] (spD R_p_growing) := by
  obtain ⟨f, fd, F, hm, hb⟩ := T
  exact ⟨f, fd, fn_data R_p_growing F sc_p_growing (fun ds d h => by first | (obtain ⟨e, -⟩ := h; rw [e]; rfl) | (obtain ⟨_, e, -⟩ := h; rw [e]; rfl) | (obtain ⟨_, _, e, -⟩ := h; rw [e]; rfl) | (obtain ⟨_, _, _, e, -⟩ := h; rw [e]; rfl) | (obtain ⟨_, _, _, _, e, -⟩ := h; rw [e]; rfl)) (fun ds d h => ⟨_, body_growing h, fun cdv A outer s H E hr => der_p_growing B D_p_common_share (by decide) hr⟩), hm, F.kp, hb⟩

theorem ok_p_stretch_at (B : Bt mg) (D_p_turns_of : Def P w K mg base "turns_of" 3 ["rules"] (spD R_p_turns_of)) (D_p_would_be : Def P w K mg base "would_be" 3 ["rules", "at"] (spD R_p_would_be)) (T : TopF K mg "stretch_at" s_p_stretch_at ["rules", "goal"]) : Def P w K mg base "stretch_at" 4 ["rules", "goal"] (spD R_p_stretch_at) := by
  obtain ⟨f, fd, F, hm, hb⟩ := T
  exact ⟨f, fd, fn_data R_p_stretch_at F sc_p_stretch_at (fun ds d h => by first | (obtain ⟨e, -⟩ := h; rw [e]; rfl) | (obtain ⟨_, e, -⟩ := h; rw [e]; rfl) | (obtain ⟨_, _, e, -⟩ := h; rw [e]; rfl) | (obtain ⟨_, _, _, e, -⟩ := h; rw [e]; rfl) | (obtain ⟨_, _, _, _, e, -⟩ := h; rw [e]; rfl)) (fun ds d h => ⟨_, body_stretch_at h, fun cdv A outer s H E hr => der_p_stretch_at B D_p_turns_of D_p_would_be (by decide) hr⟩), hm, F.kp, hb⟩

theorem ok_p_leasts_of (B : Bt mg) (T : TopF K mg "leasts_of" s_p_leasts_of ["rules"]) : Def P w K mg base "leasts_of" 1 ["rules"] (spD R_p_leasts_of) := by
  obtain ⟨f, fd, F, hm, hb⟩ := T
  exact ⟨f, fd, fn_data R_p_leasts_of F sc_p_leasts_of (fun ds d h => by first | (obtain ⟨e, -⟩ := h; rw [e]; rfl) | (obtain ⟨_, e, -⟩ := h; rw [e]; rfl) | (obtain ⟨_, _, e, -⟩ := h; rw [e]; rfl) | (obtain ⟨_, _, _, e, -⟩ := h; rw [e]; rfl) | (obtain ⟨_, _, _, _, e, -⟩ := h; rw [e]; rfl)) (fun ds d h => ⟨_, body_leasts_of h, fun cdv A outer s H E hr => der_p_leasts_of B (by decide) hr⟩), hm, F.kp, hb⟩

theorem ok_p_given_all (B : Bt mg) (D_p_in_lowest : Def P w K mg base "in_lowest" 1 ["top", "below"] (spD R_p_in_lowest)) (D_p_growing : Def P w K mg base "growing" 3 ["rules", "at"] (spD R_p_growing)) (D_p_would_be : Def P w K mg base "would_be" 3 ["rules", "at"] (spD R_p_would_be)) (D_p_stretch_at : Def P w K mg base "stretch_at" 4 ["rules", "goal"] (spD R_p_stretch_at)) (D_p_common_share : Def P w K mg base "common_share" 2 ["rules"] (spD R_p_common_share)) (D_p_leasts_of : Def P w K mg base "leasts_of" 1 ["rules"] (spD R_p_leasts_of)) (T : TopF K mg "given_all" s_p_given_all ["rules", "width"]) : Def P w K mg base "given_all" 5 ["rules", "width"] (spD R_p_given_all) := by
  obtain ⟨f, fd, F, hm, hb⟩ := T
  exact ⟨f, fd, fn_data R_p_given_all F sc_p_given_all (fun ds d h => by first | (obtain ⟨e, -⟩ := h; rw [e]; rfl) | (obtain ⟨_, e, -⟩ := h; rw [e]; rfl) | (obtain ⟨_, _, e, -⟩ := h; rw [e]; rfl) | (obtain ⟨_, _, _, e, -⟩ := h; rw [e]; rfl) | (obtain ⟨_, _, _, _, e, -⟩ := h; rw [e]; rfl)) (fun ds d h => ⟨_, body_given_all h, fun cdv A outer s H E hr => der_p_given_all B D_p_in_lowest D_p_growing D_p_would_be D_p_stretch_at D_p_common_share D_p_leasts_of (by decide) hr⟩), hm, F.kp, hb⟩

theorem ok_p_width_given (B : Bt mg) (D_p_given_all : Def P w K mg base "given_all" 5 ["rules", "width"] (spD R_p_given_all)) (D_p_is_number : Def P w K mg base "is_number" 1 ["thing"] (spD R_p_is_number)) (D_p_tuple_of : Def P w K mg base "tuple_of" 14 ["thing"] (spD (R_p_tuple_of 12))) (T : TopF K mg "width_given" s_p_width_given ["rules", "pane", "width"]) : Def P w K mg base "width_given" 15 ["rules", "pane", "width"] (spD R_p_width_given) := by
  obtain ⟨f, fd, F, hm, hb⟩ := T
  exact ⟨f, fd, fn_data R_p_width_given F sc_p_width_given (fun ds d h => by first | (obtain ⟨e, -⟩ := h; rw [e]; rfl) | (obtain ⟨_, e, -⟩ := h; rw [e]; rfl) | (obtain ⟨_, _, e, -⟩ := h; rw [e]; rfl) | (obtain ⟨_, _, _, e, -⟩ := h; rw [e]; rfl) | (obtain ⟨_, _, _, _, e, -⟩ := h; rw [e]; rfl)) (fun ds d h => ⟨_, body_width_given h, fun cdv A outer s H E hr => der_p_width_given B D_p_given_all D_p_is_number D_p_tuple_of (by decide) hr⟩), hm, F.kp, hb⟩

theorem ok_p_rule_layout (B : Bt mg) (D_p_least_common : Def P w K mg base "least_common" 1 ["numbers"] (spD R_p_least_common)) (D_p_given_all : Def P w K mg base "given_all" 5 ["rules", "width"] (spD R_p_given_all)) (D_p_tuple_of : Def P w K mg base "tuple_of" 14 ["thing"] (spD (R_p_tuple_of 12))) (T : TopF K mg "rule_layout" s_p_rule_layout ["rules", "last"]) : Def P w K mg base "rule_layout" 15 ["rules", "last"] (spD R_p_rule_layout) := by
  obtain ⟨f, fd, F, hm, hb⟩ := T
  exact ⟨f, fd, fn_data R_p_rule_layout F sc_p_rule_layout (fun ds d h => by first | (obtain ⟨e, -⟩ := h; rw [e]; rfl) | (obtain ⟨_, e, -⟩ := h; rw [e]; rfl) | (obtain ⟨_, _, e, -⟩ := h; rw [e]; rfl) | (obtain ⟨_, _, _, e, -⟩ := h; rw [e]; rfl) | (obtain ⟨_, _, _, _, e, -⟩ := h; rw [e]; rfl)) (fun ds d h => ⟨_, body_rule_layout h, fun cdv A outer s H E hr => der_p_rule_layout B D_p_least_common D_p_given_all D_p_tuple_of (by decide) hr⟩), hm, F.kp, hb⟩

theorem ok_p_free_at (B : Bt mg) (D_p_common_share : Def P w K mg base "common_share" 2 ["rules"] (spD R_p_common_share)) (D_p_stretch_at : Def P w K mg base "stretch_at" 4 ["rules", "goal"] (spD R_p_stretch_at)) (D_p_growing : Def P w K mg base "growing" 3 ["rules", "at"] (spD R_p_growing)) (D_p_leasts_of : Def P w K mg base "leasts_of" 1 ["rules"] (spD R_p_leasts_of)) (D_p_tuple_of : Def P w K mg base "tuple_of" 14 ["thing"] (spD (R_p_tuple_of 12))) (T : TopF K mg "free_at" s_p_free_at ["rules", "width"]) : Def P w K mg base "free_at" 15 ["rules", "width"] (spD R_p_free_at) := by
  obtain ⟨f, fd, F, hm, hb⟩ := T
  exact ⟨f, fd, fn_data R_p_free_at F sc_p_free_at (fun ds d h => by first | (obtain ⟨e, -⟩ := h; rw [e]; rfl) | (obtain ⟨_, e, -⟩ := h; rw [e]; rfl) | (obtain ⟨_, _, e, -⟩ := h; rw [e]; rfl) | (obtain ⟨_, _, _, e, -⟩ := h; rw [e]; rfl) | (obtain ⟨_, _, _, _, e, -⟩ := h; rw [e]; rfl)) (fun ds d h => ⟨_, body_free_at h, fun cdv A outer s H E hr => der_p_free_at B D_p_common_share D_p_stretch_at D_p_growing D_p_leasts_of D_p_tuple_of (by decide) hr⟩), hm, F.kp, hb⟩

theorem ok_p_stops (B : Bt mg) (D_p_in_lowest : Def P w K mg base "in_lowest" 1 ["top", "below"] (spD R_p_in_lowest)) (D_p_would_be : Def P w K mg base "would_be" 3 ["rules", "at"] (spD R_p_would_be)) (D_p_common_share : Def P w K mg base "common_share" 2 ["rules"] (spD R_p_common_share)) (D_p_tuple_of : Def P w K mg base "tuple_of" 14 ["thing"] (spD (R_p_tuple_of 12))) (T : TopF K mg "stops" s_p_stops ["rules", "last"]) : Def P w K mg base "stops" 15 ["rules", "last"] (spD R_p_stops) := by
  obtain ⟨f, fd, F, hm, hb⟩ := T
  exact ⟨f, fd, fn_data R_p_stops F sc_p_stops (fun ds d h => by first | (obtain ⟨e, -⟩ := h; rw [e]; rfl) | (obtain ⟨_, e, -⟩ := h; rw [e]; rfl) | (obtain ⟨_, _, e, -⟩ := h; rw [e]; rfl) | (obtain ⟨_, _, _, e, -⟩ := h; rw [e]; rfl) | (obtain ⟨_, _, _, _, e, -⟩ := h; rw [e]; rfl)) (fun ds d h => ⟨_, body_stops h, fun cdv A outer s H E hr => der_p_stops B D_p_in_lowest D_p_would_be D_p_common_share D_p_tuple_of (by decide) hr⟩), hm, F.kp, hb⟩

theorem ok_p_by_shares (D_p_rule_layout : Def P w K mg base "rule_layout" 15 ["rules", "last"] (spD R_p_rule_layout)) (T : TopF K mg "by_shares" s_p_by_shares ["shares", "last"]) : Def P w K mg base "by_shares" 16 ["shares", "last"] (spD R_p_by_shares) := by
  obtain ⟨f, fd, F, hm, hb⟩ := T
  exact ⟨f, fd, fn_data R_p_by_shares F sc_p_by_shares (fun ds d h => by first | (obtain ⟨e, -⟩ := h; rw [e]; rfl) | (obtain ⟨_, e, -⟩ := h; rw [e]; rfl) | (obtain ⟨_, _, e, -⟩ := h; rw [e]; rfl) | (obtain ⟨_, _, _, e, -⟩ := h; rw [e]; rfl) | (obtain ⟨_, _, _, _, e, -⟩ := h; rw [e]; rfl)) (fun ds d h => ⟨_, body_by_shares h, fun cdv A outer s H E hr => der_p_by_shares D_p_rule_layout (by decide) hr⟩), hm, F.kp, hb⟩

theorem ok_p_even (D_p_by_shares : Def P w K mg base "by_shares" 16 ["shares", "last"] (spD R_p_by_shares)) (T : TopF K mg "even" s_p_even ["panes", "last"]) : Def P w K mg base "even" 17 ["panes", "last"] (spD R_p_even) := by
  obtain ⟨f, fd, F, hm, hb⟩ := T
  exact ⟨f, fd, fn_data R_p_even F sc_p_even (fun ds d h => by first | (obtain ⟨e, -⟩ := h; rw [e]; rfl) | (obtain ⟨_, e, -⟩ := h; rw [e]; rfl) | (obtain ⟨_, _, e, -⟩ := h; rw [e]; rfl) | (obtain ⟨_, _, _, e, -⟩ := h; rw [e]; rfl) | (obtain ⟨_, _, _, _, e, -⟩ := h; rw [e]; rfl)) (fun ds d h => ⟨_, body_even h, fun cdv A outer s H E hr => der_p_even D_p_by_shares (by decide) hr⟩), hm, F.kp, hb⟩

theorem ok_p_by_turns (B : Bt mg) (T : TopF K mg "by_turns" s_p_by_turns ["mosts", "last"]) : Def P w K mg base "by_turns" 1 ["mosts", "last"] (spD R_p_by_turns) := by
  obtain ⟨f, fd, F, hm, hb⟩ := T
  exact ⟨f, fd, fn_data R_p_by_turns F sc_p_by_turns (fun ds d h => by first | (obtain ⟨e, -⟩ := h; rw [e]; rfl) | (obtain ⟨_, e, -⟩ := h; rw [e]; rfl) | (obtain ⟨_, _, e, -⟩ := h; rw [e]; rfl) | (obtain ⟨_, _, _, e, -⟩ := h; rw [e]; rfl) | (obtain ⟨_, _, _, _, e, -⟩ := h; rw [e]; rfl)) (fun ds d h => ⟨_, body_by_turns h, fun cdv A outer s H E hr => der_p_by_turns B (by decide) hr⟩), hm, F.kp, hb⟩

theorem ok_l_box (B : Bt mg) (T : TopF K mg "_law_box" s_l_box ["_law_script", "_law_k"]) : Def P w K mg base "_law_box" 1 ["_law_script", "_law_k"] (spD R_l_box) := by
  obtain ⟨f, fd, F, hm, hb⟩ := T
  exact ⟨f, fd, fn_data R_l_box F sc_l_box (fun ds d h => by first | (obtain ⟨e, -⟩ := h; rw [e]; rfl) | (obtain ⟨_, e, -⟩ := h; rw [e]; rfl) | (obtain ⟨_, _, e, -⟩ := h; rw [e]; rfl) | (obtain ⟨_, _, _, e, -⟩ := h; rw [e]; rfl) | (obtain ⟨_, _, _, _, e, -⟩ := h; rw [e]; rfl)) (fun ds d h => ⟨_, body_l_box h, fun cdv A outer s H E hr => der_l_box B (by decide) hr⟩), hm, F.kp, hb⟩

theorem ok_l_take (B : Bt mg) (T : TopF K mg "_law_take" s_l_take ["_law_urn", "_law_below"]) : Def P w K mg base "_law_take" 1 ["_law_urn", "_law_below"] (spU R_l_take) := by
  obtain ⟨f, fd, F, hm, hb⟩ := T
  exact ⟨f, fd, fn_urn R_l_take F sc_l_take (by decide) (fun ds n m S h => by first | (obtain ⟨e, -⟩ := h; rw [e]; rfl) | (obtain ⟨_, e, -⟩ := h; rw [e]; rfl) | (obtain ⟨_, _, e, -⟩ := h; rw [e]; rfl) | (obtain ⟨_, _, _, e, -⟩ := h; rw [e]; rfl) | (obtain ⟨_, _, _, _, e, -⟩ := h; rw [e]; rfl)) (fun ds n m S h => ⟨_, body_l_take h, fun cdv A outer s H E hr => der_l_take B (by decide) hr⟩), hm, F.kp, hb⟩

theorem ok_l_cells (B : Bt mg) (T : TopF K mg "_law_cells" s_l_cells ["_law_script", "_law_many"]) : Def P w K mg base "_law_cells" 1 ["_law_script", "_law_many"] (spCells K) := by
  obtain ⟨f, fd, F, hm, hb⟩ := T
  refine ⟨f, fd, F.ok sc_l_cells (fun vs H Q E h => ?_) (fun cdv A outer s H vs Q E hr h => ?_), hm, F.kp, hb⟩
  · obtain ⟨p, ns, rfl, -⟩ := h
    rfl
  · obtain ⟨p, ns, rfl, hS, hz, q⟩ := h
    exact ⟨_, der_l_cells B (Nat.zero_le _) hr, run_cells hS hz q⟩

theorem ok_l_of (B : Bt mg) (D_l_take : Def P w K mg base "_law_take" 1 ["_law_urn", "_law_below"] (spU R_l_take)) (T : TopF K mg "_law_of" s_l_of ["_law_urn", "_law_some"]) : Def P w K mg base "_law_of" 2 ["_law_urn", "_law_some"] (spU R_l_of) := by
  obtain ⟨f, fd, F, hm, hb⟩ := T
  exact ⟨f, fd, fn_urn R_l_of F sc_l_of (by decide) (fun ds n m S h => by first | (obtain ⟨e, -⟩ := h; rw [e]; rfl) | (obtain ⟨_, e, -⟩ := h; rw [e]; rfl) | (obtain ⟨_, _, e, -⟩ := h; rw [e]; rfl) | (obtain ⟨_, _, _, e, -⟩ := h; rw [e]; rfl) | (obtain ⟨_, _, _, _, e, -⟩ := h; rw [e]; rfl)) (fun ds n m S h => ⟨_, body_l_of h, fun cdv A outer s H E hr => der_l_of B D_l_take (by decide) hr⟩), hm, F.kp, hb⟩

theorem okn_l_same (B : Bt mg) (T : TopF K mg "_law_same" s_l_same ["_law_got", "_law_due"]) : ∀ n : Nat, Def P w K mg base "_law_same" (n + 1) ["_law_got", "_law_due"] (spD (R_l_same n))
  | 0 => by
    have D0 : Def P w K mg base "_law_same" 0 ["_law_got", "_law_due"] (spD fun _ _ => False) := def_zero T
    obtain ⟨f, fd, F, hm, hb⟩ := T
    exact ⟨f, fd, fn_data (R_l_same 0) F sc_l_same (fun ds d h => by first | (obtain ⟨e, -⟩ := h; rw [e]; rfl) | (obtain ⟨_, e, -⟩ := h; rw [e]; rfl) | (obtain ⟨_, _, e, -⟩ := h; rw [e]; rfl) | (obtain ⟨_, _, _, e, -⟩ := h; rw [e]; rfl) | (obtain ⟨_, _, _, _, e, -⟩ := h; rw [e]; rfl)) (fun ds d h => by
      obtain ⟨x, rfl, h1, h2, rfl⟩ := h
      exact ⟨_, body_l_same h2 fun y hy hw => absurd hy (by omega), fun cdv A outer s H E hr => der_l_same B D0 (Nat.zero_le _) hr⟩), hm, F.kp, hb⟩
  | n + 1 => by
    have D0 := okn_l_same B T n
    obtain ⟨f, fd, F, hm, hb⟩ := T
    exact ⟨f, fd, fn_data (R_l_same (n + 1)) F sc_l_same (fun ds d h => by first | (obtain ⟨e, -⟩ := h; rw [e]; rfl) | (obtain ⟨_, e, -⟩ := h; rw [e]; rfl) | (obtain ⟨_, _, e, -⟩ := h; rw [e]; rfl) | (obtain ⟨_, _, _, e, -⟩ := h; rw [e]; rfl) | (obtain ⟨_, _, _, _, e, -⟩ := h; rw [e]; rfl)) (fun ds d h => by
      obtain ⟨x, rfl, h1, h2, rfl⟩ := h
      exact ⟨_, body_l_same h2 fun y hy hw => ⟨y, rfl, by omega, hw, rfl⟩, fun cdv A outer s H E hr => der_l_same B D0 (Nat.le_refl _) hr⟩), hm, F.kp, hb⟩
theorem ok_l_same (B : Bt mg) (T : TopF K mg "_law_same" s_l_same ["_law_got", "_law_due"]) : Def P w K mg base "_law_same" 14 ["_law_got", "_law_due"] (spD (R_l_same 12)) := def_up (okn_l_same B T 12) (by decide)

theorem okn_l_lists (B : Bt mg) (T : TopF K mg "_law_lists" s_l_lists ["_law_matter"]) : ∀ n : Nat, Def P w K mg base "_law_lists" (n + 1) ["_law_matter"] (spD (R_l_lists n))
  | 0 => by
    have D0 : Def P w K mg base "_law_lists" 0 ["_law_matter"] (spD fun _ _ => False) := def_zero T
    obtain ⟨f, fd, F, hm, hb⟩ := T
    exact ⟨f, fd, fn_data (R_l_lists 0) F sc_l_lists (fun ds d h => by first | (obtain ⟨e, -⟩ := h; rw [e]; rfl) | (obtain ⟨_, e, -⟩ := h; rw [e]; rfl) | (obtain ⟨_, _, e, -⟩ := h; rw [e]; rfl) | (obtain ⟨_, _, _, e, -⟩ := h; rw [e]; rfl) | (obtain ⟨_, _, _, _, e, -⟩ := h; rw [e]; rfl)) (fun ds d h => by
      obtain ⟨x, rfl, h1, h2, rfl⟩ := h
      exact ⟨_, body_l_lists h2 fun y hy hw => absurd hy (by omega), fun cdv A outer s H E hr => der_l_lists B D0 (Nat.zero_le _) hr⟩), hm, F.kp, hb⟩
  | n + 1 => by
    have D0 := okn_l_lists B T n
    obtain ⟨f, fd, F, hm, hb⟩ := T
    exact ⟨f, fd, fn_data (R_l_lists (n + 1)) F sc_l_lists (fun ds d h => by first | (obtain ⟨e, -⟩ := h; rw [e]; rfl) | (obtain ⟨_, e, -⟩ := h; rw [e]; rfl) | (obtain ⟨_, _, e, -⟩ := h; rw [e]; rfl) | (obtain ⟨_, _, _, e, -⟩ := h; rw [e]; rfl) | (obtain ⟨_, _, _, _, e, -⟩ := h; rw [e]; rfl)) (fun ds d h => by
      obtain ⟨x, rfl, h1, h2, rfl⟩ := h
      exact ⟨_, body_l_lists h2 fun y hy hw => ⟨y, rfl, by omega, hw, rfl⟩, fun cdv A outer s H E hr => der_l_lists B D0 (Nat.le_refl _) hr⟩), hm, F.kp, hb⟩
theorem ok_l_lists (B : Bt mg) (T : TopF K mg "_law_lists" s_l_lists ["_law_matter"]) : Def P w K mg base "_law_lists" 14 ["_law_matter"] (spD (R_l_lists 12)) := def_up (okn_l_lists B T 12) (by decide)

theorem ok_l_shared (B : Bt mg) (T : TopF K mg "_law_shared" s_l_shared ["_law_one", "_law_other"]) : Def P w K mg base "_law_shared" 1 ["_law_one", "_law_other"] (spD R_l_shared) := by
  obtain ⟨f, fd, F, hm, hb⟩ := T
  exact ⟨f, fd, fn_data R_l_shared F sc_l_shared (fun ds d h => by first | (obtain ⟨e, -⟩ := h; rw [e]; rfl) | (obtain ⟨_, e, -⟩ := h; rw [e]; rfl) | (obtain ⟨_, _, e, -⟩ := h; rw [e]; rfl) | (obtain ⟨_, _, _, e, -⟩ := h; rw [e]; rfl) | (obtain ⟨_, _, _, _, e, -⟩ := h; rw [e]; rfl)) (fun ds d h => ⟨_, body_l_shared h, fun cdv A outer s H E hr => der_l_shared B (by decide) hr⟩), hm, F.kp, hb⟩

theorem ok_l_frac (D_l_shared : Def P w K mg base "_law_shared" 1 ["_law_one", "_law_other"] (spD R_l_shared)) (T : TopF K mg "_law_frac" s_l_frac ["_law_top", "_law_below"]) : Def P w K mg base "_law_frac" 2 ["_law_top", "_law_below"] (spD R_l_frac) := by
  obtain ⟨f, fd, F, hm, hb⟩ := T
  exact ⟨f, fd, fn_data R_l_frac F sc_l_frac (fun ds d h => by first | (obtain ⟨e, -⟩ := h; rw [e]; rfl) | (obtain ⟨_, e, -⟩ := h; rw [e]; rfl) | (obtain ⟨_, _, e, -⟩ := h; rw [e]; rfl) | (obtain ⟨_, _, _, e, -⟩ := h; rw [e]; rfl) | (obtain ⟨_, _, _, _, e, -⟩ := h; rw [e]; rfl)) (fun ds d h => ⟨_, body_l_frac h, fun cdv A outer s H E hr => der_l_frac D_l_shared (by decide) hr⟩), hm, F.kp, hb⟩

theorem ok_l_plus (D_l_frac : Def P w K mg base "_law_frac" 2 ["_law_top", "_law_below"] (spD R_l_frac)) (T : TopF K mg "_law_plus" s_l_plus ["_law_one", "_law_other"]) : Def P w K mg base "_law_plus" 3 ["_law_one", "_law_other"] (spD R_l_plus) := by
  obtain ⟨f, fd, F, hm, hb⟩ := T
  exact ⟨f, fd, fn_data R_l_plus F sc_l_plus (fun ds d h => by first | (obtain ⟨e, -⟩ := h; rw [e]; rfl) | (obtain ⟨_, e, -⟩ := h; rw [e]; rfl) | (obtain ⟨_, _, e, -⟩ := h; rw [e]; rfl) | (obtain ⟨_, _, _, e, -⟩ := h; rw [e]; rfl) | (obtain ⟨_, _, _, _, e, -⟩ := h; rw [e]; rfl)) (fun ds d h => ⟨_, body_l_plus h, fun cdv A outer s H E hr => der_l_plus D_l_frac (by decide) hr⟩), hm, F.kp, hb⟩

theorem ok_l_less (D_l_frac : Def P w K mg base "_law_frac" 2 ["_law_top", "_law_below"] (spD R_l_frac)) (T : TopF K mg "_law_less" s_l_less ["_law_one", "_law_other"]) : Def P w K mg base "_law_less" 3 ["_law_one", "_law_other"] (spD R_l_less) := by
  obtain ⟨f, fd, F, hm, hb⟩ := T
  exact ⟨f, fd, fn_data R_l_less F sc_l_less (fun ds d h => by first | (obtain ⟨e, -⟩ := h; rw [e]; rfl) | (obtain ⟨_, e, -⟩ := h; rw [e]; rfl) | (obtain ⟨_, _, e, -⟩ := h; rw [e]; rfl) | (obtain ⟨_, _, _, e, -⟩ := h; rw [e]; rfl) | (obtain ⟨_, _, _, _, e, -⟩ := h; rw [e]; rfl)) (fun ds d h => ⟨_, body_l_less h, fun cdv A outer s H E hr => der_l_less D_l_frac (by decide) hr⟩), hm, F.kp, hb⟩

theorem ok_l_times (D_l_frac : Def P w K mg base "_law_frac" 2 ["_law_top", "_law_below"] (spD R_l_frac)) (T : TopF K mg "_law_times" s_l_times ["_law_one", "_law_other"]) : Def P w K mg base "_law_times" 3 ["_law_one", "_law_other"] (spD R_l_times) := by
  obtain ⟨f, fd, F, hm, hb⟩ := T
  exact ⟨f, fd, fn_data R_l_times F sc_l_times (fun ds d h => by first | (obtain ⟨e, -⟩ := h; rw [e]; rfl) | (obtain ⟨_, e, -⟩ := h; rw [e]; rfl) | (obtain ⟨_, _, e, -⟩ := h; rw [e]; rfl) | (obtain ⟨_, _, _, e, -⟩ := h; rw [e]; rfl) | (obtain ⟨_, _, _, _, e, -⟩ := h; rw [e]; rfl)) (fun ds d h => ⟨_, body_l_times h, fun cdv A outer s H E hr => der_l_times D_l_frac (by decide) hr⟩), hm, F.kp, hb⟩

theorem ok_l_over (D_l_frac : Def P w K mg base "_law_frac" 2 ["_law_top", "_law_below"] (spD R_l_frac)) (T : TopF K mg "_law_over" s_l_over ["_law_one", "_law_other"]) : Def P w K mg base "_law_over" 3 ["_law_one", "_law_other"] (spD R_l_over) := by
  obtain ⟨f, fd, F, hm, hb⟩ := T
  exact ⟨f, fd, fn_data R_l_over F sc_l_over (fun ds d h => by first | (obtain ⟨e, -⟩ := h; rw [e]; rfl) | (obtain ⟨_, e, -⟩ := h; rw [e]; rfl) | (obtain ⟨_, _, e, -⟩ := h; rw [e]; rfl) | (obtain ⟨_, _, _, e, -⟩ := h; rw [e]; rfl) | (obtain ⟨_, _, _, _, e, -⟩ := h; rw [e]; rfl)) (fun ds d h => ⟨_, body_l_over h, fun cdv A outer s H E hr => der_l_over D_l_frac (by decide) hr⟩), hm, F.kp, hb⟩

theorem ok_l_above (T : TopF K mg "_law_above" s_l_above ["_law_one", "_law_other"]) : Def P w K mg base "_law_above" 1 ["_law_one", "_law_other"] (spD R_l_above) := by
  obtain ⟨f, fd, F, hm, hb⟩ := T
  exact ⟨f, fd, fn_data R_l_above F sc_l_above (fun ds d h => by first | (obtain ⟨e, -⟩ := h; rw [e]; rfl) | (obtain ⟨_, e, -⟩ := h; rw [e]; rfl) | (obtain ⟨_, _, e, -⟩ := h; rw [e]; rfl) | (obtain ⟨_, _, _, e, -⟩ := h; rw [e]; rfl) | (obtain ⟨_, _, _, _, e, -⟩ := h; rw [e]; rfl)) (fun ds d h => ⟨_, body_l_above h, fun cdv A outer s H E hr => der_l_above (by decide) hr⟩), hm, F.kp, hb⟩

theorem ok_l_sum (D_l_plus : Def P w K mg base "_law_plus" 3 ["_law_one", "_law_other"] (spD R_l_plus)) (T : TopF K mg "_law_sum" s_l_sum ["_law_some"]) : Def P w K mg base "_law_sum" 4 ["_law_some"] (spD R_l_sum) := by
  obtain ⟨f, fd, F, hm, hb⟩ := T
  exact ⟨f, fd, fn_data R_l_sum F sc_l_sum (fun ds d h => by first | (obtain ⟨e, -⟩ := h; rw [e]; rfl) | (obtain ⟨_, e, -⟩ := h; rw [e]; rfl) | (obtain ⟨_, _, e, -⟩ := h; rw [e]; rfl) | (obtain ⟨_, _, _, e, -⟩ := h; rw [e]; rfl) | (obtain ⟨_, _, _, _, e, -⟩ := h; rw [e]; rfl)) (fun ds d h => ⟨_, body_l_sum h, fun cdv A outer s H E hr => der_l_sum D_l_plus (by decide) hr⟩), hm, F.kp, hb⟩

theorem ok_l_wide (D_l_above : Def P w K mg base "_law_above" 1 ["_law_one", "_law_other"] (spD R_l_above)) (D_l_times : Def P w K mg base "_law_times" 3 ["_law_one", "_law_other"] (spD R_l_times)) (T : TopF K mg "_law_wide" s_l_wide ["_law_rules", "_law_at"]) : Def P w K mg base "_law_wide" 4 ["_law_rules", "_law_at"] (spD R_l_wide) := by
  obtain ⟨f, fd, F, hm, hb⟩ := T
  exact ⟨f, fd, fn_data R_l_wide F sc_l_wide (fun ds d h => by first | (obtain ⟨e, -⟩ := h; rw [e]; rfl) | (obtain ⟨_, e, -⟩ := h; rw [e]; rfl) | (obtain ⟨_, _, e, -⟩ := h; rw [e]; rfl) | (obtain ⟨_, _, _, e, -⟩ := h; rw [e]; rfl) | (obtain ⟨_, _, _, _, e, -⟩ := h; rw [e]; rfl)) (fun ds d h => ⟨_, body_l_wide h, fun cdv A outer s H E hr => der_l_wide D_l_above D_l_times (by decide) hr⟩), hm, F.kp, hb⟩

theorem ok_l_ordered (B : Bt mg) (D_l_above : Def P w K mg base "_law_above" 1 ["_law_one", "_law_other"] (spD R_l_above)) (T : TopF K mg "_law_ordered" s_l_ordered ["_law_some"]) : Def P w K mg base "_law_ordered" 2 ["_law_some"] (spD R_l_ordered) := by
  obtain ⟨f, fd, F, hm, hb⟩ := T
  exact ⟨f, fd, fn_data R_l_ordered F sc_l_ordered (fun ds d h => by first | (obtain ⟨e, -⟩ := h; rw [e]; rfl) | (obtain ⟨_, e, -⟩ := h; rw [e]; rfl) | (obtain ⟨_, _, e, -⟩ := h; rw [e]; rfl) | (obtain ⟨_, _, _, e, -⟩ := h; rw [e]; rfl) | (obtain ⟨_, _, _, _, e, -⟩ := h; rw [e]; rfl)) (fun ds d h => ⟨_, body_l_ordered h, fun cdv A outer s H E hr => der_l_ordered B D_l_above (by decide) hr⟩), hm, F.kp, hb⟩

theorem ok_l_turns (D_l_ordered : Def P w K mg base "_law_ordered" 2 ["_law_some"] (spD R_l_ordered)) (D_l_frac : Def P w K mg base "_law_frac" 2 ["_law_top", "_law_below"] (spD R_l_frac)) (T : TopF K mg "_law_turns" s_l_turns ["_law_rules"]) : Def P w K mg base "_law_turns" 3 ["_law_rules"] (spD R_l_turns) := by
  obtain ⟨f, fd, F, hm, hb⟩ := T
  exact ⟨f, fd, fn_data R_l_turns F sc_l_turns (fun ds d h => by first | (obtain ⟨e, -⟩ := h; rw [e]; rfl) | (obtain ⟨_, e, -⟩ := h; rw [e]; rfl) | (obtain ⟨_, _, e, -⟩ := h; rw [e]; rfl) | (obtain ⟨_, _, _, e, -⟩ := h; rw [e]; rfl) | (obtain ⟨_, _, _, _, e, -⟩ := h; rw [e]; rfl)) (fun ds d h => ⟨_, body_l_turns h, fun cdv A outer s H E hr => der_l_turns D_l_ordered D_l_frac (by decide) hr⟩), hm, F.kp, hb⟩

theorem ok_l_last_turn (D_l_turns : Def P w K mg base "_law_turns" 3 ["_law_rules"] (spD R_l_turns)) (D_l_wide : Def P w K mg base "_law_wide" 4 ["_law_rules", "_law_at"] (spD R_l_wide)) (D_l_sum : Def P w K mg base "_law_sum" 4 ["_law_some"] (spD R_l_sum)) (D_l_above : Def P w K mg base "_law_above" 1 ["_law_one", "_law_other"] (spD R_l_above)) (T : TopF K mg "_law_last_turn" s_l_last_turn ["_law_rules", "_law_width"]) : Def P w K mg base "_law_last_turn" 5 ["_law_rules", "_law_width"] (spD R_l_last_turn) := by
  obtain ⟨f, fd, F, hm, hb⟩ := T
  exact ⟨f, fd, fn_data R_l_last_turn F sc_l_last_turn (fun ds d h => by first | (obtain ⟨e, -⟩ := h; rw [e]; rfl) | (obtain ⟨_, e, -⟩ := h; rw [e]; rfl) | (obtain ⟨_, _, e, -⟩ := h; rw [e]; rfl) | (obtain ⟨_, _, _, e, -⟩ := h; rw [e]; rfl) | (obtain ⟨_, _, _, _, e, -⟩ := h; rw [e]; rfl)) (fun ds d h => ⟨_, body_l_last_turn h, fun cdv A outer s H E hr => der_l_last_turn D_l_turns D_l_wide D_l_sum D_l_above (by decide) hr⟩), hm, F.kp, hb⟩

theorem ok_l_more (B : Bt mg) (D_l_above : Def P w K mg base "_law_above" 1 ["_law_one", "_law_other"] (spD R_l_above)) (D_l_times : Def P w K mg base "_law_times" 3 ["_law_one", "_law_other"] (spD R_l_times)) (T : TopF K mg "_law_more" s_l_more ["_law_rules", "_law_at"]) : Def P w K mg base "_law_more" 4 ["_law_rules", "_law_at"] (spD R_l_more) := by
  obtain ⟨f, fd, F, hm, hb⟩ := T
  exact ⟨f, fd, fn_data R_l_more F sc_l_more (fun ds d h => by first | (obtain ⟨e, -⟩ := h; rw [e]; rfl) | (obtain ⟨_, e, -⟩ := h; rw [e]; rfl) | (obtain ⟨_, _, e, -⟩ := h; rw [e]; rfl) | (obtain ⟨_, _, _, e, -⟩ := h; rw [e]; rfl) | (obtain ⟨_, _, _, _, e, -⟩ := h; rw [e]; rfl)) (fun ds d h => ⟨_, body_l_more h, fun cdv A outer s H E hr => der_l_more B D_l_above D_l_times (by decide) hr⟩), hm, F.kp, hb⟩

theorem ok_l_exact (B : Bt mg) (D_l_over : Def P w K mg base "_law_over" 3 ["_law_one", "_law_other"] (spD R_l_over)) (D_l_plus : Def P w K mg base "_law_plus" 3 ["_law_one", "_law_other"] (spD R_l_plus)) (D_l_wide : Def P w K mg base "_law_wide" 4 ["_law_rules", "_law_at"] (spD R_l_wide)) (D_l_more : Def P w K mg base "_law_more" 4 ["_law_rules", "_law_at"] (spD R_l_more)) (D_l_sum : Def P w K mg base "_law_sum" 4 ["_law_some"] (spD R_l_sum)) (D_l_less : Def P w K mg base "_law_less" 3 ["_law_one", "_law_other"] (spD R_l_less)) (D_l_last_turn : Def P w K mg base "_law_last_turn" 5 ["_law_rules", "_law_width"] (spD R_l_last_turn)) (D_l_frac : Def P w K mg base "_law_frac" 2 ["_law_top", "_law_below"] (spD R_l_frac)) (T : TopF K mg "_law_exact" s_l_exact ["_law_rules", "_law_width"]) : Def P w K mg base "_law_exact" 6 ["_law_rules", "_law_width"] (spD R_l_exact) := by
  obtain ⟨f, fd, F, hm, hb⟩ := T
  exact ⟨f, fd, fn_data R_l_exact F sc_l_exact (fun ds d h => by first | (obtain ⟨e, -⟩ := h; rw [e]; rfl) | (obtain ⟨_, e, -⟩ := h; rw [e]; rfl) | (obtain ⟨_, _, e, -⟩ := h; rw [e]; rfl) | (obtain ⟨_, _, _, e, -⟩ := h; rw [e]; rfl) | (obtain ⟨_, _, _, _, e, -⟩ := h; rw [e]; rfl)) (fun ds d h => ⟨_, body_l_exact h, fun cdv A outer s H E hr => der_l_exact B D_l_over D_l_plus D_l_wide D_l_more D_l_sum D_l_less D_l_last_turn D_l_frac (by decide) hr⟩), hm, F.kp, hb⟩

theorem ok_l_free (B : Bt mg) (D_l_last_turn : Def P w K mg base "_law_last_turn" 5 ["_law_rules", "_law_width"] (spD R_l_last_turn)) (D_l_more : Def P w K mg base "_law_more" 4 ["_law_rules", "_law_at"] (spD R_l_more)) (T : TopF K mg "_law_free" s_l_free ["_law_rules", "_law_width"]) : Def P w K mg base "_law_free" 6 ["_law_rules", "_law_width"] (spD R_l_free) := by
  obtain ⟨f, fd, F, hm, hb⟩ := T
  exact ⟨f, fd, fn_data R_l_free F sc_l_free (fun ds d h => by first | (obtain ⟨e, -⟩ := h; rw [e]; rfl) | (obtain ⟨_, e, -⟩ := h; rw [e]; rfl) | (obtain ⟨_, _, e, -⟩ := h; rw [e]; rfl) | (obtain ⟨_, _, _, e, -⟩ := h; rw [e]; rfl) | (obtain ⟨_, _, _, _, e, -⟩ := h; rw [e]; rfl)) (fun ds d h => ⟨_, body_l_free h, fun cdv A outer s H E hr => der_l_free B D_l_last_turn D_l_more (by decide) hr⟩), hm, F.kp, hb⟩

theorem ok_l_stops (B : Bt mg) (D_l_ordered : Def P w K mg base "_law_ordered" 2 ["_law_some"] (spD R_l_ordered)) (D_l_above : Def P w K mg base "_law_above" 1 ["_law_one", "_law_other"] (spD R_l_above)) (D_l_wide : Def P w K mg base "_law_wide" 4 ["_law_rules", "_law_at"] (spD R_l_wide)) (D_l_sum : Def P w K mg base "_law_sum" 4 ["_law_some"] (spD R_l_sum)) (D_l_frac : Def P w K mg base "_law_frac" 2 ["_law_top", "_law_below"] (spD R_l_frac)) (T : TopF K mg "_law_stops" s_l_stops ["_law_rules", "_law_last"]) : Def P w K mg base "_law_stops" 5 ["_law_rules", "_law_last"] (spD R_l_stops) := by
  obtain ⟨f, fd, F, hm, hb⟩ := T
  exact ⟨f, fd, fn_data R_l_stops F sc_l_stops (fun ds d h => by first | (obtain ⟨e, -⟩ := h; rw [e]; rfl) | (obtain ⟨_, e, -⟩ := h; rw [e]; rfl) | (obtain ⟨_, _, e, -⟩ := h; rw [e]; rfl) | (obtain ⟨_, _, _, e, -⟩ := h; rw [e]; rfl) | (obtain ⟨_, _, _, _, e, -⟩ := h; rw [e]; rfl)) (fun ds d h => ⟨_, body_l_stops h, fun cdv A outer s H E hr => der_l_stops B D_l_ordered D_l_above D_l_wide D_l_sum D_l_frac (by decide) hr⟩), hm, F.kp, hb⟩

theorem ok_l_layout (B : Bt mg) (D_l_shared : Def P w K mg base "_law_shared" 1 ["_law_one", "_law_other"] (spD R_l_shared)) (T : TopF K mg "_law_layout" s_l_layout ["_law_columns"]) : Def P w K mg base "_law_layout" 2 ["_law_columns"] (spD R_l_layout) := by
  obtain ⟨f, fd, F, hm, hb⟩ := T
  exact ⟨f, fd, fn_data R_l_layout F sc_l_layout (fun ds d h => by first | (obtain ⟨e, -⟩ := h; rw [e]; rfl) | (obtain ⟨_, e, -⟩ := h; rw [e]; rfl) | (obtain ⟨_, _, e, -⟩ := h; rw [e]; rfl) | (obtain ⟨_, _, _, e, -⟩ := h; rw [e]; rfl) | (obtain ⟨_, _, _, _, e, -⟩ := h; rw [e]; rfl)) (fun ds d h => ⟨_, body_l_layout h, fun cdv A outer s H E hr => der_l_layout B D_l_shared (by decide) hr⟩), hm, F.kp, hb⟩

theorem ok_l_drawn (B : Bt mg) (D_l_take : Def P w K mg base "_law_take" 1 ["_law_urn", "_law_below"] (spU R_l_take)) (D_l_of : Def P w K mg base "_law_of" 2 ["_law_urn", "_law_some"] (spU R_l_of)) (T : TopF K mg "_law_drawn" s_l_drawn ["_law_urn"]) : Def P w K mg base "_law_drawn" 3 ["_law_urn"] (spU R_l_drawn) := by
  obtain ⟨f, fd, F, hm, hb⟩ := T
  exact ⟨f, fd, fn_urn R_l_drawn F sc_l_drawn (by decide) (fun ds n m S h => by first | (obtain ⟨e, -⟩ := h; rw [e]; rfl) | (obtain ⟨_, e, -⟩ := h; rw [e]; rfl) | (obtain ⟨_, _, e, -⟩ := h; rw [e]; rfl) | (obtain ⟨_, _, _, e, -⟩ := h; rw [e]; rfl) | (obtain ⟨_, _, _, _, e, -⟩ := h; rw [e]; rfl)) (fun ds n m S h => ⟨_, body_l_drawn h, fun cdv A outer s H E hr => der_l_drawn B D_l_take D_l_of (by decide) hr⟩), hm, F.kp, hb⟩

theorem ok_l_is_count (B : Bt mg) (T : TopF K mg "_law_is_count" s_l_is_count ["_law_own", "_law_least"]) : Def P w K mg base "_law_is_count" 1 ["_law_own", "_law_least"] (spD R_l_is_count) := by
  obtain ⟨f, fd, F, hm, hb⟩ := T
  exact ⟨f, fd, fn_data R_l_is_count F sc_l_is_count (fun ds d h => by first | (obtain ⟨e, -⟩ := h; rw [e]; rfl) | (obtain ⟨_, e, -⟩ := h; rw [e]; rfl) | (obtain ⟨_, _, e, -⟩ := h; rw [e]; rfl) | (obtain ⟨_, _, _, e, -⟩ := h; rw [e]; rfl) | (obtain ⟨_, _, _, _, e, -⟩ := h; rw [e]; rfl)) (fun ds d h => ⟨_, body_l_is_count h, fun cdv A outer s H E hr => der_l_is_count B (by decide) hr⟩), hm, F.kp, hb⟩

theorem ok_l_are_rules (B : Bt mg) (D_l_is_count : Def P w K mg base "_law_is_count" 1 ["_law_own", "_law_least"] (spD R_l_is_count)) (T : TopF K mg "_law_are_rules" s_l_are_rules ["_law_own"]) : Def P w K mg base "_law_are_rules" 2 ["_law_own"] (spD R_l_are_rules) := by
  obtain ⟨f, fd, F, hm, hb⟩ := T
  exact ⟨f, fd, fn_data R_l_are_rules F sc_l_are_rules (fun ds d h => by first | (obtain ⟨e, -⟩ := h; rw [e]; rfl) | (obtain ⟨_, e, -⟩ := h; rw [e]; rfl) | (obtain ⟨_, _, e, -⟩ := h; rw [e]; rfl) | (obtain ⟨_, _, _, e, -⟩ := h; rw [e]; rfl) | (obtain ⟨_, _, _, _, e, -⟩ := h; rw [e]; rfl)) (fun ds d h => ⟨_, body_l_are_rules h, fun cdv A outer s H E hr => der_l_are_rules B D_l_is_count (by decide) hr⟩), hm, F.kp, hb⟩

theorem ok_l_bent (B : Bt mg) (D_l_of : Def P w K mg base "_law_of" 2 ["_law_urn", "_law_some"] (spU R_l_of)) (D_l_take : Def P w K mg base "_law_take" 1 ["_law_urn", "_law_below"] (spU R_l_take)) (T : TopF K mg "_law_bent" s_l_bent ["_law_urn", "_law_rules"]) : Def P w K mg base "_law_bent" 3 ["_law_urn", "_law_rules"] (spU R_l_bent) := by
  obtain ⟨f, fd, F, hm, hb⟩ := T
  exact ⟨f, fd, fn_urn R_l_bent F sc_l_bent (by decide) (fun ds n m S h => by first | (obtain ⟨e, -⟩ := h; rw [e]; rfl) | (obtain ⟨_, e, -⟩ := h; rw [e]; rfl) | (obtain ⟨_, _, e, -⟩ := h; rw [e]; rfl) | (obtain ⟨_, _, _, e, -⟩ := h; rw [e]; rfl) | (obtain ⟨_, _, _, _, e, -⟩ := h; rw [e]; rfl)) (fun ds n m S h => ⟨_, body_l_bent h, fun cdv A outer s H E hr => der_l_bent B D_l_of D_l_take (by decide) hr⟩), hm, F.kp, hb⟩

theorem ok_l_by_hand_right (B : Bt mg) (D_l_same : Def P w K mg base "_law_same" 14 ["_law_got", "_law_due"] (spD (R_l_same 12))) (D_l_stops : Def P w K mg base "_law_stops" 5 ["_law_rules", "_law_last"] (spD R_l_stops)) (D_l_free : Def P w K mg base "_law_free" 6 ["_law_rules", "_law_width"] (spD R_l_free)) (D_l_exact : Def P w K mg base "_law_exact" 6 ["_law_rules", "_law_width"] (spD R_l_exact)) (D_l_layout : Def P w K mg base "_law_layout" 2 ["_law_columns"] (spD R_l_layout)) (D_p_stops : Def P w K mg base "stops" 15 ["rules", "last"] (spD R_p_stops)) (D_p_free_at : Def P w K mg base "free_at" 15 ["rules", "width"] (spD R_p_free_at)) (D_p_rule_layout : Def P w K mg base "rule_layout" 15 ["rules", "last"] (spD R_p_rule_layout)) (D_p_width_given : Def P w K mg base "width_given" 15 ["rules", "pane", "width"] (spD R_p_width_given)) (T : TopF K mg "_law_by_hand_right" s_l_by_hand_right []) : Def P w K mg base "_law_by_hand_right" 16 [] (spD R_l_by_hand_right) := by
  obtain ⟨f, fd, F, hm, hb⟩ := T
  exact ⟨f, fd, fn_data R_l_by_hand_right F sc_l_by_hand_right (fun ds d h => by first | (obtain ⟨e, -⟩ := h; rw [e]; rfl) | (obtain ⟨_, e, -⟩ := h; rw [e]; rfl) | (obtain ⟨_, _, e, -⟩ := h; rw [e]; rfl) | (obtain ⟨_, _, _, e, -⟩ := h; rw [e]; rfl) | (obtain ⟨_, _, _, _, e, -⟩ := h; rw [e]; rfl)) (fun ds d h => ⟨_, body_l_by_hand_right h, fun cdv A outer s H E hr => der_l_by_hand_right B D_l_same D_l_stops D_l_free D_l_exact D_l_layout D_p_stops D_p_free_at D_p_rule_layout D_p_width_given (by decide) hr⟩), hm, F.kp, hb⟩

theorem ok_l_rules_right (B : Bt mg) (D_l_times : Def P w K mg base "_law_times" 3 ["_law_one", "_law_other"] (spD R_l_times)) (D_l_same : Def P w K mg base "_law_same" 14 ["_law_got", "_law_due"] (spD (R_l_same 12))) (D_l_exact : Def P w K mg base "_law_exact" 6 ["_law_rules", "_law_width"] (spD R_l_exact)) (D_p_width_given : Def P w K mg base "width_given" 15 ["rules", "pane", "width"] (spD R_p_width_given)) (D_l_take : Def P w K mg base "_law_take" 1 ["_law_urn", "_law_below"] (spU R_l_take)) (D_l_stops : Def P w K mg base "_law_stops" 5 ["_law_rules", "_law_last"] (spD R_l_stops)) (D_l_free : Def P w K mg base "_law_free" 6 ["_law_rules", "_law_width"] (spD R_l_free)) (D_l_layout : Def P w K mg base "_law_layout" 2 ["_law_columns"] (spD R_l_layout)) (D_p_stops : Def P w K mg base "stops" 15 ["rules", "last"] (spD R_p_stops)) (D_p_free_at : Def P w K mg base "free_at" 15 ["rules", "width"] (spD R_p_free_at)) (D_p_rule_layout : Def P w K mg base "rule_layout" 15 ["rules", "last"] (spD R_p_rule_layout)) (D_l_lists : Def P w K mg base "_law_lists" 14 ["_law_matter"] (spD (R_l_lists 12))) (T : TopF K mg "_law_rules_right" s_l_rules_right ["_law_urn", "_law_rules"]) : Def P w K mg base "_law_rules_right" 16 ["_law_urn", "_law_rules"] (spU R_l_rules_right) := by
  obtain ⟨f, fd, F, hm, hb⟩ := T
  exact ⟨f, fd, fn_urn R_l_rules_right F sc_l_rules_right (by decide) (fun ds n m S h => by first | (obtain ⟨e, -⟩ := h; rw [e]; rfl) | (obtain ⟨_, e, -⟩ := h; rw [e]; rfl) | (obtain ⟨_, _, e, -⟩ := h; rw [e]; rfl) | (obtain ⟨_, _, _, e, -⟩ := h; rw [e]; rfl) | (obtain ⟨_, _, _, _, e, -⟩ := h; rw [e]; rfl)) (fun ds n m S h => ⟨_, body_l_rules_right h, fun cdv A outer s H E hr => der_l_rules_right B D_l_times D_l_same D_l_exact D_p_width_given D_l_take D_l_stops D_l_free D_l_layout D_p_stops D_p_free_at D_p_rule_layout D_l_lists (by decide) hr⟩), hm, F.kp, hb⟩

theorem ok_l_right (B : Bt mg) (D_l_layout : Def P w K mg base "_law_layout" 2 ["_law_columns"] (spD R_l_layout)) (D_l_same : Def P w K mg base "_law_same" 14 ["_law_got", "_law_due"] (spD (R_l_same 12))) (D_p_by_turns : Def P w K mg base "by_turns" 1 ["mosts", "last"] (spD R_p_by_turns)) (D_p_even : Def P w K mg base "even" 17 ["panes", "last"] (spD R_p_even)) (D_p_by_shares : Def P w K mg base "by_shares" 16 ["shares", "last"] (spD R_p_by_shares)) (D_l_take : Def P w K mg base "_law_take" 1 ["_law_urn", "_law_below"] (spU R_l_take)) (D_l_frac : Def P w K mg base "_law_frac" 2 ["_law_top", "_law_below"] (spD R_l_frac)) (D_l_are_rules : Def P w K mg base "_law_are_rules" 2 ["_law_own"] (spD R_l_are_rules)) (D_p_is_rules : Def P w K mg base "is_rules" 3 ["thing"] (spD R_p_is_rules)) (D_l_bent : Def P w K mg base "_law_bent" 3 ["_law_urn", "_law_rules"] (spU R_l_bent)) (D_l_rules_right : Def P w K mg base "_law_rules_right" 16 ["_law_urn", "_law_rules"] (spU R_l_rules_right)) (D_l_drawn : Def P w K mg base "_law_drawn" 3 ["_law_urn"] (spU R_l_drawn)) (T : TopF K mg "_law_right" s_l_right ["_law_urn"]) : Def P w K mg base "_law_right" 18 ["_law_urn"] (spU R_l_right) := by
  obtain ⟨f, fd, F, hm, hb⟩ := T
  exact ⟨f, fd, fn_urn R_l_right F sc_l_right (by decide) (fun ds n m S h => by first | (obtain ⟨e, -⟩ := h; rw [e]; rfl) | (obtain ⟨_, e, -⟩ := h; rw [e]; rfl) | (obtain ⟨_, _, e, -⟩ := h; rw [e]; rfl) | (obtain ⟨_, _, _, e, -⟩ := h; rw [e]; rfl) | (obtain ⟨_, _, _, _, e, -⟩ := h; rw [e]; rfl)) (fun ds n m S h => ⟨_, body_l_right h, fun cdv A outer s H E hr => der_l_right B D_l_layout D_l_same D_p_by_turns D_p_even D_p_by_shares D_l_take D_l_frac D_l_are_rules D_p_is_rules D_l_bent D_l_rules_right D_l_drawn (by decide) hr⟩), hm, F.kp, hb⟩

theorem ok_law (D_l_by_hand_right : Def P w K mg base "_law_by_hand_right" 16 [] (spD R_l_by_hand_right)) (D_l_cells : Def P w K mg base "_law_cells" 1 ["_law_script", "_law_many"] (spCells K)) (D_l_box : Def P w K mg base "_law_box" 1 ["_law_script", "_law_k"] (spD R_l_box)) (D_l_right : Def P w K mg base "_law_right" 18 ["_law_urn"] (spU R_l_right)) {f : Addr} {fd : FuncData} (F : Fun K "law" "law" s_law f fd) : FnOk P w K mg base CX0 19 f fd ["_law_script"] (spLaw K) := by
  refine F.ok sc_law (fun vs H Q E h => ?_) (fun cdv A outer s H vs Q E hr h => ?_)
  · obtain ⟨p, ns, rfl, -⟩ := h
    rfl
  · obtain ⟨p, ns, rfl, hS, hz, q⟩ := h
    exact ⟨_, der_law D_l_by_hand_right D_l_cells D_l_box D_l_right (Nat.le_refl _) hr, run_law hS hz q⟩

theorem all_of (B : Bt mg) (T_p_is_number : TopF K mg "is_number" s_p_is_number ["thing"]) (T_p_tuple_of : TopF K mg "tuple_of" s_p_tuple_of ["thing"]) (T_p_is_tuple_of : TopF K mg "is_tuple_of" s_p_is_tuple_of ["thing", "many"]) (T_p_is_rule : TopF K mg "is_rule" s_p_is_rule ["thing"]) (T_p_is_rules : TopF K mg "is_rules" s_p_is_rules ["thing"]) (T_p_in_lowest : TopF K mg "in_lowest" s_p_in_lowest ["top", "below"]) (T_p_least_common : TopF K mg "least_common" s_p_least_common ["numbers"]) (T_p_common_share : TopF K mg "common_share" s_p_common_share ["rules"]) (T_p_would_be : TopF K mg "would_be" s_p_would_be ["rules", "at"]) (T_p_turns_of : TopF K mg "turns_of" s_p_turns_of ["rules"]) (T_p_growing : TopF K mg "growing" s_p_growing ["rules", "at"]) (T_p_stretch_at : TopF K mg "stretch_at" s_p_stretch_at ["rules", "goal"]) (T_p_leasts_of : TopF K mg "leasts_of" s_p_leasts_of ["rules"]) (T_p_given_all : TopF K mg "given_all" s_p_given_all ["rules", "width"]) (T_p_width_given : TopF K mg "width_given" s_p_width_given ["rules", "pane", "width"]) (T_p_rule_layout : TopF K mg "rule_layout" s_p_rule_layout ["rules", "last"]) (T_p_free_at : TopF K mg "free_at" s_p_free_at ["rules", "width"]) (T_p_stops : TopF K mg "stops" s_p_stops ["rules", "last"]) (T_p_by_shares : TopF K mg "by_shares" s_p_by_shares ["shares", "last"]) (T_p_even : TopF K mg "even" s_p_even ["panes", "last"]) (T_p_by_turns : TopF K mg "by_turns" s_p_by_turns ["mosts", "last"]) (T_l_box : TopF K mg "_law_box" s_l_box ["_law_script", "_law_k"]) (T_l_take : TopF K mg "_law_take" s_l_take ["_law_urn", "_law_below"]) (T_l_cells : TopF K mg "_law_cells" s_l_cells ["_law_script", "_law_many"]) (T_l_of : TopF K mg "_law_of" s_l_of ["_law_urn", "_law_some"]) (T_l_same : TopF K mg "_law_same" s_l_same ["_law_got", "_law_due"]) (T_l_lists : TopF K mg "_law_lists" s_l_lists ["_law_matter"]) (T_l_shared : TopF K mg "_law_shared" s_l_shared ["_law_one", "_law_other"]) (T_l_frac : TopF K mg "_law_frac" s_l_frac ["_law_top", "_law_below"]) (T_l_plus : TopF K mg "_law_plus" s_l_plus ["_law_one", "_law_other"]) (T_l_less : TopF K mg "_law_less" s_l_less ["_law_one", "_law_other"]) (T_l_times : TopF K mg "_law_times" s_l_times ["_law_one", "_law_other"]) (T_l_over : TopF K mg "_law_over" s_l_over ["_law_one", "_law_other"]) (T_l_above : TopF K mg "_law_above" s_l_above ["_law_one", "_law_other"]) (T_l_sum : TopF K mg "_law_sum" s_l_sum ["_law_some"]) (T_l_wide : TopF K mg "_law_wide" s_l_wide ["_law_rules", "_law_at"]) (T_l_ordered : TopF K mg "_law_ordered" s_l_ordered ["_law_some"]) (T_l_turns : TopF K mg "_law_turns" s_l_turns ["_law_rules"]) (T_l_last_turn : TopF K mg "_law_last_turn" s_l_last_turn ["_law_rules", "_law_width"]) (T_l_more : TopF K mg "_law_more" s_l_more ["_law_rules", "_law_at"]) (T_l_exact : TopF K mg "_law_exact" s_l_exact ["_law_rules", "_law_width"]) (T_l_free : TopF K mg "_law_free" s_l_free ["_law_rules", "_law_width"]) (T_l_stops : TopF K mg "_law_stops" s_l_stops ["_law_rules", "_law_last"]) (T_l_layout : TopF K mg "_law_layout" s_l_layout ["_law_columns"]) (T_l_drawn : TopF K mg "_law_drawn" s_l_drawn ["_law_urn"]) (T_l_is_count : TopF K mg "_law_is_count" s_l_is_count ["_law_own", "_law_least"]) (T_l_are_rules : TopF K mg "_law_are_rules" s_l_are_rules ["_law_own"]) (T_l_bent : TopF K mg "_law_bent" s_l_bent ["_law_urn", "_law_rules"]) (T_l_by_hand_right : TopF K mg "_law_by_hand_right" s_l_by_hand_right []) (T_l_rules_right : TopF K mg "_law_rules_right" s_l_rules_right ["_law_urn", "_law_rules"]) (T_l_right : TopF K mg "_law_right" s_l_right ["_law_urn"]) {f : Addr} {fd : FuncData} (F_law : Fun K "law" "law" s_law f fd) : FnOk P w K mg base CX0 19 f fd ["_law_script"] (spLaw K) := by
  have D_l_same := ok_l_same (P := P) (w := w) (base := base) B T_l_same
  have D_l_above := ok_l_above (P := P) (w := w) (base := base) T_l_above
  have D_l_ordered := ok_l_ordered (P := P) (w := w) (base := base) B D_l_above T_l_ordered
  have D_l_shared := ok_l_shared (P := P) (w := w) (base := base) B T_l_shared
  have D_l_frac := ok_l_frac (P := P) (w := w) (base := base) D_l_shared T_l_frac
  have D_l_times := ok_l_times (P := P) (w := w) (base := base) D_l_frac T_l_times
  have D_l_wide := ok_l_wide (P := P) (w := w) (base := base) D_l_above D_l_times T_l_wide
  have D_l_plus := ok_l_plus (P := P) (w := w) (base := base) D_l_frac T_l_plus
  have D_l_sum := ok_l_sum (P := P) (w := w) (base := base) D_l_plus T_l_sum
  have D_l_stops := ok_l_stops (P := P) (w := w) (base := base) B D_l_ordered D_l_above D_l_wide D_l_sum D_l_frac T_l_stops
  have D_l_turns := ok_l_turns (P := P) (w := w) (base := base) D_l_ordered D_l_frac T_l_turns
  have D_l_last_turn := ok_l_last_turn (P := P) (w := w) (base := base) D_l_turns D_l_wide D_l_sum D_l_above T_l_last_turn
  have D_l_more := ok_l_more (P := P) (w := w) (base := base) B D_l_above D_l_times T_l_more
  have D_l_free := ok_l_free (P := P) (w := w) (base := base) B D_l_last_turn D_l_more T_l_free
  have D_l_over := ok_l_over (P := P) (w := w) (base := base) D_l_frac T_l_over
  have D_l_less := ok_l_less (P := P) (w := w) (base := base) D_l_frac T_l_less
  have D_l_exact := ok_l_exact (P := P) (w := w) (base := base) B D_l_over D_l_plus D_l_wide D_l_more D_l_sum D_l_less D_l_last_turn D_l_frac T_l_exact
  have D_l_layout := ok_l_layout (P := P) (w := w) (base := base) B D_l_shared T_l_layout
  have D_p_in_lowest := ok_p_in_lowest (P := P) (w := w) (base := base) B T_p_in_lowest
  have D_p_least_common := ok_p_least_common (P := P) (w := w) (base := base) B T_p_least_common
  have D_p_common_share := ok_p_common_share (P := P) (w := w) (base := base) D_p_least_common T_p_common_share
  have D_p_would_be := ok_p_would_be (P := P) (w := w) (base := base) B D_p_common_share T_p_would_be
  have D_p_tuple_of := ok_p_tuple_of (P := P) (w := w) (base := base) B T_p_tuple_of
  have D_p_stops := ok_p_stops (P := P) (w := w) (base := base) B D_p_in_lowest D_p_would_be D_p_common_share D_p_tuple_of T_p_stops
  have D_p_turns_of := ok_p_turns_of (P := P) (w := w) (base := base) B D_p_common_share T_p_turns_of
  have D_p_stretch_at := ok_p_stretch_at (P := P) (w := w) (base := base) B D_p_turns_of D_p_would_be T_p_stretch_at
  have D_p_growing := ok_p_growing (P := P) (w := w) (base := base) B D_p_common_share T_p_growing
  have D_p_leasts_of := ok_p_leasts_of (P := P) (w := w) (base := base) B T_p_leasts_of
  have D_p_free_at := ok_p_free_at (P := P) (w := w) (base := base) B D_p_common_share D_p_stretch_at D_p_growing D_p_leasts_of D_p_tuple_of T_p_free_at
  have D_p_given_all := ok_p_given_all (P := P) (w := w) (base := base) B D_p_in_lowest D_p_growing D_p_would_be D_p_stretch_at D_p_common_share D_p_leasts_of T_p_given_all
  have D_p_rule_layout := ok_p_rule_layout (P := P) (w := w) (base := base) B D_p_least_common D_p_given_all D_p_tuple_of T_p_rule_layout
  have D_p_is_number := ok_p_is_number (P := P) (w := w) (base := base) B T_p_is_number
  have D_p_width_given := ok_p_width_given (P := P) (w := w) (base := base) B D_p_given_all D_p_is_number D_p_tuple_of T_p_width_given
  have D_l_by_hand_right := ok_l_by_hand_right (P := P) (w := w) (base := base) B D_l_same D_l_stops D_l_free D_l_exact D_l_layout D_p_stops D_p_free_at D_p_rule_layout D_p_width_given T_l_by_hand_right
  have D_l_cells := ok_l_cells (P := P) (w := w) (base := base) B T_l_cells
  have D_l_box := ok_l_box (P := P) (w := w) (base := base) B T_l_box
  have D_p_by_turns := ok_p_by_turns (P := P) (w := w) (base := base) B T_p_by_turns
  have D_p_by_shares := ok_p_by_shares (P := P) (w := w) (base := base) D_p_rule_layout T_p_by_shares
  have D_p_even := ok_p_even (P := P) (w := w) (base := base) D_p_by_shares T_p_even
  have D_l_take := ok_l_take (P := P) (w := w) (base := base) B T_l_take
  have D_l_is_count := ok_l_is_count (P := P) (w := w) (base := base) B T_l_is_count
  have D_l_are_rules := ok_l_are_rules (P := P) (w := w) (base := base) B D_l_is_count T_l_are_rules
  have D_p_is_tuple_of := ok_p_is_tuple_of (P := P) (w := w) (base := base) B T_p_is_tuple_of
  have D_p_is_rule := ok_p_is_rule (P := P) (w := w) (base := base) D_p_is_number D_p_is_tuple_of T_p_is_rule
  have D_p_is_rules := ok_p_is_rules (P := P) (w := w) (base := base) B D_p_is_rule T_p_is_rules
  have D_l_of := ok_l_of (P := P) (w := w) (base := base) B D_l_take T_l_of
  have D_l_bent := ok_l_bent (P := P) (w := w) (base := base) B D_l_of D_l_take T_l_bent
  have D_l_lists := ok_l_lists (P := P) (w := w) (base := base) B T_l_lists
  have D_l_rules_right := ok_l_rules_right (P := P) (w := w) (base := base) B D_l_times D_l_same D_l_exact D_p_width_given D_l_take D_l_stops D_l_free D_l_layout D_p_stops D_p_free_at D_p_rule_layout D_l_lists T_l_rules_right
  have D_l_drawn := ok_l_drawn (P := P) (w := w) (base := base) B D_l_take D_l_of T_l_drawn
  have D_l_right := ok_l_right (P := P) (w := w) (base := base) B D_l_layout D_l_same D_p_by_turns D_p_even D_p_by_shares D_l_take D_l_frac D_l_are_rules D_p_is_rules D_l_bent D_l_rules_right D_l_drawn T_l_right
  exact ok_law D_l_by_hand_right D_l_cells D_l_box D_l_right F_law
theorem top_p_is_number {h : Heap} {f : Addr} {od an : Option Addr} {sl : Array (Option Value)} {oc kV dc pm cd ct : Value} (X : K.In h) (G : h.Ns mainGlobals mg) (a : PySem.W.nsIn K mainGlobals "is_number" = some (some (.ref f))) (l : K.lookup f = some ⟨oc, od, .func (PySem.W.fnOf "is_number" "is_number" (defArgs s_p_is_number) (defBody s_p_is_number) (defScope s_p_is_number) .none kV dc pm an cd ct), sl⟩) (c : PySem.W.codeIn K cd "is_number" = true) (k : PySem.W.keepIn K (.ref f) = true) : TopF K mg "is_number" s_p_is_number ["thing"] :=
  ⟨f, _, fun_mk l c k, PySem.W.mg_of X G a, (fun_mk l c k).binds (ps := ["thing"]) fun _ _ _ _ _ _ us hl => match us, hl with | [_], _ => rfl⟩
theorem top_p_tuple_of {h : Heap} {f : Addr} {od an : Option Addr} {sl : Array (Option Value)} {oc kV dc pm cd ct : Value} (X : K.In h) (G : h.Ns mainGlobals mg) (a : PySem.W.nsIn K mainGlobals "tuple_of" = some (some (.ref f))) (l : K.lookup f = some ⟨oc, od, .func (PySem.W.fnOf "tuple_of" "tuple_of" (defArgs s_p_tuple_of) (defBody s_p_tuple_of) (defScope s_p_tuple_of) .none kV dc pm an cd ct), sl⟩) (c : PySem.W.codeIn K cd "tuple_of" = true) (k : PySem.W.keepIn K (.ref f) = true) : TopF K mg "tuple_of" s_p_tuple_of ["thing"] :=
  ⟨f, _, fun_mk l c k, PySem.W.mg_of X G a, (fun_mk l c k).binds (ps := ["thing"]) fun _ _ _ _ _ _ us hl => match us, hl with | [_], _ => rfl⟩
theorem top_p_is_tuple_of {h : Heap} {f : Addr} {od an : Option Addr} {sl : Array (Option Value)} {oc kV dc pm cd ct : Value} (X : K.In h) (G : h.Ns mainGlobals mg) (a : PySem.W.nsIn K mainGlobals "is_tuple_of" = some (some (.ref f))) (l : K.lookup f = some ⟨oc, od, .func (PySem.W.fnOf "is_tuple_of" "is_tuple_of" (defArgs s_p_is_tuple_of) (defBody s_p_is_tuple_of) (defScope s_p_is_tuple_of) .none kV dc pm an cd ct), sl⟩) (c : PySem.W.codeIn K cd "is_tuple_of" = true) (k : PySem.W.keepIn K (.ref f) = true) : TopF K mg "is_tuple_of" s_p_is_tuple_of ["thing", "many"] :=
  ⟨f, _, fun_mk l c k, PySem.W.mg_of X G a, (fun_mk l c k).binds (ps := ["thing", "many"]) fun _ _ _ _ _ _ us hl => match us, hl with | [_, _], _ => rfl⟩
theorem top_p_is_rule {h : Heap} {f : Addr} {od an : Option Addr} {sl : Array (Option Value)} {oc kV dc pm cd ct : Value} (X : K.In h) (G : h.Ns mainGlobals mg) (a : PySem.W.nsIn K mainGlobals "is_rule" = some (some (.ref f))) (l : K.lookup f = some ⟨oc, od, .func (PySem.W.fnOf "is_rule" "is_rule" (defArgs s_p_is_rule) (defBody s_p_is_rule) (defScope s_p_is_rule) .none kV dc pm an cd ct), sl⟩) (c : PySem.W.codeIn K cd "is_rule" = true) (k : PySem.W.keepIn K (.ref f) = true) : TopF K mg "is_rule" s_p_is_rule ["thing"] :=
  ⟨f, _, fun_mk l c k, PySem.W.mg_of X G a, (fun_mk l c k).binds (ps := ["thing"]) fun _ _ _ _ _ _ us hl => match us, hl with | [_], _ => rfl⟩
theorem top_p_is_rules {h : Heap} {f : Addr} {od an : Option Addr} {sl : Array (Option Value)} {oc kV dc pm cd ct : Value} (X : K.In h) (G : h.Ns mainGlobals mg) (a : PySem.W.nsIn K mainGlobals "is_rules" = some (some (.ref f))) (l : K.lookup f = some ⟨oc, od, .func (PySem.W.fnOf "is_rules" "is_rules" (defArgs s_p_is_rules) (defBody s_p_is_rules) (defScope s_p_is_rules) .none kV dc pm an cd ct), sl⟩) (c : PySem.W.codeIn K cd "is_rules" = true) (k : PySem.W.keepIn K (.ref f) = true) : TopF K mg "is_rules" s_p_is_rules ["thing"] :=
  ⟨f, _, fun_mk l c k, PySem.W.mg_of X G a, (fun_mk l c k).binds (ps := ["thing"]) fun _ _ _ _ _ _ us hl => match us, hl with | [_], _ => rfl⟩
theorem top_p_in_lowest {h : Heap} {f : Addr} {od an : Option Addr} {sl : Array (Option Value)} {oc kV dc pm cd ct : Value} (X : K.In h) (G : h.Ns mainGlobals mg) (a : PySem.W.nsIn K mainGlobals "in_lowest" = some (some (.ref f))) (l : K.lookup f = some ⟨oc, od, .func (PySem.W.fnOf "in_lowest" "in_lowest" (defArgs s_p_in_lowest) (defBody s_p_in_lowest) (defScope s_p_in_lowest) .none kV dc pm an cd ct), sl⟩) (c : PySem.W.codeIn K cd "in_lowest" = true) (k : PySem.W.keepIn K (.ref f) = true) : TopF K mg "in_lowest" s_p_in_lowest ["top", "below"] :=
  ⟨f, _, fun_mk l c k, PySem.W.mg_of X G a, (fun_mk l c k).binds (ps := ["top", "below"]) fun _ _ _ _ _ _ us hl => match us, hl with | [_, _], _ => rfl⟩
theorem top_p_least_common {h : Heap} {f : Addr} {od an : Option Addr} {sl : Array (Option Value)} {oc kV dc pm cd ct : Value} (X : K.In h) (G : h.Ns mainGlobals mg) (a : PySem.W.nsIn K mainGlobals "least_common" = some (some (.ref f))) (l : K.lookup f = some ⟨oc, od, .func (PySem.W.fnOf "least_common" "least_common" (defArgs s_p_least_common) (defBody s_p_least_common) (defScope s_p_least_common) .none kV dc pm an cd ct), sl⟩) (c : PySem.W.codeIn K cd "least_common" = true) (k : PySem.W.keepIn K (.ref f) = true) : TopF K mg "least_common" s_p_least_common ["numbers"] :=
  ⟨f, _, fun_mk l c k, PySem.W.mg_of X G a, (fun_mk l c k).binds (ps := ["numbers"]) fun _ _ _ _ _ _ us hl => match us, hl with | [_], _ => rfl⟩
theorem top_p_common_share {h : Heap} {f : Addr} {od an : Option Addr} {sl : Array (Option Value)} {oc kV dc pm cd ct : Value} (X : K.In h) (G : h.Ns mainGlobals mg) (a : PySem.W.nsIn K mainGlobals "common_share" = some (some (.ref f))) (l : K.lookup f = some ⟨oc, od, .func (PySem.W.fnOf "common_share" "common_share" (defArgs s_p_common_share) (defBody s_p_common_share) (defScope s_p_common_share) .none kV dc pm an cd ct), sl⟩) (c : PySem.W.codeIn K cd "common_share" = true) (k : PySem.W.keepIn K (.ref f) = true) : TopF K mg "common_share" s_p_common_share ["rules"] :=
  ⟨f, _, fun_mk l c k, PySem.W.mg_of X G a, (fun_mk l c k).binds (ps := ["rules"]) fun _ _ _ _ _ _ us hl => match us, hl with | [_], _ => rfl⟩
theorem top_p_would_be {h : Heap} {f : Addr} {od an : Option Addr} {sl : Array (Option Value)} {oc kV dc pm cd ct : Value} (X : K.In h) (G : h.Ns mainGlobals mg) (a : PySem.W.nsIn K mainGlobals "would_be" = some (some (.ref f))) (l : K.lookup f = some ⟨oc, od, .func (PySem.W.fnOf "would_be" "would_be" (defArgs s_p_would_be) (defBody s_p_would_be) (defScope s_p_would_be) .none kV dc pm an cd ct), sl⟩) (c : PySem.W.codeIn K cd "would_be" = true) (k : PySem.W.keepIn K (.ref f) = true) : TopF K mg "would_be" s_p_would_be ["rules", "at"] :=
  ⟨f, _, fun_mk l c k, PySem.W.mg_of X G a, (fun_mk l c k).binds (ps := ["rules", "at"]) fun _ _ _ _ _ _ us hl => match us, hl with | [_, _], _ => rfl⟩
theorem top_p_turns_of {h : Heap} {f : Addr} {od an : Option Addr} {sl : Array (Option Value)} {oc kV dc pm cd ct : Value} (X : K.In h) (G : h.Ns mainGlobals mg) (a : PySem.W.nsIn K mainGlobals "turns_of" = some (some (.ref f))) (l : K.lookup f = some ⟨oc, od, .func (PySem.W.fnOf "turns_of" "turns_of" (defArgs s_p_turns_of) (defBody s_p_turns_of) (defScope s_p_turns_of) .none kV dc pm an cd ct), sl⟩) (c : PySem.W.codeIn K cd "turns_of" = true) (k : PySem.W.keepIn K (.ref f) = true) : TopF K mg "turns_of" s_p_turns_of ["rules"] :=
  ⟨f, _, fun_mk l c k, PySem.W.mg_of X G a, (fun_mk l c k).binds (ps := ["rules"]) fun _ _ _ _ _ _ us hl => match us, hl with | [_], _ => rfl⟩
theorem top_p_growing {h : Heap} {f : Addr} {od an : Option Addr} {sl : Array (Option Value)} {oc kV dc pm cd ct : Value} (X : K.In h) (G : h.Ns mainGlobals mg) (a : PySem.W.nsIn K mainGlobals "growing" = some (some (.ref f))) (l : K.lookup f = some ⟨oc, od, .func (PySem.W.fnOf "growing" "growing" (defArgs s_p_growing) (defBody s_p_growing) (defScope s_p_growing) .none kV dc pm an cd ct), sl⟩) (c : PySem.W.codeIn K cd "growing" = true) (k : PySem.W.keepIn K (.ref f) = true) : TopF K mg "growing" s_p_growing ["rules", "at"] :=
  ⟨f, _, fun_mk l c k, PySem.W.mg_of X G a, (fun_mk l c k).binds (ps := ["rules", "at"]) fun _ _ _ _ _ _ us hl => match us, hl with | [_, _], _ => rfl⟩
theorem top_p_stretch_at {h : Heap} {f : Addr} {od an : Option Addr} {sl : Array (Option Value)} {oc kV dc pm cd ct : Value} (X : K.In h) (G : h.Ns mainGlobals mg) (a : PySem.W.nsIn K mainGlobals "stretch_at" = some (some (.ref f))) (l : K.lookup f = some ⟨oc, od, .func (PySem.W.fnOf "stretch_at" "stretch_at" (defArgs s_p_stretch_at) (defBody s_p_stretch_at) (defScope s_p_stretch_at) .none kV dc pm an cd ct), sl⟩) (c : PySem.W.codeIn K cd "stretch_at" = true) (k : PySem.W.keepIn K (.ref f) = true) : TopF K mg "stretch_at" s_p_stretch_at ["rules", "goal"] :=
  ⟨f, _, fun_mk l c k, PySem.W.mg_of X G a, (fun_mk l c k).binds (ps := ["rules", "goal"]) fun _ _ _ _ _ _ us hl => match us, hl with | [_, _], _ => rfl⟩
theorem top_p_leasts_of {h : Heap} {f : Addr} {od an : Option Addr} {sl : Array (Option Value)} {oc kV dc pm cd ct : Value} (X : K.In h) (G : h.Ns mainGlobals mg) (a : PySem.W.nsIn K mainGlobals "leasts_of" = some (some (.ref f))) (l : K.lookup f = some ⟨oc, od, .func (PySem.W.fnOf "leasts_of" "leasts_of" (defArgs s_p_leasts_of) (defBody s_p_leasts_of) (defScope s_p_leasts_of) .none kV dc pm an cd ct), sl⟩) (c : PySem.W.codeIn K cd "leasts_of" = true) (k : PySem.W.keepIn K (.ref f) = true) : TopF K mg "leasts_of" s_p_leasts_of ["rules"] :=
  ⟨f, _, fun_mk l c k, PySem.W.mg_of X G a, (fun_mk l c k).binds (ps := ["rules"]) fun _ _ _ _ _ _ us hl => match us, hl with | [_], _ => rfl⟩
theorem top_p_given_all {h : Heap} {f : Addr} {od an : Option Addr} {sl : Array (Option Value)} {oc kV dc pm cd ct : Value} (X : K.In h) (G : h.Ns mainGlobals mg) (a : PySem.W.nsIn K mainGlobals "given_all" = some (some (.ref f))) (l : K.lookup f = some ⟨oc, od, .func (PySem.W.fnOf "given_all" "given_all" (defArgs s_p_given_all) (defBody s_p_given_all) (defScope s_p_given_all) .none kV dc pm an cd ct), sl⟩) (c : PySem.W.codeIn K cd "given_all" = true) (k : PySem.W.keepIn K (.ref f) = true) : TopF K mg "given_all" s_p_given_all ["rules", "width"] :=
  ⟨f, _, fun_mk l c k, PySem.W.mg_of X G a, (fun_mk l c k).binds (ps := ["rules", "width"]) fun _ _ _ _ _ _ us hl => match us, hl with | [_, _], _ => rfl⟩
theorem top_p_width_given {h : Heap} {f : Addr} {od an : Option Addr} {sl : Array (Option Value)} {oc kV dc pm cd ct : Value} (X : K.In h) (G : h.Ns mainGlobals mg) (a : PySem.W.nsIn K mainGlobals "width_given" = some (some (.ref f))) (l : K.lookup f = some ⟨oc, od, .func (PySem.W.fnOf "width_given" "width_given" (defArgs s_p_width_given) (defBody s_p_width_given) (defScope s_p_width_given) .none kV dc pm an cd ct), sl⟩) (c : PySem.W.codeIn K cd "width_given" = true) (k : PySem.W.keepIn K (.ref f) = true) : TopF K mg "width_given" s_p_width_given ["rules", "pane", "width"] :=
  ⟨f, _, fun_mk l c k, PySem.W.mg_of X G a, (fun_mk l c k).binds (ps := ["rules", "pane", "width"]) fun _ _ _ _ _ _ us hl => match us, hl with | [_, _, _], _ => rfl⟩
theorem top_p_rule_layout {h : Heap} {f : Addr} {od an : Option Addr} {sl : Array (Option Value)} {oc kV dc pm cd ct : Value} (X : K.In h) (G : h.Ns mainGlobals mg) (a : PySem.W.nsIn K mainGlobals "rule_layout" = some (some (.ref f))) (l : K.lookup f = some ⟨oc, od, .func (PySem.W.fnOf "rule_layout" "rule_layout" (defArgs s_p_rule_layout) (defBody s_p_rule_layout) (defScope s_p_rule_layout) .none kV dc pm an cd ct), sl⟩) (c : PySem.W.codeIn K cd "rule_layout" = true) (k : PySem.W.keepIn K (.ref f) = true) : TopF K mg "rule_layout" s_p_rule_layout ["rules", "last"] :=
  ⟨f, _, fun_mk l c k, PySem.W.mg_of X G a, (fun_mk l c k).binds (ps := ["rules", "last"]) fun _ _ _ _ _ _ us hl => match us, hl with | [_, _], _ => rfl⟩
theorem top_p_free_at {h : Heap} {f : Addr} {od an : Option Addr} {sl : Array (Option Value)} {oc kV dc pm cd ct : Value} (X : K.In h) (G : h.Ns mainGlobals mg) (a : PySem.W.nsIn K mainGlobals "free_at" = some (some (.ref f))) (l : K.lookup f = some ⟨oc, od, .func (PySem.W.fnOf "free_at" "free_at" (defArgs s_p_free_at) (defBody s_p_free_at) (defScope s_p_free_at) .none kV dc pm an cd ct), sl⟩) (c : PySem.W.codeIn K cd "free_at" = true) (k : PySem.W.keepIn K (.ref f) = true) : TopF K mg "free_at" s_p_free_at ["rules", "width"] :=
  ⟨f, _, fun_mk l c k, PySem.W.mg_of X G a, (fun_mk l c k).binds (ps := ["rules", "width"]) fun _ _ _ _ _ _ us hl => match us, hl with | [_, _], _ => rfl⟩
theorem top_p_stops {h : Heap} {f : Addr} {od an : Option Addr} {sl : Array (Option Value)} {oc kV dc pm cd ct : Value} (X : K.In h) (G : h.Ns mainGlobals mg) (a : PySem.W.nsIn K mainGlobals "stops" = some (some (.ref f))) (l : K.lookup f = some ⟨oc, od, .func (PySem.W.fnOf "stops" "stops" (defArgs s_p_stops) (defBody s_p_stops) (defScope s_p_stops) .none kV dc pm an cd ct), sl⟩) (c : PySem.W.codeIn K cd "stops" = true) (k : PySem.W.keepIn K (.ref f) = true) : TopF K mg "stops" s_p_stops ["rules", "last"] :=
  ⟨f, _, fun_mk l c k, PySem.W.mg_of X G a, (fun_mk l c k).binds (ps := ["rules", "last"]) fun _ _ _ _ _ _ us hl => match us, hl with | [_, _], _ => rfl⟩
theorem top_p_by_shares {h : Heap} {f : Addr} {od an : Option Addr} {sl : Array (Option Value)} {oc kV dc pm cd ct : Value} (X : K.In h) (G : h.Ns mainGlobals mg) (a : PySem.W.nsIn K mainGlobals "by_shares" = some (some (.ref f))) (l : K.lookup f = some ⟨oc, od, .func (PySem.W.fnOf "by_shares" "by_shares" (defArgs s_p_by_shares) (defBody s_p_by_shares) (defScope s_p_by_shares) .none kV dc pm an cd ct), sl⟩) (c : PySem.W.codeIn K cd "by_shares" = true) (k : PySem.W.keepIn K (.ref f) = true) : TopF K mg "by_shares" s_p_by_shares ["shares", "last"] :=
  ⟨f, _, fun_mk l c k, PySem.W.mg_of X G a, (fun_mk l c k).binds (ps := ["shares", "last"]) fun _ _ _ _ _ _ us hl => match us, hl with | [_, _], _ => rfl⟩
theorem top_p_even {h : Heap} {f : Addr} {od an : Option Addr} {sl : Array (Option Value)} {oc kV dc pm cd ct : Value} (X : K.In h) (G : h.Ns mainGlobals mg) (a : PySem.W.nsIn K mainGlobals "even" = some (some (.ref f))) (l : K.lookup f = some ⟨oc, od, .func (PySem.W.fnOf "even" "even" (defArgs s_p_even) (defBody s_p_even) (defScope s_p_even) .none kV dc pm an cd ct), sl⟩) (c : PySem.W.codeIn K cd "even" = true) (k : PySem.W.keepIn K (.ref f) = true) : TopF K mg "even" s_p_even ["panes", "last"] :=
  ⟨f, _, fun_mk l c k, PySem.W.mg_of X G a, (fun_mk l c k).binds (ps := ["panes", "last"]) fun _ _ _ _ _ _ us hl => match us, hl with | [_, _], _ => rfl⟩
theorem top_p_by_turns {h : Heap} {f : Addr} {od an : Option Addr} {sl : Array (Option Value)} {oc kV dc pm cd ct : Value} (X : K.In h) (G : h.Ns mainGlobals mg) (a : PySem.W.nsIn K mainGlobals "by_turns" = some (some (.ref f))) (l : K.lookup f = some ⟨oc, od, .func (PySem.W.fnOf "by_turns" "by_turns" (defArgs s_p_by_turns) (defBody s_p_by_turns) (defScope s_p_by_turns) .none kV dc pm an cd ct), sl⟩) (c : PySem.W.codeIn K cd "by_turns" = true) (k : PySem.W.keepIn K (.ref f) = true) : TopF K mg "by_turns" s_p_by_turns ["mosts", "last"] :=
  ⟨f, _, fun_mk l c k, PySem.W.mg_of X G a, (fun_mk l c k).binds (ps := ["mosts", "last"]) fun _ _ _ _ _ _ us hl => match us, hl with | [_, _], _ => rfl⟩
theorem top_l_box {h : Heap} {f : Addr} {od an : Option Addr} {sl : Array (Option Value)} {oc kV dc pm cd ct : Value} (X : K.In h) (G : h.Ns mainGlobals mg) (a : PySem.W.nsIn K mainGlobals "_law_box" = some (some (.ref f))) (l : K.lookup f = some ⟨oc, od, .func (PySem.W.fnOf "_law_box" "_law_box" (defArgs s_l_box) (defBody s_l_box) (defScope s_l_box) .none kV dc pm an cd ct), sl⟩) (c : PySem.W.codeIn K cd "_law_box" = true) (k : PySem.W.keepIn K (.ref f) = true) : TopF K mg "_law_box" s_l_box ["_law_script", "_law_k"] :=
  ⟨f, _, fun_mk l c k, PySem.W.mg_of X G a, (fun_mk l c k).binds (ps := ["_law_script", "_law_k"]) fun _ _ _ _ _ _ us hl => match us, hl with | [_, _], _ => rfl⟩
theorem top_l_take {h : Heap} {f : Addr} {od an : Option Addr} {sl : Array (Option Value)} {oc kV dc pm cd ct : Value} (X : K.In h) (G : h.Ns mainGlobals mg) (a : PySem.W.nsIn K mainGlobals "_law_take" = some (some (.ref f))) (l : K.lookup f = some ⟨oc, od, .func (PySem.W.fnOf "_law_take" "_law_take" (defArgs s_l_take) (defBody s_l_take) (defScope s_l_take) .none kV dc pm an cd ct), sl⟩) (c : PySem.W.codeIn K cd "_law_take" = true) (k : PySem.W.keepIn K (.ref f) = true) : TopF K mg "_law_take" s_l_take ["_law_urn", "_law_below"] :=
  ⟨f, _, fun_mk l c k, PySem.W.mg_of X G a, (fun_mk l c k).binds (ps := ["_law_urn", "_law_below"]) fun _ _ _ _ _ _ us hl => match us, hl with | [_, _], _ => rfl⟩
theorem top_l_cells {h : Heap} {f : Addr} {od an : Option Addr} {sl : Array (Option Value)} {oc kV dc pm cd ct : Value} (X : K.In h) (G : h.Ns mainGlobals mg) (a : PySem.W.nsIn K mainGlobals "_law_cells" = some (some (.ref f))) (l : K.lookup f = some ⟨oc, od, .func (PySem.W.fnOf "_law_cells" "_law_cells" (defArgs s_l_cells) (defBody s_l_cells) (defScope s_l_cells) .none kV dc pm an cd ct), sl⟩) (c : PySem.W.codeIn K cd "_law_cells" = true) (k : PySem.W.keepIn K (.ref f) = true) : TopF K mg "_law_cells" s_l_cells ["_law_script", "_law_many"] :=
  ⟨f, _, fun_mk l c k, PySem.W.mg_of X G a, (fun_mk l c k).binds (ps := ["_law_script", "_law_many"]) fun _ _ _ _ _ _ us hl => match us, hl with | [_, _], _ => rfl⟩
theorem top_l_of {h : Heap} {f : Addr} {od an : Option Addr} {sl : Array (Option Value)} {oc kV dc pm cd ct : Value} (X : K.In h) (G : h.Ns mainGlobals mg) (a : PySem.W.nsIn K mainGlobals "_law_of" = some (some (.ref f))) (l : K.lookup f = some ⟨oc, od, .func (PySem.W.fnOf "_law_of" "_law_of" (defArgs s_l_of) (defBody s_l_of) (defScope s_l_of) .none kV dc pm an cd ct), sl⟩) (c : PySem.W.codeIn K cd "_law_of" = true) (k : PySem.W.keepIn K (.ref f) = true) : TopF K mg "_law_of" s_l_of ["_law_urn", "_law_some"] :=
  ⟨f, _, fun_mk l c k, PySem.W.mg_of X G a, (fun_mk l c k).binds (ps := ["_law_urn", "_law_some"]) fun _ _ _ _ _ _ us hl => match us, hl with | [_, _], _ => rfl⟩
theorem top_l_same {h : Heap} {f : Addr} {od an : Option Addr} {sl : Array (Option Value)} {oc kV dc pm cd ct : Value} (X : K.In h) (G : h.Ns mainGlobals mg) (a : PySem.W.nsIn K mainGlobals "_law_same" = some (some (.ref f))) (l : K.lookup f = some ⟨oc, od, .func (PySem.W.fnOf "_law_same" "_law_same" (defArgs s_l_same) (defBody s_l_same) (defScope s_l_same) .none kV dc pm an cd ct), sl⟩) (c : PySem.W.codeIn K cd "_law_same" = true) (k : PySem.W.keepIn K (.ref f) = true) : TopF K mg "_law_same" s_l_same ["_law_got", "_law_due"] :=
  ⟨f, _, fun_mk l c k, PySem.W.mg_of X G a, (fun_mk l c k).binds (ps := ["_law_got", "_law_due"]) fun _ _ _ _ _ _ us hl => match us, hl with | [_, _], _ => rfl⟩
theorem top_l_lists {h : Heap} {f : Addr} {od an : Option Addr} {sl : Array (Option Value)} {oc kV dc pm cd ct : Value} (X : K.In h) (G : h.Ns mainGlobals mg) (a : PySem.W.nsIn K mainGlobals "_law_lists" = some (some (.ref f))) (l : K.lookup f = some ⟨oc, od, .func (PySem.W.fnOf "_law_lists" "_law_lists" (defArgs s_l_lists) (defBody s_l_lists) (defScope s_l_lists) .none kV dc pm an cd ct), sl⟩) (c : PySem.W.codeIn K cd "_law_lists" = true) (k : PySem.W.keepIn K (.ref f) = true) : TopF K mg "_law_lists" s_l_lists ["_law_matter"] :=
  ⟨f, _, fun_mk l c k, PySem.W.mg_of X G a, (fun_mk l c k).binds (ps := ["_law_matter"]) fun _ _ _ _ _ _ us hl => match us, hl with | [_], _ => rfl⟩
theorem top_l_shared {h : Heap} {f : Addr} {od an : Option Addr} {sl : Array (Option Value)} {oc kV dc pm cd ct : Value} (X : K.In h) (G : h.Ns mainGlobals mg) (a : PySem.W.nsIn K mainGlobals "_law_shared" = some (some (.ref f))) (l : K.lookup f = some ⟨oc, od, .func (PySem.W.fnOf "_law_shared" "_law_shared" (defArgs s_l_shared) (defBody s_l_shared) (defScope s_l_shared) .none kV dc pm an cd ct), sl⟩) (c : PySem.W.codeIn K cd "_law_shared" = true) (k : PySem.W.keepIn K (.ref f) = true) : TopF K mg "_law_shared" s_l_shared ["_law_one", "_law_other"] :=
  ⟨f, _, fun_mk l c k, PySem.W.mg_of X G a, (fun_mk l c k).binds (ps := ["_law_one", "_law_other"]) fun _ _ _ _ _ _ us hl => match us, hl with | [_, _], _ => rfl⟩
theorem top_l_frac {h : Heap} {f : Addr} {od an : Option Addr} {sl : Array (Option Value)} {oc kV dc pm cd ct : Value} (X : K.In h) (G : h.Ns mainGlobals mg) (a : PySem.W.nsIn K mainGlobals "_law_frac" = some (some (.ref f))) (l : K.lookup f = some ⟨oc, od, .func (PySem.W.fnOf "_law_frac" "_law_frac" (defArgs s_l_frac) (defBody s_l_frac) (defScope s_l_frac) .none kV dc pm an cd ct), sl⟩) (c : PySem.W.codeIn K cd "_law_frac" = true) (k : PySem.W.keepIn K (.ref f) = true) : TopF K mg "_law_frac" s_l_frac ["_law_top", "_law_below"] :=
  ⟨f, _, fun_mk l c k, PySem.W.mg_of X G a, (fun_mk l c k).binds (ps := ["_law_top", "_law_below"]) fun _ _ _ _ _ _ us hl => match us, hl with | [_, _], _ => rfl⟩
theorem top_l_plus {h : Heap} {f : Addr} {od an : Option Addr} {sl : Array (Option Value)} {oc kV dc pm cd ct : Value} (X : K.In h) (G : h.Ns mainGlobals mg) (a : PySem.W.nsIn K mainGlobals "_law_plus" = some (some (.ref f))) (l : K.lookup f = some ⟨oc, od, .func (PySem.W.fnOf "_law_plus" "_law_plus" (defArgs s_l_plus) (defBody s_l_plus) (defScope s_l_plus) .none kV dc pm an cd ct), sl⟩) (c : PySem.W.codeIn K cd "_law_plus" = true) (k : PySem.W.keepIn K (.ref f) = true) : TopF K mg "_law_plus" s_l_plus ["_law_one", "_law_other"] :=
  ⟨f, _, fun_mk l c k, PySem.W.mg_of X G a, (fun_mk l c k).binds (ps := ["_law_one", "_law_other"]) fun _ _ _ _ _ _ us hl => match us, hl with | [_, _], _ => rfl⟩
theorem top_l_less {h : Heap} {f : Addr} {od an : Option Addr} {sl : Array (Option Value)} {oc kV dc pm cd ct : Value} (X : K.In h) (G : h.Ns mainGlobals mg) (a : PySem.W.nsIn K mainGlobals "_law_less" = some (some (.ref f))) (l : K.lookup f = some ⟨oc, od, .func (PySem.W.fnOf "_law_less" "_law_less" (defArgs s_l_less) (defBody s_l_less) (defScope s_l_less) .none kV dc pm an cd ct), sl⟩) (c : PySem.W.codeIn K cd "_law_less" = true) (k : PySem.W.keepIn K (.ref f) = true) : TopF K mg "_law_less" s_l_less ["_law_one", "_law_other"] :=
  ⟨f, _, fun_mk l c k, PySem.W.mg_of X G a, (fun_mk l c k).binds (ps := ["_law_one", "_law_other"]) fun _ _ _ _ _ _ us hl => match us, hl with | [_, _], _ => rfl⟩
theorem top_l_times {h : Heap} {f : Addr} {od an : Option Addr} {sl : Array (Option Value)} {oc kV dc pm cd ct : Value} (X : K.In h) (G : h.Ns mainGlobals mg) (a : PySem.W.nsIn K mainGlobals "_law_times" = some (some (.ref f))) (l : K.lookup f = some ⟨oc, od, .func (PySem.W.fnOf "_law_times" "_law_times" (defArgs s_l_times) (defBody s_l_times) (defScope s_l_times) .none kV dc pm an cd ct), sl⟩) (c : PySem.W.codeIn K cd "_law_times" = true) (k : PySem.W.keepIn K (.ref f) = true) : TopF K mg "_law_times" s_l_times ["_law_one", "_law_other"] :=
  ⟨f, _, fun_mk l c k, PySem.W.mg_of X G a, (fun_mk l c k).binds (ps := ["_law_one", "_law_other"]) fun _ _ _ _ _ _ us hl => match us, hl with | [_, _], _ => rfl⟩
theorem top_l_over {h : Heap} {f : Addr} {od an : Option Addr} {sl : Array (Option Value)} {oc kV dc pm cd ct : Value} (X : K.In h) (G : h.Ns mainGlobals mg) (a : PySem.W.nsIn K mainGlobals "_law_over" = some (some (.ref f))) (l : K.lookup f = some ⟨oc, od, .func (PySem.W.fnOf "_law_over" "_law_over" (defArgs s_l_over) (defBody s_l_over) (defScope s_l_over) .none kV dc pm an cd ct), sl⟩) (c : PySem.W.codeIn K cd "_law_over" = true) (k : PySem.W.keepIn K (.ref f) = true) : TopF K mg "_law_over" s_l_over ["_law_one", "_law_other"] :=
  ⟨f, _, fun_mk l c k, PySem.W.mg_of X G a, (fun_mk l c k).binds (ps := ["_law_one", "_law_other"]) fun _ _ _ _ _ _ us hl => match us, hl with | [_, _], _ => rfl⟩
theorem top_l_above {h : Heap} {f : Addr} {od an : Option Addr} {sl : Array (Option Value)} {oc kV dc pm cd ct : Value} (X : K.In h) (G : h.Ns mainGlobals mg) (a : PySem.W.nsIn K mainGlobals "_law_above" = some (some (.ref f))) (l : K.lookup f = some ⟨oc, od, .func (PySem.W.fnOf "_law_above" "_law_above" (defArgs s_l_above) (defBody s_l_above) (defScope s_l_above) .none kV dc pm an cd ct), sl⟩) (c : PySem.W.codeIn K cd "_law_above" = true) (k : PySem.W.keepIn K (.ref f) = true) : TopF K mg "_law_above" s_l_above ["_law_one", "_law_other"] :=
  ⟨f, _, fun_mk l c k, PySem.W.mg_of X G a, (fun_mk l c k).binds (ps := ["_law_one", "_law_other"]) fun _ _ _ _ _ _ us hl => match us, hl with | [_, _], _ => rfl⟩
theorem top_l_sum {h : Heap} {f : Addr} {od an : Option Addr} {sl : Array (Option Value)} {oc kV dc pm cd ct : Value} (X : K.In h) (G : h.Ns mainGlobals mg) (a : PySem.W.nsIn K mainGlobals "_law_sum" = some (some (.ref f))) (l : K.lookup f = some ⟨oc, od, .func (PySem.W.fnOf "_law_sum" "_law_sum" (defArgs s_l_sum) (defBody s_l_sum) (defScope s_l_sum) .none kV dc pm an cd ct), sl⟩) (c : PySem.W.codeIn K cd "_law_sum" = true) (k : PySem.W.keepIn K (.ref f) = true) : TopF K mg "_law_sum" s_l_sum ["_law_some"] :=
  ⟨f, _, fun_mk l c k, PySem.W.mg_of X G a, (fun_mk l c k).binds (ps := ["_law_some"]) fun _ _ _ _ _ _ us hl => match us, hl with | [_], _ => rfl⟩
theorem top_l_wide {h : Heap} {f : Addr} {od an : Option Addr} {sl : Array (Option Value)} {oc kV dc pm cd ct : Value} (X : K.In h) (G : h.Ns mainGlobals mg) (a : PySem.W.nsIn K mainGlobals "_law_wide" = some (some (.ref f))) (l : K.lookup f = some ⟨oc, od, .func (PySem.W.fnOf "_law_wide" "_law_wide" (defArgs s_l_wide) (defBody s_l_wide) (defScope s_l_wide) .none kV dc pm an cd ct), sl⟩) (c : PySem.W.codeIn K cd "_law_wide" = true) (k : PySem.W.keepIn K (.ref f) = true) : TopF K mg "_law_wide" s_l_wide ["_law_rules", "_law_at"] :=
  ⟨f, _, fun_mk l c k, PySem.W.mg_of X G a, (fun_mk l c k).binds (ps := ["_law_rules", "_law_at"]) fun _ _ _ _ _ _ us hl => match us, hl with | [_, _], _ => rfl⟩
theorem top_l_ordered {h : Heap} {f : Addr} {od an : Option Addr} {sl : Array (Option Value)} {oc kV dc pm cd ct : Value} (X : K.In h) (G : h.Ns mainGlobals mg) (a : PySem.W.nsIn K mainGlobals "_law_ordered" = some (some (.ref f))) (l : K.lookup f = some ⟨oc, od, .func (PySem.W.fnOf "_law_ordered" "_law_ordered" (defArgs s_l_ordered) (defBody s_l_ordered) (defScope s_l_ordered) .none kV dc pm an cd ct), sl⟩) (c : PySem.W.codeIn K cd "_law_ordered" = true) (k : PySem.W.keepIn K (.ref f) = true) : TopF K mg "_law_ordered" s_l_ordered ["_law_some"] :=
  ⟨f, _, fun_mk l c k, PySem.W.mg_of X G a, (fun_mk l c k).binds (ps := ["_law_some"]) fun _ _ _ _ _ _ us hl => match us, hl with | [_], _ => rfl⟩
theorem top_l_turns {h : Heap} {f : Addr} {od an : Option Addr} {sl : Array (Option Value)} {oc kV dc pm cd ct : Value} (X : K.In h) (G : h.Ns mainGlobals mg) (a : PySem.W.nsIn K mainGlobals "_law_turns" = some (some (.ref f))) (l : K.lookup f = some ⟨oc, od, .func (PySem.W.fnOf "_law_turns" "_law_turns" (defArgs s_l_turns) (defBody s_l_turns) (defScope s_l_turns) .none kV dc pm an cd ct), sl⟩) (c : PySem.W.codeIn K cd "_law_turns" = true) (k : PySem.W.keepIn K (.ref f) = true) : TopF K mg "_law_turns" s_l_turns ["_law_rules"] :=
  ⟨f, _, fun_mk l c k, PySem.W.mg_of X G a, (fun_mk l c k).binds (ps := ["_law_rules"]) fun _ _ _ _ _ _ us hl => match us, hl with | [_], _ => rfl⟩
theorem top_l_last_turn {h : Heap} {f : Addr} {od an : Option Addr} {sl : Array (Option Value)} {oc kV dc pm cd ct : Value} (X : K.In h) (G : h.Ns mainGlobals mg) (a : PySem.W.nsIn K mainGlobals "_law_last_turn" = some (some (.ref f))) (l : K.lookup f = some ⟨oc, od, .func (PySem.W.fnOf "_law_last_turn" "_law_last_turn" (defArgs s_l_last_turn) (defBody s_l_last_turn) (defScope s_l_last_turn) .none kV dc pm an cd ct), sl⟩) (c : PySem.W.codeIn K cd "_law_last_turn" = true) (k : PySem.W.keepIn K (.ref f) = true) : TopF K mg "_law_last_turn" s_l_last_turn ["_law_rules", "_law_width"] :=
  ⟨f, _, fun_mk l c k, PySem.W.mg_of X G a, (fun_mk l c k).binds (ps := ["_law_rules", "_law_width"]) fun _ _ _ _ _ _ us hl => match us, hl with | [_, _], _ => rfl⟩
theorem top_l_more {h : Heap} {f : Addr} {od an : Option Addr} {sl : Array (Option Value)} {oc kV dc pm cd ct : Value} (X : K.In h) (G : h.Ns mainGlobals mg) (a : PySem.W.nsIn K mainGlobals "_law_more" = some (some (.ref f))) (l : K.lookup f = some ⟨oc, od, .func (PySem.W.fnOf "_law_more" "_law_more" (defArgs s_l_more) (defBody s_l_more) (defScope s_l_more) .none kV dc pm an cd ct), sl⟩) (c : PySem.W.codeIn K cd "_law_more" = true) (k : PySem.W.keepIn K (.ref f) = true) : TopF K mg "_law_more" s_l_more ["_law_rules", "_law_at"] :=
  ⟨f, _, fun_mk l c k, PySem.W.mg_of X G a, (fun_mk l c k).binds (ps := ["_law_rules", "_law_at"]) fun _ _ _ _ _ _ us hl => match us, hl with | [_, _], _ => rfl⟩
theorem top_l_exact {h : Heap} {f : Addr} {od an : Option Addr} {sl : Array (Option Value)} {oc kV dc pm cd ct : Value} (X : K.In h) (G : h.Ns mainGlobals mg) (a : PySem.W.nsIn K mainGlobals "_law_exact" = some (some (.ref f))) (l : K.lookup f = some ⟨oc, od, .func (PySem.W.fnOf "_law_exact" "_law_exact" (defArgs s_l_exact) (defBody s_l_exact) (defScope s_l_exact) .none kV dc pm an cd ct), sl⟩) (c : PySem.W.codeIn K cd "_law_exact" = true) (k : PySem.W.keepIn K (.ref f) = true) : TopF K mg "_law_exact" s_l_exact ["_law_rules", "_law_width"] :=
  ⟨f, _, fun_mk l c k, PySem.W.mg_of X G a, (fun_mk l c k).binds (ps := ["_law_rules", "_law_width"]) fun _ _ _ _ _ _ us hl => match us, hl with | [_, _], _ => rfl⟩
theorem top_l_free {h : Heap} {f : Addr} {od an : Option Addr} {sl : Array (Option Value)} {oc kV dc pm cd ct : Value} (X : K.In h) (G : h.Ns mainGlobals mg) (a : PySem.W.nsIn K mainGlobals "_law_free" = some (some (.ref f))) (l : K.lookup f = some ⟨oc, od, .func (PySem.W.fnOf "_law_free" "_law_free" (defArgs s_l_free) (defBody s_l_free) (defScope s_l_free) .none kV dc pm an cd ct), sl⟩) (c : PySem.W.codeIn K cd "_law_free" = true) (k : PySem.W.keepIn K (.ref f) = true) : TopF K mg "_law_free" s_l_free ["_law_rules", "_law_width"] :=
  ⟨f, _, fun_mk l c k, PySem.W.mg_of X G a, (fun_mk l c k).binds (ps := ["_law_rules", "_law_width"]) fun _ _ _ _ _ _ us hl => match us, hl with | [_, _], _ => rfl⟩
theorem top_l_stops {h : Heap} {f : Addr} {od an : Option Addr} {sl : Array (Option Value)} {oc kV dc pm cd ct : Value} (X : K.In h) (G : h.Ns mainGlobals mg) (a : PySem.W.nsIn K mainGlobals "_law_stops" = some (some (.ref f))) (l : K.lookup f = some ⟨oc, od, .func (PySem.W.fnOf "_law_stops" "_law_stops" (defArgs s_l_stops) (defBody s_l_stops) (defScope s_l_stops) .none kV dc pm an cd ct), sl⟩) (c : PySem.W.codeIn K cd "_law_stops" = true) (k : PySem.W.keepIn K (.ref f) = true) : TopF K mg "_law_stops" s_l_stops ["_law_rules", "_law_last"] :=
  ⟨f, _, fun_mk l c k, PySem.W.mg_of X G a, (fun_mk l c k).binds (ps := ["_law_rules", "_law_last"]) fun _ _ _ _ _ _ us hl => match us, hl with | [_, _], _ => rfl⟩
theorem top_l_layout {h : Heap} {f : Addr} {od an : Option Addr} {sl : Array (Option Value)} {oc kV dc pm cd ct : Value} (X : K.In h) (G : h.Ns mainGlobals mg) (a : PySem.W.nsIn K mainGlobals "_law_layout" = some (some (.ref f))) (l : K.lookup f = some ⟨oc, od, .func (PySem.W.fnOf "_law_layout" "_law_layout" (defArgs s_l_layout) (defBody s_l_layout) (defScope s_l_layout) .none kV dc pm an cd ct), sl⟩) (c : PySem.W.codeIn K cd "_law_layout" = true) (k : PySem.W.keepIn K (.ref f) = true) : TopF K mg "_law_layout" s_l_layout ["_law_columns"] :=
  ⟨f, _, fun_mk l c k, PySem.W.mg_of X G a, (fun_mk l c k).binds (ps := ["_law_columns"]) fun _ _ _ _ _ _ us hl => match us, hl with | [_], _ => rfl⟩
theorem top_l_drawn {h : Heap} {f : Addr} {od an : Option Addr} {sl : Array (Option Value)} {oc kV dc pm cd ct : Value} (X : K.In h) (G : h.Ns mainGlobals mg) (a : PySem.W.nsIn K mainGlobals "_law_drawn" = some (some (.ref f))) (l : K.lookup f = some ⟨oc, od, .func (PySem.W.fnOf "_law_drawn" "_law_drawn" (defArgs s_l_drawn) (defBody s_l_drawn) (defScope s_l_drawn) .none kV dc pm an cd ct), sl⟩) (c : PySem.W.codeIn K cd "_law_drawn" = true) (k : PySem.W.keepIn K (.ref f) = true) : TopF K mg "_law_drawn" s_l_drawn ["_law_urn"] :=
  ⟨f, _, fun_mk l c k, PySem.W.mg_of X G a, (fun_mk l c k).binds (ps := ["_law_urn"]) fun _ _ _ _ _ _ us hl => match us, hl with | [_], _ => rfl⟩
theorem top_l_is_count {h : Heap} {f : Addr} {od an : Option Addr} {sl : Array (Option Value)} {oc kV dc pm cd ct : Value} (X : K.In h) (G : h.Ns mainGlobals mg) (a : PySem.W.nsIn K mainGlobals "_law_is_count" = some (some (.ref f))) (l : K.lookup f = some ⟨oc, od, .func (PySem.W.fnOf "_law_is_count" "_law_is_count" (defArgs s_l_is_count) (defBody s_l_is_count) (defScope s_l_is_count) .none kV dc pm an cd ct), sl⟩) (c : PySem.W.codeIn K cd "_law_is_count" = true) (k : PySem.W.keepIn K (.ref f) = true) : TopF K mg "_law_is_count" s_l_is_count ["_law_own", "_law_least"] :=
  ⟨f, _, fun_mk l c k, PySem.W.mg_of X G a, (fun_mk l c k).binds (ps := ["_law_own", "_law_least"]) fun _ _ _ _ _ _ us hl => match us, hl with | [_, _], _ => rfl⟩
theorem top_l_are_rules {h : Heap} {f : Addr} {od an : Option Addr} {sl : Array (Option Value)} {oc kV dc pm cd ct : Value} (X : K.In h) (G : h.Ns mainGlobals mg) (a : PySem.W.nsIn K mainGlobals "_law_are_rules" = some (some (.ref f))) (l : K.lookup f = some ⟨oc, od, .func (PySem.W.fnOf "_law_are_rules" "_law_are_rules" (defArgs s_l_are_rules) (defBody s_l_are_rules) (defScope s_l_are_rules) .none kV dc pm an cd ct), sl⟩) (c : PySem.W.codeIn K cd "_law_are_rules" = true) (k : PySem.W.keepIn K (.ref f) = true) : TopF K mg "_law_are_rules" s_l_are_rules ["_law_own"] :=
  ⟨f, _, fun_mk l c k, PySem.W.mg_of X G a, (fun_mk l c k).binds (ps := ["_law_own"]) fun _ _ _ _ _ _ us hl => match us, hl with | [_], _ => rfl⟩
theorem top_l_bent {h : Heap} {f : Addr} {od an : Option Addr} {sl : Array (Option Value)} {oc kV dc pm cd ct : Value} (X : K.In h) (G : h.Ns mainGlobals mg) (a : PySem.W.nsIn K mainGlobals "_law_bent" = some (some (.ref f))) (l : K.lookup f = some ⟨oc, od, .func (PySem.W.fnOf "_law_bent" "_law_bent" (defArgs s_l_bent) (defBody s_l_bent) (defScope s_l_bent) .none kV dc pm an cd ct), sl⟩) (c : PySem.W.codeIn K cd "_law_bent" = true) (k : PySem.W.keepIn K (.ref f) = true) : TopF K mg "_law_bent" s_l_bent ["_law_urn", "_law_rules"] :=
  ⟨f, _, fun_mk l c k, PySem.W.mg_of X G a, (fun_mk l c k).binds (ps := ["_law_urn", "_law_rules"]) fun _ _ _ _ _ _ us hl => match us, hl with | [_, _], _ => rfl⟩
theorem top_l_by_hand_right {h : Heap} {f : Addr} {od an : Option Addr} {sl : Array (Option Value)} {oc kV dc pm cd ct : Value} (X : K.In h) (G : h.Ns mainGlobals mg) (a : PySem.W.nsIn K mainGlobals "_law_by_hand_right" = some (some (.ref f))) (l : K.lookup f = some ⟨oc, od, .func (PySem.W.fnOf "_law_by_hand_right" "_law_by_hand_right" (defArgs s_l_by_hand_right) (defBody s_l_by_hand_right) (defScope s_l_by_hand_right) .none kV dc pm an cd ct), sl⟩) (c : PySem.W.codeIn K cd "_law_by_hand_right" = true) (k : PySem.W.keepIn K (.ref f) = true) : TopF K mg "_law_by_hand_right" s_l_by_hand_right [] :=
  ⟨f, _, fun_mk l c k, PySem.W.mg_of X G a, (fun_mk l c k).binds (ps := []) fun _ _ _ _ _ _ us hl => match us, hl with | [], _ => rfl⟩
theorem top_l_rules_right {h : Heap} {f : Addr} {od an : Option Addr} {sl : Array (Option Value)} {oc kV dc pm cd ct : Value} (X : K.In h) (G : h.Ns mainGlobals mg) (a : PySem.W.nsIn K mainGlobals "_law_rules_right" = some (some (.ref f))) (l : K.lookup f = some ⟨oc, od, .func (PySem.W.fnOf "_law_rules_right" "_law_rules_right" (defArgs s_l_rules_right) (defBody s_l_rules_right) (defScope s_l_rules_right) .none kV dc pm an cd ct), sl⟩) (c : PySem.W.codeIn K cd "_law_rules_right" = true) (k : PySem.W.keepIn K (.ref f) = true) : TopF K mg "_law_rules_right" s_l_rules_right ["_law_urn", "_law_rules"] :=
  ⟨f, _, fun_mk l c k, PySem.W.mg_of X G a, (fun_mk l c k).binds (ps := ["_law_urn", "_law_rules"]) fun _ _ _ _ _ _ us hl => match us, hl with | [_, _], _ => rfl⟩
theorem top_l_right {h : Heap} {f : Addr} {od an : Option Addr} {sl : Array (Option Value)} {oc kV dc pm cd ct : Value} (X : K.In h) (G : h.Ns mainGlobals mg) (a : PySem.W.nsIn K mainGlobals "_law_right" = some (some (.ref f))) (l : K.lookup f = some ⟨oc, od, .func (PySem.W.fnOf "_law_right" "_law_right" (defArgs s_l_right) (defBody s_l_right) (defScope s_l_right) .none kV dc pm an cd ct), sl⟩) (c : PySem.W.codeIn K cd "_law_right" = true) (k : PySem.W.keepIn K (.ref f) = true) : TopF K mg "_law_right" s_l_right ["_law_urn"] :=
  ⟨f, _, fun_mk l c k, PySem.W.mg_of X G a, (fun_mk l c k).binds (ps := ["_law_urn"]) fun _ _ _ _ _ _ us hl => match us, hl with | [_], _ => rfl⟩
theorem bt_mk {h : Heap} (X : K.In h) (G : h.Ns mainGlobals mg) (z0 : PySem.W.nsIn K mainGlobals "isinstance" = some none) (z1 : PySem.W.nsIn K mainGlobals "int" = some none) (z2 : PySem.W.nsIn K mainGlobals "bool" = some none) (z3 : PySem.W.nsIn K mainGlobals "str" = some none) (z4 : PySem.W.nsIn K mainGlobals "list" = some none) (z5 : PySem.W.nsIn K mainGlobals "tuple" = some none) (z6 : PySem.W.nsIn K mainGlobals "set" = some none) (z7 : PySem.W.nsIn K mainGlobals "len" = some none) (z8 : PySem.W.nsIn K mainGlobals "any" = some none) (z9 : PySem.W.nsIn K mainGlobals "all" = some none) (z10 : PySem.W.nsIn K mainGlobals "sum" = some none) (z11 : PySem.W.nsIn K mainGlobals "min" = some none) (z12 : PySem.W.nsIn K mainGlobals "max" = some none) (z13 : PySem.W.nsIn K mainGlobals "abs" = some none) (z14 : PySem.W.nsIn K mainGlobals "sorted" = some none) (z15 : PySem.W.nsIn K mainGlobals "enumerate" = some none) (z16 : PySem.W.nsIn K mainGlobals "range" = some none) (z17 : PySem.W.nsIn K mainGlobals "zip" = some none) (zg : PySem.W.nsIn K mainGlobals "gcd" = some (some (.builtin "math.gcd"))) (zl : PySem.W.nsIn K mainGlobals "lcm" = some (some (.builtin "math.lcm"))) : Bt mg :=
  ⟨PySem.W.mg_none_of X G z0, PySem.W.mg_none_of X G z1, PySem.W.mg_none_of X G z2, PySem.W.mg_none_of X G z3, PySem.W.mg_none_of X G z4, PySem.W.mg_none_of X G z5, PySem.W.mg_none_of X G z6, PySem.W.mg_none_of X G z7, PySem.W.mg_none_of X G z8, PySem.W.mg_none_of X G z9, PySem.W.mg_none_of X G z10, PySem.W.mg_none_of X G z11, PySem.W.mg_none_of X G z12, PySem.W.mg_none_of X G z13, PySem.W.mg_none_of X G z14, PySem.W.mg_none_of X G z15, PySem.W.mg_none_of X G z16, PySem.W.mg_none_of X G z17, PySem.W.mg_of X G zg, PySem.W.mg_of X G zl⟩
end
theorem all_mk {l : PySem.W.OpenLaw} {w : World} {K : PySem.W.Frag} {h : Heap} {mg : Str → Option Value} {fa f : Addr} (X : K.In h) (G : h.Ns mainGlobals mg) (hfa : mg "law" = some (.ref fa)) {od an : Option Addr} {sl : Array (Option Value)} {oc kV dc pm cd ct : Value} (B : Bt mg) (T_p_is_number : TopF K mg "is_number" s_p_is_number ["thing"]) (T_p_tuple_of : TopF K mg "tuple_of" s_p_tuple_of ["thing"]) (T_p_is_tuple_of : TopF K mg "is_tuple_of" s_p_is_tuple_of ["thing", "many"]) (T_p_is_rule : TopF K mg "is_rule" s_p_is_rule ["thing"]) (T_p_is_rules : TopF K mg "is_rules" s_p_is_rules ["thing"]) (T_p_in_lowest : TopF K mg "in_lowest" s_p_in_lowest ["top", "below"]) (T_p_least_common : TopF K mg "least_common" s_p_least_common ["numbers"]) (T_p_common_share : TopF K mg "common_share" s_p_common_share ["rules"]) (T_p_would_be : TopF K mg "would_be" s_p_would_be ["rules", "at"]) (T_p_turns_of : TopF K mg "turns_of" s_p_turns_of ["rules"]) (T_p_growing : TopF K mg "growing" s_p_growing ["rules", "at"]) (T_p_stretch_at : TopF K mg "stretch_at" s_p_stretch_at ["rules", "goal"]) (T_p_leasts_of : TopF K mg "leasts_of" s_p_leasts_of ["rules"]) (T_p_given_all : TopF K mg "given_all" s_p_given_all ["rules", "width"]) (T_p_width_given : TopF K mg "width_given" s_p_width_given ["rules", "pane", "width"]) (T_p_rule_layout : TopF K mg "rule_layout" s_p_rule_layout ["rules", "last"]) (T_p_free_at : TopF K mg "free_at" s_p_free_at ["rules", "width"]) (T_p_stops : TopF K mg "stops" s_p_stops ["rules", "last"]) (T_p_by_shares : TopF K mg "by_shares" s_p_by_shares ["shares", "last"]) (T_p_even : TopF K mg "even" s_p_even ["panes", "last"]) (T_p_by_turns : TopF K mg "by_turns" s_p_by_turns ["mosts", "last"]) (T_l_box : TopF K mg "_law_box" s_l_box ["_law_script", "_law_k"]) (T_l_take : TopF K mg "_law_take" s_l_take ["_law_urn", "_law_below"]) (T_l_cells : TopF K mg "_law_cells" s_l_cells ["_law_script", "_law_many"]) (T_l_of : TopF K mg "_law_of" s_l_of ["_law_urn", "_law_some"]) (T_l_same : TopF K mg "_law_same" s_l_same ["_law_got", "_law_due"]) (T_l_lists : TopF K mg "_law_lists" s_l_lists ["_law_matter"]) (T_l_shared : TopF K mg "_law_shared" s_l_shared ["_law_one", "_law_other"]) (T_l_frac : TopF K mg "_law_frac" s_l_frac ["_law_top", "_law_below"]) (T_l_plus : TopF K mg "_law_plus" s_l_plus ["_law_one", "_law_other"]) (T_l_less : TopF K mg "_law_less" s_l_less ["_law_one", "_law_other"]) (T_l_times : TopF K mg "_law_times" s_l_times ["_law_one", "_law_other"]) (T_l_over : TopF K mg "_law_over" s_l_over ["_law_one", "_law_other"]) (T_l_above : TopF K mg "_law_above" s_l_above ["_law_one", "_law_other"]) (T_l_sum : TopF K mg "_law_sum" s_l_sum ["_law_some"]) (T_l_wide : TopF K mg "_law_wide" s_l_wide ["_law_rules", "_law_at"]) (T_l_ordered : TopF K mg "_law_ordered" s_l_ordered ["_law_some"]) (T_l_turns : TopF K mg "_law_turns" s_l_turns ["_law_rules"]) (T_l_last_turn : TopF K mg "_law_last_turn" s_l_last_turn ["_law_rules", "_law_width"]) (T_l_more : TopF K mg "_law_more" s_l_more ["_law_rules", "_law_at"]) (T_l_exact : TopF K mg "_law_exact" s_l_exact ["_law_rules", "_law_width"]) (T_l_free : TopF K mg "_law_free" s_l_free ["_law_rules", "_law_width"]) (T_l_stops : TopF K mg "_law_stops" s_l_stops ["_law_rules", "_law_last"]) (T_l_layout : TopF K mg "_law_layout" s_l_layout ["_law_columns"]) (T_l_drawn : TopF K mg "_law_drawn" s_l_drawn ["_law_urn"]) (T_l_is_count : TopF K mg "_law_is_count" s_l_is_count ["_law_own", "_law_least"]) (T_l_are_rules : TopF K mg "_law_are_rules" s_l_are_rules ["_law_own"]) (T_l_bent : TopF K mg "_law_bent" s_l_bent ["_law_urn", "_law_rules"]) (T_l_by_hand_right : TopF K mg "_law_by_hand_right" s_l_by_hand_right []) (T_l_rules_right : TopF K mg "_law_rules_right" s_l_rules_right ["_law_urn", "_law_rules"]) (T_l_right : TopF K mg "_law_right" s_l_right ["_law_urn"])
    (a : PySem.W.nsIn K mainGlobals "law" = some (some (.ref f))) (lk : K.lookup f = some ⟨oc, od, .func (PySem.W.fnOf "law" "law" (defArgs s_law) (defBody s_law) (defScope s_law) .none kV dc pm an cd ct), sl⟩) (c : PySem.W.codeIn K cd "law" = true) (k : PySem.W.keepIn K (.ref f) = true) :
    ∃ fd : FuncData, (∀ (s : Shared) (v : Value), BindsTo s fd ⟨[v], []⟩ [("_law_script", v)]) ∧ ∀ base : Heap, K.In base → base.Ns mainGlobals mg → FnOk l.prog w K mg base CX0 19 fa fd ["_law_script"] (spLaw K) := by
  have e := hfa.symm.trans (PySem.W.mg_of X G a)
  cases e
  exact ⟨_, fun s v => .of_eq rfl, fun base _ _ => all_of B T_p_is_number T_p_tuple_of T_p_is_tuple_of T_p_is_rule T_p_is_rules T_p_in_lowest T_p_least_common T_p_common_share T_p_would_be T_p_turns_of T_p_growing T_p_stretch_at T_p_leasts_of T_p_given_all T_p_width_given T_p_rule_layout T_p_free_at T_p_stops T_p_by_shares T_p_even T_p_by_turns T_l_box T_l_take T_l_cells T_l_of T_l_same T_l_lists T_l_shared T_l_frac T_l_plus T_l_less T_l_times T_l_over T_l_above T_l_sum T_l_wide T_l_ordered T_l_turns T_l_last_turn T_l_more T_l_exact T_l_free T_l_stops T_l_layout T_l_drawn T_l_is_count T_l_are_rules T_l_bent T_l_by_hand_right T_l_rules_right T_l_right (fun_mk (st := s_law) lk c k)⟩
end K4

/-! ## End -/
open PySem PySem.W PyProof.Rows
set_option maxHeartbeats 0 in
theorem PySem.Challenge.cw_stillpanes_k04_whole_rules_by_own_growth_holds : PySem.Challenge.rw_stillpanes_k04_whole_rules_by_own_growth.Holds := by
  w_on; o_law; k_head; (case hw => w_witness2)
  k_fill
  refine L2.walk_of (l := PySem.Challenge.rw_stillpanes_k04_whole_rules_by_own_growth) (n := 63) (k := 19) (x := "_law_script") (CX := fun _ => L2.CX0) (sp := fun w => K4.spLaw _) rfl (by decide) rfl ⟨rfl, by decide, by decide⟩ (fun w h Y => PySem.W.kIn_of Y) ?F (fun _ _ a ns hl _ hS => ⟨a, ns, rfl, hS, hl, fun _ => rfl⟩) (fun _ _ _ _ _ h => h)
  case F =>
    intro w mg fa h KX G hmg
    refine' K4.all_mk KX G hmg (K4.bt_mk KX G ?z0 ?z1 ?z2 ?z3 ?z4 ?z5 ?z6 ?z7 ?z8 ?z9 ?z10 ?z11 ?z12 ?z13 ?z14 ?z15 ?z16 ?z17 ?zg ?zl) (K4.top_p_is_number KX G ?a0 ?l0 ?c0 ?k0) (K4.top_p_tuple_of KX G ?a1 ?l1 ?c1 ?k1) (K4.top_p_is_tuple_of KX G ?a2 ?l2 ?c2 ?k2) (K4.top_p_is_rule KX G ?a3 ?l3 ?c3 ?k3) (K4.top_p_is_rules KX G ?a4 ?l4 ?c4 ?k4) (K4.top_p_in_lowest KX G ?a5 ?l5 ?c5 ?k5) (K4.top_p_least_common KX G ?a6 ?l6 ?c6 ?k6) (K4.top_p_common_share KX G ?a7 ?l7 ?c7 ?k7) (K4.top_p_would_be KX G ?a8 ?l8 ?c8 ?k8) (K4.top_p_turns_of KX G ?a9 ?l9 ?c9 ?k9) (K4.top_p_growing KX G ?a10 ?l10 ?c10 ?k10) (K4.top_p_stretch_at KX G ?a11 ?l11 ?c11 ?k11) (K4.top_p_leasts_of KX G ?a12 ?l12 ?c12 ?k12) (K4.top_p_given_all KX G ?a13 ?l13 ?c13 ?k13) (K4.top_p_width_given KX G ?a14 ?l14 ?c14 ?k14) (K4.top_p_rule_layout KX G ?a15 ?l15 ?c15 ?k15) (K4.top_p_free_at KX G ?a16 ?l16 ?c16 ?k16) (K4.top_p_stops KX G ?a17 ?l17 ?c17 ?k17) (K4.top_p_by_shares KX G ?a18 ?l18 ?c18 ?k18) (K4.top_p_even KX G ?a19 ?l19 ?c19 ?k19) (K4.top_p_by_turns KX G ?a20 ?l20 ?c20 ?k20) (K4.top_l_box KX G ?a21 ?l21 ?c21 ?k21) (K4.top_l_take KX G ?a22 ?l22 ?c22 ?k22) (K4.top_l_cells KX G ?a23 ?l23 ?c23 ?k23) (K4.top_l_of KX G ?a24 ?l24 ?c24 ?k24) (K4.top_l_same KX G ?a25 ?l25 ?c25 ?k25) (K4.top_l_lists KX G ?a26 ?l26 ?c26 ?k26) (K4.top_l_shared KX G ?a27 ?l27 ?c27 ?k27) (K4.top_l_frac KX G ?a28 ?l28 ?c28 ?k28) (K4.top_l_plus KX G ?a29 ?l29 ?c29 ?k29) (K4.top_l_less KX G ?a30 ?l30 ?c30 ?k30) (K4.top_l_times KX G ?a31 ?l31 ?c31 ?k31) (K4.top_l_over KX G ?a32 ?l32 ?c32 ?k32) (K4.top_l_above KX G ?a33 ?l33 ?c33 ?k33) (K4.top_l_sum KX G ?a34 ?l34 ?c34 ?k34) (K4.top_l_wide KX G ?a35 ?l35 ?c35 ?k35) (K4.top_l_ordered KX G ?a36 ?l36 ?c36 ?k36) (K4.top_l_turns KX G ?a37 ?l37 ?c37 ?k37) (K4.top_l_last_turn KX G ?a38 ?l38 ?c38 ?k38) (K4.top_l_more KX G ?a39 ?l39 ?c39 ?k39) (K4.top_l_exact KX G ?a40 ?l40 ?c40 ?k40) (K4.top_l_free KX G ?a41 ?l41 ?c41 ?k41) (K4.top_l_stops KX G ?a42 ?l42 ?c42 ?k42) (K4.top_l_layout KX G ?a43 ?l43 ?c43 ?k43) (K4.top_l_drawn KX G ?a44 ?l44 ?c44 ?k44) (K4.top_l_is_count KX G ?a45 ?l45 ?c45 ?k45) (K4.top_l_are_rules KX G ?a46 ?l46 ?c46 ?k46) (K4.top_l_bent KX G ?a47 ?l47 ?c47 ?k47) (K4.top_l_by_hand_right KX G ?a48 ?l48 ?c48 ?k48) (K4.top_l_rules_right KX G ?a49 ?l49 ?c49 ?k49) (K4.top_l_right KX G ?a50 ?l50 ?c50 ?k50) ?a ?l ?c ?k
    (case z0 => k_is); (case z1 => k_is); (case z2 => k_is); (case z3 => k_is); (case z4 => k_is); (case z5 => k_is); (case z6 => k_is); (case z7 => k_is); (case z8 => k_is); (case z9 => k_is); (case z10 => k_is); (case z11 => k_is); (case z12 => k_is); (case z13 => k_is); (case z14 => k_is); (case z15 => k_is); (case z16 => k_is); (case z17 => k_is); (case zg => k_is); (case zl => k_is)
    (case a0 => k_is); (case l0 => k_is); (case c0 => k_is); (case k0 => k_is)
    (case a1 => k_is); (case l1 => k_is); (case c1 => k_is); (case k1 => k_is)
    (case a2 => k_is); (case l2 => k_is); (case c2 => k_is); (case k2 => k_is)
    (case a3 => k_is); (case l3 => k_is); (case c3 => k_is); (case k3 => k_is)
    (case a4 => k_is); (case l4 => k_is); (case c4 => k_is); (case k4 => k_is)
    (case a5 => k_is); (case l5 => k_is); (case c5 => k_is); (case k5 => k_is)
    (case a6 => k_is); (case l6 => k_is); (case c6 => k_is); (case k6 => k_is)
    (case a7 => k_is); (case l7 => k_is); (case c7 => k_is); (case k7 => k_is)
    (case a8 => k_is); (case l8 => k_is); (case c8 => k_is); (case k8 => k_is)
    (case a9 => k_is); (case l9 => k_is); (case c9 => k_is); (case k9 => k_is)
    (case a10 => k_is); (case l10 => k_is); (case c10 => k_is); (case k10 => k_is)
    (case a11 => k_is); (case l11 => k_is); (case c11 => k_is); (case k11 => k_is)
    (case a12 => k_is); (case l12 => k_is); (case c12 => k_is); (case k12 => k_is)
    (case a13 => k_is); (case l13 => k_is); (case c13 => k_is); (case k13 => k_is)
    (case a14 => k_is); (case l14 => k_is); (case c14 => k_is); (case k14 => k_is)
    (case a15 => k_is); (case l15 => k_is); (case c15 => k_is); (case k15 => k_is)
    (case a16 => k_is); (case l16 => k_is); (case c16 => k_is); (case k16 => k_is)
    (case a17 => k_is); (case l17 => k_is); (case c17 => k_is); (case k17 => k_is)
    (case a18 => k_is); (case l18 => k_is); (case c18 => k_is); (case k18 => k_is)
    (case a19 => k_is); (case l19 => k_is); (case c19 => k_is); (case k19 => k_is)
    (case a20 => k_is); (case l20 => k_is); (case c20 => k_is); (case k20 => k_is)
    (case a21 => k_is); (case l21 => k_is); (case c21 => k_is); (case k21 => k_is)
    (case a22 => k_is); (case l22 => k_is); (case c22 => k_is); (case k22 => k_is)
    (case a23 => k_is); (case l23 => k_is); (case c23 => k_is); (case k23 => k_is)
    (case a24 => k_is); (case l24 => k_is); (case c24 => k_is); (case k24 => k_is)
    (case a25 => k_is); (case l25 => k_is); (case c25 => k_is); (case k25 => k_is)
    (case a26 => k_is); (case l26 => k_is); (case c26 => k_is); (case k26 => k_is)
    (case a27 => k_is); (case l27 => k_is); (case c27 => k_is); (case k27 => k_is)
    (case a28 => k_is); (case l28 => k_is); (case c28 => k_is); (case k28 => k_is)
    (case a29 => k_is); (case l29 => k_is); (case c29 => k_is); (case k29 => k_is)
    (case a30 => k_is); (case l30 => k_is); (case c30 => k_is); (case k30 => k_is)
    (case a31 => k_is); (case l31 => k_is); (case c31 => k_is); (case k31 => k_is)
    (case a32 => k_is); (case l32 => k_is); (case c32 => k_is); (case k32 => k_is)
    (case a33 => k_is); (case l33 => k_is); (case c33 => k_is); (case k33 => k_is)
    (case a34 => k_is); (case l34 => k_is); (case c34 => k_is); (case k34 => k_is)
    (case a35 => k_is); (case l35 => k_is); (case c35 => k_is); (case k35 => k_is)
    (case a36 => k_is); (case l36 => k_is); (case c36 => k_is); (case k36 => k_is)
    (case a37 => k_is); (case l37 => k_is); (case c37 => k_is); (case k37 => k_is)
    (case a38 => k_is); (case l38 => k_is); (case c38 => k_is); (case k38 => k_is)
    (case a39 => k_is); (case l39 => k_is); (case c39 => k_is); (case k39 => k_is)
    (case a40 => k_is); (case l40 => k_is); (case c40 => k_is); (case k40 => k_is)
    (case a41 => k_is); (case l41 => k_is); (case c41 => k_is); (case k41 => k_is)
    (case a42 => k_is); (case l42 => k_is); (case c42 => k_is); (case k42 => k_is)
    (case a43 => k_is); (case l43 => k_is); (case c43 => k_is); (case k43 => k_is)
    (case a44 => k_is); (case l44 => k_is); (case c44 => k_is); (case k44 => k_is)
    (case a45 => k_is); (case l45 => k_is); (case c45 => k_is); (case k45 => k_is)
    (case a46 => k_is); (case l46 => k_is); (case c46 => k_is); (case k46 => k_is)
    (case a47 => k_is); (case l47 => k_is); (case c47 => k_is); (case k47 => k_is)
    (case a48 => k_is); (case l48 => k_is); (case c48 => k_is); (case k48 => k_is)
    (case a49 => k_is); (case l49 => k_is); (case c49 => k_is); (case k49 => k_is)
    (case a50 => k_is); (case l50 => k_is); (case c50 => k_is); (case k50 => k_is)
    (case a => k_is); (case l => k_is); (case c => k_is); (case k => k_is)
